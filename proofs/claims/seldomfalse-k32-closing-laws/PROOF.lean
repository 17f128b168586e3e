import PyProof.Rows.All
import Wide.All
import OpenK.AllK
import Wide.FinOn
import HandS.ForMost
import HandS.Deep
import HandS.Wide
import HandS.AnyAll
import HandS.Style
import HandS.Flow
import HandS.TupAny
import HandS.SortInts
import KE.KeyNested
import KE.KDictPairs
import KE.KDictKeyed
import HandS.IsInst
import HandS.TupLe
import HandS.TupMul
import HandS.Conv
import HandS.Defaults
import HandS.More
import HandS.Set
import HandS.SetBool
import HandS.Strs
import HandS.SetFor
import KE.SortData
import KE.LtData
import KE.LtSeq
import KE.KSortTup
import KE.KSortAsk
import HandS.Dict
import KE.KDictWalk
import KE.KDictCopyH
import KE.KDictSum
import KE.KStateDown
import Lean
import HandS.Base
import HandS.Call
import HandS.Ends
import HandS.Words
import HandS.WordsExc
import HandS.Head0
import HandS.Head1
import HandS.Head2
import HandS.HeadEnd
import HandS.HeadHook1
import HandS.HeadHook2
import HandS.HeadHook3
import HandS.HeadHook4
import HandS.HeadWalk
import PySem.Challenge.RW_seldomfalse_k32_closing_laws
set_option Elab.async false
set_option linter.all false
set_option maxRecDepth 100000
/-! PF: deep data, slots, and the evaluation of expressions to data. -/
namespace PF
open PySem PySem.Spec PyProof.Rows L2

abbrev D := PyData
abbrev AS := Addr → Prop

/-! ### heaps -/
/-- all that is tracked and not within B stays -/
def Stay (B : AS) (H H' : Hp) : Prop := ∀ a o, H a = some o → ¬ B a → H' a = some o
def Ext (H H' : Hp) : Prop := ∀ a o, H a = some o → H' a = some o
theorem Stay.refl (B : AS) (H : Hp) : Stay B H H := fun _ _ e _ => e
theorem Stay.trans {B : AS} {H H1 H2 : Hp} (x : Stay B H H1) (y : Stay B H1 H2) : Stay B H H2 := fun a o e n => y a o (x a o e n) n
theorem Stay.mono {B B' : AS} {H H' : Hp} (x : Stay B H H') (h : ∀ a, B a → B' a) : Stay B' H H' := fun a o e n => x a o e fun z => n (h a z)
theorem Ext.stay {B : AS} {H H' : Hp} (x : Ext H H') : Stay B H H' := fun a o e _ => x a o e
theorem Ext.refl (H : Hp) : Ext H H := fun _ _ e => e
theorem Ext.trans {H H1 H2 : Hp} (x : Ext H H1) (y : Ext H1 H2) : Ext H H2 := fun a o e => y a o (x a o e)
theorem Ext.new {H : Hp} {p : Addr} {o : HO} (h : H p = none) : Ext H (upd H p o) := fun a u e => by
  rw [upd_ne (ne_of_none e h)]
  exact e
theorem Ext.free {H H' : Hp} (x : Ext H H') {p : Addr} (h : H' p = none) : H p = none := by
  cases q : H p with
  | none => rfl
  | some o =>
    rw [x p o q] at h
    cases h

/-! ### data that a value denotes, reached without the addresses of B -/
/-- the law's script: a list of ints that is read alone -/
abbrev frnD (ns : List Int) : D := .dict [(.list (ns.map PyData.int), .none)]
/-- a list (a tuple) that stands outside B, or is written -/
def LB (K : PySem.W.Frag) (B : AS) (H : Hp) (a : Addr) (xs : List V) : Prop := (¬ B a ∧ Rd H a (.lst xs)) ∨ SqL K (fun _ => none) a xs
def TB (K : PySem.W.Frag) (B : AS) (H : Hp) (a : Addr) (xs : List V) : Prop := (¬ B a ∧ Rd H a (.tup xs)) ∨ SqT K (fun _ => none) a xs
theorem rd_none {a : Addr} {u : HO} (h : Rd (fun _ => none) a u) : False := by
  rcases h with h | ⟨o, h⟩ <;> cases h
theorem LB.sq {K : PySem.W.Frag} {B : AS} {H : Hp} {a : Addr} {xs : List V} (h : LB K B H a xs) : SqL K H a xs := by
  rcases h with ⟨_, h⟩ | h | h
  · exact .inl h
  · exact (rd_none h).elim
  · exact .inr h
theorem TB.sq {K : PySem.W.Frag} {B : AS} {H : Hp} {a : Addr} {xs : List V} (h : TB K B H a xs) : SqT K H a xs := by
  rcases h with ⟨_, h⟩ | h | h
  · exact .inl h
  · exact (rd_none h).elim
  · exact .inr h
theorem rd_stay {B : AS} {H H' : Hp} {a : Addr} {u : HO} (s : Stay B H H') (n : ¬ B a) (h : Rd H a u) : Rd H' a u := by
  rcases h with h | ⟨o, h⟩
  · exact .inl (s _ _ h n)
  · exact .inr ⟨o, s _ _ h n⟩
theorem LB.map {K : PySem.W.Frag} {B B' : AS} {H H' : Hp} {a : Addr} {xs : List V} (sub : ∀ a, B' a → B a) (s : Stay B H H') (h : LB K B H a xs) : LB K B' H' a xs :=
  h.imp (fun ⟨n, r⟩ => ⟨fun z => n (sub _ z), rd_stay s n r⟩) id
theorem TB.map {K : PySem.W.Frag} {B B' : AS} {H H' : Hp} {a : Addr} {xs : List V} (sub : ∀ a, B' a → B a) (s : Stay B H H') (h : TB K B H a xs) : TB K B' H' a xs :=
  h.imp (fun ⟨n, r⟩ => ⟨fun z => n (sub _ z), rd_stay s n r⟩) id
theorem rd_ne {H : Hp} {a p : Addr} {u : HO} (h : Rd H a u) (n : H p = none) : a ≠ p := by
  rcases h with h | ⟨o, h⟩ <;> exact ne_of_none h n
theorem LB.new {K : PySem.W.Frag} {B : AS} {H : Hp} {a p : Addr} {xs : List V} (h : LB K B H a xs) (n : H p = none) : LB K (fun a => B a ∨ a = p) H a xs :=
  h.imp (fun ⟨m, r⟩ => ⟨fun z => z.elim m (rd_ne r n), r⟩) id
theorem TB.new {K : PySem.W.Frag} {B : AS} {H : Hp} {a p : Addr} {xs : List V} (h : TB K B H a xs) (n : H p = none) : TB K (fun a => B a ∨ a = p) H a xs :=
  h.imp (fun ⟨m, r⟩ => ⟨fun z => z.elim m (rd_ne r n), r⟩) id
/-! ### a dict whose keys are tuples of tuples of ints -/
mutual
/-- keys without texts -/
def numK : NestedKey → Bool
  | .none => false
  | .num _ => true
  | .text _ => false
  | .tup ks => numKs ks
def numKs : List NestedKey → Bool
  | [] => true
  | k :: ks => numK k && numKs ks
end
mutual
theorem hash_num (w w' : World) : ∀ k : NestedKey, numK k = true → k.hash w = k.hash w'
  | .none, h => by cases h
  | .num _, _ => by rw [NestedKey.hash, NestedKey.hash]
  | .text _, h => by cases h
  | .tup ks, h => by
    rw [NestedKey.hash, NestedKey.hash, hashes_num w w' ks (by simpa only [numK] using h)]
theorem hashes_num (w w' : World) : ∀ ks : List NestedKey, numKs ks = true → NestedKey.hashes w ks = NestedKey.hashes w' ks
  | [], _ => by rw [NestedKey.hashes, NestedKey.hashes]
  | k :: ks, h => by
    simp only [numKs, Bool.and_eq_true] at h
    rw [NestedKey.hashes, NestedKey.hashes, hash_num w w' k h.1, hashes_num w w' ks h.2]
end
abbrev DicL := List (NestedKey × Addr × Value)
/-- the dict at p has these keys (at these places) and values -/
def DicO (p : Addr) (xs : DicL) : HO := .ext fun h => (p == sysModules) = false ∧ (∀ x ∈ xs, numK x.1 = true ∧ x.1.depth ≤ 8) ∧ ∃ (P : Program) (w : World) (o : Obj) (es : Array DictEntry) (ep : Nat), h.get? p = some o ∧ o.ExactDict ∧ o.data = .dict es ep ∧ es.toList = xs.map (entryOfKey (nestedKind P w)) ∧ (xs.map (·.1)).Nodup
abbrev dicD (ks : List D) : D := .dict [(.tuple ks, .bool true)]
mutual
inductive Da (K : PySem.W.Frag) (B : AS) (H : Hp) : V → D → Prop
  | non : Da K B H .non .none
  | bl (b : Bool) : Da K B H (.bl b) (.bool b)
  | int (i : Int) : Da K B H (.int i) (.int i)
  | str (x : Str) : Da K B H (.str x) (.str x)
  | lst {a : Addr} {xs : List V} {ds : List D} : ¬ B a → H a = some (.lst xs) → DaL K B H xs ds → Da K B H (.ref a) (.list ds)
  | tup {a : Addr} {xs : List V} {ds : List D} : TB K B H a xs → DaL K B H xs ds → Da K B H (.ref a) (.tuple ds)
  | frn {a : Addr} (ns : List Int) : LB K B H a (ns.map V.int) → Da K B H (.ref a) (frnD ns)
  | dic {a : Addr} (xs : DicL) {ks : List D} : ¬ B a → H a = some (DicO a xs) → xs.map (fun x => x.1.data) = ks → DaL K B H (xs.map fun x => V.ref x.2.1) ks → Da K B H (.ref a) (dicD ks)
inductive DaL (K : PySem.W.Frag) (B : AS) (H : Hp) : List V → List D → Prop
  | nil : DaL K B H [] []
  | cons {v : V} {vs : List V} {d : D} {ds : List D} : Da K B H v d → DaL K B H vs ds → DaL K B H (v :: vs) (d :: ds)
end
section
variable {K : PySem.W.Frag} {B B' : AS} {H H' : Hp}
mutual
theorem Da.mapP (sub : ∀ a, B' a → B a) (s : Stay B H H') : ∀ {v : V} {d : D}, Da K B H v d → Da K B' H' v d
  | _, _, .non => .non
  | _, _, .bl b => .bl b
  | _, _, .int i => .int i
  | _, _, .str x => .str x
  | _, _, .lst n hs ha => .lst (fun z => n (sub _ z)) (s _ _ hs n) (DaL.mapP sub s ha)
  | _, _, .tup hs ha => .tup (hs.map sub s) (DaL.mapP sub s ha)
  | _, _, .frn ns hs => .frn ns (hs.map sub s)
  | _, _, .dic xs n hs hk ha => .dic xs (fun z => n (sub _ z)) (s _ _ hs n) hk (DaL.mapP sub s ha)
theorem DaL.mapP (sub : ∀ a, B' a → B a) (s : Stay B H H') : ∀ {vs : List V} {ds : List D}, DaL K B H vs ds → DaL K B' H' vs ds
  | _, _, .nil => .nil
  | _, _, .cons h1 h2 => .cons (Da.mapP sub s h1) (DaL.mapP sub s h2)
end
theorem Da.map (sub : ∀ a, B' a → B a) (s : Stay B H H') (d : D) (v : V) (h : Da K B H v d) : Da K B' H' v d := Da.mapP sub s h
theorem DaL.map (sub : ∀ a, B' a → B a) (s : Stay B H H') (ds : List D) (vs : List V) (h : DaL K B H vs ds) : DaL K B' H' vs ds := DaL.mapP sub s h
mutual
/-- a new place is not reached -/
theorem Da.newP {p : Addr} (n : H p = none) : ∀ {v : V} {d : D}, Da K B H v d → Da K (fun a => B a ∨ a = p) H v d
  | _, _, .non => .non
  | _, _, .bl b => .bl b
  | _, _, .int i => .int i
  | _, _, .str x => .str x
  | _, _, .lst m hs ha => .lst (fun z => z.elim m (ne_of_none hs n)) hs (DaL.newP n ha)
  | _, _, .tup hs ha => .tup (hs.new n) (DaL.newP n ha)
  | _, _, .frn ns hs => .frn ns (hs.new n)
  | _, _, .dic xs m hs hk ha => .dic xs (fun z => z.elim m (ne_of_none hs n)) hs hk (DaL.newP n ha)
theorem DaL.newP {p : Addr} (n : H p = none) : ∀ {vs : List V} {ds : List D}, DaL K B H vs ds → DaL K (fun a => B a ∨ a = p) H vs ds
  | _, _, .nil => .nil
  | _, _, .cons h1 h2 => .cons (Da.newP n h1) (DaL.newP n h2)
end
theorem Da.new {p : Addr} (n : H p = none) (d : D) (v : V) (h : Da K B H v d) : Da K (fun a => B a ∨ a = p) H v d := Da.newP n h
theorem DaL.new {p : Addr} (n : H p = none) (ds : List D) (vs : List V) (h : DaL K B H vs ds) : DaL K (fun a => B a ∨ a = p) H vs ds := DaL.newP n h
mutual
theorem Da.dp : ∀ (d : D) (v : V), Da K B H v d → d.canLay0 = true → Dp K H v d
  | .none, _, h, _ => by cases h; exact .non
  | .bool b, _, h, _ => by cases h; exact .bl b
  | .int i, _, h, _ => by cases h; exact .int i
  | .str x, _, h, _ => by cases h; exact .str x
  | .list ds, _, h, c => by
    cases h with
    | lst n hs ha => exact .lst (.inl (.inl hs)) (DaL.dp ds _ ha (by simpa only [PyData.canLay0] using c))
  | .tuple ds, _, h, c => by
    cases h with
    | tup hs ha => exact .tup hs.sq (DaL.dp ds _ ha (by simpa only [PyData.canLay0] using c))
  | .dict _, _, h, c => by
    simp only [PyData.canLay0] at c
    cases c
theorem DaL.dp : ∀ (ds : List D) (vs : List V), DaL K B H vs ds → PyData.canLayAll0 ds = true → DpAll K H vs ds
  | [], _, h, _ => by cases h; exact .nil
  | d :: ds, _, h, c => by
    cases h with
    | cons h1 h2 =>
      simp only [PyData.canLayAll0, Bool.and_eq_true] at c
      exact .cons (Da.dp d _ h1 c.1) (DaL.dp ds _ h2 c.2)
end
end
theorem Da.stay {K : PySem.W.Frag} {B : AS} {H H' : Hp} {v : V} {d : D} (h : Da K B H v d) (s : Stay B H H') : Da K B H' v d := Da.map (fun _ z => z) s d v h
theorem DaL.stay {K : PySem.W.Frag} {B : AS} {H H' : Hp} {v : List V} {d : List D} (h : DaL K B H v d) (s : Stay B H H') : DaL K B H' v d := DaL.map (fun _ z => z) s d v h
theorem Da.weak {K : PySem.W.Frag} {B B' : AS} {H : Hp} {v : V} {d : D} (h : Da K B H v d) (sub : ∀ a, B' a → B a) : Da K B' H v d := Da.map sub (Stay.refl _ _) d v h
theorem DaL.weak {K : PySem.W.Frag} {B B' : AS} {H : Hp} {v : List V} {d : List D} (h : DaL K B H v d) (sub : ∀ a, B' a → B a) : DaL K B' H v d := DaL.map sub (Stay.refl _ _) d v h
section
variable {K : PySem.W.Frag} {B : AS} {H : Hp}
theorem DaL.length : ∀ {vs : List V} {ds : List D}, DaL K B H vs ds → vs.length = ds.length
  | [], [], _ => rfl
  | _ :: vs, _ :: ds, h => by
    cases h with
    | cons _ h2 => exact congrArg Nat.succ (DaL.length h2)
  | [], _ :: _, h => by cases h
  | _ :: _, [], h => by cases h
theorem DaL.append : ∀ {vs us : List V} {ds es : List D}, DaL K B H vs ds → DaL K B H us es → DaL K B H (vs ++ us) (ds ++ es)
  | [], _, [], _, _, h => h
  | _ :: vs, _, _ :: ds, _, h, g => by
    cases h with
    | cons h1 h2 => exact .cons h1 (DaL.append h2 g)
  | [], _, _ :: _, _, h, _ => by cases h
  | _ :: _, _, [], _, h, _ => by cases h
theorem DaL.get : ∀ {vs : List V} {ds : List D} {i : Nat} {d : D}, DaL K B H vs ds → ds[i]? = some d → ∃ v, vs[i]? = some v ∧ Da K B H v d
  | _, _, 0, d, .cons h _, e => by
    simp only [List.getElem?_cons_zero, Option.some.injEq] at e
    subst e
    exact ⟨_, rfl, h⟩
  | _, _, i + 1, d, .cons _ h, e => by
    simp only [List.getElem?_cons_succ] at e ⊢
    exact DaL.get h e
  | _, _, _, _, .nil, e => by simp at e
theorem DaL.take : ∀ {vs : List V} {ds : List D} (n : Nat), DaL K B H vs ds → DaL K B H (vs.take n) (ds.take n)
  | _, _, 0, _ => .nil
  | _, _, _ + 1, .nil => .nil
  | _, _, n + 1, .cons h t => .cons h (DaL.take n t)
theorem DaL.drop : ∀ {vs : List V} {ds : List D} (n : Nat), DaL K B H vs ds → DaL K B H (vs.drop n) (ds.drop n)
  | _, _, 0, h => h
  | _, _, _ + 1, .nil => .nil
  | _, _, n + 1, .cons _ t => DaL.drop n t
theorem DaL.set : ∀ {vs : List V} {ds : List D} {v : V} {d : D} (n : Nat), DaL K B H vs ds → Da K B H v d → DaL K B H (vs.set n v) (ds.set n d)
  | _, _, _, _, _, .nil, _ => .nil
  | _, _, _, _, 0, .cons _ t, h => .cons h t
  | _, _, _, _, n + 1, .cons g t, h => .cons g (DaL.set n t h)
theorem DaL.erase : ∀ {vs : List V} {ds : List D} (n : Nat), DaL K B H vs ds → DaL K B H (vs.eraseIdx n) (ds.eraseIdx n)
  | _, _, _, .nil => .nil
  | _, _, 0, .cons _ t => t
  | _, _, n + 1, .cons g t => .cons g (DaL.erase n t)
theorem DaL.reverse {vs : List V} {ds : List D} (h : DaL K B H vs ds) : DaL K B H vs.reverse ds.reverse := by
  induction vs generalizing ds with
  | nil =>
    cases h
    exact .nil
  | cons v vs ih =>
    cases h with
    | cons h1 h2 =>
      rw [List.reverse_cons, List.reverse_cons]
      exact (ih h2).append (.cons h1 .nil)
theorem DaL.dropLast {vs : List V} {ds : List D} (h : DaL K B H vs ds) : DaL K B H vs.dropLast ds.dropLast := by
  rw [List.dropLast_eq_take, List.dropLast_eq_take, h.length]
  exact h.take _
theorem DaL.ints : ∀ {vs : List V} {ns : List Int}, DaL K B H vs (ns.map PyData.int) → vs = ns.map V.int
  | [], [], _ => rfl
  | _ :: vs, n :: ns, h => by
    cases h with
    | cons h1 h2 =>
      cases h1
      rw [DaL.ints h2]
      rfl
  | [], _ :: _, h => by cases h
  | _ :: _, [], h => by cases h
theorem DaL.of_ints (ns : List Int) : DaL K B H (ns.map V.int) (ns.map PyData.int) := by
  induction ns with
  | nil => exact .nil
  | cons n ns ih => exact .cons (.int n) ih
theorem DaL.bools : ∀ {vs : List V} {ns : List Bool}, DaL K B H vs (ns.map PyData.bool) → vs = ns.map V.bl
  | [], [], _ => rfl
  | _ :: vs, n :: ns, h => by
    cases h with
    | cons h1 h2 =>
      cases h1
      rw [DaL.bools h2]
      rfl
  | [], _ :: _, h => by cases h
  | _ :: _, [], h => by cases h
end

/-! ### slots -/
inductive Cel where
  /-- a value that is never changed any more -/
  | val (d : D)
  /-- a list that this slot alone reaches -/
  | own (xs : List D)
abbrev Sl := List (Option Cel)
/-- the addresses of the owned lists -/
def Ow (ρ : Sl) (σ : L2.St) : AS := fun a => ∃ (i : Nat) (xs : List D), ρ[i]? = some (some (.own xs)) ∧ σ[i]? = some (some (.ref a))
/-- what is fixed through a def: the heap at its entry; what is forbidden from outside (the tables among it); what it may change of the old -/
structure Fx where
  B : AS
  A : AS
  H : Hp
def Av (F : Fx) (ρ : Sl) (σ : L2.St) : AS := fun a => F.B a ∨ Ow ρ σ a
def TabG (H : Hp) (P : Addr) : Prop := ∃ ps : Array Value, H P = some (.tbl ps) ∧ TriplesOk ps.toList
structure Rep (K : PySem.W.Frag) (T : AS) (F : Fx) (ρ : Sl) (σ : L2.St) (H : Hp) : Prop where
  sub : ∀ a, T a → F.B a
  tab : ∀ a, T a → TabG H a
  old : ∀ a, F.B a → ∃ o, H a = some o
  fr : ∀ a o, F.H a = some o → ¬ T a → ¬ F.A a → H a = some o
  dm : ∀ a o, F.H a = some o → ∃ o', H a = some o'
  len : ρ.length = σ.length
  val : ∀ (i : Nat) (d : D), ρ[i]? = some (some (.val d)) → ∃ v, σ[i]? = some (some v) ∧ Da K (Av F ρ σ) H v d
  own : ∀ (i : Nat) (xs : List D), ρ[i]? = some (some (.own xs)) → ∃ p vs, σ[i]? = some (some (.ref p)) ∧ H p = some (.lst vs) ∧ ¬ F.B p ∧ ((i = 0 → F.A p) ∧ (i ≠ 0 → F.H p = none)) ∧ DaL K (Av F ρ σ) H vs xs
  sep : ∀ (i j : Nat) (xs ys : List D) (p : Addr), ρ[i]? = some (some (.own xs)) → ρ[j]? = some (some (.own ys)) → σ[i]? = some (some (.ref p)) → σ[j]? = some (some (.ref p)) → i = j
/-- owned slots only become fewer -/
def Shr (ρ ρ' : Sl) : Prop := ∀ (i : Nat) (xs : List D), ρ'[i]? = some (some (.own xs)) → ∃ ys : List D, ρ[i]? = some (some (.own ys))
theorem Shr.refl (ρ : Sl) : Shr ρ ρ := fun _ xs h => ⟨xs, h⟩
theorem Shr.trans {a b c : Sl} (x : Shr a b) (y : Shr b c) : Shr a c := fun i xs h => by
  obtain ⟨ys, h1⟩ := y i xs h
  exact x i ys h1
theorem Shr.ow {ρ ρ' : Sl} {σ : L2.St} (x : Shr ρ ρ') : ∀ a, Ow ρ' σ a → Ow ρ σ a := fun a ⟨i, xs, h1, h2⟩ => by
  obtain ⟨ys, h3⟩ := x i xs h1
  exact ⟨i, ys, h3, h2⟩
theorem Shr.av {F : Fx} {ρ ρ' : Sl} {σ : L2.St} (x : Shr ρ ρ') : ∀ a, Av F ρ' σ a → Av F ρ σ a := fun a h => h.elim .inl fun z => .inr (x.ow a z)
/-- an expression's effect -/
structure Stp (K : PySem.W.Frag) (T : AS) (F : Fx) (σ : L2.St) (ρ : Sl) (H : Hp) (ρ' : Sl) (H' : Hp) : Prop where
  rep : Rep K T F ρ' σ H'
  st : Stay (fun a => T a ∨ Ow ρ σ a) H H'
  dm : ∀ a o, H a = some o → ∃ o', H' a = some o'
  sh : Shr ρ ρ'
section
variable {K : PySem.W.Frag} {T : AS} {F : Fx} {σ : L2.St} {ρ ρ1 ρ2 : Sl} {H H1 H2 : Hp}
theorem Rep.tow (R : Rep K T F ρ σ H) : ∀ a, T a ∨ Ow ρ σ a → Av F ρ σ a := fun a h => h.elim (fun z => .inl (R.sub a z)) .inr
theorem Stp.refl (R : Rep K T F ρ σ H) : Stp K T F σ ρ H ρ H := ⟨R, Stay.refl _ _, fun _ o e => ⟨o, e⟩, Shr.refl _⟩
theorem Stp.trans (x : Stp K T F σ ρ H ρ1 H1) (y : Stp K T F σ ρ1 H1 ρ2 H2) : Stp K T F σ ρ H ρ2 H2 :=
  ⟨y.rep, x.st.trans (y.st.mono fun a h => h.imp id (x.sh.ow a)), fun a o e => (x.dm a o e).elim fun o' e' => y.dm a o' e', x.sh.trans y.sh⟩
/-- data found before a step is there behind it -/
theorem Stp.da {v : V} {d : D} (R : Rep K T F ρ σ H) (x : Stp K T F σ ρ H ρ1 H1) (h : Da K (Av F ρ σ) H v d) : Da K (Av F ρ1 σ) H1 v d := Da.map x.sh.av (x.st.mono R.tow) d v h
theorem Stp.daL {v : List V} {d : List D} (R : Rep K T F ρ σ H) (x : Stp K T F σ ρ H ρ1 H1) (h : DaL K (Av F ρ σ) H v d) : DaL K (Av F ρ1 σ) H1 v d := DaL.map x.sh.av (x.st.mono R.tow) d v h
theorem Rep.fresh (R : Rep K T F ρ σ H) {p : Addr} (h : H p = none) : ¬ Av F ρ σ p := fun z => by
  rcases z with z | ⟨i, xs, h1, h2⟩
  · obtain ⟨o, e⟩ := R.old p z
    rw [h] at e
    cases e
  · obtain ⟨q, vs, e1, e2, _⟩ := R.own i xs h1
    rw [h2] at e1
    cases e1
    rw [h] at e2
    cases e2
/-- the heap has more; nothing that was is changed -/
theorem Rep.ext (R : Rep K T F ρ σ H) (e : Ext H H1) : Rep K T F ρ σ H1 where
  sub := R.sub
  tab := fun a h => by
    obtain ⟨ps, h1, h2⟩ := R.tab a h
    exact ⟨ps, e _ _ h1, h2⟩
  old := fun a h => by
    obtain ⟨o, h1⟩ := R.old a h
    exact ⟨o, e _ _ h1⟩
  fr := fun a o h n m => e _ _ (R.fr a o h n m)
  dm := fun a o h => (R.dm a o h).elim fun o' h' => ⟨o', e _ _ h'⟩
  len := R.len
  val := fun i d h => by
    obtain ⟨v, h1, h2⟩ := R.val i d h
    exact ⟨v, h1, h2.stay e.stay⟩
  own := fun i xs h => by
    obtain ⟨p, vs, h1, h2, h3, h4, h5⟩ := R.own i xs h
    exact ⟨p, vs, h1, e _ _ h2, h3, h4, h5.stay e.stay⟩
  sep := R.sep
theorem Stp.ext (x : Stp K T F σ ρ H ρ1 H1) (e : Ext H1 H2) : Stp K T F σ ρ H ρ1 H2 := ⟨x.rep.ext e, x.st.trans e.stay, fun a o h => (x.dm a o h).elim fun o' h' => ⟨o', e _ _ h'⟩, x.sh⟩
theorem tab_dm (e : Stay T H H1) (t : ∀ a, T a → TabG H1 a) {a : Addr} {o : HO} (h : H a = some o) : ∃ o', H1 a = some o' := by
  by_cases q : T a
  · obtain ⟨ps, h2, _⟩ := t a q
    exact ⟨_, h2⟩
  · exact ⟨o, e _ _ h q⟩
/-- the tables have grown -/
theorem Rep.tabs (R : Rep K T F ρ σ H) (e : Stay T H H1) (t : ∀ a, T a → TabG H1 a) : Rep K T F ρ σ H1 where
  sub := R.sub
  tab := t
  old := fun a h => (R.old a h).elim fun o h1 => tab_dm e t h1
  fr := fun a o h n m => e _ _ (R.fr a o h n m) n
  dm := fun a o h => (R.dm a o h).elim fun o' h' => tab_dm e t h'
  len := R.len
  val := fun i d h => by
    obtain ⟨v, h1, h2⟩ := R.val i d h
    exact ⟨v, h1, h2.stay (e.mono fun a z => .inl (R.sub a z))⟩
  own := fun i xs h => by
    obtain ⟨p, vs, h1, h2, h3, h4, h5⟩ := R.own i xs h
    exact ⟨p, vs, h1, e _ _ h2 (fun z => h3 (R.sub _ z)), h3, h4, h5.stay (e.mono fun a z => .inl (R.sub a z))⟩
  sep := R.sep
theorem Stp.tabs (x : Stp K T F σ ρ H ρ1 H1) (e : Stay T H1 H2) (t : ∀ a, T a → TabG H2 a) : Stp K T F σ ρ H ρ1 H2 := ⟨x.rep.tabs e t, x.st.trans (e.mono fun a z => .inl z), fun a o h => (x.dm a o h).elim fun o' h' => tab_dm e t h', x.sh⟩
end

/-- a place more is forbidden -/
def Fx.and (F : Fx) (p : Addr) : Fx := ⟨fun a => F.B a ∨ a = p, F.A, F.H⟩
/-- a new list of the data d stands at p, which nothing else reaches -/
structure New (K : PySem.W.Frag) (T : AS) (F : Fx) (σ : L2.St) (ρ : Sl) (H : Hp) (ρ' : Sl) (H' : Hp) (p : Addr) (vs : List V) (d : List D) : Prop where
  rep : Rep K T (F.and p) ρ' σ H'
  st : Stay (fun a => T a ∨ Ow ρ σ a) H H'
  dm : ∀ a o, H a = some o → ∃ o', H' a = some o'
  sh : Shr ρ ρ'
  at_ : H' p = some (.lst vs)
  nb : ¬ F.B p
  nh : F.H p = none
  new : H p = none
  da : DaL K (Av (F.and p) ρ' σ) H' vs d
section
variable {K : PySem.W.Frag} {T : AS} {F : Fx} {σ : L2.St} {ρ ρ1 ρ2 : Sl} {H H1 H2 : Hp} {p : Addr}
theorem av_and : ∀ a, Av (F.and p) ρ σ a → Av F ρ σ a ∨ a = p := fun a h => by
  rcases h with (h | h) | h
  · exact .inl (.inl h)
  · exact .inr h
  · exact .inl (.inr h)
theorem and_av : ∀ a, Av F ρ σ a → Av (F.and p) ρ σ a := fun a h => h.imp .inl id
theorem Rep.weak_and (sT : ∀ a, T a → F.B a) (R : Rep K T (F.and p) ρ σ H) : Rep K T F ρ σ H where
  sub := sT
  tab := R.tab
  old := fun a h => R.old a (.inl h)
  fr := R.fr
  dm := R.dm
  len := R.len
  val := fun i d h => (R.val i d h).imp fun v z => ⟨z.1, z.2.weak and_av⟩
  own := fun i xs h => by
    obtain ⟨q, vs, h1, h2, h3, h4, h5⟩ := R.own i xs h
    exact ⟨q, vs, h1, h2, fun z => h3 (.inl z), h4, h5.weak and_av⟩
  sep := R.sep
/-- a place that was free is laid, and forbidden -/
theorem Rep.and_new {o : HO} (R : Rep K T F ρ σ H) (hp : H p = none) : Rep K T (F.and p) ρ σ (upd H p o) := by
  have ex : Ext H (upd H p o) := Ext.new hp
  refine ⟨fun a h => .inl (R.sub a h), fun a h => ?_, fun a h => ?_, fun a u h n m => ex _ _ (R.fr a u h n m), fun a u h => (R.dm a u h).elim fun u' h' => ⟨u', ex _ _ h'⟩, R.len, fun i d h => ?_, fun i xs h => ?_, R.sep⟩
  · obtain ⟨ps, h1, h2⟩ := R.tab a h
    exact ⟨ps, ex _ _ h1, h2⟩
  · rcases h with h | h
    · obtain ⟨u, h1⟩ := R.old a h
      exact ⟨u, ex _ _ h1⟩
    · exact ⟨o, by rw [h]; exact upd_same⟩
  · obtain ⟨v, h1, h2⟩ := R.val i d h
    exact ⟨v, h1, ((Da.new hp d v h2).weak av_and).stay ex.stay⟩
  · obtain ⟨q, vs, h1, h2, h3, h4, h5⟩ := R.own i xs h
    exact ⟨q, vs, h1, ex _ _ h2, fun z => z.elim h3 (fun z => by rw [z, hp] at h2; cases h2), h4, ((DaL.new hp xs vs h5).weak av_and).stay ex.stay⟩
/-- what stands at a forbidden place is no matter -/
theorem Rep.upd_and {o : HO} (R : Rep K T F ρ σ H) (hB : F.B p) (hT : ¬ T p) (hF : F.H p = none) : Rep K T F ρ σ (upd H p o) := by
  have st : Stay (Av F ρ σ) H (upd H p o) := fun a u e n => by
    rw [upd_ne (fun z => n (.inl (by rw [z]; exact hB)))]
    exact e
  have dm : ∀ a u, H a = some u → ∃ u', upd H p o a = some u' := fun a u e => by
    by_cases q : a = p
    · exact ⟨o, by rw [q]; exact upd_same⟩
    · exact ⟨u, by rw [upd_ne q]; exact e⟩
  refine ⟨R.sub, fun a h => ?_, fun a h => (R.old a h).elim fun u e => dm a u e, fun a u h n m => ?_, fun a u h => (R.dm a u h).elim fun u' e => dm a u' e, R.len, fun i d h => ?_, fun i xs h => ?_, R.sep⟩
  · obtain ⟨ps, h1, h2⟩ := R.tab a h
    exact ⟨ps, by rw [upd_ne (fun z => hT (by rw [← z]; exact h))]; exact h1, h2⟩
  · rw [upd_ne (fun z => by rw [z, hF] at h; cases h)]
    exact R.fr a u h n m
  · obtain ⟨v, h1, h2⟩ := R.val i d h
    exact ⟨v, h1, h2.stay st⟩
  · obtain ⟨q, vs, h1, h2, h3, h4, h5⟩ := R.own i xs h
    exact ⟨q, vs, h1, by rw [upd_ne (fun z => h3 (by rw [z]; exact hB))]; exact h2, h3, h4, h5.stay st⟩
theorem Rep.no_tab (R : Rep K T F ρ σ H) (hp : H p = none) : ¬ T p := fun z => by
  obtain ⟨ps, e, _⟩ := R.tab p z
  rw [hp] at e
  cases e
theorem Rep.no_fh (R : Rep K T F ρ σ H) (hp : H p = none) : F.H p = none := by
  cases q : F.H p with
  | none => rfl
  | some o =>
    obtain ⟨o', e⟩ := R.dm p o q
    rw [hp] at e
    cases e
theorem Stp.dm_none (s : Stp K T F σ ρ H ρ1 H1) (hp : H1 p = none) : H p = none := by
  cases q : H p with
  | none => rfl
  | some o =>
    obtain ⟨o', e⟩ := s.dm p o q
    rw [hp] at e
    cases e
theorem New.of_upd {vs : List V} {d : List D} (s : Stp K T F σ ρ H ρ1 H1) (hp : H1 p = none) (h : DaL K (Av F ρ1 σ) H1 vs d) : New K T F σ ρ H ρ1 (upd H1 p (.lst vs)) p vs d where
  rep := s.rep.and_new hp
  st := s.st.trans (Ext.new hp).stay
  dm := fun a o e => (s.dm a o e).elim fun o' e' => ⟨o', Ext.new hp _ _ e'⟩
  sh := s.sh
  at_ := upd_same
  nb := fun z => s.rep.fresh hp (.inl z)
  nh := s.rep.no_fh hp
  new := s.dm_none hp
  da := ((DaL.new hp d vs h).weak av_and).stay (Ext.new hp).stay
theorem New.no_ow {vs : List V} {d : List D} (n : New K T F σ ρ H ρ1 H1 p vs d) : ¬ Ow ρ1 σ p := fun ⟨i, xs, h1, h2⟩ => by
  obtain ⟨q, us, e1, _, e3, _⟩ := n.rep.own i xs h1
  rw [h2] at e1
  cases e1
  exact e3 (.inr rfl)
theorem New.stp {vs : List V} {d : List D} (R : Rep K T F ρ σ H) (n : New K T F σ ρ H ρ1 H1 p vs d) : Stp K T F σ ρ H ρ1 H1 := ⟨n.rep.weak_and R.sub, n.st, n.dm, n.sh⟩
theorem New.e {vs : List V} {d : List D} (n : New K T F σ ρ H ρ1 H1 p vs d) : Da K (Av F ρ1 σ) H1 (.ref p) (.list d) := .lst (fun z => z.elim n.nb n.no_ow) n.at_ (n.da.weak and_av)
end

/-! ### what an expression comes to -/
abbrev M (α : Type) := Sl → Option (α × Sl)
/-- a proper value: it reaches no owned list -/
def SE (K : PySem.W.Frag) (T : AS) (t : TE) (f : M D) : Prop := ∀ (F : Fx) (ρ : Sl) (σ : L2.St) (H : Hp) (d : D) (ρ' : Sl), Rep K T F ρ σ H → f ρ = some (d, ρ') →
  ∀ Q : VK, (∀ v H', Stp K T F σ ρ H ρ' H' → Da K (Av F ρ' σ) H' v d → Q v H') → t σ H Q
/-- a value that may be an owned list itself -/
def Dv (K : PySem.W.Frag) (F : Fx) (B : AS) (H : Hp) (v : V) (d : D) : Prop := Da K B H v d ∨ ∃ p vs xs, v = .ref p ∧ d = .list xs ∧ ¬ F.B p ∧ H p = some (.lst vs) ∧ DaL K B H vs xs
def SV (K : PySem.W.Frag) (T : AS) (t : TE) (f : M D) : Prop := ∀ (F : Fx) (ρ : Sl) (σ : L2.St) (H : Hp) (d : D) (ρ' : Sl), Rep K T F ρ σ H → f ρ = some (d, ρ') →
  ∀ Q : VK, (∀ v H', Stp K T F σ ρ H ρ' H' → Dv K F (Av F ρ' σ) H' v d → Q v H') → t σ H Q
/-- a new list -/
def SF (K : PySem.W.Frag) (T : AS) (t : TE) (f : M (List D)) : Prop := ∀ (F : Fx) (ρ : Sl) (σ : L2.St) (H : Hp) (d : List D) (ρ' : Sl), Rep K T F ρ σ H → f ρ = some (d, ρ') →
  ∀ Q : VK, (∀ p vs H', New K T F σ ρ H ρ' H' p vs d → Q (.ref p) H') → t σ H Q
def ST (K : PySem.W.Frag) (T : AS) (t : TT) (f : M Bool) : Prop := ∀ (F : Fx) (ρ : Sl) (σ : L2.St) (H : Hp) (b : Bool) (ρ' : Sl), Rep K T F ρ σ H → f ρ = some (b, ρ') →
  ∀ Q : Bool → Hp → Prop, (∀ H', Stp K T F σ ρ H ρ' H' → Q b H') → t σ H Q
def SA (K : PySem.W.Frag) (T : AS) (t : TA) (f : M (List D)) : Prop := ∀ (F : Fx) (ρ : Sl) (σ : L2.St) (H : Hp) (d : List D) (ρ' : Sl), Rep K T F ρ σ H → f ρ = some (d, ρ') →
  ∀ Q : List V → Hp → Prop, (∀ vs H', Stp K T F σ ρ H ρ' H' → DaL K (Av F ρ' σ) H' vs d → Q vs H') → t σ H Q
theorem SE.v {K : PySem.W.Frag} {T : AS} {t : TE} {f : M D} (h : SE K T t f) : SV K T t f := fun F ρ σ H d ρ' R e Q q => h F ρ σ H d ρ' R e Q fun v H' s x => q v H' s (.inl x)

/-! ### combinators -/
def bd {α β : Type} (m : M α) (k : α → M β) : M β := fun ρ => match m ρ with
  | some (a, ρ') => k a ρ'
  | none => none
def pr {α : Type} (a : α) : M α := fun ρ => some (a, ρ)
def lf {α : Type} (o : Option α) : M α := fun ρ => match o with
  | some a => some (a, ρ)
  | none => none
theorem bd_some {α β : Type} {m : M α} {k : α → M β} {ρ ρ2 : Sl} {b : β} (h : bd m k ρ = some (b, ρ2)) : ∃ a ρ1, m ρ = some (a, ρ1) ∧ k a ρ1 = some (b, ρ2) := by
  unfold bd at h
  split at h
  · rename_i a ρ1 e
    exact ⟨a, ρ1, e, h⟩
  · cases h
theorem lf_some {α : Type} {o : Option α} {ρ ρ2 : Sl} {a : α} (h : lf o ρ = some (a, ρ2)) : o = some a ∧ ρ2 = ρ := by
  unfold lf at h
  split at h
  · cases h
    exact ⟨rfl, rfl⟩
  · cases h
/-- a name as a value: an owned list is owned no more -/
def fVar (i : Nat) : M D := fun ρ => match ρ[i]? with
  | some (some (.val d)) => some (d, ρ)
  | some (some (.own xs)) => some (.list xs, ρ.set i (some (.val (.list xs))))
  | _ => none
/-- a name read in passing -/
def fVarB (i : Nat) : M D := fun ρ => match ρ[i]? with
  | some (some (.val d)) => some (d, ρ)
  | some (some (.own xs)) => some (.list xs, ρ)
  | _ => none
def fC (d : D) : M D := pr d
def fBin (o : D → D → Option D) (fa fb : M D) : M D := bd fa fun x => bd fb fun y => lf (o x y)
def fUn (o : D → Option D) (fa : M D) : M D := bd fa fun x => lf (o x)
def fTup (fs : M (List D)) : M D := bd fs fun ds => pr (.tuple ds)
def fLst (fs : M (List D)) : M D := bd fs fun ds => pr (.list ds)
def fNil : M (List D) := pr []
def fCons (f : M D) (fs : M (List D)) : M (List D) := bd f fun d => bd fs fun ds => pr (d :: ds)

section
variable {K : PySem.W.Frag} {T : AS} {F : Fx} {σ : L2.St} {ρ : Sl} {H : Hp}
theorem get_set {ρ : Sl} {i j : Nat} {c : Option Cel} (h : i < ρ.length) : (ρ.set i c)[j]? = if i = j then some c else ρ[j]? := by
  rw [List.getElem?_set]
  by_cases e : i = j
  · subst e
    simp [h]
  · simp [e]
theorem lt_of_get {α : Type} {ρ : List α} {i : Nat} {c : α} (h : ρ[i]? = some c) : i < ρ.length := (List.getElem?_eq_some_iff.mp h).1
/-- an owned list is owned no more -/
theorem Rep.drop_own {i : Nat} {xs : List D} (R : Rep K T F ρ σ H) (h : ρ[i]? = some (some (.own xs))) : ∃ p, σ[i]? = some (some (.ref p)) ∧ Stp K T F σ ρ H (ρ.set i (some (.val (.list xs)))) H ∧ Da K (Av F (ρ.set i (some (.val (.list xs)))) σ) H (.ref p) (.list xs) := by
  obtain ⟨p, vs, h1, h2, h3, h4, h5⟩ := R.own i xs h
  have hi := lt_of_get h
  have sh : Shr ρ (ρ.set i (some (.val (.list xs)))) := fun j ys e => by
    rw [get_set hi] at e
    by_cases q : i = j
    · rw [if_pos q] at e
      cases e
    · rw [if_neg q] at e
      exact ⟨ys, e⟩
  have np : ¬ Av F (ρ.set i (some (.val (.list xs)))) σ p := fun z => by
    rcases z with z | ⟨j, ys, e1, e2⟩
    · exact h3 z
    · rw [get_set hi] at e1
      by_cases q : i = j
      · rw [if_pos q] at e1
        cases e1
      · rw [if_neg q] at e1
        exact q (R.sep i j xs ys p h e1 h1 e2)
  have hd : Da K (Av F (ρ.set i (some (.val (.list xs)))) σ) H (.ref p) (.list xs) := .lst np h2 (h5.weak sh.av)
  refine ⟨p, h1, ⟨⟨R.sub, R.tab, R.old, R.fr, R.dm, by rw [List.length_set]; exact R.len, fun j d e => ?_, fun j ys e => ?_, fun j k ys zs q e1 e2 => ?_⟩, Stay.refl _ _, fun _ o e => ⟨o, e⟩, sh⟩, hd⟩
  · rw [get_set hi] at e
    by_cases q : i = j
    · rw [if_pos q] at e
      cases e
      subst q
      exact ⟨_, h1, hd⟩
    · rw [if_neg q] at e
      obtain ⟨v, e1, e2⟩ := R.val j d e
      exact ⟨v, e1, e2.weak sh.av⟩
  · rw [get_set hi] at e
    by_cases q : i = j
    · rw [if_pos q] at e
      cases e
    · rw [if_neg q] at e
      obtain ⟨p', vs', e1, e2, e3, e4, e5⟩ := R.own j ys e
      exact ⟨p', vs', e1, e2, e3, e4, e5.weak sh.av⟩
  · rw [get_set hi] at e1 e2
    by_cases q1 : i = j
    · rw [if_pos q1] at e1
      cases e1
    · by_cases q2 : i = k
      · rw [if_pos q2] at e2
        cases e2
      · rw [if_neg q1] at e1
        rw [if_neg q2] at e2
        exact R.sep j k ys zs q e1 e2
theorem se_var (i : Nat) : SE K T (tVar i) (fVar i) := fun F ρ σ H d ρ' R e Q q => by
  unfold fVar at e
  split at e
  · rename_i d' h
    cases e
    obtain ⟨v, h1, h2⟩ := R.val i _ h
    exact ⟨v, h1, q v H (Stp.refl R) h2⟩
  · rename_i xs h
    cases e
    obtain ⟨p, h1, h2, h3⟩ := R.drop_own h
    exact ⟨_, h1, q _ H h2 h3⟩
  · cases e
theorem sv_var (i : Nat) : SV K T (tVar i) (fVarB i) := fun F ρ σ H d ρ' R e Q q => by
  unfold fVarB at e
  split at e
  · rename_i d' h
    cases e
    obtain ⟨v, h1, h2⟩ := R.val i _ h
    exact ⟨v, h1, q v H (Stp.refl R) (.inl h2)⟩
  · rename_i xs h
    cases e
    obtain ⟨p, vs, h1, h2, h3, h4, h5⟩ := R.own i xs h
    exact ⟨_, h1, q _ H (Stp.refl R) (.inr ⟨p, vs, xs, rfl, rfl, h3, h2, h5⟩)⟩
  · cases e
theorem se_c {v : V} {d : D} (h : ∀ B H, Da K B H v d) : SE K T (tC v) (fC d) := fun F ρ σ H d' ρ' R e Q q => by
  cases e
  exact q v H (Stp.refl R) (h _ _)

/-- an operation of two values, over data -/
def OpD (K : PySem.W.Frag) (r : R2) (o : D → D → Option D) : Prop := ∀ (B : AS) (H : Hp) (x y : V) (dx dy d : D), Da K B H x dx → Da K B H y dy → (∀ p, H p = none → ¬ B p) → o dx dy = some d →
  ∀ Q : VK, (∀ v H', Ext H H' → Da K B H' v d → Q v H') → r x y H Q
/-- the second one may be an owned list -/
def OpV (K : PySem.W.Frag) (r : R2) (o : D → D → Option D) : Prop := ∀ (F : Fx) (B : AS) (H : Hp) (x y : V) (dx dy d : D), Da K B H x dx → Dv K F B H y dy → (∀ p, H p = none → ¬ B p) → o dx dy = some d →
  ∀ Q : VK, (∀ v H', Ext H H' → Da K B H' v d → Q v H') → r x y H Q
def UnD (K : PySem.W.Frag) (r : V → Hp → VK → Prop) (o : D → Option D) : Prop := ∀ (B : AS) (H : Hp) (x : V) (dx d : D), Da K B H x dx → (∀ p, H p = none → ¬ B p) → o dx = some d →
  ∀ Q : VK, (∀ v H', Ext H H' → Da K B H' v d → Q v H') → r x H Q
theorem se_op {ta tb : TE} {fa fb : M D} {r : R2} {o : D → D → Option D} (ha : SE K T ta fa) (hb : SE K T tb fb) (hr : OpD K r o) : SE K T (tOp r ta tb) (fBin o fa fb) := fun F ρ σ H d ρ' R e Q q => by
  obtain ⟨x, ρ1, e1, e2⟩ := bd_some e
  obtain ⟨y, ρ2, e3, e4⟩ := bd_some e2
  obtain ⟨e5, rfl⟩ := lf_some e4
  refine ha F ρ σ H x ρ1 R e1 _ fun v H1 s1 d1 => ?_
  refine hb F ρ1 σ H1 y ρ' s1.rep e3 _ fun u H2 s2 d2 => ?_
  exact hr _ H2 v u x y d (s2.da s1.rep d1) d2 (fun p h => s2.rep.fresh h) e5 _ fun w H3 x3 d3 => q w H3 ((s1.trans s2).ext x3) d3
theorem se_opV {ta tb : TE} {fa fb : M D} {r : R2} {o : D → D → Option D} (ha : SE K T ta fa) (hb : SV K T tb fb) (hr : OpV K r o) : SE K T (tOp r ta tb) (fBin o fa fb) := fun F ρ σ H d ρ' R e Q q => by
  obtain ⟨x, ρ1, e1, e2⟩ := bd_some e
  obtain ⟨y, ρ2, e3, e4⟩ := bd_some e2
  obtain ⟨e5, rfl⟩ := lf_some e4
  refine ha F ρ σ H x ρ1 R e1 _ fun v H1 s1 d1 => ?_
  refine hb F ρ1 σ H1 y ρ' s1.rep e3 _ fun u H2 s2 d2 => ?_
  exact hr F _ H2 v u x y d (s2.da s1.rep d1) d2 (fun p h => s2.rep.fresh h) e5 _ fun w H3 x3 d3 => q w H3 ((s1.trans s2).ext x3) d3
theorem se_un {ta : TE} {fa : M D} {r : V → Hp → VK → Prop} {o : D → Option D} (ha : SE K T ta fa) (hr : UnD K r o) : SE K T (tUn r ta) (fUn o fa) := fun F ρ σ H d ρ' R e Q q => by
  obtain ⟨x, ρ1, e1, e2⟩ := bd_some e
  obtain ⟨e5, rfl⟩ := lf_some e2
  refine ha F ρ σ H x ρ' R e1 _ fun v H1 s1 d1 => ?_
  exact hr _ H1 v x d d1 (fun p h => s1.rep.fresh h) e5 _ fun w H3 x3 d3 => q w H3 (s1.ext x3) d3
theorem sa_nil : SA K T tNil fNil := fun F ρ σ H d ρ' R e Q q => by
  cases e
  exact q [] H (Stp.refl R) .nil
theorem sa_cons {te : TE} {tr : TA} {f : M D} {fs : M (List D)} (h : SE K T te f) (hr : SA K T tr fs) : SA K T (tCons te tr) (fCons f fs) := fun F ρ σ H d ρ' R e Q q => by
  obtain ⟨x, ρ1, e1, e2⟩ := bd_some e
  obtain ⟨ys, ρ2, e3, e4⟩ := bd_some e2
  cases e4
  refine h F ρ σ H x ρ1 R e1 _ fun v H1 s1 d1 => ?_
  refine hr F ρ1 σ H1 ys ρ' s1.rep e3 _ fun vs H2 s2 d2 => ?_
  exact q (v :: vs) H2 (s1.trans s2) (.cons (s2.da s1.rep d1) d2)
/-- the sizes of displays are small: the length is told -/
theorem se_tup {ta : TA} {fs : M (List D)} (h : SA K T ta fs) (hn : ∀ ρ ds ρ', fs ρ = some (ds, ρ') → ds.length ≤ sizeLine) : SE K T (tTup ta) (fTup fs) := fun F ρ σ H d ρ' R e Q q => by
  obtain ⟨xs, ρ1, e1, e2⟩ := bd_some e
  cases e2
  refine h F ρ σ H xs ρ' R e1 _ fun vs H1 s1 d1 => ⟨by rw [d1.length]; exact hn _ _ _ e1, fun p hp => ?_⟩
  have ex : Ext H1 (upd H1 p (.tup vs)) := Ext.new hp
  exact q _ _ (s1.ext ex) (.tup (.inl ⟨s1.rep.fresh hp, .inl upd_same⟩) (d1.stay ex.stay))
theorem sf_lst {ta : TA} {fs : M (List D)} (h : SA K T ta fs) (hn : ∀ ρ ds ρ', fs ρ = some (ds, ρ') → ds.length ≤ sizeLine) : SF K T (tLst ta) fs := fun F ρ σ H d ρ' R e Q q => by
  refine h F ρ σ H d ρ' R e _ fun vs H1 s1 d1 => ⟨by rw [d1.length]; exact hn _ _ _ e, fun p hp => ?_⟩
  exact q p vs _ (New.of_upd s1 hp d1)
/-- a new list as a value -/
theorem SF.e {t : TE} {f : M (List D)} (h : SF K T t f) : SE K T t (bd f fun ds => pr (.list ds)) := fun F ρ σ H d ρ' R e Q q => by
  obtain ⟨xs, ρ1, e1, e2⟩ := bd_some e
  cases e2
  exact h F ρ σ H xs ρ' R e1 Q fun p vs H1 n => q _ H1 (n.stp R) n.e
end
end PF
set_option Elab.async false
set_option linter.all false
set_option maxRecDepth 100000
/-! PF: operations over data. -/
namespace PF
open PySem PySem.Spec PyProof.Rows L2

/-! ### what is at hand of a value -/
section
variable {K : PySem.W.Frag} {B : AS} {H : Hp}
theorem DaL.atI {vs : List V} {ds : List D} {i : Int} {d : D} (h : DaL K B H vs ds) (e : L2.atI ds i = some d) : ∃ v, L2.atI vs i = some v ∧ Da K B H v d := by
  unfold L2.atI at e ⊢
  rw [h.length]
  cases q : ixN ds.length i with
  | none =>
    rw [q] at e
    cases e
  | some j =>
    rw [q] at e
    exact h.get e
/-- a list that is at hand: a proper one, or an owned one -/
theorem Dv.list {F : Fx} {v : V} {xs : List D} (h : Dv K F B H v (.list xs)) : ∃ p vs, v = .ref p ∧ H p = some (.lst vs) ∧ DaL K B H vs xs := by
  rcases h with h | ⟨p, vs, ys, rfl, e, _, h2, h3⟩
  · cases h with
    | lst n hs ha => exact ⟨_, _, rfl, hs, ha⟩
  · cases e
    exact ⟨p, vs, rfl, h2, h3⟩
theorem Dv.tup {F : Fx} {v : V} {xs : List D} (h : Dv K F B H v (.tuple xs)) : ∃ p vs, v = .ref p ∧ SqT K H p vs ∧ DaL K B H vs xs ∧ Da K B H v (.tuple xs) := by
  rcases h with h | ⟨p, vs, ys, rfl, e, _, h2, h3⟩
  · have h' := h
    cases h with
    | tup hs ha => exact ⟨_, _, rfl, hs.sq, ha, h'⟩
  · cases e
theorem map_int_inj : ∀ {ns ms : List Int}, ns.map PyData.int = ms.map PyData.int → ns = ms
  | [], [], _ => rfl
  | n :: ns, m :: ms, h => by
    simp only [List.map_cons, List.cons.injEq, PyData.int.injEq] at h
    rw [h.1, map_int_inj h.2]
  | [], _ :: _, h => by cases h
  | _ :: _, [], h => by cases h
theorem Dv.frn {F : Fx} {v : V} {ns : List Int} (h : Dv K F B H v (frnD ns)) : ∃ p, v = .ref p ∧ SqL K H p (ns.map V.int) := by
  rcases h with h | ⟨p, vs, ys, rfl, e, _, h2, h3⟩
  · generalize hd : frnD ns = d at h
    cases h with
    | frn ms hs =>
      have e : ns.map PyData.int = ms.map PyData.int := by
        have := PyData.dict.inj hd
        simp only [List.cons.injEq, Prod.mk.injEq, PyData.list.injEq] at this
        exact this.1.1
      have e2 : ns = ms := map_int_inj e
      subst e2
      exact ⟨_, rfl, hs.sq⟩
    | _ => cases hd
  · cases e
theorem Dv.int {F : Fx} {v : V} {i : Int} (h : Dv K F B H v (.int i)) : v = .int i := by
  rcases h with h | ⟨p, vs, ys, rfl, e, _, h2, h3⟩
  · cases h
    rfl
  · cases e
theorem Dv.bool {F : Fx} {v : V} {i : Bool} (h : Dv K F B H v (.bool i)) : v = .bl i := by
  rcases h with h | ⟨p, vs, ys, rfl, e, _, h2, h3⟩
  · cases h
    rfl
  · cases e
theorem Dv.str {F : Fx} {v : V} {i : Str} (h : Dv K F B H v (.str i)) : v = .str i := by
  rcases h with h | ⟨p, vs, ys, rfl, e, _, h2, h3⟩
  · cases h
    rfl
  · cases e
theorem Dv.dp {F : Fx} {v : V} {d : D} (h : Dv K F B H v d) (c : d.canLay0 = true) : Dp K H v d := by
  rcases h with h | ⟨p, vs, ys, rfl, rfl, _, h2, h3⟩
  · exact Da.dp d v h c
  · exact .lst (.inl (.inl h2)) (DaL.dp ys vs h3 (by simpa only [PyData.canLay0] using c))
end
theorem OpV.d {K : PySem.W.Frag} {r : R2} {o : D → D → Option D} (h : OpV K r o) : OpD K r o := fun B H x y dx dy d a b fr e Q q => h ⟨B, B, H⟩ B H x y dx dy d a (.inl b) fr e Q q

/-! ### operators -/
def OpX (X : Cx) (op : Operator) (o : D → D → Option D) : Prop := ∃ r, OpR X (binaryOp op) r ∧ OpD X.K r o
def CmX (X : Cx) (op : CmpOp) (o : D → D → Option D) : Prop := ∃ r, OpR X (compareOp op) r ∧ OpV X.K r o
def oAdd : D → D → Option D
  | .int i, .int j => some (.int (i + j))
  | .str x, .str y => if x.length + y.length ≤ sizeLine then some (.str (x ++ y)) else none
  | .tuple xs, .tuple ys => if xs.length + ys.length ≤ sizeLine then some (.tuple (xs ++ ys)) else none
  | .list xs, .list ys => if xs.length + ys.length ≤ sizeLine then some (.list (xs ++ ys)) else none
  | _, _ => none
def oSub : D → D → Option D
  | .int i, .int j => some (.int (i - j))
  | _, _ => none
/-- a product that is not too long -/
def mulOk (i j : Int) : Bool := decide (i.natAbs.log2 + j.natAbs.log2 < 1000000)
def oMul : D → D → Option D
  | .int i, .int j => if mulOk i j = true then some (.int (i * j)) else none
  | .list xs, .int k => if -(2 ^ 63) ≤ k ∧ k < 2 ^ 63 ∧ xs.length * k.toNat ≤ sizeLine then some (.list (List.replicate k.toNat xs).flatten) else none
  | .tuple xs, .int k => if xs ≠ [] ∧ 2 ≤ k ∧ k ≤ 1000 ∧ xs.length ≤ 1000 then some (.tuple (List.replicate k.toNat xs).flatten) else none
  | _, _ => none
def oDiv : D → D → Option D
  | .int i, .int j => if 0 < j ∧ j.natAbs.log2 < 9000 then some (.int (i / j)) else none
  | _, _ => none
def oMod : D → D → Option D
  | .int i, .int j => if 0 < j then some (.int (i % j)) else none
  | _, _ => none
def oPow : D → D → Option D
  | .int i, .int j => if 0 ≤ j ∧ j ≤ 1000000 ∧ i.natAbs < 2 ^ 64 then some (.int (i ^ j.toNat)) else none
  | _, _ => none
def oNeg : D → Option D
  | .int i => some (.int (-i))
  | _ => none
def oEq (a b : D) : Option D := if SeqAt.shaped a = true ∧ SeqAt.shaped b = true then some (.bool (PyData.eqv a b)) else none
def oNe (a b : D) : Option D := if SeqAt.shaped a = true ∧ SeqAt.shaped b = true then some (.bool (!PyData.eqv a b)) else none
def oLt : D → D → Option D
  | .int i, .int j => some (.bool (decide (i < j)))
  | _, _ => none
def oLe : D → D → Option D
  | .int i, .int j => some (.bool (decide (i ≤ j)))
  | _, _ => none
def oGt : D → D → Option D
  | .int i, .int j => some (.bool (decide (j < i)))
  | _, _ => none
def oGe : D → D → Option D
  | .int i, .int j => some (.bool (decide (j ≤ i)))
  | _, _ => none
/-- in -/
def inD : D → D → Option Bool
  | d, .list ds => if SeqAt.shaped d = true ∧ SeqAt.shaped (.list ds) = true then some (ds.any fun z => PyData.eqv z d) else none
  | d, .tuple ds => if SeqAt.shaped d = true ∧ SeqAt.shaped (.tuple ds) = true then some (ds.any fun z => PyData.eqv z d) else none
  | _, _ => none
def oIn (a b : D) : Option D := (inD a b).map .bool
def oNotIn (a b : D) : Option D := (inD a b).map fun c => .bool (!c)
def isNonD : D → Bool
  | .none => true
  | _ => false
def oIs : D → D → Option D
  | x, .none => some (.bool (isNonD x))
  | .bool a, .bool b => some (.bool (decide (a = b)))
  | _, _ => none
def oIsNot : D → D → Option D
  | x, .none => some (.bool (!isNonD x))
  | .bool a, .bool b => some (.bool (!decide (a = b)))
  | _, _ => none

section
variable {X : Cx}
theorem ox_add : OpX X .Add oAdd := by
  refine ⟨_, op_add.or (op_add_str.or (op_catA.or op_cat)), fun B H x y dx dy d hx hy fr e Q q => ?_⟩
  unfold oAdd at e
  split at e
  · cases e
    cases hx
    cases hy
    exact .inl ⟨_, _, rfl, rfl, q _ _ (Ext.refl H) (.int _)⟩
  · split at e
    · rename_i hz
      cases e
      cases hx
      cases hy
      exact .inr (.inl ⟨_, _, rfl, rfl, hz, q _ _ (Ext.refl H) (.str _)⟩)
    · cases e
  · split at e
    · rename_i xs ys hz
      cases e
      have hx' := hx
      have hy' := hy
      cases hx with
      | tup ha la =>
        cases hy with
        | tup hb lb =>
          refine .inr (.inr (.inl ⟨_, _, _, _, rfl, rfl, ha.sq, hb.sq, by rw [la.length, lb.length]; exact hz, fun h0 => ?_, fun _ h0 => ?_, fun _ _ p hp => ?_⟩))
          · have e0 : xs = [] := List.eq_nil_of_length_eq_zero (by rw [← la.length, h0]; rfl)
            subst e0
            exact q _ _ (Ext.refl H) hy'
          · have e0 : ys = [] := List.eq_nil_of_length_eq_zero (by rw [← lb.length, h0]; rfl)
            subst e0
            rw [List.append_nil] at q
            exact q _ _ (Ext.refl H) hx'
          · exact q _ _ (Ext.new hp) (.tup (.inl ⟨fr p hp, .inl upd_same⟩) ((la.append lb).stay (Ext.new hp).stay))
    · cases e
  · split at e
    · rename_i xs ys hz
      cases e
      cases hx with
      | lst na ha la =>
        cases hy with
        | lst nb hb lb =>
          refine .inr (.inr (.inr ⟨_, _, _, _, rfl, rfl, ha, hb, by rw [la.length, lb.length]; exact hz, fun p hp => ?_⟩))
          exact q _ _ (Ext.new hp) (.lst (fr p hp) upd_same ((la.append lb).stay (Ext.new hp).stay))
    · cases e
  · cases e
theorem ox_sub : OpX X .Sub oSub := by
  refine ⟨_, op_sub, fun B H x y dx dy d hx hy fr e Q q => ?_⟩
  unfold oSub at e
  split at e
  · cases e
    cases hx
    cases hy
    exact ⟨_, _, rfl, rfl, q _ _ (Ext.refl H) (.int _)⟩
  · cases e
theorem DaL.flat {K : PySem.W.Frag} {B : AS} {H : Hp} {vs : List V} {ds : List D} (h : DaL K B H vs ds) : ∀ k : Nat, DaL K B H (List.replicate k vs).flatten (List.replicate k ds).flatten
  | 0 => .nil
  | k + 1 => by
    rw [List.replicate_succ, List.replicate_succ, List.flatten_cons, List.flatten_cons]
    exact h.append (DaL.flat h k)
theorem ox_mul : OpX X .Mult oMul := by
  refine ⟨_, op_mulW.or (op_rep.or op_repT), fun B H x y dx dy d hx hy fr e Q q => ?_⟩
  unfold oMul at e
  split at e
  · split at e
    · rename_i hz
      cases e
      cases hx
      cases hy
      exact .inl ⟨_, _, rfl, rfl, (by unfold mulOk at hz; unfold CMulW; exact of_decide_eq_true hz), q _ _ (Ext.refl H) (.int _)⟩
    · cases e
  · split at e
    · rename_i hz
      cases e
      cases hy
      cases hx with
      | lst na ha la =>
        refine .inr (.inl ⟨_, _, _, rfl, rfl, ha, hz.1, hz.2.1, by rw [la.length]; exact hz.2.2, fun p hp => ?_⟩)
        exact q _ _ (Ext.new hp) (.lst (fr p hp) upd_same ((la.flat _).stay (Ext.new hp).stay))
    · cases e
  · split at e
    · rename_i hz
      cases e
      cases hy
      cases hx with
      | tup ha la =>
        refine .inr (.inr ⟨_, _, _, rfl, rfl, ha.sq, fun z => ?_, hz.2.1, hz.2.2.1, by rw [la.length]; exact hz.2.2.2, fun p hp => ?_⟩)
        · exact hz.1 (List.eq_nil_of_length_eq_zero (by rw [← la.length, z]; rfl))
        · exact q _ _ (Ext.new hp) (.tup (.inl ⟨fr p hp, .inl upd_same⟩) ((la.flat _).stay (Ext.new hp).stay))
    · cases e
  · cases e
theorem ox_div : OpX X .FloorDiv oDiv := by
  refine ⟨_, op_fdivW, fun B H x y dx dy d hx hy fr e Q q => ?_⟩
  unfold oDiv at e
  split at e
  · split at e
    · rename_i hz
      cases e
      cases hx
      cases hy
      exact ⟨_, _, rfl, rfl, hz, q _ _ (Ext.refl H) (.int _)⟩
    · cases e
  · cases e
theorem ox_mod : OpX X .Mod oMod := by
  refine ⟨_, op_mod, fun B H x y dx dy d hx hy fr e Q q => ?_⟩
  unfold oMod at e
  split at e
  · split at e
    · rename_i hz
      cases e
      cases hx
      cases hy
      exact ⟨_, _, rfl, rfl, hz, q _ _ (Ext.refl H) (.int _)⟩
    · cases e
  · cases e
theorem ox_pow : OpX X .Pow oPow := by
  refine ⟨_, op_pow, fun B H x y dx dy d hx hy fr e Q q => ?_⟩
  unfold oPow at e
  split at e
  · split at e
    · rename_i hz
      cases e
      cases hx
      cases hy
      exact ⟨_, _, rfl, rfl, hz, q _ _ (Ext.refl H) (.int _)⟩
    · cases e
  · cases e
theorem cx_eq {k : Nat} (hr : Room k X.A) : CmX X .Eq oEq := by
  refine ⟨_, op_eqD hr.units, fun F B H x y dx dy d hx hy fr e Q q => ?_⟩
  unfold oEq at e
  split at e
  · rename_i hz
    cases e
    exact ⟨dx, dy, Da.dp dx x hx (SeqAt.canLay_of_shaped hz.1), hy.dp (SeqAt.canLay_of_shaped hz.2), hz.1, hz.2, q _ _ (Ext.refl H) (.bl _)⟩
  · cases e
theorem cx_ne {k : Nat} (hr : Room k X.A) : CmX X .NotEq oNe := by
  refine ⟨_, op_neD hr.units, fun F B H x y dx dy d hx hy fr e Q q => ?_⟩
  unfold oNe at e
  split at e
  · rename_i hz
    cases e
    exact ⟨dx, dy, Da.dp dx x hx (SeqAt.canLay_of_shaped hz.1), hy.dp (SeqAt.canLay_of_shaped hz.2), hz.1, hz.2, q _ _ (Ext.refl H) (.bl _)⟩
  · cases e
theorem cx_lt : CmX X .Lt oLt := by
  refine ⟨_, op_lt, fun F B H x y dx dy d hx hy fr e Q q => ?_⟩
  unfold oLt at e
  split at e
  · cases e
    cases hx
    rw [hy.int]
    exact ⟨_, _, rfl, rfl, q _ _ (Ext.refl H) (.bl _)⟩
  · cases e
theorem cx_le : CmX X .LtE oLe := by
  refine ⟨_, op_le, fun F B H x y dx dy d hx hy fr e Q q => ?_⟩
  unfold oLe at e
  split at e
  · cases e
    cases hx
    rw [hy.int]
    exact ⟨_, _, rfl, rfl, q _ _ (Ext.refl H) (.bl _)⟩
  · cases e
theorem cx_gt : CmX X .Gt oGt := by
  refine ⟨_, op_gt, fun F B H x y dx dy d hx hy fr e Q q => ?_⟩
  unfold oGt at e
  split at e
  · cases e
    cases hx
    rw [hy.int]
    exact ⟨_, _, rfl, rfl, q _ _ (Ext.refl H) (.bl _)⟩
  · cases e
theorem cx_ge : CmX X .GtE oGe := by
  refine ⟨_, op_ge, fun F B H x y dx dy d hx hy fr e Q q => ?_⟩
  unfold oGe at e
  split at e
  · cases e
    cases hx
    rw [hy.int]
    exact ⟨_, _, rfl, rfl, q _ _ (Ext.refl H) (.bl _)⟩
  · cases e
def rInT (K : PySem.W.Frag) (neg : Bool) : R2 := fun x y H Q => ∃ d ds, Dp K H x d ∧ Dp K H y (.tuple ds) ∧ SeqAt.shaped d = true ∧ SeqAt.shaped (.tuple ds) = true ∧ Q (.bl (if neg then !ds.any fun z => PyData.eqv z d else ds.any fun z => PyData.eqv z d)) H
theorem op_inT (hu : X.A.units + 65 < cLine) : OpR X (compareOp .In) (rInT X.K false) := by
  intro pins s σ H x y v u Q I rx ry h
  obtain ⟨d, ds, hd, he, sd, se, q⟩ := h
  obtain ⟨as, r1⟩ := Dp.reads I d x v hd rx
  obtain ⟨bs, r2⟩ := Dp.reads I (.tuple ds) y u he ry
  have hxs : PyData.canLayAll0 ds = true := by simpa only [PyData.canLay0] using SeqAt.canLay_of_shaped se
  exact SeqAt.in_tuple_reads r2 r1 hxs (SeqAt.canLay_of_shaped sd) (room_in_shaped sd hu) ⟨.bl _, H, I, rfl, q⟩
theorem op_notInT (hu : X.A.units + 65 < cLine) : OpR X (compareOp .NotIn) (rInT X.K true) := by
  intro pins s σ H x y v u Q I rx ry h
  obtain ⟨d, ds, hd, he, sd, se, q⟩ := h
  obtain ⟨as, r1⟩ := Dp.reads I d x v hd rx
  obtain ⟨bs, r2⟩ := Dp.reads I (.tuple ds) y u he ry
  have hxs : PyData.canLayAll0 ds = true := by simpa only [PyData.canLay0] using SeqAt.canLay_of_shaped se
  exact SeqAt.notIn_tuple_reads r2 r1 hxs (SeqAt.canLay_of_shaped sd) (room_in_shaped sd hu) ⟨.bl _, H, I, rfl, q⟩
theorem room65 {k : Nat} {A : Around} (hr : Room k A) : A.units + 65 < cLine := by
  have := hr.un
  omega
theorem cx_in {k : Nat} (hr : Room k X.A) : CmX X .In oIn := by
  refine ⟨_, (op_inD (room65 hr)).or (op_inT (room65 hr)), fun F B H x y dx dy d hx hy fr e Q q => ?_⟩
  unfold oIn inD at e
  split at e
  · split at e
    · rename_i hz
      cases e
      exact .inl ⟨dx, _, Da.dp dx x hx (SeqAt.canLay_of_shaped hz.1), hy.dp (SeqAt.canLay_of_shaped hz.2), hz.1, hz.2, q _ _ (Ext.refl H) (.bl _)⟩
    · cases e
  · split at e
    · rename_i hz
      cases e
      exact .inr ⟨dx, _, Da.dp dx x hx (SeqAt.canLay_of_shaped hz.1), hy.dp (SeqAt.canLay_of_shaped hz.2), hz.1, hz.2, q _ _ (Ext.refl H) (.bl _)⟩
    · cases e
  · cases e
theorem cx_notIn {k : Nat} (hr : Room k X.A) : CmX X .NotIn oNotIn := by
  refine ⟨_, (op_notInD (room65 hr)).or (op_notInT (room65 hr)), fun F B H x y dx dy d hx hy fr e Q q => ?_⟩
  unfold oNotIn inD at e
  split at e
  · split at e
    · rename_i hz
      cases e
      exact .inl ⟨dx, _, Da.dp dx x hx (SeqAt.canLay_of_shaped hz.1), hy.dp (SeqAt.canLay_of_shaped hz.2), hz.1, hz.2, q _ _ (Ext.refl H) (.bl _)⟩
    · cases e
  · split at e
    · rename_i hz
      cases e
      exact .inr ⟨dx, _, Da.dp dx x hx (SeqAt.canLay_of_shaped hz.1), hy.dp (SeqAt.canLay_of_shaped hz.2), hz.1, hz.2, q _ _ (Ext.refl H) (.bl _)⟩
    · cases e
  · cases e
theorem da_non {K : PySem.W.Frag} {B : AS} {H : Hp} {v : V} {d : D} (h : Da K B H v d) : decide (v = V.non) = isNonD d := by
  cases h <;> rfl
theorem cx_is : CmX X .Is oIs := by
  refine ⟨_, op_isN.or op_is_bl, fun F B H x y dx dy d hx hy fr e Q q => ?_⟩
  unfold oIs at e
  split at e
  · cases e
    rcases hy with hy | ⟨_, _, _, _, e2, _⟩
    · cases hy
      refine .inl ⟨rfl, ?_⟩
      rw [da_non hx]
      exact q _ _ (Ext.refl H) (.bl _)
    · cases e2
  · cases e
    cases hx
    rw [hy.bool]
    exact .inr ⟨_, _, rfl, rfl, q _ _ (Ext.refl H) (.bl _)⟩
  · cases e
theorem cx_isNot : CmX X .IsNot oIsNot := by
  refine ⟨_, op_notN.or op_isnot_bl, fun F B H x y dx dy d hx hy fr e Q q => ?_⟩
  unfold oIsNot at e
  split at e
  · cases e
    rcases hy with hy | ⟨_, _, _, _, e2, _⟩
    · cases hy
      refine .inl ⟨rfl, ?_⟩
      rw [da_non hx]
      exact q _ _ (Ext.refl H) (.bl _)
    · cases e2
  · cases e
    cases hx
    rw [hy.bool]
    exact .inr ⟨_, _, rfl, rfl, q _ _ (Ext.refl H) (.bl _)⟩
  · cases e
theorem ux_neg : UnD X.K (rU fun i => .int (-i)) oNeg := fun B H x dx d hx fr e Q q => by
  unfold oNeg at e
  split at e
  · cases e
    cases hx
    exact ⟨_, rfl, q _ _ (Ext.refl H) (.int _)⟩
  · cases e
end
end PF
set_option Elab.async false
set_option linter.all false
set_option maxRecDepth 100000
/-! PF: expressions of the text and what they come to. -/
namespace PF
open PySem PySem.Spec PyProof.Rows L2

/-! ### judgements -/
structure DE (X : Cx) (T : AS) (e : Expr) (f : M D) : Prop where
  ex : ∃ t, PE X e t ∧ SE X.K T t f
structure DV (X : Cx) (T : AS) (e : Expr) (f : M D) : Prop where
  ex : ∃ t, PE X e t ∧ SV X.K T t f
structure DF (X : Cx) (T : AS) (e : Expr) (f : M (List D)) : Prop where
  ex : ∃ t, PE X e t ∧ SF X.K T t f
structure DT (X : Cx) (T : AS) (e : Expr) (f : M Bool) : Prop where
  ex : ∃ t, PT X e t ∧ ST X.K T t f
structure DW (X : Cx) (T : AS) (e : Expr) (f : M Bool) : Prop where
  ex : ∃ t, PW X e t ∧ ST X.K T t f
structure DA (X : Cx) (T : AS) (es : List Expr) (f : M (List D)) : Prop where
  ex : ∃ t, PA X es t ∧ SA X.K T t f
section
variable {X : Cx} {T : AS} {a b c x_e : Expr} {es rest : List Expr} {fa fb fc f : M D} {fs : M (List D)} {ft fu : M Bool} {pos : Pos} {k : Nat}
theorem DE.v (h : DE X T x_e f) : DV X T x_e f := let ⟨t, h1, h2⟩ := h.ex; ⟨t, h1, h2.v⟩
def fList (fs : M (List D)) : M D := bd fs fun ds => pr (.list ds)
theorem DF.e (h : DF X T x_e fs) : DE X T x_e (fList fs) := let ⟨t, h1, h2⟩ := h.ex; ⟨t, h1, h2.e⟩
theorem DW.t (h : DW X T x_e ft) : DT X T x_e ft := let ⟨t, h1, h2⟩ := h.ex; ⟨t, h1.pt, h2⟩

/-! ### names and constants -/
theorem e_var (i : Nat) {x : Str} (hN : X.N[i]? = some x := by rfl) (hv : Vis X.env.scope x := by first | exact Or.inl rfl | exact Or.inr (Or.inl rfl) | exact Or.inr (Or.inr rfl)) (hd : (x == ("__debug__" : Str)) = false := by decide)
    (hcd : (x == ("__classdict__" : Str)) = false := by decide) : DE X T (.Name x pos) (fVar i) := ⟨_, pe_var hN hv hd hcd, se_var i⟩
theorem v_var (i : Nat) {x : Str} (hN : X.N[i]? = some x := by rfl) (hv : Vis X.env.scope x := by first | exact Or.inl rfl | exact Or.inr (Or.inl rfl) | exact Or.inr (Or.inr rfl)) (hd : (x == ("__debug__" : Str)) = false := by decide)
    (hcd : (x == ("__classdict__" : Str)) = false := by decide) : DV X T (.Name x pos) (fVarB i) := ⟨_, pe_var hN hv hd hcd, sv_var i⟩
theorem e_int {i : Int} {j : Nat} : DE X T (.Constant (.int i) j pos) (fC (.int i)) := ⟨_, pe_int, se_c fun _ _ => .int i⟩
theorem e_bl {i : Bool} {j : Nat} : DE X T (.Constant (.bool i) j pos) (fC (.bool i)) := ⟨_, pe_bl, se_c fun _ _ => .bl i⟩
theorem e_str {i : Str} {j : Nat} : DE X T (.Constant (.str i) j pos) (fC (.str i)) := ⟨_, pe_str, se_c fun _ _ => .str i⟩
theorem e_non {j : Nat} : DE X T (.Constant .none j pos) (fC .none) := ⟨_, pe_non, se_c fun _ _ => .non⟩
/-- a constant of the module, an int -/
theorem e_glob {x : Str} {i : Int} {u : Tok} (hg : Gl X x) (hm : X.mg x = some (.int i u)) (hd : (x == ("__debug__" : Str)) = false := by decide) : DE X T (.Name x pos) (fC (.int i)) := ⟨_, pe_glob (v := .int i) hg hm ⟨_, rfl⟩ hd, se_c fun _ _ => .int i⟩

/-! ### operators -/
theorem e_bin {op : Operator} {o : D → D → Option D} (ho : OpX X op o) (ha : DE X T a fa) (hb : DE X T b fb) : DE X T (.BinOp a op b pos) (fBin o fa fb) :=
  let ⟨_, h1, h2⟩ := ho; let ⟨_, a1, a2⟩ := ha.ex; let ⟨_, b1, b2⟩ := hb.ex; ⟨_, pe_op h1 a1 b1, se_op a2 b2 h2⟩
theorem e_neg (ha : DE X T a fa) : DE X T (.UnaryOp .USub a pos) (fUn oNeg fa) := let ⟨_, a1, a2⟩ := ha.ex; ⟨_, pe_un un_neg a1, se_un a2 ux_neg⟩
theorem e_cmp {op : CmpOp} {o : D → D → Option D} (ho : CmX X op o) (ha : DE X T a fa) (hb : DV X T b fb) (hm : behindInMarks op b = false := by rfl) : DE X T (.Compare a [op] [b] pos) (fBin o fa fb) :=
  let ⟨_, h1, h2⟩ := ho; let ⟨_, a1, a2⟩ := ha.ex; let ⟨_, b1, b2⟩ := hb.ex; ⟨_, pe_cmpR h1 a1 b1 hm, se_opV a2 b2 h2⟩
/-- the truth of a bool -/
def asB (f : M D) : M Bool := bd f fun d => lf (match d with | .bool b => some b | _ => none)
theorem asB_some {f : M D} {ρ ρ' : Sl} {b : Bool} (h : asB f ρ = some (b, ρ')) : f ρ = some (.bool b, ρ') := by
  obtain ⟨d, ρ1, e1, e2⟩ := bd_some h
  obtain ⟨e3, rfl⟩ := lf_some e2
  split at e3
  · cases e3
    exact e1
  · cases e3
theorem st_test {K : PySem.W.Frag} {te : TE} (h : SE K T te f) : ST K T (tTest te) (asB f) := fun F ρ σ H b ρ' R e Q q =>
  h F ρ σ H _ ρ' R (asB_some e) _ fun v H' s d => by
    cases d
    exact ⟨b, rfl, q H' s⟩
theorem st_tB {K : PySem.W.Frag} {te : TE} (h : SE K T te f) : ST K T (tB te) (asB f) := fun F ρ σ H b ρ' R e Q q =>
  h F ρ σ H _ ρ' R (asB_some e) _ fun v H' s d => by
    cases d
    exact ⟨b, rfl, q H' s⟩
theorem t_cmp {op : CmpOp} {o : D → D → Option D} (ho : CmX X op o) (ha : DE X T a fa) (hb : DV X T b fb) (hm : behindInMarks op b = false := by rfl) : DT X T (.Compare a [op] [b] pos) (asB (fBin o fa fb)) :=
  let ⟨_, h1, h2⟩ := ho; let ⟨_, a1, a2⟩ := ha.ex; let ⟨_, b1, b2⟩ := hb.ex; ⟨_, pt_cmpR h1 a1 b1 hm, st_test (se_opV a2 b2 h2)⟩
/-- a < b < c -/
def fChain (o o' : D → D → Option D) (fa fb fc : M D) : M D := bd fa fun x => bd fb fun y => bd (lf (o x y)) fun z => match z with
  | .bool true => bd fc fun w => lf (o' y w)
  | .bool false => pr (.bool false)
  | _ => fun _ => none
theorem se_chain {K : PySem.W.Frag} {r r' : R2} {o o' : D → D → Option D} {ta tb tc : TE} (ha : SE K T ta fa) (hb : SE K T tb fb) (hc : SE K T tc fc) (hr : OpV K r o) (hr' : OpV K r' o') : SE K T (tChain r r' ta tb tc) (fChain o o' fa fb fc) := fun F ρ σ H d ρ' R e Q q => by
  obtain ⟨x, ρ1, e1, e2⟩ := bd_some e
  obtain ⟨y, ρ2, e3, e4⟩ := bd_some e2
  obtain ⟨z, ρ3, e5, e6⟩ := bd_some e4
  obtain ⟨e7, rfl⟩ := lf_some e5
  refine ha F ρ σ H x ρ1 R e1 _ fun v H1 s1 d1 => ?_
  refine hb F ρ1 σ H1 y ρ3 s1.rep e3 _ fun u H2 s2 d2 => ?_
  refine hr F _ H2 v u x y z (s2.da s1.rep d1) (.inl d2) (fun p h => s2.rep.fresh h) e7 _ fun w H3 x3 d3 => ?_
  have s3 := (s1.trans s2).ext x3
  split at e6
  · cases d3
    refine ⟨true, rfl, ?_⟩
    rw [if_pos rfl]
    obtain ⟨w', ρ4, e8, e9⟩ := bd_some e6
    obtain ⟨e10, rfl⟩ := lf_some e9
    refine hc F ρ3 σ H3 w' ρ' s3.rep e8 _ fun v' H4 s4 d4 => ?_
    exact hr' F _ H4 u v' y w' d (s4.da s3.rep (d2.stay x3.stay)) (.inl d4) (fun p h => s4.rep.fresh h) e10 _ fun w2 H5 x5 d5 => q w2 H5 ((s3.trans s4).ext x5) d5
  · cases d3
    cases e6
    refine ⟨false, rfl, ?_⟩
    rw [if_neg Bool.false_ne_true]
    exact q _ H3 s3 (.bl false)
  · cases e6
theorem e_chain {op op' : CmpOp} {o o' : D → D → Option D} (ho : CmX X op o) (ho' : CmX X op' o') (ha : DE X T a fa) (hb : DE X T b fb) (hc : DE X T c fc) (hm : lastMarks [op, op'] [b, c] = false := by with_unfolding_all rfl) : DE X T (.Compare a [op, op'] [b, c] pos) (fChain o o' fa fb fc) :=
  let ⟨_, h1, h2⟩ := ho; let ⟨_, h3, h4⟩ := ho'; let ⟨_, a1, a2⟩ := ha.ex; let ⟨_, b1, b2⟩ := hb.ex; let ⟨_, c1, c2⟩ := hc.ex; ⟨_, pe_chain h1 h3 a1 b1 c1 hm, se_chain a2 b2 c2 h2 h4⟩
theorem t_chain {op op' : CmpOp} {o o' : D → D → Option D} (ho : CmX X op o) (ho' : CmX X op' o') (ha : DE X T a fa) (hb : DE X T b fb) (hc : DE X T c fc) (hm : lastMarks [op, op'] [b, c] = false := by with_unfolding_all rfl) : DT X T (.Compare a [op, op'] [b, c] pos) (asB (fChain o o' fa fb fc)) :=
  let ⟨_, h1, h2⟩ := ho; let ⟨_, h3, h4⟩ := ho'; let ⟨_, a1, a2⟩ := ha.ex; let ⟨_, b1, b2⟩ := hb.ex; let ⟨_, c1, c2⟩ := hc.ex; ⟨_, pt_chain h1 h3 a1 b1 c1 hm, st_test (se_chain a2 b2 c2 h2 h4)⟩

/-! ### and, or, not, if -/
def fAndT (ft fu : M Bool) : M Bool := bd ft fun b => if b = true then fu else pr false
def fOrT (ft fu : M Bool) : M Bool := bd ft fun b => if b = true then pr true else fu
def fNotT (ft : M Bool) : M Bool := bd ft fun b => pr (!b)
def fAnd (fa fb : M D) : M D := bd (asB fa) fun b => if b = true then fb else pr (.bool false)
def fOr (fa fb : M D) : M D := bd (asB fa) fun b => if b = true then pr (.bool true) else fb
def fNot (fa : M D) : M D := bd (asB fa) fun b => pr (.bool (!b))
def fIf (ft : M Bool) (fa fb : M D) : M D := bd ft fun b => if b = true then fa else fb
section
variable {K : PySem.W.Frag} {t u : TT} {ta tb : TE}
theorem st_and (h1 : ST K T t ft) (h2 : ST K T u fu) : ST K T (tAnd t u) (fAndT ft fu) := fun F ρ σ H b ρ' R e Q q => by
  obtain ⟨x, ρ1, e1, e2⟩ := bd_some e
  refine h1 F ρ σ H x ρ1 R e1 _ fun H1 s1 => ?_
  cases x with
  | true => exact h2 F ρ1 σ H1 b ρ' s1.rep e2 _ fun H2 s2 => q H2 (s1.trans s2)
  | false =>
    cases e2
    exact q H1 s1
theorem st_or (h1 : ST K T t ft) (h2 : ST K T u fu) : ST K T (tOr t u) (fOrT ft fu) := fun F ρ σ H b ρ' R e Q q => by
  obtain ⟨x, ρ1, e1, e2⟩ := bd_some e
  refine h1 F ρ σ H x ρ1 R e1 _ fun H1 s1 => ?_
  cases x with
  | true =>
    cases e2
    exact q H1 s1
  | false => exact h2 F ρ1 σ H1 b ρ' s1.rep e2 _ fun H2 s2 => q H2 (s1.trans s2)
theorem st_not (h1 : ST K T t ft) : ST K T (tNot t) (fNotT ft) := fun F ρ σ H b ρ' R e Q q => by
  obtain ⟨x, ρ1, e1, e2⟩ := bd_some e
  cases e2
  exact h1 F ρ σ H x ρ' R e1 _ fun H1 s1 => q H1 s1
theorem se_and (h1 : SE K T ta fa) (h2 : SE K T tb fb) : SE K T (tAndV ta tb) (fAnd fa fb) := fun F ρ σ H d ρ' R e Q q => by
  obtain ⟨x, ρ1, e1, e2⟩ := bd_some e
  refine h1 F ρ σ H _ ρ1 R (asB_some e1) _ fun v H1 s1 d1 => ?_
  cases d1
  refine ⟨x, rfl, ?_⟩
  cases x with
  | true => exact h2 F ρ1 σ H1 d ρ' s1.rep e2 _ fun w H2 s2 => q w H2 (s1.trans s2)
  | false =>
    cases e2
    exact q _ H1 s1 (.bl false)
theorem se_or (h1 : SE K T ta fa) (h2 : SE K T tb fb) : SE K T (tOrV ta tb) (fOr fa fb) := fun F ρ σ H d ρ' R e Q q => by
  obtain ⟨x, ρ1, e1, e2⟩ := bd_some e
  refine h1 F ρ σ H _ ρ1 R (asB_some e1) _ fun v H1 s1 d1 => ?_
  cases d1
  refine ⟨x, rfl, ?_⟩
  cases x with
  | false => exact h2 F ρ1 σ H1 d ρ' s1.rep e2 _ fun w H2 s2 => q w H2 (s1.trans s2)
  | true =>
    cases e2
    exact q _ H1 s1 (.bl true)
theorem se_not (h1 : SE K T ta fa) : SE K T (tNotV ta) (fNot fa) := fun F ρ σ H d ρ' R e Q q => by
  obtain ⟨x, ρ1, e1, e2⟩ := bd_some e
  cases e2
  refine h1 F ρ σ H _ ρ' R (asB_some e1) _ fun v H1 s1 d1 => ?_
  cases d1
  exact ⟨x, rfl, q _ H1 s1 (.bl _)⟩
theorem se_if (h1 : ST K T t ft) (h2 : SE K T ta fa) (h3 : SE K T tb fb) : SE K T (tIf t ta tb) (fIf ft fa fb) := fun F ρ σ H d ρ' R e Q q => by
  obtain ⟨x, ρ1, e1, e2⟩ := bd_some e
  refine h1 F ρ σ H x ρ1 R e1 _ fun H1 s1 => ?_
  cases x with
  | true => exact h2 F ρ1 σ H1 d ρ' s1.rep e2 _ fun w H2 s2 => q w H2 (s1.trans s2)
  | false => exact h3 F ρ1 σ H1 d ρ' s1.rep e2 _ fun w H2 s2 => q w H2 (s1.trans s2)
end
theorem w_and1 (h : DT X T a ft) : DW X T (.BoolOp .And [a] pos) ft := let ⟨_, h1, h2⟩ := h.ex; ⟨_, pw_and1 h1, h2⟩
theorem w_or1 (h : DT X T a ft) : DW X T (.BoolOp .Or [a] pos) ft := let ⟨_, h1, h2⟩ := h.ex; ⟨_, pw_or1 h1, h2⟩
theorem w_and (h : DT X T a ft) (g : DW X T (.BoolOp .And (b :: rest) pos) fu) : DW X T (.BoolOp .And (a :: b :: rest) pos) (fAndT ft fu) := let ⟨_, h1, h2⟩ := h.ex; let ⟨_, g1, g2⟩ := g.ex; ⟨_, pw_and h1 g1, st_and h2 g2⟩
theorem w_or (h : DT X T a ft) (g : DW X T (.BoolOp .Or (b :: rest) pos) fu) : DW X T (.BoolOp .Or (a :: b :: rest) pos) (fOrT ft fu) := let ⟨_, h1, h2⟩ := h.ex; let ⟨_, g1, g2⟩ := g.ex; ⟨_, pw_or h1 g1, st_or h2 g2⟩
theorem t_not (h : DT X T a ft) : DT X T (.UnaryOp .Not a pos) (fNotT ft) := let ⟨_, h1, h2⟩ := h.ex; ⟨_, pt_not h1, st_not h2⟩
theorem e_one {op : BoolOp} (h : DE X T a fa) : DE X T (.BoolOp op [a] pos) fa := let ⟨_, h1, h2⟩ := h.ex; ⟨_, pe_one h1, h2⟩
theorem e_and (h : DE X T a fa) (g : DE X T (.BoolOp .And (b :: rest) pos) fb) : DE X T (.BoolOp .And (a :: b :: rest) pos) (fAnd fa fb) := let ⟨_, h1, h2⟩ := h.ex; let ⟨_, g1, g2⟩ := g.ex; ⟨_, pe_and h1 g1, se_and h2 g2⟩
theorem e_or (h : DE X T a fa) (g : DE X T (.BoolOp .Or (b :: rest) pos) fb) : DE X T (.BoolOp .Or (a :: b :: rest) pos) (fOr fa fb) := let ⟨_, h1, h2⟩ := h.ex; let ⟨_, g1, g2⟩ := g.ex; ⟨_, pe_or h1 g1, se_or h2 g2⟩
theorem e_not (h : DE X T a fa) : DE X T (.UnaryOp .Not a pos) (fNot fa) := let ⟨_, h1, h2⟩ := h.ex; ⟨_, pe_not h1, se_not h2⟩
theorem e_if (h : DT X T c ft) (ha : DE X T a fa) (hb : DE X T b fb) : DE X T (.IfExp c a b pos) (fIf ft fa fb) := let ⟨_, h1, h2⟩ := h.ex; let ⟨_, a1, a2⟩ := ha.ex; let ⟨_, b1, b2⟩ := hb.ex; ⟨_, pe_ifExp h1 a1 b1, se_if h2 a2 b2⟩
/-- the truth of data -/
def truD : D → Option Bool
  | .none => some false
  | .bool b => some b
  | .int i => some (i != 0)
  | .str y => if y.length ≤ sizeLine then some ((y.length : Int) != 0) else none
  | .list xs => some (!xs.isEmpty)
  | .tuple xs => some (!xs.isEmpty)
  | _ => none
def fTru (f : M D) : M Bool := bd f fun d => lf (truD d)
theorem isEmpty_da {K : PySem.W.Frag} {B : AS} {H : Hp} {vs : List V} {ds : List D} (h : DaL K B H vs ds) : ds.isEmpty = vs.isEmpty := by cases h <;> rfl
theorem truV_of {K : PySem.W.Frag} {F : Fx} {B : AS} {H : Hp} {v : V} {d : D} {b : Bool} (h : Dv K F B H v d) (e : truD d = some b) : TruV K v H b := by
  cases d with
  | none =>
    rcases h with h | ⟨_, _, _, _, e2, _⟩
    · cases h
      cases e
      rfl
    · cases e2
  | bool c =>
    cases e
    rw [h.bool]
    rfl
  | int i =>
    cases e
    rw [h.int]
    rfl
  | str y =>
    rw [h.str]
    unfold truD at e
    simp only at e
    split at e
    · rename_i hz
      cases e
      exact ⟨hz, rfl⟩
    · cases e
  | list xs =>
    obtain ⟨p, vs, rfl, h1, h2⟩ := h.list
    cases e
    exact .inl ⟨vs, .inl (.inl h1), by rw [isEmpty_da h2]⟩
  | tuple xs =>
    obtain ⟨p, vs, rfl, h1, h2, _⟩ := h.tup
    cases e
    exact .inr (.inl ⟨vs, h1, by rw [isEmpty_da h2]⟩)
  | dict kvs => cases e
/-- a value as a test -/
theorem t_val (h : DV X T a fa) (he : ∀ whole, isTrue a X.env whole = (do let v ← whole; standAt a.pos; holding [v] (truthy v)) := by intro _; rfl) : DT X T a (fTru fa) := by
  obtain ⟨t, h1, h2⟩ := h.ex
  refine ⟨_, pt_truth h1 he, fun F ρ σ H b ρ' R e Q q => ?_⟩
  obtain ⟨x, ρ1, e1, e2⟩ := bd_some e
  obtain ⟨e3, rfl⟩ := lf_some e2
  exact h2 F ρ σ H x ρ' R e1 _ fun v H1 s1 d1 => ⟨b, truV_of d1 e3, q H1 s1⟩

/-! ### displays -/
theorem a_nil : DA X T [] fNil := ⟨_, pa_nil, sa_nil⟩
theorem a_cons (h : DE X T x_e f) (g : DA X T es fs) (hs : starEach (x_e :: es) X.env = (false, eval x_e X.env) :: starEach es X.env := by rfl) : DA X T (x_e :: es) (fCons f fs) := let ⟨_, h1, h2⟩ := h.ex; let ⟨_, g1, g2⟩ := g.ex; ⟨_, pa_cons h1 g1 hs, sa_cons h2 g2⟩
/-- a display of n items -/
def Len (fs : M (List D)) (n : Nat) : Prop := ∀ ρ ds ρ', fs ρ = some (ds, ρ') → ds.length = n
theorem len_nil : Len fNil 0 := fun _ _ _ h => by cases h; rfl
theorem len_cons {n : Nat} (h : Len fs n) : Len (fCons f fs) (n + 1) := fun ρ ds ρ' e => by
  obtain ⟨x, ρ1, e1, e2⟩ := bd_some e
  obtain ⟨ys, ρ2, e3, e4⟩ := bd_some e2
  cases e4
  exact congrArg Nat.succ (h _ _ _ e3)
theorem e_tup {j : Nat} {n : Nat} (h : DA X T es fs) (hn : Len fs n := by repeat (first | exact len_nil | apply len_cons)) (hz : n ≤ 1000 := by decide) : DE X T (.Tuple es j pos) (fTup fs) := let ⟨_, h1, h2⟩ := h.ex; ⟨_, pe_tup h1, se_tup h2 fun ρ ds ρ' e => by rw [hn ρ ds ρ' e]; exact Nat.le_trans hz (by decide)⟩
theorem f_lst {n : Nat} (h : DA X T es fs) (hn : Len fs n := by repeat (first | exact len_nil | apply len_cons)) (hz : n ≤ 1000 := by decide) : DF X T (.List es pos) fs := let ⟨_, h1, h2⟩ := h.ex; ⟨_, pe_lst h1, sf_lst h2 fun ρ ds ρ' e => by rw [hn ρ ds ρ' e]; exact Nat.le_trans hz (by decide)⟩
theorem e_lst {n : Nat} (h : DA X T es fs) (hn : Len fs n := by repeat (first | exact len_nil | apply len_cons)) (hz : n ≤ 1000 := by decide) : DE X T (.List es pos) (fLst fs) := (f_lst (pos := pos) h hn hz).e

/-! ### subscripts -/
def oIx : D → D → Option D
  | .list xs, .int i => atI xs i
  | .tuple xs, .int i => atI xs i
  | .str z, .int i => if z.length ≤ sizeLine then (atI z.cps.toList i).map fun c => .str ⟨#[c]⟩ else none
  | _, _ => none
theorem ix_da {K : PySem.W.Frag} {F : Fx} {B : AS} {H : Hp} {x y : V} {dx dy d : D} (hx : Dv K F B H x dx) (hy : Da K B H y dy) (e : oIx dx dy = some d) : ∀ Q : VK, (∀ v, Da K B H v d → Q v H) → rIx K x y H Q := fun Q q => by
  unfold oIx at e
  split at e
  · obtain ⟨p, vs, rfl, h1, h2⟩ := hx.list
    cases hy
    obtain ⟨v, e1, e2⟩ := h2.atI e
    exact .inl ⟨p, vs, _, v, rfl, rfl, .inl (.inl h1), e1, q v e2⟩
  · obtain ⟨p, vs, rfl, h1, h2, _⟩ := hx.tup
    cases hy
    obtain ⟨v, e1, e2⟩ := h2.atI e
    exact .inr (.inl ⟨p, vs, _, v, rfl, rfl, h1, e1, q v e2⟩)
  · split at e
    · rename_i z i hz
      rw [hx.str]
      cases hy
      cases q1 : atI z.cps.toList i with
      | none =>
        rw [q1] at e
        cases e
      | some c =>
        rw [q1] at e
        cases e
        exact .inr (.inr ⟨z, i, c, rfl, rfl, hz, q1, q _ (.str _)⟩)
    · cases e
  · cases e
theorem e_ix (ha : DE X T a fa) (hb : DE X T b fb) (hs : PlainIx b := by intro _ _; rfl) : DE X T (.Subscript a b pos) (fBin oIx fa fb) :=
  let ⟨_, a1, a2⟩ := ha.ex; let ⟨_, b1, b2⟩ := hb.ex
  ⟨_, pe_ix ix_seq a1 b1 hs, se_op a2 b2 fun B H x y dx dy d hx hy _ e Q q => ix_da (F := ⟨B, B, H⟩) (.inl hx) hy e Q fun v dv => q v H (Ext.refl H) dv⟩
/-- whether a slot holds something -/
def hasS (ρ : Sl) (i : Nat) : Bool := match ρ[i]? with
  | some (some _) => true
  | _ => false
theorem Rep.has {K : PySem.W.Frag} {F : Fx} {ρ : Sl} {σ : L2.St} {H : Hp} {i : Nat} (R : Rep K T F ρ σ H) (h : hasS ρ i = true) : ∃ v, σ[i]? = some (some v) := by
  unfold hasS at h
  split at h
  · rename_i c e
    cases c with
    | val d =>
      obtain ⟨v, h1, _⟩ := R.val i d e
      exact ⟨v, h1⟩
    | own xs =>
      obtain ⟨p, vs, h1, _⟩ := R.own i xs e
      exact ⟨_, h1⟩
  · cases h
/-- what a name holds, as data -/
def celD (ρ : Sl) (i : Nat) : Option D := match ρ[i]? with
  | some (some (.val d)) => some d
  | some (some (.own xs)) => some (.list xs)
  | _ => none
theorem Rep.cel {K : PySem.W.Frag} {F : Fx} {ρ : Sl} {σ : L2.St} {H : Hp} {i : Nat} {d : D} {v : V} (R : Rep K T F ρ σ H) (hv : σ[i]? = some (some v)) (h : celD ρ i = some d) : Dv K F (Av F ρ σ) H v d := by
  unfold celD at h
  split at h
  · rename_i d' e
    cases h
    obtain ⟨v', h1, h2⟩ := R.val i _ e
    rw [hv] at h1
    cases h1
    exact .inl h2
  · rename_i xs e
    cases h
    obtain ⟨p, vs, h1, h2, h3, _, h5⟩ := R.own i _ e
    rw [hv] at h1
    cases h1
    exact .inr ⟨p, vs, xs, rfl, rfl, h3, h2, h5⟩
  · cases h
/-- an item of what a name holds: it is read behind the index -/
def fIxN (i : Nat) (fb : M D) : M D := fun ρ => if hasS ρ i = true then bd fb (fun y => fun ρ1 => lf ((celD ρ1 i).bind fun x => oIx x y) ρ1) ρ else none
theorem e_ixN (i : Nat) {x : Str} {p : Pos} (hb : DE X T b fb) (hs : PlainIx b := by intro _ _; rfl) (hN : X.N[i]? = some x := by rfl) (hv : Vis X.env.scope x := by first | exact Or.inl rfl | exact Or.inr (Or.inl rfl) | exact Or.inr (Or.inr rfl)) (hd : (x == ("__debug__" : Str)) = false := by decide)
    (hcd : (x == ("__classdict__" : Str)) = false := by decide) : DE X T (.Subscript (.Name x p) b pos) (fIxN i fb) := by
  obtain ⟨tb, b1, b2⟩ := hb.ex
  refine ⟨_, pe_ix ix_seq (pe_var hN hv hd hcd) b1 hs, fun F ρ σ H d ρ' R e Q q => ?_⟩
  unfold fIxN at e
  split at e
  · rename_i h0
    obtain ⟨v, hv⟩ := R.has h0
    obtain ⟨y, ρ1, e1, e2⟩ := bd_some e
    obtain ⟨e5, rfl⟩ := lf_some e2
    obtain ⟨dx, e6, e7⟩ := Option.bind_eq_some_iff.mp e5
    refine ⟨v, hv, ?_⟩
    refine b2 F ρ σ H y ρ' R e1 _ fun u H1 s1 d1 => ?_
    exact ix_da (s1.rep.cel hv e6) d1 e7 Q fun w dw => q w H1 s1 dw
  · cases e

/-! ### slices -/
def cutD (xs : List D) (lo hi : Option Int) : List D := (xs.drop (HT.sIx xs.length 0 lo)).take (HT.sIx xs.length xs.length hi - HT.sIx xs.length 0 lo)
theorem DaL.cut {K : PySem.W.Frag} {B : AS} {H : Hp} {vs : List V} {ds : List D} (h : DaL K B H vs ds) (lo hi : Option Int) : DaL K B H (cutV vs lo hi) (cutD ds lo hi) := by
  unfold cutV cutD
  rw [h.length]
  exact (h.drop _).take _
structure DO (X : Cx) (T : AS) (e : Option Expr) (f : M (Option Int)) : Prop where
  ex : ∃ t, PO X e t ∧ ∀ (F : Fx) (ρ : Sl) (σ : L2.St) (H : Hp) (d : Option Int) (ρ' : Sl), Rep X.K T F ρ σ H → f ρ = some (d, ρ') →
    ∀ Q : Option Int → Hp → Prop, (∀ H', Stp X.K T F σ ρ H ρ' H' → Q d H') → t σ H Q
def fNo : M (Option Int) := pr none
def fPart (f : M D) : M (Option Int) := bd f fun d => lf (match d with | .int i => some (some i) | _ => none)
theorem o_no : DO X T none fNo := ⟨_, po_none, fun F ρ σ H d ρ' R e Q q => by
  cases e
  exact q H (Stp.refl R)⟩
theorem o_part (h : DE X T x_e f) : DO X T (some x_e) (fPart f) := by
  obtain ⟨t, h1, h2⟩ := h.ex
  refine ⟨_, po_some h1, fun F ρ σ H d ρ' R e Q q => ?_⟩
  obtain ⟨x, ρ1, e1, e2⟩ := bd_some e
  obtain ⟨e3, rfl⟩ := lf_some e2
  split at e3
  · cases e3
    refine h2 F ρ σ H _ ρ' R e1 _ fun v H1 s1 d1 => ?_
    cases d1
    exact ⟨_, rfl, q H1 s1⟩
  · cases e3
def oSl : D → Option Int → Option Int → Option D
  | .list xs, lo, hi => some (.list (cutD xs lo hi))
  | .tuple xs, lo, hi => some (.tuple (cutD xs lo hi))
  | .dict [(.list xs, .none)], lo, hi => some (.list (cutD xs lo hi))
  | _, _, _ => none
def fSl (f : M D) (fl fh : M (Option Int)) : M D := bd f fun x => bd fl fun lo => bd fh fun hi => lf (oSl x lo hi)
/-- one of the slices' rules; the bounds are evaluated between: the sliced thing is no owned list -/
theorem e_sl {lo hi : Option Expr} {p2 : Pos} {fl fh : M (Option Int)} (ha : DE X T a fa) (hl : DO X T lo fl) (hh : DO X T hi fh) : DE X T (.Subscript a (.Slice lo hi none p2) pos) (fSl fa fl fh) := by
  obtain ⟨ta, a1, a2⟩ := ha.ex
  obtain ⟨tl, l1, l2⟩ := hl.ex
  obtain ⟨th, h1, h2⟩ := hh.ex
  refine ⟨_, pe_slice (sl_list.or sl_tupA) a1 l1 h1, fun F ρ σ H d ρ' R e Q q => ?_⟩
  obtain ⟨x, ρ1, e1, e2⟩ := bd_some e
  obtain ⟨lo', ρ2, e3, e4⟩ := bd_some e2
  obtain ⟨hi', ρ3, e5, e6⟩ := bd_some e4
  obtain ⟨e7, rfl⟩ := lf_some e6
  refine a2 F ρ σ H x ρ1 R e1 _ fun v H1 s1 d1 => ?_
  refine l2 F ρ1 σ H1 lo' ρ2 s1.rep e3 _ fun H2 s2 => ?_
  refine h2 F ρ2 σ H2 hi' ρ' s2.rep e5 _ fun H3 s3 => ?_
  have s := (s1.trans s2).trans s3
  have dx := s3.da s2.rep (s2.da s1.rep d1)
  cases x with
  | list xs =>
    cases e7
    cases dx with
    | lst n hs ha =>
      exact .inl ⟨_, _, rfl, .inl (.inl hs), fun p hp => q _ _ (s.ext (Ext.new hp)) (.lst (s.rep.fresh hp) upd_same ((ha.cut _ _).stay (Ext.new hp).stay))⟩
  | tuple xs =>
    cases e7
    have dx' := dx
    cases dx with
    | tup hs ha =>
      refine .inr ⟨_, _, rfl, hs.sq, fun hw => ?_, fun hw p hp => q _ _ (s.ext (Ext.new hp)) (.tup (.inl ⟨s.rep.fresh hp, .inl upd_same⟩) ((ha.cut _ _).stay (Ext.new hp).stay))⟩
      have e8 : cutD xs lo' hi' = xs := by
        rw [ha.length] at hw
        unfold cutD
        rw [hw.1, hw.2, List.drop_zero, Nat.sub_zero, List.take_length]
      rw [e8] at q
      exact q _ H3 s dx'
  | dict kvs =>
    generalize hdx : PyData.dict kvs = dd at dx
    cases dx with
    | frn ns hs =>
      cases hdx
      cases e7
      exact .inl ⟨_, _, rfl, hs.sq, fun p hp => q _ _ (s.ext (Ext.new hp)) (.lst (s.rep.fresh hp) upd_same (((DaL.of_ints ns).cut _ _).stay (Ext.new hp).stay))⟩
    | _ => first | (cases hdx; done) | (cases hdx; cases e7)
  | _ => cases e7
end
end PF
set_option Elab.async false
set_option linter.all false
set_option maxRecDepth 100000
/-! PF: built-in functions over data. -/
namespace PF
open PySem PySem.Spec PyProof.Rows L2

def asInts : List D → Option (List Int)
  | [] => some []
  | .int i :: r => (asInts r).map (i :: ·)
  | _ :: _ => none
theorem asInts_eq : ∀ {ds : List D} {ns : List Int}, asInts ds = some ns → ds = ns.map PyData.int
  | [], ns, h => by
    cases h
    rfl
  | d :: r, ns, h => by
    cases d with
    | int i =>
      unfold asInts at h
      cases q : asInts r with
      | none =>
        rw [q] at h
        cases h
      | some ms =>
        rw [q] at h
        cases h
        rw [asInts_eq q]
        rfl
    | _ => cases h
theorem asInts_map (ns : List Int) : asInts (ns.map PyData.int) = some ns := by
  induction ns with
  | nil => rfl
  | cons n ns ih =>
    show (asInts (ns.map PyData.int)).map (n :: ·) = some (n :: ns)
    rw [ih]
    rfl
def asBools : List D → Option (List Bool)
  | [] => some []
  | .bool i :: r => (asBools r).map (i :: ·)
  | _ :: _ => none
theorem asBools_eq : ∀ {ds : List D} {ns : List Bool}, asBools ds = some ns → ds = ns.map PyData.bool
  | [], ns, h => by
    cases h
    rfl
  | d :: r, ns, h => by
    cases d with
    | bool i =>
      unfold asBools at h
      cases q : asBools r with
      | none =>
        rw [q] at h
        cases h
      | some ms =>
        rw [q] at h
        cases h
        rw [asBools_eq q]
        rfl
    | _ => cases h
theorem asBools_map (ns : List Bool) : asBools (ns.map PyData.bool) = some ns := by
  induction ns with
  | nil => rfl
  | cons n ns ih =>
    show (asBools (ns.map PyData.bool)).map (n :: ·) = some (n :: ns)
    rw [ih]
    rfl

/-! ### rules -/
/-- a built-in of one argument that gives data -/
def CbV (X : Cx) (f : Value) (o : D → Option D) : Prop := ∃ r, CallR X f r ∧ ∀ (F : Fx) (B : AS) (H : Hp) (x : V) (dx d : D), Dv X.K F B H x dx → (∀ p, H p = none → ¬ B p) → o dx = some d →
  ∀ Q : VK, (∀ v H', Ext H H' → Da X.K B H' v d → Q v H') → r [x] H Q
/-- .. that gives a new list -/
def CbF (X : Cx) (f : Value) (o : D → Option (List D)) : Prop := ∃ r, CallR X f r ∧ ∀ (F : Fx) (B : AS) (H : Hp) (x : V) (dx : D) (d : List D), Dv X.K F B H x dx → o dx = some d →
  ∀ Q : VK, (∀ p vs, H p = none → DaL X.K B H vs d → Q (.ref p) (upd H p (.lst vs))) → r [x] H Q
/-- .. of two arguments -/
def Cb2 (X : Cx) (f : Value) (o : D → D → Option D) : Prop := ∃ r, CallR X f r ∧ ∀ (B : AS) (H : Hp) (x y : V) (dx dy d : D), Da X.K B H x dx → Da X.K B H y dy → (∀ p, H p = none → ¬ B p) → o dx dy = some d →
  ∀ Q : VK, (∀ v H', Ext H H' → Da X.K B H' v d → Q v H') → r [x, y] H Q
def fF (o : D → Option (List D)) (fa : M D) : M (List D) := bd fa fun x => lf (o x)
section
variable {X : Cx} {T : AS} {a b : Expr} {fa fb : M D} {pos p : Pos} {x : Str}
theorem se_cb1 {K : PySem.W.Frag} {r : List V → Hp → VK → Prop} {ta : TE} {o : D → Option D} (ha : SV K T ta fa)
    (hr : ∀ (F : Fx) (B : AS) (H : Hp) (x : V) (dx d : D), Dv K F B H x dx → (∀ p, H p = none → ¬ B p) → o dx = some d → ∀ Q : VK, (∀ v H', Ext H H' → Da K B H' v d → Q v H') → r [x] H Q) :
    SE K T (tCB r (tCons ta tNil)) (fUn o fa) := fun F ρ σ H d ρ' R e Q q => by
  obtain ⟨x, ρ1, e1, e2⟩ := bd_some e
  obtain ⟨e3, rfl⟩ := lf_some e2
  refine ha F ρ σ H x ρ' R e1 _ fun v H1 s1 d1 => ?_
  exact hr F _ H1 v x d d1 (fun p h => s1.rep.fresh h) e3 Q fun w H2 x2 d2 => q w H2 (s1.ext x2) d2
theorem sf_cb1 {K : PySem.W.Frag} {r : List V → Hp → VK → Prop} {ta : TE} {o : D → Option (List D)} (ha : SV K T ta fa)
    (hr : ∀ (F : Fx) (B : AS) (H : Hp) (x : V) (dx : D) (d : List D), Dv K F B H x dx → o dx = some d → ∀ Q : VK, (∀ p vs, H p = none → DaL K B H vs d → Q (.ref p) (upd H p (.lst vs))) → r [x] H Q) :
    SF K T (tCB r (tCons ta tNil)) (fF o fa) := fun F ρ σ H d ρ' R e Q q => by
  obtain ⟨x, ρ1, e1, e2⟩ := bd_some e
  obtain ⟨e3, rfl⟩ := lf_some e2
  refine ha F ρ σ H x ρ' R e1 _ fun v H1 s1 d1 => ?_
  exact hr F _ H1 v x d d1 e3 Q fun p vs hp dl => q p vs _ (New.of_upd s1 hp dl)
theorem e_cb {id : String} {o : D → Option D} (hc : CbV X (.builtin id) o) (hg : Gl X x) (hm : X.mg x = none) (hv : bootBuiltins x = some (.builtin id)) (ha : DV X T a fa) (hn : x ≠ "__name__" := by decide) (hdb : (x == ("__debug__" : Str)) = false := by decide)
    (hs : starEach (a :: []) X.env = (false, eval a X.env) :: starEach [] X.env := by rfl) : DE X T (.Call (.Name x p) [a] [] pos) (fUn o fa) := by
  obtain ⟨r, h1, h2⟩ := hc
  obtain ⟨t, a1, a2⟩ := ha.ex
  exact ⟨_, pe_callB h1 hg hm hv (pa_cons a1 pa_nil hs) hn hdb (he := hs), se_cb1 a2 h2⟩
theorem e_ct {id : String} {o : D → Option D} (hc : CbV X (.type id) o) (hg : Gl X x) (hm : X.mg x = none) (hv : bootBuiltins x = some (.type id)) (ha : DV X T a fa) (hn : x ≠ "__name__" := by decide) (hdb : (x == ("__debug__" : Str)) = false := by decide)
    (hs : starEach (a :: []) X.env = (false, eval a X.env) :: starEach [] X.env := by rfl) : DE X T (.Call (.Name x p) [a] [] pos) (fUn o fa) := by
  obtain ⟨r, h1, h2⟩ := hc
  obtain ⟨t, a1, a2⟩ := ha.ex
  exact ⟨_, pe_callTy h1 hg hm hv (pa_cons a1 pa_nil hs) hn hdb (he := hs), se_cb1 a2 h2⟩
theorem f_cb {id : String} {o : D → Option (List D)} (hc : CbF X (.builtin id) o) (hg : Gl X x) (hm : X.mg x = none) (hv : bootBuiltins x = some (.builtin id)) (ha : DV X T a fa) (hn : x ≠ "__name__" := by decide) (hdb : (x == ("__debug__" : Str)) = false := by decide)
    (hs : starEach (a :: []) X.env = (false, eval a X.env) :: starEach [] X.env := by rfl) : DF X T (.Call (.Name x p) [a] [] pos) (fF o fa) := by
  obtain ⟨r, h1, h2⟩ := hc
  obtain ⟨t, a1, a2⟩ := ha.ex
  exact ⟨_, pe_callB h1 hg hm hv (pa_cons a1 pa_nil hs) hn hdb (he := hs), sf_cb1 a2 h2⟩
theorem f_ct {id : String} {o : D → Option (List D)} (hc : CbF X (.type id) o) (hg : Gl X x) (hm : X.mg x = none) (hv : bootBuiltins x = some (.type id)) (ha : DV X T a fa) (hn : x ≠ "__name__" := by decide) (hdb : (x == ("__debug__" : Str)) = false := by decide)
    (hs : starEach (a :: []) X.env = (false, eval a X.env) :: starEach [] X.env := by rfl) : DF X T (.Call (.Name x p) [a] [] pos) (fF o fa) := by
  obtain ⟨r, h1, h2⟩ := hc
  obtain ⟨t, a1, a2⟩ := ha.ex
  exact ⟨_, pe_callTy h1 hg hm hv (pa_cons a1 pa_nil hs) hn hdb (he := hs), sf_cb1 a2 h2⟩
theorem e_cb2 {id : String} {o : D → D → Option D} (hc : Cb2 X (.builtin id) o) (hg : Gl X x) (hm : X.mg x = none) (hv : bootBuiltins x = some (.builtin id)) (ha : DE X T a fa) (hb : DE X T b fb) (hn : x ≠ "__name__" := by decide) (hdb : (x == ("__debug__" : Str)) = false := by decide)
    (hs : starEach (a :: [b]) X.env = (false, eval a X.env) :: starEach [b] X.env := by rfl) (hs2 : starEach (b :: []) X.env = (false, eval b X.env) :: starEach [] X.env := by rfl) : DE X T (.Call (.Name x p) [a, b] [] pos) (fBin o fa fb) := by
  obtain ⟨r, h1, h2⟩ := hc
  obtain ⟨t, a1, a2⟩ := ha.ex
  obtain ⟨u, b1, b2⟩ := hb.ex
  refine ⟨_, pe_callB h1 hg hm hv (pa_cons a1 (pa_cons b1 pa_nil hs2) hs) hn hdb (he := hs) (hpl := by rw [hs2]; rfl), fun F ρ σ H d ρ' R e Q q => ?_⟩
  obtain ⟨x, ρ1, e1, e2⟩ := bd_some e
  obtain ⟨y, ρ2, e3, e4⟩ := bd_some e2
  obtain ⟨e5, rfl⟩ := lf_some e4
  refine a2 F ρ σ H x ρ1 R e1 _ fun v H1 s1 d1 => ?_
  refine b2 F ρ1 σ H1 y ρ' s1.rep e3 _ fun u H2 s2 d2 => ?_
  exact h2 _ H2 v u x y d (s2.da s1.rep d1) d2 (fun p h => s2.rep.fresh h) e5 _ fun w H3 x3 d3 => q w H3 ((s1.trans s2).ext x3) d3

/-! ### the built-ins -/
def oLen : D → Option D
  | .list xs => some (.int (xs.length : Nat))
  | .tuple xs => some (.int (xs.length : Nat))
  | .dict [(.list xs, .none)] => some (.int (xs.length : Nat))
  | .str z => if z.length ≤ sizeLine then some (.int (z.length : Nat)) else none
  | _ => none
theorem b_len : CbV X (.builtin "len") oLen := by
  refine ⟨_, call_len_seq.or call_len_str, fun F B H x dx d hx fr e Q q => ?_⟩
  cases dx with
  | list xs =>
    cases e
    obtain ⟨p, vs, rfl, h1, h2⟩ := hx.list
    rw [← h2.length] at q
    exact .inl ⟨p, vs, rfl, .inl (.inl (.inl h1)), q _ _ (Ext.refl H) (.int _)⟩
  | tuple xs =>
    cases e
    obtain ⟨p, vs, rfl, h1, h2, _⟩ := hx.tup
    rw [← h2.length] at q
    exact .inl ⟨p, vs, rfl, .inr h1, q _ _ (Ext.refl H) (.int _)⟩
  | str z =>
    rw [hx.str]
    unfold oLen at e
    simp only at e
    split at e
    · rename_i hz
      cases e
      exact .inr ⟨z, rfl, hz, q _ _ (Ext.refl H) (.int _)⟩
    · cases e
  | dict kvs =>
    rcases hx with hx | ⟨_, _, _, _, e2, _⟩
    · generalize hdx : PyData.dict kvs = dd at hx
      cases hx with
      | frn ns hs =>
        cases hdx
        cases e
        rw [List.length_map] at q
        have q' := q (.int ((ns.map V.int).length : Nat)) H (Ext.refl H) (by rw [List.length_map]; exact .int _)
        exact .inl ⟨_, _, rfl, .inl hs.sq, q'⟩
      | _ => first | (cases hdx; done) | (cases hdx; cases e)
    · cases e2
  | _ => cases e
def oAbs : D → Option D
  | .int i => some (.int (if i < 0 then -i else i))
  | _ => none
theorem b_abs : CbV X (.builtin "abs") oAbs := by
  refine ⟨_, call_abs, fun F B H x dx d hx fr e Q q => ?_⟩
  cases dx with
  | int i =>
    cases e
    rw [hx.int]
    exact ⟨i, rfl, q _ _ (Ext.refl H) (.int _)⟩
  | _ => cases e
def oInt : D → Option D
  | .int i => some (.int i)
  | .bool b => some (.int (if b then 1 else 0))
  | _ => none
theorem b_int : CbV X (.type "int") oInt := by
  refine ⟨_, call_int1, fun F B H x dx d hx fr e Q q => ?_⟩
  cases dx with
  | int i =>
    cases e
    rw [hx.int]
    exact .inl ⟨i, rfl, q _ _ (Ext.refl H) (.int _)⟩
  | bool b =>
    cases e
    rw [hx.bool]
    exact .inr ⟨b, rfl, q _ _ (Ext.refl H) (.int _)⟩
  | _ => cases e
def oSum : D → Option D
  | .list xs => (asInts xs).map fun ns => .int ns.sum
  | _ => none
theorem b_sum (hc : X.calm = true) : CbV X (.builtin "sum") oSum := by
  refine ⟨_, cr_sum hc, fun F B H x dx d hx fr e Q q => ?_⟩
  cases dx with
  | list xs =>
    obtain ⟨p, vs, rfl, h1, h2⟩ := hx.list
    cases q1 : asInts xs with
    | none =>
      unfold oSum at e
      simp only [q1] at e
      cases e
    | some ns =>
      unfold oSum at e
      simp only [q1] at e
      cases e
      rw [asInts_eq q1] at h2
      rw [h2.ints] at h1
      exact ⟨p, ns, rfl, .inl (.inl h1), q _ _ (Ext.refl H) (.int _)⟩
  | _ => cases e
/-- the greatest and the least of ints -/
def maxI : List Int → Int
  | [] => 0
  | [x] => x
  | x :: r => if maxI r > x then maxI r else x
def minI : List Int → Int
  | [] => 0
  | [x] => x
  | x :: r => if minI r < x then minI r else x
theorem maxI_spec : ∀ {ns : List Int}, ns ≠ [] → maxI ns ∈ ns ∧ ∀ y ∈ ns, y ≤ maxI ns
  | [], h => absurd rfl h
  | [x], _ => ⟨by simp [maxI], fun y hy => by simp at hy; simp [maxI, hy]⟩
  | x :: z :: r, _ => by
    obtain ⟨h1, h2⟩ := maxI_spec (ns := z :: r) (by simp)
    unfold maxI
    split
    · rename_i h
      refine ⟨List.mem_cons_of_mem _ h1, fun y hy => ?_⟩
      rcases List.mem_cons.mp hy with e | hy
      · omega
      · exact h2 y hy
    · rename_i h
      refine ⟨List.mem_cons_self, fun y hy => ?_⟩
      rcases List.mem_cons.mp hy with e | hy
      · omega
      · have := h2 y hy
        omega
theorem minI_spec : ∀ {ns : List Int}, ns ≠ [] → minI ns ∈ ns ∧ ∀ y ∈ ns, minI ns ≤ y
  | [], h => absurd rfl h
  | [x], _ => ⟨by simp [minI], fun y hy => by simp at hy; simp [minI, hy]⟩
  | x :: z :: r, _ => by
    obtain ⟨h1, h2⟩ := minI_spec (ns := z :: r) (by simp)
    unfold minI
    split
    · rename_i h
      refine ⟨List.mem_cons_of_mem _ h1, fun y hy => ?_⟩
      rcases List.mem_cons.mp hy with e | hy
      · omega
      · exact h2 y hy
    · rename_i h
      refine ⟨List.mem_cons_self, fun y hy => ?_⟩
      rcases List.mem_cons.mp hy with e | hy
      · omega
      · have := h2 y hy
        omega
def oMax : D → Option D
  | .list xs => match asInts xs with
    | some (n :: ns) => some (.int (maxI (n :: ns)))
    | _ => none
  | _ => none
def oMin : D → Option D
  | .list xs => match asInts xs with
    | some (n :: ns) => some (.int (minI (n :: ns)))
    | _ => none
  | _ => none
theorem b_max (hc : X.calm = true) : CbV X (.builtin "max") oMax := by
  refine ⟨_, cr_max hc, fun F B H x dx d hx fr e Q q => ?_⟩
  cases dx with
  | list xs =>
    obtain ⟨p, vs, rfl, h1, h2⟩ := hx.list
    unfold oMax at e
    simp only at e
    split at e
    · rename_i n ns q1
      cases e
      rw [asInts_eq q1] at h2
      rw [h2.ints] at h1
      obtain ⟨m1, m2⟩ := maxI_spec (ns := n :: ns) (by simp)
      refine ⟨p, n :: ns, rfl, .inl (.inl h1), by simp, fun m hm hy => ?_⟩
      have e9 : m = maxI (n :: ns) := by
        have a1 := hy _ m1
        have a2 := m2 _ hm
        omega
      rw [e9]
      exact q _ _ (Ext.refl H) (.int _)
    · cases e
  | _ => cases e
theorem b_min (hc : X.calm = true) : CbV X (.builtin "min") oMin := by
  refine ⟨_, cr_min hc, fun F B H x dx d hx fr e Q q => ?_⟩
  cases dx with
  | list xs =>
    obtain ⟨p, vs, rfl, h1, h2⟩ := hx.list
    unfold oMin at e
    simp only at e
    split at e
    · rename_i n ns q1
      cases e
      rw [asInts_eq q1] at h2
      rw [h2.ints] at h1
      obtain ⟨m1, m2⟩ := minI_spec (ns := n :: ns) (by simp)
      refine ⟨p, n :: ns, rfl, .inl (.inl h1), by simp, fun m hm hy => ?_⟩
      have e9 : m = minI (n :: ns) := by
        have a1 := hy _ m1
        have a2 := m2 _ hm
        omega
      rw [e9]
      exact q _ _ (Ext.refl H) (.int _)
    · cases e
  | _ => cases e
def oMax2 : D → D → Option D
  | .int i, .int j => some (.int (if j > i then j else i))
  | _, _ => none
def oMin2 : D → D → Option D
  | .int i, .int j => some (.int (if j < i then j else i))
  | _, _ => none
theorem b_max2 (hc : X.calm = true) : Cb2 X (.builtin "max") oMax2 := by
  refine ⟨_, call_max2 hc, fun B H x y dx dy d hx hy fr e Q q => ?_⟩
  unfold oMax2 at e
  split at e
  · cases e
    cases hx
    cases hy
    exact ⟨_, _, rfl, q _ _ (Ext.refl H) (.int _)⟩
  · cases e
theorem b_min2 (hc : X.calm = true) : Cb2 X (.builtin "min") oMin2 := by
  refine ⟨_, call_min2 hc, fun B H x y dx dy d hx hy fr e Q q => ?_⟩
  unfold oMin2 at e
  split at e
  · cases e
    cases hx
    cases hy
    exact ⟨_, _, rfl, q _ _ (Ext.refl H) (.int _)⟩
  · cases e
def oTuple : D → Option D
  | .list xs => some (.tuple xs)
  | .tuple xs => some (.tuple xs)
  | _ => none
theorem b_tuple : CbV X (.type "tuple") oTuple := by
  refine ⟨_, call_tuple_of, fun F B H x dx d hx fr e Q q => ?_⟩
  cases dx with
  | list xs =>
    cases e
    obtain ⟨p, vs, rfl, h1, h2⟩ := hx.list
    exact ⟨p, vs, rfl, .inl ⟨.inl (.inl h1), fun l hl => q _ _ (Ext.new hl) (.tup (.inl ⟨fr l hl, .inl upd_same⟩) (h2.stay (Ext.new hl).stay))⟩⟩
  | tuple xs =>
    cases e
    obtain ⟨p, vs, rfl, h1, h2, h3⟩ := hx.tup
    exact ⟨p, vs, rfl, .inr ⟨h1, q _ _ (Ext.refl H) h3⟩⟩
  | _ => cases e
def oList : D → Option (List D)
  | .list xs => some xs
  | .tuple xs => some xs
  | .dict [(.list xs, .none)] => some xs
  | _ => none
theorem b_list : CbF X (.type "list") oList := by
  refine ⟨_, call_list_of, fun F B H x dx d hx e Q q => ?_⟩
  cases dx with
  | list xs =>
    cases e
    obtain ⟨p, vs, rfl, h1, h2⟩ := hx.list
    exact ⟨p, vs, rfl, .inl (.inl (.inl h1)), fun l hl => q l vs hl h2⟩
  | tuple xs =>
    cases e
    obtain ⟨p, vs, rfl, h1, h2, h3⟩ := hx.tup
    exact ⟨p, vs, rfl, .inr h1, fun l hl => q l vs hl h2⟩
  | dict kvs =>
    rcases hx with hx | ⟨_, _, _, _, e2, _⟩
    · generalize hdx : PyData.dict kvs = dd at hx
      cases hx with
      | frn ns hs =>
        cases hdx
        cases e
        exact ⟨_, _, rfl, .inl hs.sq, fun l hl => q l _ hl (.of_ints ns)⟩
      | _ => first | (cases hdx; done) | (cases hdx; cases e)
    · cases e2
  | _ => cases e
def oAll : D → Option D
  | .list xs => (asBools xs).map fun bs => .bool (bs.all id)
  | _ => none
def oAny : D → Option D
  | .list xs => (asBools xs).map fun bs => .bool (bs.any id)
  | _ => none
theorem b_all (hc : X.calm = true) : CbV X (.builtin "all") oAll := by
  refine ⟨_, cr_all hc, fun F B H x dx d hx fr e Q q => ?_⟩
  cases dx with
  | list xs =>
    obtain ⟨p, vs, rfl, h1, h2⟩ := hx.list
    cases q1 : asBools xs with
    | none =>
      unfold oAll at e
      simp only [q1] at e
      cases e
    | some ns =>
      unfold oAll at e
      simp only [q1] at e
      cases e
      rw [asBools_eq q1] at h2
      rw [h2.bools] at h1
      exact ⟨p, ns, rfl, .inl (.inl h1), q _ _ (Ext.refl H) (.bl _)⟩
  | _ => cases e
theorem b_any (hc : X.calm = true) : CbV X (.builtin "any") oAny := by
  refine ⟨_, cr_any hc, fun F B H x dx d hx fr e Q q => ?_⟩
  cases dx with
  | list xs =>
    obtain ⟨p, vs, rfl, h1, h2⟩ := hx.list
    cases q1 : asBools xs with
    | none =>
      unfold oAny at e
      simp only [q1] at e
      cases e
    | some ns =>
      unfold oAny at e
      simp only [q1] at e
      cases e
      rw [asBools_eq q1] at h2
      rw [h2.bools] at h1
      exact ⟨p, ns, rfl, .inl (.inl h1), q _ _ (Ext.refl H) (.bl _)⟩
  | _ => cases e

/-! ### sorted of ints -/
/-- the ints in order -/
def sortI (ns : List Int) : List Int := ns.mergeSort fun a b => decide (a ≤ b)
theorem sortI_perm (ns : List Int) : (sortI ns).Perm ns := List.mergeSort_perm _ _
theorem sortI_sorted (ns : List Int) : (sortI ns).Pairwise (· ≤ ·) := by
  have h := List.pairwise_mergeSort (le := fun a b : Int => decide (a ≤ b)) (fun a b c h1 h2 => by simp at *; omega) (fun a b => by simp; omega) ns
  exact h.imp fun h => by simpa using h
theorem perm_sorted_eq : ∀ {l m : List Int}, l.Perm m → l.Pairwise (· ≤ ·) → m.Pairwise (· ≤ ·) → l = m := fun p h1 h2 => p.eq_of_pairwise (fun a b _ _ h3 h4 => by omega) h1 h2
theorem sortI_unique {l ns : List Int} (p : l.Perm ns) (h : l.Pairwise (· ≤ ·)) : l = sortI ns := perm_sorted_eq (p.trans (sortI_perm ns).symm) h (sortI_sorted ns)

/-! ### isinstance -/
def tyD : D → Option String
  | .none => some "NoneType"
  | .bool _ => some "bool"
  | .int _ => some "int"
  | .str _ => some "str"
  | .list _ => some "list"
  | .tuple _ => some "tuple"
  | .dict _ => none
def oIsi (n : String) (d : D) : Option D := (tyD d).bind fun t => (kitB t n).map .bool
theorem tyX_of {K : PySem.W.Frag} {F : Fx} {B : AS} {H : Hp} {v : V} {d : D} {t : String} (h : Dv K F B H v d) (e : tyD d = some t) : TyX K H v (.type t) := by
  cases d with
  | none =>
    cases e
    rcases h with h | ⟨_, _, _, _, e2, _⟩
    · cases h
      exact .base .non
    · cases e2
  | bool c =>
    cases e
    rw [h.bool]
    exact .base (.bl c)
  | int i =>
    cases e
    rw [h.int]
    exact .base (.int i)
  | str y =>
    cases e
    rw [h.str]
    exact .base (.str y)
  | list xs =>
    cases e
    obtain ⟨p, vs, rfl, h1, h2⟩ := h.list
    exact .base (.lst h1)
  | tuple xs =>
    cases e
    obtain ⟨p, vs, rfl, h1, h2, _⟩ := h.tup
    rcases h1 with (h1 | ⟨o, h1⟩) | ⟨o, its, n, h1, h2, _⟩
    · exact .base (.tup h1)
    · exact .fTuple h1
    · exact .kTuple h1 h2
  | dict kvs => cases e
theorem e_isi {n : String} {y : Str} {p2 : Pos} (hg : Gl X "isinstance") (hm : X.mg "isinstance" = none) (hg2 : Gl X y) (hm2 : X.mg y = none) (hv2 : bootBuiltins y = some (.type n)) (ha : DV X T a fa) (hn : y ≠ "__name__" := by decide) (hdb : (y == ("__debug__" : Str)) = false := by decide)
    (hs : starEach (a :: [.Name y p2]) X.env = (false, eval a X.env) :: starEach [.Name y p2] X.env := by rfl) (hs2 : starEach (.Name y p2 :: []) X.env = (false, eval (.Name y p2) X.env) :: starEach [] X.env := by rfl) : DE X T (.Call (.Name "isinstance" p) [a, .Name y p2] [] pos) (fUn (oIsi n) fa) := by
  obtain ⟨t, a1, a2⟩ := ha.ex
  refine ⟨_, pe_callB call_isi hg hm boot_isinstance (pa_cons a1 (pa_cons (pe_bltn (v := .ty n) hg2 hm2 hv2 rfl hn hdb) pa_nil hs2) hs) (he := hs) (hpl := by rw [hs2]; rfl), fun F ρ σ H d ρ' R e Q q => ?_⟩
  obtain ⟨x, ρ1, e1, e2⟩ := bd_some e
  obtain ⟨e3, rfl⟩ := lf_some e2
  refine a2 F ρ σ H x ρ' R e1 _ fun v H1 s1 d1 => ?_
  obtain ⟨ty, e4, e5⟩ := Option.bind_eq_some_iff.mp e3
  obtain ⟨b, e6, rfl⟩ := Option.map_eq_some_iff.mp e5
  exact ⟨v, .ty n, .type ty, .type n, b, rfl, .ty n, tyX_of d1 e4, kit_ty e6, q _ H1 s1 (.bl b)⟩

/-! ### list(range(n)) -/
def rngD (a b : Int) : List D := (List.range (b - a).toNat).map fun (i : Nat) => PyData.int (a + (i : Int))
def oRng1 : D → Option (List D)
  | .int n => if -(2 ^ 62) ≤ n ∧ n ≤ 16777216 then some (rngD 0 n) else none
  | _ => none
theorem da_rg {K : PySem.W.Frag} {B : AS} {H : Hp} (a b : Int) : DaL K B H (rgV a b) (rngD a b) := by
  unfold rgV rngD
  generalize (List.range (b - a).toNat) = l
  induction l with
  | nil => exact .nil
  | cons i l ih => exact .cons (.int _) ih
theorem f_listRg {p2 pos' : Pos} (hc : X.calm = true) (hg : Gl X "list") (hm : X.mg "list" = none) (hg2 : Gl X "range") (hm2 : X.mg "range" = none) (ha : DE X T a fa) (hs : starEach (a :: []) X.env = (false, eval a X.env) :: starEach [] X.env := by rfl)
    (na : starEach [Expr.Call (.Name "range" p2) [a] [] pos] X.env = (false, eval (Expr.Call (.Name "range" p2) [a] [] pos) X.env) :: starEach [] X.env := by rfl) :
    DF X T (.Call (.Name "list" p) [.Call (.Name "range" p2) [a] [] pos] [] pos') (fF oRng1 fa) := by
  obtain ⟨t, a1, a2⟩ := ha.ex
  refine ⟨_, pe_listRg hc hg hm (prg_1 hg2 hm2 a1 hs) na, fun F ρ σ H d ρ' R e Q q => ?_⟩
  obtain ⟨x, ρ1, e1, e2⟩ := bd_some e
  obtain ⟨e3, rfl⟩ := lf_some e2
  refine a2 F ρ σ H x ρ' R e1 _ fun v H1 s1 d1 => ?_
  cases x with
  | int n =>
    unfold oRng1 at e3
    simp only at e3
    split at e3
    · rename_i hz
      cases e3
      cases d1
      exact ⟨n, rfl, ⟨by omega, by omega, by omega, by omega, by omega⟩, fun l hl => q l _ _ (New.of_upd s1 hl (da_rg 0 n))⟩
    · cases e3
  | _ => cases e3
end
end PF
set_option Elab.async false
set_option linter.all false
set_option maxRecDepth 100000
/-! PF: targets, what is walked, list comprehensions. -/
namespace PF
open PySem PySem.Spec PyProof.Rows L2

/-! ### the readings that say just what is wanted -/
def tE (K : PySem.W.Frag) (T : AS) (f : M D) : TE := fun σ H Q => ∃ (F : Fx) (ρ : Sl) (d : D) (ρ' : Sl), Rep K T F ρ σ H ∧ f ρ = some (d, ρ') ∧ ∀ v H', Stp K T F σ ρ H ρ' H' → Da K (Av F ρ' σ) H' v d → Q v H'
def tT (K : PySem.W.Frag) (T : AS) (f : M Bool) : TT := fun σ H Q => ∃ (F : Fx) (ρ : Sl) (d : Bool) (ρ' : Sl), Rep K T F ρ σ H ∧ f ρ = some (d, ρ') ∧ ∀ H', Stp K T F σ ρ H ρ' H' → Q d H'
theorem pe_imp {X : Cx} {e : Expr} {t t' : TE} (h : PE X e t) (i : ∀ σ H Q, t' σ H Q → t σ H Q) : PE X e t' := ⟨fun pins s σ H Q I w => h.run pins s σ H Q I (i σ H Q w)⟩
theorem pt_imp {X : Cx} {e : Expr} {t t' : TT} (h : PT X e t) (i : ∀ σ H Q, t' σ H Q → t σ H Q) : PT X e t' := ⟨fun pins s σ H Q I w => h.run pins s σ H Q I (i σ H Q w)⟩
theorem se_tE {K : PySem.W.Frag} {T : AS} {f : M D} : SE K T (tE K T f) f := fun F ρ σ H d ρ' R e Q q => ⟨F, ρ, d, ρ', R, e, q⟩
theorem st_tT {K : PySem.W.Frag} {T : AS} {f : M Bool} : ST K T (tT K T f) f := fun F ρ σ H d ρ' R e Q q => ⟨F, ρ, d, ρ', R, e, q⟩
theorem DE.can {X : Cx} {T : AS} {e : Expr} {f : M D} (h : DE X T e f) : PE X e (tE X.K T f) := by
  obtain ⟨t, h1, h2⟩ := h.ex
  exact pe_imp h1 fun σ H Q ⟨F, ρ, d, ρ', R, e, q⟩ => h2 F ρ σ H d ρ' R e Q q
theorem DT.can {X : Cx} {T : AS} {e : Expr} {f : M Bool} (h : DT X T e f) : PT X e (tT X.K T f) := by
  obtain ⟨t, h1, h2⟩ := h.ex
  exact pt_imp h1 fun σ H Q ⟨F, ρ, d, ρ', R, e, q⟩ => h2 F ρ σ H d ρ' R e Q q

/-! ### data carried to a later heap -/
section
variable {K : PySem.W.Frag} {B B' : AS} {H H' : Hp}
theorem LB.renew {a : Addr} {xs : List V} (sub : ∀ a, B' a → B a ∨ H a = none) (s : Stay B H H') (h : LB K B H a xs) : LB K B' H' a xs := h.imp (fun ⟨n, r⟩ => ⟨fun z => (sub _ z).elim n (fun q => rd_ne r q rfl), rd_stay s n r⟩) id
theorem TB.renew {a : Addr} {xs : List V} (sub : ∀ a, B' a → B a ∨ H a = none) (s : Stay B H H') (h : TB K B H a xs) : TB K B' H' a xs := h.imp (fun ⟨n, r⟩ => ⟨fun z => (sub _ z).elim n (fun q => rd_ne r q rfl), rd_stay s n r⟩) id
mutual
theorem Da.renewP (sub : ∀ a, B' a → B a ∨ H a = none) (s : Stay B H H') : ∀ {v : V} {d : D}, Da K B H v d → Da K B' H' v d
  | _, _, .non => .non
  | _, _, .bl b => .bl b
  | _, _, .int i => .int i
  | _, _, .str x => .str x
  | _, _, .lst n hs ha => .lst (fun z => (sub _ z).elim n (fun q => by rw [hs] at q; cases q)) (s _ _ hs n) (DaL.renewP sub s ha)
  | _, _, .tup hs ha => .tup (hs.renew sub s) (DaL.renewP sub s ha)
  | _, _, .frn ns hs => .frn ns (hs.renew sub s)
  | _, _, .dic xs n hs hk ha => .dic xs (fun z => (sub _ z).elim n (fun q => by rw [hs] at q; cases q)) (s _ _ hs n) hk (DaL.renewP sub s ha)
theorem DaL.renewP (sub : ∀ a, B' a → B a ∨ H a = none) (s : Stay B H H') : ∀ {vs : List V} {ds : List D}, DaL K B H vs ds → DaL K B' H' vs ds
  | _, _, .nil => .nil
  | _, _, .cons h1 h2 => .cons (Da.renewP sub s h1) (DaL.renewP sub s h2)
end
theorem Da.renew (sub : ∀ a, B' a → B a ∨ H a = none) (s : Stay B H H') (d : D) (v : V) (h : Da K B H v d) : Da K B' H' v d := Da.renewP sub s h
theorem DaL.renew (sub : ∀ a, B' a → B a ∨ H a = none) (s : Stay B H H') (ds : List D) (vs : List V) (h : DaL K B H vs ds) : DaL K B' H' vs ds := DaL.renewP sub s h
end

/-! ### targets -/
/-- what an assignment to the slots is does -/
structure Asg (is : List Nat) (ρ : Sl) (σ : L2.St) (ρ' : Sl) (σ' : L2.St) : Prop where
  len : σ'.length = σ.length
  oth : ∀ j : Nat, j ∉ is → σ'[j]? = σ[j]? ∧ ρ'[j]? = ρ[j]?
  no : ∀ j ∈ is, ∀ xs : List D, ρ'[j]? ≠ some (some (.own xs))
theorem Asg.ow {is : List Nat} {ρ ρ' : Sl} {σ σ' : L2.St} (a : Asg is ρ σ ρ' σ') : ∀ q, Ow ρ' σ' q → Ow ρ σ q := fun q ⟨i, xs, h1, h2⟩ => by
  by_cases hi : i ∈ is
  · exact absurd h1 (a.no i hi xs)
  · obtain ⟨e1, e2⟩ := a.oth i hi
    exact ⟨i, xs, by rw [← e2]; exact h1, by rw [← e1]; exact h2⟩
theorem Asg.refl (ρ : Sl) (σ : L2.St) : Asg [] ρ σ ρ σ := ⟨rfl, fun _ _ => ⟨rfl, rfl⟩, fun j h => by cases h⟩
theorem Asg.trans {is js : List Nat} {ρ ρ1 ρ2 : Sl} {σ σ1 σ2 : L2.St} (a : Asg is ρ σ ρ1 σ1) (b : Asg js ρ1 σ1 ρ2 σ2) : Asg (is ++ js) ρ σ ρ2 σ2 := by
  refine ⟨b.len.trans a.len, fun j hj => ?_, fun j hj xs => ?_⟩
  · rw [List.mem_append, not_or] at hj
    obtain ⟨e1, e2⟩ := a.oth j hj.1
    obtain ⟨e3, e4⟩ := b.oth j hj.2
    exact ⟨e3.trans e1, e4.trans e2⟩
  · by_cases h2 : j ∈ js
    · exact b.no j h2 xs
    · rw [(b.oth j h2).2]
      rcases List.mem_append.mp hj with h1 | h1
      · exact a.no j h1 xs
      · exact absurd h1 h2
def SG (K : PySem.W.Frag) (T : AS) (g : TG) (is : List Nat) (ga : D → Sl → Option Sl) : Prop := ∀ (F : Fx) (ρ : Sl) (σ : L2.St) (H : Hp) (v : V) (d : D) (ρ' : Sl), Rep K T F ρ σ H → Da K (Av F ρ σ) H v d → ga d ρ = some ρ' →
  ∀ Q : L2.St → Hp → Prop, (∀ σ', Rep K T F ρ' σ' H → Asg is ρ σ ρ' σ' → Q σ' H) → g v σ H Q
def SGs (K : PySem.W.Frag) (T : AS) (g : TGs) (is : List Nat) (ga : List D → Sl → Option Sl) : Prop := ∀ (F : Fx) (ρ : Sl) (σ : L2.St) (H : Hp) (v : List V) (d : List D) (ρ' : Sl), Rep K T F ρ σ H → DaL K (Av F ρ σ) H v d → ga d ρ = some ρ' →
  ∀ Q : L2.St → Hp → Prop, (∀ σ', Rep K T F ρ' σ' H → Asg is ρ σ ρ' σ' → Q σ' H) → g v σ H Q
def gaN (i : Nat) : D → Sl → Option Sl := fun d ρ => if i < ρ.length then some (ρ.set i (some (.val d))) else none
def gaNil : List D → Sl → Option Sl
  | [], ρ => some ρ
  | _ :: _, _ => none
def gaCons (g : D → Sl → Option Sl) (gr : List D → Sl → Option Sl) : List D → Sl → Option Sl
  | d :: ds, ρ => (g d ρ).bind (gr ds)
  | [], _ => none
def gaTup (n : Nat) (g : List D → Sl → Option Sl) : D → Sl → Option Sl
  | .tuple ds, ρ => if ds.length = n then g ds ρ else none
  | _, _ => none
section
variable {K : PySem.W.Frag} {T : AS} {F : Fx} {σ : L2.St} {ρ : Sl} {H : Hp}
theorem Rep.set_val (R : Rep K T F ρ σ H) {i : Nat} {v : V} {d : D} (hi : i < ρ.length) (h : Da K (Av F ρ σ) H v d) : Rep K T F (ρ.set i (some (.val d))) (σ.set i (some v)) H ∧ Asg [i] ρ σ (ρ.set i (some (.val d))) (σ.set i (some v)) := by
  have hs : i < σ.length := by rw [← R.len]; exact hi
  have gs : ∀ j : Nat, (σ.set i (some v))[j]? = if i = j then some (some v) else σ[j]? := fun j => by
    rw [List.getElem?_set]
    by_cases e : i = j
    · subst e
      simp [hs]
    · simp [e]
  have as : Asg [i] ρ σ (ρ.set i (some (.val d))) (σ.set i (some v)) := by
    refine ⟨by rw [List.length_set], fun j hj => ?_, fun j hj xs => ?_⟩
    · have ne : i ≠ j := fun e => hj (by simp [e])
      rw [gs, get_set hi, if_neg ne, if_neg ne]
      exact ⟨rfl, rfl⟩
    · have e : j = i := by simpa using hj
      subst e
      rw [get_set hi, if_pos rfl]
      intro z
      cases z
  have sub : ∀ a, Av F (ρ.set i (some (.val d))) (σ.set i (some v)) a → Av F ρ σ a := fun a z => z.imp id (as.ow a)
  refine ⟨⟨R.sub, R.tab, R.old, R.fr, R.dm, by rw [List.length_set, List.length_set]; exact R.len, fun j d' e => ?_, fun j xs e => ?_, fun j k xs ys p e1 e2 e3 e4 => ?_⟩, as⟩
  · rw [get_set hi] at e
    rw [gs]
    by_cases q : i = j
    · rw [if_pos q] at e
      cases e
      rw [if_pos q]
      exact ⟨v, rfl, h.weak sub⟩
    · rw [if_neg q] at e
      rw [if_neg q]
      obtain ⟨u, e1, e2⟩ := R.val j d' e
      exact ⟨u, e1, e2.weak sub⟩
  · rw [get_set hi] at e
    rw [gs]
    by_cases q : i = j
    · rw [if_pos q] at e
      cases e
    · rw [if_neg q] at e
      rw [if_neg q]
      obtain ⟨p, vs, e1, e2, e3, e4, e5⟩ := R.own j xs e
      exact ⟨p, vs, e1, e2, e3, e4, e5.weak sub⟩
  · rw [get_set hi] at e1 e2
    rw [gs] at e3 e4
    by_cases q1 : i = j
    · rw [if_pos q1] at e1
      cases e1
    · by_cases q2 : i = k
      · rw [if_pos q2] at e2
        cases e2
      · rw [if_neg q1] at e1 e3
        rw [if_neg q2] at e2 e4
        exact R.sep j k xs ys p e1 e2 e3 e4
theorem sg_name (i : Nat) : SG K T (gName i) [i] (gaN i) := fun F ρ σ H v d ρ' R h e Q q => by
  unfold gaN at e
  split at e
  · rename_i hi
    cases e
    obtain ⟨R', as⟩ := R.set_val hi h
    exact q _ R' as
  · cases e
theorem sgs_nil : SGs K T gNil [] gaNil := fun F ρ σ H v d ρ' R h e Q q => by
  cases d with
  | nil =>
    cases h
    cases e
    exact ⟨rfl, q σ R (Asg.refl _ _)⟩
  | cons d ds => cases e
theorem sgs_cons {g : TG} {u : TGs} {is js : List Nat} {ga : D → Sl → Option Sl} {gr : List D → Sl → Option Sl} (h1 : SG K T g is ga) (h2 : SGs K T u js gr) : SGs K T (gCons g u) (is ++ js) (gaCons ga gr) := fun F ρ σ H v d ρ' R h e Q q => by
  cases d with
  | nil => cases e
  | cons d ds =>
    cases h with
    | cons hd hr =>
      obtain ⟨ρ1, e1, e2⟩ := Option.bind_eq_some_iff.mp e
      refine ⟨_, _, rfl, ?_⟩
      refine h1 F ρ σ H _ d ρ1 R hd e1 _ fun σ1 R1 a1 => ?_
      refine h2 F ρ1 σ1 H _ ds ρ' R1 (hr.weak fun a z => z.imp id (a1.ow a)) e2 _ fun σ2 R2 a2 => ?_
      exact q σ2 R2 (a1.trans a2)
theorem sg_tup {u : TGs} {n : Nat} {is : List Nat} {gr : List D → Sl → Option Sl} (h : SGs K T u is gr) : SG K T (gTup K n u) is (gaTup n gr) := fun F ρ σ H v d ρ' R hd e Q q => by
  unfold gaTup at e
  split at e
  · split at e
    · rename_i hn
      cases hd with
      | tup hs ha => exact ⟨_, _, rfl, hs.sq, by rw [ha.length]; exact hn, h F ρ σ H _ _ ρ' R ha e Q q⟩
    · cases e
  · cases e
end
structure DG (X : Cx) (T : AS) (e : Expr) (is : List Nat) (ga : D → Sl → Option Sl) : Prop where
  ex : ∃ g, PG X e g ∧ SG X.K T g is ga
structure DGs (X : Cx) (T : AS) (es : List Expr) (is : List Nat) (ga : List D → Sl → Option Sl) : Prop where
  ex : ∃ g, PGs X es g ∧ SGs X.K T g is ga
def tG (K : PySem.W.Frag) (T : AS) (is : List Nat) (ga : D → Sl → Option Sl) : TG := fun v σ H Q => ∃ (F : Fx) (ρ : Sl) (d : D) (ρ' : Sl), Rep K T F ρ σ H ∧ Da K (Av F ρ σ) H v d ∧ ga d ρ = some ρ' ∧ ∀ σ', Rep K T F ρ' σ' H → Asg is ρ σ ρ' σ' → Q σ' H
theorem DG.can {X : Cx} {T : AS} {e : Expr} {is : List Nat} {ga : D → Sl → Option Sl} (h : DG X T e is ga) : PG X e (tG X.K T is ga) := by
  obtain ⟨g, h1, h2⟩ := h.ex
  exact ⟨fun pins s σ H v u Q I r ⟨F, ρ, d, ρ', R, hd, e, q⟩ => h1.run pins s σ H v u Q I r (h2 F ρ σ H v d ρ' R hd e Q q)⟩
section
variable {X : Cx} {T : AS} {pos : Pos}
theorem g_name (i : Nat) {x : Str} (hN : X.N.Nodup) (hi : X.N[i]? = some x := by rfl) (hx : Loc X.env.scope x := by first | exact .inl rfl | exact .inr rfl) (hf : X.fn x = true ∨ X.env.scope.names.lookup x = some .local := by first | exact .inl rfl | exact .inr rfl) : DG X T (.Name x pos) [i] (gaN i) := ⟨_, pg_name hN hi hx hf, sg_name i⟩
theorem gs_nil : DGs X T [] [] gaNil := ⟨_, pgs_nil, sgs_nil⟩
theorem gs_cons {e : Expr} {es : List Expr} {is js : List Nat} {ga : D → Sl → Option Sl} {gr : List D → Sl → Option Sl} (h1 : DG X T e is ga) (h2 : DGs X T es js gr)
    (h3 : (assignEach (e :: es) X.env).map (·.2) = assign e X.env :: (assignEach es X.env).map (·.2) := by rfl) : DGs X T (e :: es) (is ++ js) (gaCons ga gr) := by
  obtain ⟨g, a1, a2⟩ := h1.ex
  obtain ⟨u, b1, b2⟩ := h2.ex
  exact ⟨_, pgs_cons a1 b1 h3, sgs_cons a2 b2⟩
theorem g_tup {es : List Expr} {k n : Nat} {is : List Nat} {gr : List D → Sl → Option Sl} (hc : X.calm = true) (h : DGs X T es is gr)
    (hn : (assignEach es X.env).length = n := by rfl) (hst : (assignEach es X.env).findIdx? (·.1) = none := by rfl) : DG X T (.Tuple es k pos) is (gaTup n gr) := by
  obtain ⟨g, a1, a2⟩ := h.ex
  exact ⟨_, pg_tup hc a1 hn hst, sg_tup a2⟩
end

/-! ### what is walked -/
/-- J yields the data ds, from the heap H0 on, as long as what is outside B stays -/
def ItD (K : PySem.W.Frag) (B : AS) (H0 : Hp) (J : It) (ds : List D) : Prop := ∀ (B' : AS) (H : Hp), Stay B H0 H → (∀ a, B' a → B a ∨ H0 a = none) → (∀ a, B' a → ∃ o, H a = some o) →
  (∀ (i : Nat) (d : D), ds[i]? = some d → J.go i H ∧ ∀ x H', J.yld i H x H' → Ext H H' ∧ Da K B' H' x d) ∧ (∀ i : Nat, ds.length ≤ i → J.stop i H)
def SI (K : PySem.W.Frag) (T : AS) (wi : TI) (f : M (List D)) : Prop := ∀ (F : Fx) (ρ : Sl) (σ : L2.St) (H : Hp) (ds : List D) (ρ' : Sl), Rep K T F ρ σ H → f ρ = some (ds, ρ') →
  ∀ R : It → Hp → Prop, (∀ J H', Stp K T F σ ρ H ρ' H' → ItD K (Av F ρ' σ) H' J ds → R J H') → wi σ H R
structure DI (X : Cx) (T : AS) (tg e : Expr) (f : M (List D)) : Prop where
  ex : ∃ wi, PI X tg e wi ∧ SI X.K T wi f
def tI (K : PySem.W.Frag) (T : AS) (f : M (List D)) : TI := fun σ H R => ∃ (F : Fx) (ρ : Sl) (ds : List D) (ρ' : Sl), Rep K T F ρ σ H ∧ f ρ = some (ds, ρ') ∧ ∀ J H', Stp K T F σ ρ H ρ' H' → ItD K (Av F ρ' σ) H' J ds → R J H'
theorem DI.can {X : Cx} {T : AS} {tg e : Expr} {f : M (List D)} (h : DI X T tg e f) : PI X tg e (tI X.K T f) := by
  obtain ⟨w, h1, h2⟩ := h.ex
  exact ⟨fun pins s σ H R I ⟨F, ρ, ds, ρ', R', e, q⟩ => h1.run pins s σ H R I (h2 F ρ σ H ds ρ' R' e R q)⟩
def oSeq : D → Option (List D)
  | .list xs => some xs
  | .tuple xs => some xs
  | .dict [(.list xs, .none)] => some xs
  | _ => none
section
variable {K : PySem.W.Frag} {B : AS} {H0 : Hp}
theorem getL {vs : List V} {ds : List D} (h : DaL K B H0 vs ds) {i : Nat} (hi : ds.length ≤ i) : vs.length ≤ i := by rw [h.length]; exact hi
theorem itd_list {a : Addr} {vs : List V} {ds : List D} (h : ∀ (B' : AS) (H : Hp), Stay B H0 H → SqL K H a vs) (hd : DaL K B H0 vs ds) : ItD K B H0 (Itl K a) ds := fun B' H s sub al => by
  have q := h B' H s
  refine ⟨fun i d e => ?_, fun i hi => ⟨vs, q, getL hd hi⟩⟩
  obtain ⟨v, e1, e2⟩ := hd.get e
  refine ⟨⟨vs, v, q, e1⟩, fun x H' hy => ?_⟩
  obtain ⟨rfl, hx⟩ := hy
  have e3 := hx vs q
  rw [e1] at e3
  cases e3
  exact ⟨Ext.refl _, Da.renew sub s d _ e2⟩
theorem itd_tup {a : Addr} {vs : List V} {ds : List D} (h : ∀ (B' : AS) (H : Hp), Stay B H0 H → SqT K H a vs) (hd : DaL K B H0 vs ds) : ItD K B H0 (Itt K a) ds := fun B' H s sub al => by
  have q := h B' H s
  refine ⟨fun i d e => ?_, fun i hi => ⟨vs, q, getL hd hi⟩⟩
  obtain ⟨v, e1, e2⟩ := hd.get e
  refine ⟨⟨vs, v, q, e1⟩, fun x H' hy => ?_⟩
  obtain ⟨rfl, hx⟩ := hy
  have e3 := hx vs q
  rw [e1] at e3
  cases e3
  exact ⟨Ext.refl _, Da.renew sub s d _ e2⟩
theorem itd_rng {lo : Int} {n : Nat} : ItD K B H0 (Itr lo n) ((List.range n).map fun (i : Nat) => PyData.int (lo + (i : Int))) := fun B' H s sub al => by
  refine ⟨fun i d e => ?_, fun i hi => ?_⟩
  · rw [List.getElem?_map] at e
    obtain ⟨j, e1, rfl⟩ := Option.map_eq_some_iff.mp e
    obtain ⟨hj, e2⟩ := List.getElem?_eq_some_iff.mp e1
    rw [List.length_range] at hj
    rw [List.getElem_range] at e2
    subst e2
    refine ⟨hj, fun x H' hy => ?_⟩
    obtain ⟨rfl, rfl⟩ := hy
    exact ⟨Ext.refl _, .int _⟩
  · rw [List.length_map, List.length_range] at hi
    exact hi
end
section
variable {X : Cx} {T : AS} {a b tg : Expr} {fa fb : M D} {pos p : Pos}
/-- a list, a tuple, the script -/
theorem i_seq (ha : DE X T a fa) : DI X T tg a (fF oSeq fa) := by
  have h1 := ha.can
  refine ⟨fun σ H R => iList X.K (tE X.K T fa) σ H R ∨ iTup X.K (tE X.K T fa) σ H R, ⟨fun pins s σ H R I h => h.elim (fun z => (pi_list h1).run pins s σ H R I z) (fun z => (pi_tup h1).run pins s σ H R I z)⟩, fun F ρ σ H ds ρ' R e Q q => ?_⟩
  obtain ⟨x, ρ1, e1, e2⟩ := bd_some e
  obtain ⟨e3, rfl⟩ := lf_some e2
  cases x with
  | list xs =>
    cases e3
    refine .inl ⟨F, ρ, _, ρ', R, e1, fun v H1 s1 d1 => ?_⟩
    cases d1 with
    | lst n hs hl => exact ⟨_, rfl, ⟨_, .inl (.inl hs)⟩, q _ H1 s1 (itd_list (fun B' H' st => .inl (.inl (st _ _ hs n))) hl)⟩
  | tuple xs =>
    cases e3
    refine .inr ⟨F, ρ, _, ρ', R, e1, fun v H1 s1 d1 => ?_⟩
    cases d1 with
    | tup hs hl => exact ⟨_, rfl, ⟨_, hs.sq⟩, q _ H1 s1 (itd_tup (fun B' H' st => (hs.map (fun _ z => z) st).sq) hl)⟩
  | dict kvs =>
    refine .inl ⟨F, ρ, _, ρ', R, e1, fun v H1 s1 d1 => ?_⟩
    generalize hdx : PyData.dict kvs = dd at d1
    cases d1 with
    | frn ns hs =>
      cases hdx
      cases e3
      exact ⟨_, rfl, ⟨_, hs.sq⟩, q _ H1 s1 (itd_list (fun B' H' st => (hs.map (fun _ z => z) st).sq) (.of_ints ns))⟩
    | _ => first | (cases hdx; done) | (cases hdx; cases e3)
  | _ => cases e3
def oRngI : D → Option (List D)
  | .int n => if -(2 ^ 62) ≤ n ∧ n < 2 ^ 62 then some (rngD 0 n) else none
  | _ => none
def oRngI2 : D → D → Option (List D)
  | .int m, .int n => if -(2 ^ 62) ≤ m ∧ m < 2 ^ 62 ∧ -(2 ^ 62) ≤ n ∧ n < 2 ^ 62 then some (rngD m n) else none
  | _, _ => none
theorem i_rng1 (hg : Gl X "range") (hm : X.mg "range" = none) (ha : DE X T a fa) (hs : starEach [a] X.env = (false, eval a X.env) :: starEach [] X.env := by rfl) : DI X T tg (.Call (.Name "range" p) [a] [] pos) (fF oRngI fa) := by
  obtain ⟨t, a1, a2⟩ := ha.ex
  refine ⟨_, pi_range1 hg hm (pa_cons a1 pa_nil hs) hs, fun F ρ σ H ds ρ' R e Q q => ?_⟩
  obtain ⟨x, ρ1, e1, e2⟩ := bd_some e
  obtain ⟨e3, rfl⟩ := lf_some e2
  refine a2 F ρ σ H x ρ' R e1 _ fun v H1 s1 d1 => ?_
  cases x with
  | int n =>
    unfold oRngI at e3
    simp only at e3
    split at e3
    · rename_i hz
      cases e3
      cases d1
      refine ⟨n, rfl, hz.1, hz.2, q _ H1 s1 ?_⟩
      unfold rngD
      rw [Int.sub_zero]
      exact itd_rng
    · cases e3
  | _ => cases e3
theorem i_rng2 (hg : Gl X "range") (hm : X.mg "range" = none) (ha : DE X T a fa) (hb : DE X T b fb) (hs : starEach [a, b] X.env = [(false, eval a X.env), (false, eval b X.env)] := by rfl) (hs2 : starEach [b] X.env = [(false, eval b X.env)] := by rfl) :
    DI X T tg (.Call (.Name "range" p) [a, b] [] pos) (bd fa fun x => bd fb fun y => lf (oRngI2 x y)) := by
  obtain ⟨t, a1, a2⟩ := ha.ex
  obtain ⟨u, b1, b2⟩ := hb.ex
  refine ⟨_, pi_range2 hg hm (pa_cons a1 (pa_cons b1 pa_nil hs2) (by rw [hs, hs2])) hs hs2, fun F ρ σ H ds ρ' R e Q q => ?_⟩
  obtain ⟨x, ρ1, e1, e2⟩ := bd_some e
  obtain ⟨y, ρ2, e3, e4⟩ := bd_some e2
  obtain ⟨e5, rfl⟩ := lf_some e4
  refine a2 F ρ σ H x ρ1 R e1 _ fun v H1 s1 d1 => ?_
  refine b2 F ρ1 σ H1 y ρ' s1.rep e3 _ fun u H2 s2 d2 => ?_
  unfold oRngI2 at e5
  split at e5
  · split at e5
    · rename_i hz
      cases e5
      cases d1
      cases d2
      exact ⟨_, _, rfl, hz, q _ H2 (s1.trans s2) itd_rng⟩
    · cases e5
  · cases e5
end

/-! ### list comprehensions -/
def wipeS (ρ : Sl) : List Nat → Sl
  | [] => ρ
  | v :: vs => (wipeS ρ vs).set v none
/-- one turn: (the element, or none where the test says no) -/
def turnLc (ga : D → Sl → Option Sl) (ft : M Bool) (fe : M D) (d : D) : M (Option D) := fun ρ => match ga d ρ with
  | none => none
  | some ρ1 => bd ft (fun b => if b = true then bd fe fun y => pr (some y) else pr none) ρ1
def runLc (vs : List Nat) (ga : D → Sl → Option Sl) (ft : M Bool) (fe : M D) : List D → M (List D)
  | [] => fun ρ => some ([], wipeS ρ vs)
  | d :: ds => fun ρ => match turnLc ga ft fe d (wipeS ρ vs) with
    | none => none
    | some (none, ρ1) => runLc vs ga ft fe ds ρ1
    | some (some y, ρ1) => match runLc vs ga ft fe ds ρ1 with
      | none => none
      | some (ys, ρ2) => some (y :: ys, ρ2)
def fLc (vs : List Nat) (fi : M (List D)) (ga : D → Sl → Option Sl) (ft : M Bool) (fe : M D) : M (List D) := bd fi fun ds => fun ρ => if ds.length < sizeLine then runLc vs ga ft fe ds ρ else none
section
theorem wipeS_some {ρ : Sl} {i : Nat} {c : Cel} : ∀ {vs : List Nat}, (wipeS ρ vs)[i]? = some (some c) → ρ[i]? = some (some c) ∧ i ∉ vs
  | [], h => ⟨h, by simp⟩
  | v :: vs, h => by
    unfold wipeS at h
    by_cases hi : v = i
    · subst hi
      by_cases hv : v < (wipeS ρ vs).length
      · rw [List.getElem?_set_self hv] at h; cases h
      · rw [List.getElem?_eq_none (by simpa using hv)] at h; cases h
    · rw [List.getElem?_set_ne hi] at h
      obtain ⟨h1, h2⟩ := wipeS_some h
      exact ⟨h1, by simp only [List.mem_cons, not_or]; exact ⟨fun e => hi e.symm, h2⟩⟩
theorem wipeS_length (ρ : Sl) : ∀ vs : List Nat, (wipeS ρ vs).length = ρ.length
  | [] => rfl
  | v :: vs => by unfold wipeS; rw [List.length_set, wipeS_length ρ vs]
theorem wipe_at {σ : L2.St} {i : Nat} : ∀ {vs : List Nat}, i ∈ vs → i < σ.length → (wipe σ vs)[i]? = some none
  | [], h, _ => by cases h
  | v :: vs, h, hl => by
    unfold wipe
    by_cases e : v = i
    · subst e
      rw [List.getElem?_set_self (by rw [wipe_length]; exact hl)]
    · rw [List.getElem?_set_ne e]
      refine wipe_at ?_ hl
      rcases List.mem_cons.mp h with z | z
      · exact absurd z.symm e
      · exact z
theorem wipe_congr {σ σ' : L2.St} {vs : List Nat} (hl : σ.length = σ'.length) (h : ∀ j : Nat, j ∉ vs → σ[j]? = σ'[j]?) : wipe σ vs = wipe σ' vs := by
  refine List.ext_getElem? fun i => ?_
  by_cases hi : i ∈ vs
  · by_cases hz : i < σ.length
    · rw [wipe_at hi hz, wipe_at hi (by rw [← hl]; exact hz)]
    · rw [List.getElem?_eq_none (by rw [wipe_length]; omega), List.getElem?_eq_none (by rw [wipe_length]; omega)]
  · rw [wipe_out hi, wipe_out hi]
    exact h i hi
variable {K : PySem.W.Frag} {T : AS} {F : Fx} {σ : L2.St} {ρ ρ' : Sl} {H : Hp} {vs : List Nat}
theorem wipe_shr : Shr ρ (wipeS ρ vs) := fun i xs h => ⟨xs, (wipeS_some h).1⟩
theorem ow_wipe : ∀ a, Ow (wipeS ρ vs) (wipe σ vs) a ↔ Ow (wipeS ρ vs) σ a := fun a => by
  constructor
  · rintro ⟨i, xs, h1, h2⟩
    obtain ⟨_, ni⟩ := wipeS_some h1
    rw [wipe_out ni] at h2
    exact ⟨i, xs, h1, h2⟩
  · rintro ⟨i, xs, h1, h2⟩
    obtain ⟨_, ni⟩ := wipeS_some h1
    exact ⟨i, xs, h1, by rw [wipe_out ni]; exact h2⟩
/-- the block's own slots forgotten -/
theorem Rep.wipe (R : Rep K T F ρ σ H) (vs : List Nat) : Rep K T F (wipeS ρ vs) (L2.wipe σ vs) H := by
  have av : ∀ a, Av F (wipeS ρ vs) (L2.wipe σ vs) a → Av F ρ σ a := fun a h => h.imp id fun z => wipe_shr.ow a ((ow_wipe a).mp z)
  refine ⟨R.sub, R.tab, R.old, R.fr, R.dm, by rw [wipeS_length, wipe_length]; exact R.len, fun i d h => ?_, fun i xs h => ?_, fun i j xs ys p e1 e2 e3 e4 => ?_⟩
  · obtain ⟨h1, ni⟩ := wipeS_some h
    obtain ⟨v, h2, h3⟩ := R.val i d h1
    exact ⟨v, by rw [wipe_out ni]; exact h2, h3.weak av⟩
  · obtain ⟨h1, ni⟩ := wipeS_some h
    obtain ⟨p, us, h2, h3, h4, h5, h6⟩ := R.own i xs h1
    exact ⟨p, us, by rw [wipe_out ni]; exact h2, h3, h4, h5, h6.weak av⟩
  · obtain ⟨h1, ni⟩ := wipeS_some e1
    obtain ⟨h2, nj⟩ := wipeS_some e2
    rw [wipe_out ni] at e3
    rw [wipe_out nj] at e4
    exact R.sep i j xs ys p h1 h2 e3 e4
/-- .. told of the slots as they stand around the block -/
theorem Rep.unwipe (R : Rep K T F (wipeS ρ vs) (L2.wipe σ vs) H) : Rep K T F (wipeS ρ vs) σ H := by
  have av : ∀ a, Av F (wipeS ρ vs) σ a → Av F (wipeS ρ vs) (L2.wipe σ vs) a := fun a h => h.imp id fun z => (ow_wipe a).mpr z
  have hl := R.len
  rw [wipe_length] at hl
  refine ⟨R.sub, R.tab, R.old, R.fr, R.dm, hl, fun i d h => ?_, fun i xs h => ?_, fun i j xs ys p e1 e2 e3 e4 => ?_⟩
  · obtain ⟨h1, ni⟩ := wipeS_some h
    obtain ⟨v, h2, h3⟩ := R.val i d h
    rw [wipe_out ni] at h2
    exact ⟨v, h2, h3.weak av⟩
  · obtain ⟨h1, ni⟩ := wipeS_some h
    obtain ⟨p, us, h2, h3, h4, h5, h6⟩ := R.own i xs h
    rw [wipe_out ni] at h2
    exact ⟨p, us, h2, h3, h4, h5, h6.weak av⟩
  · obtain ⟨h1, ni⟩ := wipeS_some e1
    obtain ⟨h2, nj⟩ := wipeS_some e2
    exact R.sep i j xs ys p e1 e2 (by rw [wipe_out ni]; exact e3) (by rw [wipe_out nj]; exact e4)
theorem Rep.alive (R : Rep K T F ρ σ H) : ∀ a, Av F ρ σ a → ∃ o, H a = some o := fun a h => by
  rcases h with h | ⟨i, xs, h1, h2⟩
  · exact R.old a h
  · obtain ⟨p, us, h3, h4, _⟩ := R.own i xs h1
    rw [h2] at h3
    cases h3
    exact ⟨_, h4⟩
theorem runLc_length {ga : D → Sl → Option Sl} {ft : M Bool} {fe : M D} : ∀ {ds : List D} {ρ : Sl} {ys : List D} {ρ' : Sl}, runLc vs ga ft fe ds ρ = some (ys, ρ') → ys.length ≤ ds.length
  | [], ρ, ys, ρ', h => by
    cases h
    exact Nat.le_refl _
  | d :: ds, ρ, ys, ρ', h => by
    unfold runLc at h
    split at h
    · cases h
    · have := runLc_length h
      exact Nat.le_succ_of_le this
    · split at h
      · cases h
      · rename_i e
        cases h
        exact Nat.succ_le_succ (runLc_length e)
end
end PF
set_option Elab.async false
set_option linter.all false
set_option maxRecDepth 100000
/-! PF: list comprehensions. -/
namespace PF
open PySem PySem.Spec PyProof.Rows L2
section
variable {K : PySem.W.Frag} {T : AS} {F : Fx} {σ : L2.St} {ρ ρ' : Sl} {H : Hp} {vs : List Nat}
/-- what stands ahead of turn i: ρi the slots, acc the new list's values, done its data, rest what is to come -/
def LcInv (K : PySem.W.Frag) (T : AS) (F : Fx) (σ : L2.St) (vs : List Nat) (ga : D → Sl → Option Sl) (ft : M Bool) (fe : M D) (ρ1 : Sl) (H1 : Hp) (Dl : Addr) (ds out : List D) (ρ' : Sl) (i : Nat) (H2 : Hp) : Prop :=
  ∃ (ρi : Sl) (acc : List V) (done rest : List D), i ≤ ds.length ∧ Rep K T (F.and Dl) (wipeS ρi vs) (L2.wipe σ vs) H2 ∧ Stay (fun a => T a ∨ Ow ρ1 σ a) H1 H2 ∧ (∀ a o, H1 a = some o → ∃ o', H2 a = some o') ∧
    Shr ρ1 (wipeS ρi vs) ∧ H2 Dl = some (.lst acc) ∧ DaL K (Av (F.and Dl) (wipeS ρi vs) (L2.wipe σ vs)) H2 acc done ∧ acc.length ≤ i ∧ runLc vs ga ft fe (ds.drop i) ρi = some (rest, ρ') ∧ out = done ++ rest
theorem bd_of {α β : Type} {m : M α} {k : α → M β} {ρ ρ1 : Sl} {a : α} (h : m ρ = some (a, ρ1)) : bd m k ρ = k a ρ1 := by
  unfold bd
  rw [h]
theorem shr_wipe_of {ρ ρ1 : Sl} (h : Shr ρ ρ1) : Shr ρ (wipeS ρ1 vs) := h.trans wipe_shr
/-- the comprehension's reading, by the readings of its parts -/
theorem sf_lc {wi : TI} {g : TG} {tt : TT} {te : TE} {is : List Nat} {fi : M (List D)} {ga : D → Sl → Option Sl} {ft : M Bool} {fe : M D} (hi : SI K T wi fi) (hg : SG K T g is ga) (hs : ∀ i ∈ is, i ∈ vs) (ht : ST K T tt ft) (he : SE K T te fe) :
    SF K T (tLc wi g tt te vs) (fLc vs fi ga ft fe) := fun F ρ σ H out ρ' R e Q q => by
  obtain ⟨ds, ρ1, e1, e2⟩ := bd_some e
  split at e2
  · rename_i hz
    refine hi F ρ σ H ds ρ1 R e1 _ fun J H1 s1 hJ => ?_
    intro Dl hD
    have nT := s1.rep.no_tab hD
    have nF := s1.rep.no_fh hD
    have nB : ¬ F.B Dl := fun z => s1.rep.fresh hD (.inl z)
    refine ⟨fun i m H2 => m = ds.length - i ∧ LcInv K T F σ vs ga ft fe ρ1 H1 Dl ds out ρ' i H2, ⟨ds.length, by simp, ρ1, [], [], out, Nat.zero_le _, (s1.rep.and_new hD).wipe vs, (Ext.new hD).stay, fun a o z => ⟨o, Ext.new hD a o z⟩, wipe_shr, upd_same, .nil, Nat.le_refl _, by simpa using e2, rfl⟩, ?_⟩
    rintro i m H2 ⟨rfl, ρi, acc, done, rest, hi', R2, st, dm, sh, hl, dl, ha, er, eo⟩
    have av1 : ∀ a, Av (F.and Dl) (wipeS ρi vs) (L2.wipe σ vs) a → Av F ρ1 σ a ∨ H1 a = none := fun a z => by
      rcases z with (z | z) | z
      · exact .inl (.inl z)
      · exact .inr (by rw [z]; exact hD)
      · exact .inl (.inr (sh.ow a ((ow_wipe a).mp z)))
    have st1 : Stay (Av F ρ1 σ) H1 H2 := st.mono s1.rep.tow
    obtain ⟨hgo, hst⟩ := hJ _ H2 st1 av1 R2.alive
    by_cases hlt : i < ds.length
    · obtain ⟨go, yl⟩ := hgo i ds[i] (List.getElem?_eq_getElem hlt)
      rw [List.drop_eq_getElem_cons hlt] at er
      unfold runLc at er
      refine .inr ⟨go, LcInv K T F σ vs ga ft fe ρ1 H1 Dl ds out ρ' (i + 1), fun H3 h3 => ⟨ds.length - (i + 1), by omega, rfl, h3⟩, fun x H3 hy => ?_⟩
      obtain ⟨ex3, dx⟩ := yl x H3 hy
      -- the target
      cases e3 : ga ds[i] (wipeS ρi vs) with
      | none =>
        unfold turnLc at er
        rw [e3] at er
        cases er
      | some ρ2 =>
        unfold turnLc at er
        simp only [e3] at er
        refine hg (F.and Dl) _ _ H3 x ds[i] ρ2 (R2.ext ex3) dx e3 _ fun σ2 R4 as => ?_
        have ew : L2.wipe σ2 vs = L2.wipe σ vs := by
          have z : L2.wipe σ2 vs = L2.wipe (L2.wipe σ vs) vs := wipe_congr as.len fun j hj => (as.oth j (fun hj' => hj (hs j hj'))).1
          rw [z]
          exact wipe_congr (wipe_length _ _) fun j hj => wipe_out hj
        refine ⟨ew, ?_⟩
        have sh4 : Shr (wipeS ρi vs) ρ2 := fun j xs hj => by
          by_cases hj' : j ∈ is
          · exact absurd hj (as.no j hj' xs)
          · rw [(as.oth j hj').2] at hj
            exact ⟨xs, hj⟩
        -- behind the test, what goes on
        cases e4 : ft ρ2 with
        | none =>
          have z : bd ft (fun b => if b = true then bd fe fun y => pr (some y) else pr (none : Option D)) ρ2 = none := by
            unfold bd
            rw [e4]
          rw [z] at er
          cases er
        | some p =>
          obtain ⟨b, ρ3⟩ := p
          have z : bd ft (fun b => if b = true then bd fe fun y => pr (some y) else pr (none : Option D)) ρ2 = (if b = true then bd fe fun y => pr (some y) else pr (none : Option D)) ρ3 := by
            exact bd_of e4
          rw [z] at er
          refine ht (F.and Dl) ρ2 σ2 H3 b ρ3 R4 e4 _ fun H4 s4 => ?_
          -- the state behind the turn, before the list grows
          have fin : ∀ (ρ5 : Sl) (H5 : Hp), Stp K T (F.and Dl) σ2 ρ2 H3 ρ5 H5 → Rep K T (F.and Dl) (wipeS ρ5 vs) (L2.wipe σ vs) H5 ∧ Stay (fun a => T a ∨ Ow ρ1 σ a) H1 H5 ∧ (∀ a o, H1 a = some o → ∃ o', H5 a = some o') ∧ Shr ρ1 (wipeS ρ5 vs) ∧ H5 Dl = some (.lst acc) ∧
              (∀ (as : List V) (dd : List D), DaL K (Av (F.and Dl) (wipeS ρi vs) (L2.wipe σ vs)) H2 as dd → DaL K (Av (F.and Dl) (wipeS ρ5 vs) (L2.wipe σ vs)) H5 as dd) := fun ρ5 H5 s5 => by
            have ow2 : ∀ a, Ow ρ2 σ2 a → Ow ρ1 σ a := fun a z => sh.ow a ((ow_wipe a).mp (as.ow a z))
            have stx : Stay (fun a => T a ∨ Ow ρ1 σ a) H3 H5 := s5.st.mono fun a z => z.imp id (ow2 a)
            refine ⟨?_, (st.trans ex3.stay).trans stx, fun a o z => ?_, (sh.trans (sh4.trans s5.sh)).trans wipe_shr, ?_, fun us dd hd => ?_⟩
            · rw [← ew]
              exact s5.rep.wipe vs
            · obtain ⟨o1, z1⟩ := dm a o z
              exact s5.dm a o1 (ex3 a o1 z1)
            · refine s5.st _ _ (ex3 _ _ hl) fun z => ?_
              rcases z with z | z
              · exact nT z
              · obtain ⟨j, xs, z1, z2⟩ := z
                obtain ⟨p, us, z3, z4, z5, _⟩ := R4.own j xs z1
                rw [z2] at z3
                cases z3
                exact z5 (.inr rfl)
            · have d3 := hd.stay (ex3.stay)
              refine DaL.map (fun a z => ?_) (s5.st.mono fun a z => ?_) dd us d3
              · refine z.imp id fun z => ?_
                refine (ow_wipe a).mpr ?_
                have z1 : Ow (wipeS ρ5 vs) (L2.wipe σ2 vs) a := by rw [ew]; exact z
                have z2 := (ow_wipe (σ := σ2) a).mp z1
                have z3 := s5.sh.ow a (wipe_shr.ow a z2)
                exact (ow_wipe a).mp (as.ow a z3)
              · rcases z with z | z
                · exact .inl (.inl (s1.rep.sub a z))
                · exact .inr (as.ow a z)
          cases b with
          | false =>
            cases er0 : runLc vs ga ft fe (ds.drop (i + 1)) ρ3 with
            | none =>
              simp only [Bool.false_eq_true, if_false, pr, er0] at er
              cases er
            | some p =>
              simp only [Bool.false_eq_true, if_false, pr, er0] at er
              cases er
              obtain ⟨f1, f2, f3, f4, f5, f6⟩ := fin ρ3 H4 s4
              exact ⟨ρ3, acc, done, rest, hlt, f1, f2, f3, f4, f5, f6 _ _ dl, Nat.le_succ_of_le ha, er0, eo⟩
          | true =>
            simp only [if_true] at er
            cases e5 : fe ρ3 with
            | none =>
              have z : bd fe (fun y => pr (some y)) ρ3 = none := by
                unfold bd
                rw [e5]
              rw [z] at er
              cases er
            | some p =>
              obtain ⟨y, ρ4⟩ := p
              have z : bd fe (fun y => pr (some y)) ρ3 = some (some y, ρ4) := by
                unfold bd
                rw [e5]
                rfl
              rw [z] at er
              simp only at er
              refine he (F.and Dl) ρ3 σ2 H4 y ρ4 s4.rep e5 _ fun v H5 s5 dv => ?_
              obtain ⟨f1, f2, f3, f4, f5, f6⟩ := fin ρ4 H5 (s4.trans s5)
              refine ⟨acc, f5, by omega, ?_⟩
              split at er
              · cases er
              · rename_i ys ρ6 er0
                cases er
                have dv' : Da K (Av (F.and Dl) (wipeS ρ4 vs) (L2.wipe σ vs)) H5 v y := dv.weak fun a z => z.imp id fun z => by
                  have z1 : Ow (wipeS ρ4 vs) (L2.wipe σ2 vs) a := by rw [ew]; exact z
                  exact wipe_shr.ow a ((ow_wipe a).mp z1)
                have stD : Stay (Av (F.and Dl) (wipeS ρ4 vs) (L2.wipe σ vs)) H5 (upd H5 Dl (.lst (acc ++ [v]))) := fun a o z n => by
                  rw [upd_ne (fun z' => n (.inl (.inr z')))]
                  exact z
                refine ⟨ρ4, acc ++ [v], done ++ [y], ys, hlt, f1.upd_and (.inr rfl) nT nF, fun a o z n => ?_, fun a o z => ?_, f4, upd_same, (((f6 _ _ dl).append (.cons dv' .nil)).stay stD), ?_, er0, by rw [eo, List.append_assoc]; rfl⟩
                · rw [upd_ne (fun z' => by rw [z', hD] at z; cases z)]
                  exact f2 a o z n
                · by_cases z' : a = Dl
                  · exact ⟨_, by rw [z']; exact upd_same⟩
                  · obtain ⟨o', z1⟩ := f3 a o z
                    exact ⟨o', by rw [upd_ne z']; exact z1⟩
                · rw [List.length_append, List.length_singleton]
                  omega
    · have ei : i = ds.length := by omega
      subst ei
      rw [List.drop_length] at er
      unfold runLc at er
      cases er
      rw [List.append_nil] at eo
      subst eo
      refine .inl ⟨hst _ (Nat.le_refl _), ?_⟩
      refine q Dl acc H2 ⟨R2.unwipe, s1.st.trans (st.mono fun a z => z.imp id (s1.sh.ow a)), fun a o z => ?_, s1.sh.trans sh, hl, nB, nF, s1.dm_none hD, dl.weak fun a z => z.imp id fun z => (ow_wipe a).mpr z⟩
      obtain ⟨o1, z1⟩ := s1.dm a o z
      exact dm a o1 z1
  · cases e2
end
section
variable {X : Cx} {T : AS}
structure DTs (X : Cx) (T : AS) (es : List Expr) (f : M Bool) : Prop where
  ex : ∃ t, PTs X es t ∧ ST X.K T t f
theorem ts_nil : DTs X T [] (pr true) := ⟨_, pts_nil, fun F ρ σ H b ρ' R e Q q => by
  cases e
  exact q H (Stp.refl R)⟩
theorem ts_one {c : Expr} {f : M Bool} (h : DT X T c f) : DTs X T [c] f := let ⟨_, h1, h2⟩ := h.ex; ⟨_, pts_one h1, h2⟩
theorem DTs.can {es : List Expr} {f : M Bool} (h : DTs X T es f) : PTs X es (tT X.K T f) := by
  obtain ⟨t, h1, h2⟩ := h.ex
  exact ⟨fun pins s σ H Q I ⟨F, ρ, d, ρ', R, e, q⟩ => h1.run pins s σ H Q I (h2 F ρ σ H d ρ' R e Q q)⟩
/-- the context of a comprehension's block -/
abbrev bk (X : Cx) (scope : Scope) (s : Shared) (H : Hp) (C : Addr) (cl : List (Str × Addr)) (fp : List Addr) : Cx := X.blk s H scope (compEnvC scope cl C X.env) fp
theorem f_lc {elt tg iter : Expr} {ifs : List Expr} {scope : Scope} (own : List (Str × Nat)) {pos : Pos} {is : List Nat} {fi : M (List D)} {ga : D → Sl → Option Sl} {ft : M Bool} {fe : M D} (hc : X.calm = true) (hN : X.N.Nodup) (ok : BlkOk X.N X.env.scope scope own)
    (hi : DI X T tg iter fi) (hg : ∀ s H C cl fp, DG (bk X scope s H C cl fp) T tg is ga) (ht : ∀ s H C cl fp, DTs (bk X scope s H C cl fp) T ifs ft) (he : ∀ s H C cl fp, DE (bk X scope s H C cl fp) T elt fe)
    (hs : ∀ i ∈ is, i ∈ own.map (·.2) := by decide) (hf : ∀ x, foldedSetIterable iter X.env x = pure x := by intro _; rfl) :
    DF X T (.ListComp elt [⟨tg, iter, ifs, 0⟩] scope pos) (fLc (own.map (·.2)) fi ga ft fe) :=
  ⟨_, pe_lc (g := tG X.K T is ga) (tt := tT X.K T ft) (te := tE X.K T fe) hc hN hi.can ok (fun s H C cl fp => (hg s H C cl fp).can) (fun s H C cl fp => (ht s H C cl fp).can) (fun s H C cl fp => (he s H C cl fp).can) hf,
    sf_lc (is := is) (ga := ga) (fun F ρ σ H ds ρ' R e Q q => ⟨F, ρ, ds, ρ', R, e, q⟩) (fun F ρ σ H v d ρ' R h e Q q => ⟨F, ρ, d, ρ', R, h, e, q⟩) hs st_tT se_tE⟩
end
end PF
set_option Elab.async false
set_option linter.all false
set_option maxRecDepth 100000
/-! PF: statements. -/
namespace PF
open PySem PySem.Spec PyProof.Rows L2

inductive Out where
  | nx | bk | ct
  /-- return of data; of a new list -/
  | rt (d : D) | rf (xs : List D)
abbrev S := Sl → Option (Out × Sl)
structure StS (T : AS) (ρ : Sl) (σ : L2.St) (H : Hp) (ρ' : Sl) (σ' : L2.St) (H' : Hp) : Prop where
  st : Stay (fun a => T a ∨ Ow ρ σ a) H H'
  dm : ∀ a o, H a = some o → ∃ o', H' a = some o'
  ow : ∀ a, Ow ρ' σ' a → Ow ρ σ a ∨ H a = none
def Post (K : PySem.W.Frag) (T : AS) (F : Fx) (ρ : Sl) (σ : L2.St) (H : Hp) (ρ' : Sl) (o : Out) (E : Ends) : Prop := match o with
  | .nx => ∀ σ' H', Rep K T F ρ' σ' H' → StS T ρ σ H ρ' σ' H' → E.nx σ' H'
  | .bk => ∀ σ' H', Rep K T F ρ' σ' H' → StS T ρ σ H ρ' σ' H' → E.bk σ' H'
  | .ct => ∀ σ' H', Rep K T F ρ' σ' H' → StS T ρ σ H ρ' σ' H' → E.ct σ' H'
  | .rt d => ∀ v σ' H', Rep K T F ρ' σ' H' → StS T ρ σ H ρ' σ' H' → Da K (Av F ρ' σ') H' v d → E.rt v H'
  | .rf xs => ∀ p vs σ' H', Rep K T (F.and p) ρ' σ' H' → StS T ρ σ H ρ' σ' H' → H' p = some (.lst vs) → ¬ F.B p → F.H p = none → DaL K (Av (F.and p) ρ' σ') H' vs xs → E.rt (.ref p) H'
def SS (K : PySem.W.Frag) (T : AS) (t : TS) (g : S) : Prop := ∀ (F : Fx) (ρ : Sl) (σ : L2.St) (H : Hp) (o : Out) (ρ' : Sl), Rep K T F ρ σ H → g ρ = some (o, ρ') → ∀ E : Ends, Post K T F ρ σ H ρ' o E → t E σ H
section
variable {K : PySem.W.Frag} {T : AS} {F : Fx} {σ σ1 σ2 : L2.St} {ρ ρ1 ρ2 ρ' : Sl} {H H1 H2 : Hp} {o : Out} {E E' : Ends}
theorem StS.refl : StS T ρ σ H ρ σ H := ⟨Stay.refl _ _, fun _ o e => ⟨o, e⟩, fun _ h => .inl h⟩
theorem StS.trans (x : StS T ρ σ H ρ1 σ1 H1) (y : StS T ρ1 σ1 H1 ρ2 σ2 H2) : StS T ρ σ H ρ2 σ2 H2 where
  st := fun a o e n => y.st a o (x.st a o e n) fun z => z.elim (fun z => n (.inl z)) fun z => (x.ow a z).elim (fun z => n (.inr z)) fun z => by
    rw [e] at z
    cases z
  dm := fun a o e => (x.dm a o e).elim fun o' e' => y.dm a o' e'
  ow := fun a h => (y.ow a h).elim (fun z => x.ow a z) fun z => .inr (by
    cases q : H a with
    | none => rfl
    | some o =>
      obtain ⟨o', e'⟩ := x.dm a o q
      rw [z] at e'
      cases e')
theorem Stp.s (x : Stp K T F σ ρ H ρ1 H1) : StS T ρ σ H ρ1 σ H1 := ⟨x.st, x.dm, fun a h => .inl (x.sh.ow a h)⟩
theorem StS.asg {is : List Nat} (a : Asg is ρ σ ρ1 σ1) : StS T ρ σ H ρ1 σ1 H := ⟨Stay.refl _ _, fun _ o e => ⟨o, e⟩, fun b h => .inl (a.ow b h)⟩
theorem Post.after (x : StS T ρ σ H ρ1 σ1 H1) (p : Post K T F ρ σ H ρ' o E) : Post K T F ρ1 σ1 H1 ρ' o E := by
  cases o with
  | nx => exact fun σ' H' r s => p σ' H' r (x.trans s)
  | bk => exact fun σ' H' r s => p σ' H' r (x.trans s)
  | ct => exact fun σ' H' r s => p σ' H' r (x.trans s)
  | rt d => exact fun v σ' H' r s => p v σ' H' r (x.trans s)
  | rf xs => exact fun q vs σ' H' r s => p q vs σ' H' r (x.trans s)
/-- a slot that owns a list gets another content; the tables may have grown -/
theorem Rep.upd_own {i : Nat} {xs ys : List D} {p : Addr} {us : List V} (R : Rep K T F ρ σ H) (h : ρ[i]? = some (some (.own xs))) (hp : σ[i]? = some (some (.ref p))) (st : Stay (fun a => T a ∨ a = p) H H1) (tb : ∀ a, T a → TabG H1 a) (hu : H1 p = some (.lst us)) (hd : DaL K (Av F ρ σ) H1 us ys) :
    Rep K T F (ρ.set i (some (.own ys))) σ H1 ∧ Stay (fun a => T a ∨ Ow ρ σ a) H H1 ∧ (∀ a o, H a = some o → ∃ o', H1 a = some o') ∧ Shr ρ (ρ.set i (some (.own ys))) := by
  have hi := lt_of_get h
  obtain ⟨p', vs, h1, h2, h3, h4, h5⟩ := R.own i xs h
  rw [hp] at h1
  cases h1
  have sh : Shr ρ (ρ.set i (some (.own ys))) := fun j zs e => by
    rw [get_set hi] at e
    by_cases q : i = j
    · subst q
      exact ⟨xs, h⟩
    · rw [if_neg q] at e
      exact ⟨zs, e⟩
  have op : Ow ρ σ p := ⟨i, xs, h, hp⟩
  have stA : Stay (Av F ρ σ) H H1 := st.mono fun a z => z.elim (fun z => .inl (R.sub a z)) fun z => .inr (by rw [z]; exact op)
  have dm : ∀ a u, H a = some u → ∃ u', H1 a = some u' := fun a u e => by
    by_cases q : T a
    · obtain ⟨ps, e1, _⟩ := tb a q
      exact ⟨_, e1⟩
    · by_cases q2 : a = p
      · exact ⟨_, by rw [q2]; exact hu⟩
      · exact ⟨u, st a u e fun z => z.elim q q2⟩
  refine ⟨⟨R.sub, tb, fun a h => (R.old a h).elim fun u e => dm a u e, fun a u h n m => ?_, fun a u h => (R.dm a u h).elim fun u' e => dm a u' e, by rw [List.length_set]; exact R.len, fun j d e => ?_, fun j zs e => ?_, fun j k zs ws q e1 e2 e3 e4 => ?_⟩, st.mono fun a z => z.imp id fun z => by rw [z]; exact op, dm, sh⟩
  · by_cases q : a = p
    · subst q
      by_cases i0 : i = 0
      · exact absurd (h4.1 i0) m
      · rw [h4.2 i0] at h
        cases h
    · exact st a u (R.fr a u h n m) fun z => z.elim n q
  · rw [get_set hi] at e
    by_cases q : i = j
    · rw [if_pos q] at e
      cases e
    · rw [if_neg q] at e
      obtain ⟨v, e1, e2⟩ := R.val j d e
      exact ⟨v, e1, (e2.stay stA).weak sh.av⟩
  · rw [get_set hi] at e
    by_cases q : i = j
    · rw [if_pos q] at e
      cases e
      subst q
      exact ⟨p, us, hp, hu, h3, h4, hd.weak sh.av⟩
    · rw [if_neg q] at e
      obtain ⟨r, ws, e1, e2, e3, e4, e5⟩ := R.own j zs e
      exact ⟨r, ws, e1, st r _ e2 (fun z => z.elim (fun z => e3 (R.sub r z)) fun z => q (R.sep i j xs zs p h e hp (by rw [← z]; exact e1))), e3, e4, (e5.stay stA).weak sh.av⟩
  · obtain ⟨ys1, f1⟩ := sh j zs e1
    obtain ⟨ys2, f2⟩ := sh k ws e2
    exact R.sep j k ys1 ys2 q f1 f2 e3 e4
theorem Rep.set_own {i : Nat} {xs ys : List D} {p : Addr} {us : List V} (R : Rep K T F ρ σ H) (h : ρ[i]? = some (some (.own xs))) (hp : σ[i]? = some (some (.ref p))) (hd : DaL K (Av F ρ σ) H us ys) :
    Stp K T F σ ρ H (ρ.set i (some (.own ys))) (upd H p (.lst us)) := by
  obtain ⟨p', vs, h1, h2, h3, h4, h5⟩ := R.own i xs h
  rw [hp] at h1
  cases h1
  have ne : ∀ a, T a → a ≠ p := fun a z w => h3 (by rw [← w]; exact R.sub a z)
  obtain ⟨a, b, c, d⟩ := R.upd_own (H1 := upd H p (.lst us)) (us := us) (ys := ys) h hp (fun a o e n => by rw [upd_ne (fun z => n (.inr z))]; exact e) (fun a z => by
    obtain ⟨ps, e1, e2⟩ := R.tab a z
    exact ⟨ps, by rw [upd_ne (ne a z)]; exact e1, e2⟩) upd_same (hd.stay fun a o e n => by
      rw [upd_ne (fun z => n (.inr (by rw [z]; exact ⟨i, xs, h, hp⟩)))]
      exact e)
  exact ⟨a, b, c, d⟩
/-- a new list is owned by a slot -/
theorem Rep.new_own {i : Nat} {xs : List D} {p : Addr} {us : List V} (sT : ∀ a, T a → F.B a) (R : Rep K T (F.and p) ρ σ H) (hi : i < ρ.length) (h0 : i ≠ 0) (hp : H p = some (.lst us)) (nb : ¬ F.B p) (nh : F.H p = none) (hd : DaL K (Av (F.and p) ρ σ) H us xs) :
    Rep K T F (ρ.set i (some (.own xs))) (σ.set i (some (.ref p))) H ∧ ∀ a, Ow (ρ.set i (some (.own xs))) (σ.set i (some (.ref p))) a → Ow ρ σ a ∨ a = p := by
  have hs : i < σ.length := by rw [← R.len]; exact hi
  have gs : ∀ j : Nat, (σ.set i (some (V.ref p)))[j]? = if i = j then some (some (V.ref p)) else σ[j]? := fun j => by
    rw [List.getElem?_set]
    by_cases e : i = j
    · subst e
      simp [hs]
    · simp [e]
  have ow : ∀ a, Ow (ρ.set i (some (.own xs))) (σ.set i (some (.ref p))) a → Ow ρ σ a ∨ a = p := fun a ⟨j, zs, e1, e2⟩ => by
    rw [get_set hi] at e1
    rw [gs] at e2
    by_cases q : i = j
    · rw [if_pos q] at e2
      cases e2
      exact .inr rfl
    · rw [if_neg q] at e1 e2
      exact .inl ⟨j, zs, e1, e2⟩
  have nown : ∀ (j : Nat) (zs : List D), ρ[j]? = some (some (.own zs)) → σ[j]? ≠ some (some (.ref p)) := fun j zs e1 e2 => by
    obtain ⟨q, ws, e3, _, e5, _⟩ := R.own j zs e1
    rw [e2] at e3
    cases e3
    exact e5 (.inr rfl)
  have av : ∀ a, Av F (ρ.set i (some (.own xs))) (σ.set i (some (.ref p))) a → Av (F.and p) ρ σ a := fun a z => by
    rcases z with z | z
    · exact .inl (.inl z)
    · rcases ow a z with z | z
      · exact .inr z
      · exact .inl (.inr z)
  refine ⟨⟨sT, R.tab, fun a h => R.old a (.inl h), R.fr, R.dm, by rw [List.length_set, List.length_set]; exact R.len, fun j d e => ?_, fun j zs e => ?_, fun j k zs ws q e1 e2 e3 e4 => ?_⟩, ow⟩
  · rw [get_set hi] at e
    rw [gs]
    by_cases q : i = j
    · rw [if_pos q] at e
      cases e
    · rw [if_neg q] at e
      rw [if_neg q]
      obtain ⟨v, e1, e2⟩ := R.val j d e
      exact ⟨v, e1, e2.weak av⟩
  · rw [get_set hi] at e
    rw [gs]
    by_cases q : i = j
    · rw [if_pos q] at e
      cases e
      rw [if_pos q]
      subst q
      exact ⟨p, us, rfl, hp, nb, ⟨fun z => absurd z h0, fun _ => nh⟩, hd.weak av⟩
    · rw [if_neg q] at e
      rw [if_neg q]
      obtain ⟨r, ws, e1, e2, e3, e4, e5⟩ := R.own j zs e
      exact ⟨r, ws, e1, e2, fun z => e3 (.inl z), e4, e5.weak av⟩
  · rw [get_set hi] at e1 e2
    rw [gs] at e3 e4
    by_cases q1 : i = j
    · by_cases q2 : i = k
      · exact q1.symm.trans q2
      · rw [if_pos q1] at e3
        cases e3
        rw [if_neg q2] at e2 e4
        exact absurd e4 (nown k ws e2)
    · rw [if_neg q1] at e1 e3
      by_cases q2 : i = k
      · rw [if_pos q2] at e4
        cases e4
        exact absurd e3 (nown j zs e1)
      · rw [if_neg q2] at e2 e4
        exact R.sep j k zs ws q e1 e2 e3 e4

/-! ### the statements -/
def sNx : S := fun ρ => some (.nx, ρ)
def sBk : S := fun ρ => some (.bk, ρ)
def sCt : S := fun ρ => some (.ct, ρ)
def sSeq (a b : S) : S := fun ρ => match a ρ with
  | some (.nx, ρ1) => b ρ1
  | r => r
def sAsg (f : M D) (ga : D → Sl → Option Sl) : S := fun ρ => match f ρ with
  | some (d, ρ1) => (ga d ρ1).map fun ρ2 => (.nx, ρ2)
  | none => none
def sOwn (i : Nat) (f : M (List D)) : S := fun ρ => match f ρ with
  | some (xs, ρ1) => if i < ρ1.length ∧ i ≠ 0 then some (.nx, ρ1.set i (some (.own xs))) else none
  | none => none
def sRet (f : M D) : S := fun ρ => match f ρ with
  | some (d, ρ1) => some (.rt d, ρ1)
  | none => none
def sRetF (f : M (List D)) : S := fun ρ => match f ρ with
  | some (d, ρ1) => some (.rf d, ρ1)
  | none => none
def sIf (ft : M Bool) (a b : S) : S := fun ρ => match ft ρ with
  | some (c, ρ1) => if c = true then a ρ1 else b ρ1
  | none => none
def sDrop (f : M D) : S := fun ρ => match f ρ with
  | some (_, ρ1) => some (.nx, ρ1)
  | none => none
theorem ss_nx : SS K T tNext sNx := fun F ρ σ H o ρ' R e E p => by
  cases e
  exact p σ H R StS.refl
theorem ss_bk : SS K T tBreak sBk := fun F ρ σ H o ρ' R e E p => by
  cases e
  exact p σ H R StS.refl
theorem ss_ct : SS K T tCont sCt := fun F ρ σ H o ρ' R e E p => by
  cases e
  exact p σ H R StS.refl
theorem ss_seq {t u : TS} {a b : S} (h1 : SS K T t a) (h2 : SS K T u b) : SS K T (tSeq t u) (sSeq a b) := fun F ρ σ H o ρ' R e E p => by
  unfold sSeq at e
  split at e
  · rename_i ρ1 e1
    refine h1 F ρ σ H .nx ρ1 R e1 _ fun σ1 H1 R1 s1 => ?_
    exact h2 F ρ1 σ1 H1 o ρ' R1 e E (p.after s1)
  · rename_i ne
    refine h1 F ρ σ H o ρ' R e _ ?_
    cases o with
    | nx => exact absurd e (by rw [e] at ne; exact fun _ => ne _ rfl)
    | bk => exact p
    | ct => exact p
    | rt d => exact p
    | rf xs => exact p
theorem ss_asg {te : TE} {g : TG} {f : M D} {is : List Nat} {ga : D → Sl → Option Sl} (h : SE K T te f) (hg : SG K T g is ga) : SS K T (tAsg te g) (sAsg f ga) := fun F ρ σ H o ρ' R e E p => by
  unfold sAsg at e
  split at e
  · rename_i d ρ1 e1
    obtain ⟨ρ2, e2, e3⟩ := Option.map_eq_some_iff.mp e
    cases e3
    refine h F ρ σ H d ρ1 R e1 _ fun v H1 s1 d1 => ?_
    exact hg F ρ1 σ H1 v d ρ' s1.rep d1 e2 _ fun σ2 R2 as => p σ2 H1 R2 (s1.s.trans (StS.asg as))
  · cases e
theorem ss_own {te : TE} {i : Nat} {f : M (List D)} (h : SF K T te f) : SS K T (tAsg te (gName i)) (sOwn i f) := fun F ρ σ H o ρ' R e E p => by
  unfold sOwn at e
  split at e
  · rename_i d ρ1 e1
    split at e
    · rename_i hi
      cases e
      refine h F ρ σ H d ρ1 R e1 _ fun q vs H1 n => ?_
      obtain ⟨R2, ow⟩ := n.rep.new_own R.sub hi.1 hi.2 n.at_ n.nb n.nh n.da
      refine p _ H1 R2 ⟨n.st, n.dm, fun a z => ?_⟩
      rcases ow a z with z | z
      · exact .inl (n.sh.ow a z)
      · exact .inr (by rw [z]; exact n.new)
    · cases e
  · cases e
theorem ss_ret {te : TE} {f : M D} (h : SE K T te f) : SS K T (tRet te) (sRet f) := fun F ρ σ H o ρ' R e E p => by
  unfold sRet at e
  split at e
  · rename_i d ρ1 e1
    cases e
    exact h F ρ σ H d ρ' R e1 _ fun v H1 s1 d1 => p v σ H1 s1.rep s1.s d1
  · cases e
theorem ss_retF {te : TE} {f : M (List D)} (h : SF K T te f) : SS K T (tRet te) (sRetF f) := fun F ρ σ H o ρ' R e E p => by
  unfold sRetF at e
  split at e
  · rename_i d ρ1 e1
    cases e
    exact h F ρ σ H d ρ' R e1 _ fun q vs H1 n => p q vs σ H1 n.rep (n.stp R).s n.at_ n.nb n.nh n.da
  · cases e
theorem ss_if {tc : TT} {t u : TS} {ft : M Bool} {a b : S} (h : ST K T tc ft) (h1 : SS K T t a) (h2 : SS K T u b) : SS K T (tIfS tc t u) (sIf ft a b) := fun F ρ σ H o ρ' R e E p => by
  unfold sIf at e
  split at e
  · rename_i c ρ1 e1
    refine h F ρ σ H c ρ1 R e1 _ fun H1 s1 => ?_
    cases c with
    | true => exact h1 F ρ1 σ H1 o ρ' s1.rep e E (p.after s1.s)
    | false => exact h2 F ρ1 σ H1 o ρ' s1.rep e E (p.after s1.s)
  · cases e
theorem ss_drop {te : TE} {f : M D} (h : SE K T te f) : SS K T (tDrop te) (sDrop f) := fun F ρ σ H o ρ' R e E p => by
  unfold sDrop at e
  split at e
  · rename_i d ρ1 e1
    cases e
    exact h F ρ σ H d ρ' R e1 _ fun v H1 s1 d1 => p σ H1 s1.rep s1.s
  · cases e

/-! ### loops -/
def runFor (ga : D → Sl → Option Sl) (gb : S) : List D → S
  | [] => sNx
  | d :: ds => fun ρ => match ga d ρ with
    | none => none
    | some ρ1 => match gb ρ1 with
      | some (.nx, ρ2) => runFor ga gb ds ρ2
      | some (.ct, ρ2) => runFor ga gb ds ρ2
      | some (.bk, ρ2) => some (.nx, ρ2)
      | r => r
def sFor (fi : M (List D)) (ga : D → Sl → Option Sl) (gb : S) : S := fun ρ => match fi ρ with
  | some (ds, ρ1) => runFor ga gb ds ρ1
  | none => none
def sWhile (ft : M Bool) (gb : S) : Nat → S
  | 0 => fun _ => none
  | n + 1 => fun ρ => match ft ρ with
    | none => none
    | some (false, ρ1) => some (.nx, ρ1)
    | some (true, ρ1) => match gb ρ1 with
      | some (.nx, ρ2) => sWhile ft gb n ρ2
      | some (.ct, ρ2) => sWhile ft gb n ρ2
      | some (.bk, ρ2) => some (.nx, ρ2)
      | r => r
theorem ss_for {wi : TI} {g : TG} {tb : TS} {is : List Nat} {fi : M (List D)} {ga : D → Sl → Option Sl} {gb : S} (hi : SI K T wi fi) (hg : SG K T g is ga) (hb : SS K T tb gb) : SS K T (tFor wi g tb) (sFor fi ga gb) := fun F ρ σ H o ρ' R e E p => by
  unfold sFor at e
  split at e
  · rename_i ds ρ1 e1
    refine hi F ρ σ H ds ρ1 R e1 _ fun J H1 s1 hJ => ?_
    refine ⟨fun i m σ2 H2 => m = ds.length - i ∧ i ≤ ds.length ∧ ∃ ρi, Rep K T F ρi σ2 H2 ∧ StS T ρ1 σ H1 ρi σ2 H2 ∧ runFor ga gb (ds.drop i) ρi = some (o, ρ'), ⟨ds.length, by simp, Nat.zero_le _, ρ1, s1.rep, StS.refl, by simpa using e⟩, ?_⟩
    rintro i m σ2 H2 ⟨rfl, hi', ρi, R2, s2, er⟩
    have av1 : ∀ a, Av F ρi σ2 a → Av F ρ1 σ a ∨ H1 a = none := fun a z => by
      rcases z with z | z
      · exact .inl (.inl z)
      · exact (s2.ow a z).imp .inr id
    obtain ⟨hgo, hst⟩ := hJ _ H2 (s2.st.mono s1.rep.tow) av1 R2.alive
    by_cases hlt : i < ds.length
    · obtain ⟨go, yl⟩ := hgo i ds[i] (List.getElem?_eq_getElem hlt)
      rw [List.drop_eq_getElem_cons hlt] at er
      unfold runFor at er
      refine .inr ⟨go, fun σ3 H3 => i + 1 ≤ ds.length ∧ ∃ ρi, Rep K T F ρi σ3 H3 ∧ StS T ρ1 σ H1 ρi σ3 H3 ∧ runFor ga gb (ds.drop (i + 1)) ρi = some (o, ρ'), fun σ3 H3 h3 => ⟨ds.length - (i + 1), by omega, rfl, h3⟩, fun x H3 hy => ?_⟩
      obtain ⟨ex3, dx⟩ := yl x H3 hy
      split at er
      · cases er
      · rename_i ρ2 e3
        refine hg F ρi σ2 H3 x ds[i] ρ2 (R2.ext ex3) dx e3 _ fun σ3 R4 as => ?_
        have s3 : StS T ρ1 σ H1 ρ2 σ3 H3 := s2.trans ((⟨ex3.stay, fun a u z => ⟨u, ex3 a u z⟩, fun a z => .inl z⟩ : StS T ρi σ2 H2 ρi σ2 H3).trans (StS.asg as))
        split at er
        · rename_i ρ3 e4
          exact hb F ρ2 σ3 H3 .nx ρ3 R4 e4 _ fun σ4 H4 R5 s4 => ⟨hlt, ρ3, R5, s3.trans s4, er⟩
        · rename_i ρ3 e4
          exact hb F ρ2 σ3 H3 .ct ρ3 R4 e4 _ fun σ4 H4 R5 s4 => ⟨hlt, ρ3, R5, s3.trans s4, er⟩
        · rename_i ρ3 e4
          cases er
          refine hb F ρ2 σ3 H3 .bk ρ' R4 e4 _ ?_
          exact fun σ4 H4 R5 s4 => p σ4 H4 R5 ((s1.s.trans s3).trans s4)
        · rename_i n1 n2 n3
          refine hb F ρ2 σ3 H3 o ρ' R4 er _ ?_
          have p' := p.after (s1.s.trans s3)
          cases o with
          | nx => exact absurd er (n1 _)
          | bk => exact absurd er (n3 _)
          | ct => exact absurd er (n2 _)
          | rt d => exact p'
          | rf xs => exact p'
    · have ei : i = ds.length := by omega
      subst ei
      rw [List.drop_length] at er
      cases er
      exact .inl ⟨hst _ (Nat.le_refl _), p σ2 H2 R2 (s1.s.trans s2)⟩
  · cases e
theorem ss_while {tc : TT} {tb : TS} {ft : M Bool} {gb : S} {n : Nat} (h : ST K T tc ft) (hb : SS K T tb gb) : SS K T (tWhile tc tb) (sWhile ft gb n) := fun F ρ σ H o ρ' R e E p => by
  refine ⟨fun m σ2 H2 => ∃ ρi, Rep K T F ρi σ2 H2 ∧ StS T ρ σ H ρi σ2 H2 ∧ sWhile ft gb m ρi = some (o, ρ'), ⟨n, ρ, R, StS.refl, e⟩, ?_⟩
  rintro m σ2 H2 ⟨ρi, R2, s2, er⟩
  cases m with
  | zero => cases er
  | succ m =>
    unfold sWhile at er
    split at er
    · cases er
    · rename_i ρ1 e1
      cases er
      refine h F ρi σ2 H2 false ρ' R2 e1 _ fun H3 s3 => ?_
      rw [if_neg Bool.false_ne_true]
      exact p σ2 H3 s3.rep (s2.trans s3.s)
    · rename_i ρ1 e1
      refine h F ρi σ2 H2 true ρ1 R2 e1 _ fun H3 s3 => ?_
      rw [if_pos rfl]
      refine ⟨fun σ4 H4 => ∃ ρi, Rep K T F ρi σ4 H4 ∧ StS T ρ σ H ρi σ4 H4 ∧ sWhile ft gb m ρi = some (o, ρ'), fun σ4 H4 h4 => ⟨m, Nat.lt_succ_self _, h4⟩, ?_⟩
      have s4 := s2.trans s3.s
      split at er
      · rename_i ρ3 e4
        exact hb F ρ1 σ2 H3 .nx ρ3 s3.rep e4 _ fun σ5 H5 R5 s5 => ⟨ρ3, R5, s4.trans s5, er⟩
      · rename_i ρ3 e4
        exact hb F ρ1 σ2 H3 .ct ρ3 s3.rep e4 _ fun σ5 H5 R5 s5 => ⟨ρ3, R5, s4.trans s5, er⟩
      · rename_i ρ3 e4
        cases er
        refine hb F ρ1 σ2 H3 .bk ρ' s3.rep e4 _ ?_
        exact fun σ5 H5 R5 s5 => p σ5 H5 R5 (s4.trans s5)
      · rename_i n1 n2 n3
        refine hb F ρ1 σ2 H3 o ρ' s3.rep er _ ?_
        have p' := p.after s4
        cases o with
        | nx => exact absurd er (n1 _)
        | bk => exact absurd er (n3 _)
        | ct => exact absurd er (n2 _)
        | rt d => exact p'
        | rf xs => exact p'
end
end PF
set_option Elab.async false
set_option linter.all false
set_option maxRecDepth 100000
/-! PF: changes of owned lists, defs and their calls. -/
namespace PF
open PySem PySem.Spec PyProof.Rows L2

/-! ### statements of the text -/
structure DS (X : Cx) (T : AS) (st : Stmt) (g : S) : Prop where
  ex : ∃ t, PS X st t ∧ SS X.K T t g
structure DSs (X : Cx) (T : AS) (st : List Stmt) (g : S) : Prop where
  ex : ∃ t, PSs X st t ∧ SS X.K T t g
section
variable {X : Cx} {T : AS} {a b c x_e : Expr} {st : Stmt} {rest body orelse : List Stmt} {f fa fb : M D} {fs : M (List D)} {ft : M Bool} {g u : S} {pos pos' p : Pos}
theorem s_nil : DSs X T [] sNx := ⟨_, pss_nil, ss_nx⟩
theorem s_cons (h : DS X T st g) (k : DSs X T rest u) : DSs X T (st :: rest) (sSeq g u) := let ⟨_, h1, h2⟩ := h.ex; let ⟨_, k1, k2⟩ := k.ex; ⟨_, pss_cons h1 k1, ss_seq h2 k2⟩
theorem s_pass : DS X T (.Pass pos) sNx := ⟨_, ps_pass, ss_nx⟩
theorem s_break : DS X T (.Break pos) sBk := ⟨_, ps_break, ss_bk⟩
theorem s_cont : DS X T (.Continue pos) sCt := ⟨_, ps_continue, ss_ct⟩
theorem s_set (i : Nat) {x : Str} (hN : X.N.Nodup) (he : DE X T x_e f) (hi : X.N[i]? = some x := by rfl) (hx : Loc X.env.scope x := by first | exact .inl rfl | exact .inr rfl) (hs : swapsWith x_e (some (.Name x pos')) pos.line X.env = pure false := by rfl)
    (hf : X.fn x = true ∨ X.env.scope.names.lookup x = some .local := by first | exact .inl rfl | exact .inr rfl) : DS X T (.Assign [.Name x pos'] x_e pos) (sAsg f (gaN i)) := let ⟨_, h1, h2⟩ := he.ex; ⟨_, ps_set hN hi hx h1 hs hf, ss_asg h2 (sg_name i)⟩
/-- the name owns the new list -/
theorem s_own (i : Nat) {x : Str} (hN : X.N.Nodup) (he : DF X T x_e fs) (hi : X.N[i]? = some x := by rfl) (hx : Loc X.env.scope x := by first | exact .inl rfl | exact .inr rfl) (hs : swapsWith x_e (some (.Name x pos')) pos.line X.env = pure false := by rfl)
    (hf : X.fn x = true ∨ X.env.scope.names.lookup x = some .local := by first | exact .inl rfl | exact .inr rfl) : DS X T (.Assign [.Name x pos'] x_e pos) (sOwn i fs) := let ⟨_, h1, h2⟩ := he.ex; ⟨_, ps_set hN hi hx h1 hs hf, ss_own h2⟩
theorem s_asg {tg : Expr} {is : List Nat} {ga : D → Sl → Option Sl} (he : DE X T x_e f) (hg : DG X T tg is ga) (hs : swapsWithSole [tg] x_e pos.line X.env = pure false := by rfl) (hw : swappedStores [tg] x_e X.env = pure none := by rfl)
    (h1 : (assignEach [tg] X.env).map (·.2) = [assign tg X.env] := by rfl) : DS X T (.Assign [tg] x_e pos) (sAsg f ga) := let ⟨_, a1, a2⟩ := he.ex; let ⟨_, g1, g2⟩ := hg.ex; ⟨_, ps_asg a1 g1 hs hw h1, ss_asg a2 g2⟩
theorem s_ret (h : DE X T x_e f) : DS X T (.Return (some x_e) pos) (sRet f) := let ⟨_, h1, h2⟩ := h.ex; ⟨_, ps_ret h1, ss_ret h2⟩
theorem s_retF (h : DF X T x_e fs) : DS X T (.Return (some x_e) pos) (sRetF fs) := let ⟨_, h1, h2⟩ := h.ex; ⟨_, ps_ret h1, ss_retF h2⟩
theorem s_retN : DS X T (.Return none pos) (sRet (fC .none)) := ⟨_, ps_retN, fun F ρ σ H o ρ' R e E q => by
  cases e
  exact q _ σ H R StS.refl .non⟩
theorem s_expr (h : DE X T x_e f) (hs : swapsWith x_e none pos.line X.env = pure false := by rfl) : DS X T (.Expr x_e pos) (sDrop f) := let ⟨_, h1, h2⟩ := h.ex; ⟨_, ps_expr h1 hs, ss_drop h2⟩
theorem s_doc {x : Str} {j : Nat} : DS X T (.Expr (.Constant (.str x) j pos) pos') sNx := ⟨_, ps_doc, ss_nx⟩
theorem s_if (h : DT X T c ft) (h1 : DSs X T body g) (h2 : DSs X T orelse u) : DS X T (.If c body orelse pos) (sIf ft g u) := let ⟨_, a1, a2⟩ := h.ex; let ⟨_, b1, b2⟩ := h1.ex; let ⟨_, c1, c2⟩ := h2.ex; ⟨_, ps_if a1 b1 c1, ss_if a2 b2 c2⟩
theorem s_for {tg iter : Expr} {is : List Nat} {ga : D → Sl → Option Sl} {fi : M (List D)} (hp : PassesOwn (model X.prog X.w) X.A X.env X.xe) (hc : X.calm = true) (hi : DI X T tg iter fi) (hg : DG X T tg is ga) (hb : DSs X T body g)
    (hs : ∀ x, foldedSetIterable iter X.env x = pure x := by intro _; rfl) : DS X T (.For tg iter body [] pos) (sFor fi ga g) := let ⟨_, i1, i2⟩ := hi.ex; let ⟨_, g1, g2⟩ := hg.ex; let ⟨_, b1, b2⟩ := hb.ex; ⟨_, ps_for hp hc i1 g1 b1 hs, ss_for i2 g2 b2⟩
theorem s_while (n : Nat) (hp : PassesOwn (model X.prog X.w) X.A X.env X.xe) (h : DT X T c ft) (hb : DSs X T body g) : DS X T (.While c body [] pos) (sWhile ft g n) := let ⟨_, a1, a2⟩ := h.ex; let ⟨_, b1, b2⟩ := hb.ex; ⟨_, ps_while hp a1 b1, ss_while a2 b2⟩
/-- a, b = x, y with plain local names -/
def sPar (i j : Nat) (fs : M (List D)) : S := fun ρ => match fs ρ with
  | some ([x, y], ρ1) => ((gaN i x ρ1).bind fun ρ2 => gaN j y ρ2).map fun ρ3 => (.nx, ρ3)
  | _ => none
theorem s_par {i j : Nat} {x y : Str} {px py pt : Pos} {kt k2 : Nat} {pt2 : Pos} (hc : X.calm = true) (hN : X.N.Nodup) (ha : DA X T [a, b] fs) (hi : X.N[i]? = some x := by rfl) (hj : X.N[j]? = some y := by rfl) (hij : i ≠ j := by decide)
    (hx : X.env.scope.names.lookup x = some .local := by rfl) (hy : X.env.scope.names.lookup y = some .local := by rfl)
    (hw : swappedStores [.Tuple [.Name x px, .Name y py] kt pt] (.Tuple [a, b] k2 pt2) X.env = pure (some [x, y]) := by rfl)
    (hs : swapsWithSole [.Tuple [.Name x px, .Name y py] kt pt] (.Tuple [a, b] k2 pt2) pos.line X.env = pure false := by rfl) :
    DS X T (.Assign [.Tuple [.Name x px, .Name y py] kt pt] (.Tuple [a, b] k2 pt2) pos) (sPar i j fs) := by
  obtain ⟨t, a1, a2⟩ := ha.ex
  refine ⟨_, ps_par hc hN hi hj hij hx hy a1 hw hs, fun F ρ σ H o ρ' R e E q => ?_⟩
  unfold sPar at e
  split at e
  · rename_i x y ρ1 e1
    obtain ⟨ρ3, e2, e3⟩ := Option.map_eq_some_iff.mp e
    cases e3
    obtain ⟨ρ2, e4, e5⟩ := Option.bind_eq_some_iff.mp e2
    refine a2 F ρ σ H _ ρ1 R e1 _ fun vs H1 s1 d1 => ?_
    cases d1 with
    | cons dx dr =>
      cases dr with
      | cons dy dn =>
        cases dn
        refine ⟨_, _, rfl, ?_⟩
        refine sg_name (K := X.K) (T := T) i F ρ1 σ H1 _ x ρ2 s1.rep dx e4 (fun σ' H' => E.nx (σ'.set j (some _)) H') fun σ2 R2 as2 => ?_
        refine sg_name (K := X.K) (T := T) j F ρ2 σ2 H1 _ y ρ' R2 (dy.weak fun a z => z.imp id (as2.ow a)) e5 (fun σ' H' => E.nx σ' H') fun σ3 R3 as3 => ?_
        exact q σ3 H1 R3 (s1.s.trans ((StS.asg as2).trans (StS.asg as3)))
  · cases e
/-- name op= e -/
def sAug (i : Nat) (o : D → D → Option D) (f : M D) : S := fun ρ => match ρ[i]? with
  | some (some (.val d0)) => match f ρ with
    | some (d, ρ1) => (o d0 d).bind fun z => (gaN i z ρ1).map fun ρ2 => (.nx, ρ2)
    | none => none
  | _ => none

/-! ### an owned list is changed by a method -/
/-- what a method makes of the list's data -/
def MutD (K : PySem.W.Frag) (r : V → List V → Hp → VK → Prop) (op : List D → List D → Option (List D)) : Prop := ∀ (B : AS) (H : Hp) (p : Addr) (us : List V) (xs : List D) (as : List V) (ds ys : List D), H p = some (.lst us) → DaL K B H us xs → DaL K B H as ds → B p → op xs ds = some ys →
  ∀ Q : VK, (∀ vs, DaL K B H vs ys → Q .non (upd H p (.lst vs))) → r (.ref p) as H Q
def isOwn (ρ : Sl) (i : Nat) : Bool := match ρ[i]? with
  | some (some (.own _)) => true
  | _ => false
theorem isOwn_some {ρ : Sl} {i : Nat} (h : isOwn ρ i = true) : ∃ xs, ρ[i]? = some (some (.own xs)) := by
  unfold isOwn at h
  split at h
  · rename_i xs e
    exact ⟨xs, e⟩
  · cases h
def fMut (op : List D → List D → Option (List D)) (i : Nat) (fs : M (List D)) : M D := fun ρ => if isOwn ρ i = true then (match fs ρ with
  | some (ds, ρ1) => (match ρ1[i]? with
    | some (some (.own xs)) => (op xs ds).map fun ys => (.none, ρ1.set i (some (.own ys)))
    | _ => none)
  | none => none) else none
theorem e_mut {id : String} {name : Str} {r : V → List V → Hp → VK → Prop} {op : List D → List D → Option (List D)} {es : List Expr} {ap p1 : Pos} (i : Nat) {x : Str} (slot : Slot "list" name id) (hty : typeOf (.builtin id) = pure (.type "method_descriptor")) (hm : MtR X id r) (hop : MutD X.K r op)
    (ha : DA X T (x_e :: es) fs) (hN : X.N[i]? = some x := by rfl) (hv : Vis X.env.scope x := by first | exact Or.inl rfl | exact Or.inr (Or.inl rfl) | exact Or.inr (Or.inr rfl)) (hd : (x == ("__debug__" : Str)) = false := by decide)
    (hcd : (x == ("__classdict__" : Str)) = false := by decide) (hbase : attributeBase (.Name x p1) name X.env (eval (.Name x p1) X.env) = eval (.Name x p1) X.env := by rfl)
    (hfew : ((backTo pos (starEach (x_e :: es) X.env)).all (fun x => !x.1) && (backToKw pos (keywordEach [] X.env)).all (fun x => x.1.isSome)
      && decide ((x_e :: es).length + ([] : List Keyword).length + (if ([] : List Keyword).isEmpty then 0 else 1) < 30)) = true := by rfl)
    (hline : (ap.endLine == pos.line) = true := by rfl) (hs : starEach (x_e :: es) X.env = (false, eval x_e X.env) :: starEach es X.env := by rfl) (hplain : (backTo pos (starEach es X.env)).any (·.1) = false := by rfl) :
    DE X T (.Call (.Attribute (.Name x p1) name ap) (x_e :: es) [] pos) (fMut op i fs) := by
  obtain ⟨t, a1, a2⟩ := ha.ex
  refine ⟨_, pe_bm PySem.F.plainAttrs_list slot hty hm (pe_var hN hv hd hcd) a1 hbase hfew hline hs hplain, fun F ρ σ H d ρ' R e Q q => ?_⟩
  unfold fMut at e
  split at e
  · rename_i h0
    obtain ⟨zs, hz⟩ := isOwn_some h0
    obtain ⟨p, us0, hv0, hp0, _⟩ := R.own i zs hz
    split at e
    · rename_i ds ρ1 e1
      split at e
      · rename_i xs e2
        obtain ⟨ys, e3, e4⟩ := Option.map_eq_some_iff.mp e
        cases e4
        refine ⟨_, hv0, ?_⟩
        have ty : tyV X.K "list" (.ref p) H := .inl ⟨rfl, us0, .inl (.inl hp0)⟩
        refine ⟨ty, a2 F ρ σ H ds ρ1 R e1 _ fun vs H1 s1 d1 => ?_⟩
        obtain ⟨p, us, h1, h2, h3, h4, h5⟩ := s1.rep.own i xs e2
        rw [hv0] at h1
        cases h1
        refine hop (Av F ρ1 σ) H1 p us xs vs ds ys h2 h5 d1 (.inr ⟨i, xs, e2, hv0⟩) e3 _ fun ws dw => ?_
        exact q .non _ (s1.trans (s1.rep.set_own e2 hv0 dw)) .non
      · cases e
    · cases e
  · cases e
def mAppend : List D → List D → Option (List D)
  | xs, [d] => if xs.length < sizeLine then some (xs ++ [d]) else none
  | _, _ => none
theorem m_append {K : PySem.W.Frag} : MutD K rAppend mAppend := fun B H p us xs as ds ys hp hu ha hB e Q q => by
  unfold mAppend at e
  split at e
  · split at e
    · rename_i hz
      cases e
      cases ha with
      | cons h1 h2 =>
        cases h2
        exact ⟨p, us, _, rfl, rfl, hp, by rw [hu.length]; exact hz, q _ (hu.append (.cons h1 .nil))⟩
    · cases e
  · cases e
def mInsert : List D → List D → Option (List D)
  | xs, [.int i, d] => if xs.length < sizeLine ∧ 0 ≤ i ∧ i < 2 ^ 63 then some (xs.take i.toNat ++ [d] ++ xs.drop i.toNat) else none
  | _, _ => none
def rInsert : V → List V → Hp → VK → Prop := fun x vs H Q => ∃ (l : Addr) (xs : List V) (i : Int) (y : V), x = .ref l ∧ vs = [.int i, y] ∧ H l = some (.lst xs) ∧ xs.length < sizeLine ∧ 0 ≤ i ∧ i < 2 ^ 63 ∧
    Q .non (upd H l (.lst (xs.take i.toNat ++ [y] ++ xs.drop i.toNat)))
theorem m_insert {K : PySem.W.Frag} : MutD K rInsert mInsert := fun B H p us xs as ds ys hp hu ha hB e Q q => by
  unfold mInsert at e
  split at e
  · split at e
    · rename_i hz
      cases e
      cases ha with
      | cons h1 h2 =>
        cases h1
        cases h2 with
        | cons h3 h4 =>
          cases h4
          exact ⟨p, us, _, _, rfl, rfl, hp, by rw [hu.length]; exact hz.1, hz.2.1, hz.2.2, q _ (((hu.take _).append (.cons h3 .nil)).append (hu.drop _))⟩
    · cases e
  · cases e
def mExtend : List D → List D → Option (List D)
  | xs, [.list zs] => if xs.length + zs.length ≤ sizeLine then some (xs ++ zs) else none
  | _, _ => none
theorem m_extend {K : PySem.W.Frag} : MutD K rExtend mExtend := fun B H p us xs as ds ys hp hu ha hB e Q q => by
  unfold mExtend at e
  split at e
  · split at e
    · rename_i hz
      cases e
      cases ha with
      | cons h1 h2 =>
        cases h2
        cases h1 with
        | lst n hs hl =>
          exact ⟨p, _, us, _, rfl, rfl, hp, hs, by rw [hu.length, hl.length]; exact hz, q _ (hu.append hl)⟩
    · cases e
  · cases e
/-- x.append(e), x.insert(i, e), x.extend(e) -/
theorem e_append {ap p1 : Pos} (i : Nat) {x : Str} (ha : DA X T [x_e] fs) (hN : X.N[i]? = some x := by rfl) (hv : Vis X.env.scope x := by first | exact Or.inl rfl | exact Or.inr (Or.inl rfl) | exact Or.inr (Or.inr rfl)) (hd : (x == ("__debug__" : Str)) = false := by decide)
    (hcd : (x == ("__classdict__" : Str)) = false := by decide) (hline : (ap.endLine == pos.line) = true := by rfl) (hs : starEach (x_e :: []) X.env = (false, eval x_e X.env) :: starEach [] X.env := by rfl) :
    DE X T (.Call (.Attribute (.Name x p1) "append" ap) [x_e] [] pos) (fMut mAppend i fs) := e_mut i PySem.F.slot_list_append PySem.F.type_list_append mt_append m_append ha hN hv hd hcd rfl (by rw [hs]; rfl) hline hs rfl
theorem e_extend {ap p1 : Pos} (i : Nat) {x : Str} (ha : DA X T [x_e] fs) (hN : X.N[i]? = some x := by rfl) (hv : Vis X.env.scope x := by first | exact Or.inl rfl | exact Or.inr (Or.inl rfl) | exact Or.inr (Or.inr rfl)) (hd : (x == ("__debug__" : Str)) = false := by decide)
    (hcd : (x == ("__classdict__" : Str)) = false := by decide) (hline : (ap.endLine == pos.line) = true := by rfl) (hs : starEach (x_e :: []) X.env = (false, eval x_e X.env) :: starEach [] X.env := by rfl) :
    DE X T (.Call (.Attribute (.Name x p1) "extend" ap) [x_e] [] pos) (fMut mExtend i fs) := e_mut i PySem.F.slot_list_extend PySem.F.type_list_extend mt_extend m_extend ha hN hv hd hcd rfl (by rw [hs]; rfl) hline hs rfl
theorem e_insert {ap p1 : Pos} (i : Nat) {x : Str} (ha : DA X T [a, x_e] fs) (hN : X.N[i]? = some x := by rfl) (hv : Vis X.env.scope x := by first | exact Or.inl rfl | exact Or.inr (Or.inl rfl) | exact Or.inr (Or.inr rfl)) (hd : (x == ("__debug__" : Str)) = false := by decide)
    (hcd : (x == ("__classdict__" : Str)) = false := by decide) (hline : (ap.endLine == pos.line) = true := by rfl) (hs : starEach (a :: [x_e]) X.env = (false, eval a X.env) :: starEach [x_e] X.env := by rfl) (hs2 : starEach (x_e :: []) X.env = (false, eval x_e X.env) :: starEach [] X.env := by rfl) :
    DE X T (.Call (.Attribute (.Name x p1) "insert" ap) [a, x_e] [] pos) (fMut mInsert i fs) := e_mut i PySem.F.slot_list_insert PySem.F.type_list_insert mt_insert m_insert ha hN hv hd hcd rfl (by rw [hs, hs2]; rfl) hline hs (by rw [hs2]; rfl)
/-- x.pop() -/
def fPop (i : Nat) : M D := fun ρ => match ρ[i]? with
  | some (some (.own xs)) => (xs[xs.length - 1]?).map fun d => (d, ρ.set i (some (.own xs.dropLast)))
  | _ => none
theorem e_pop {ap p1 : Pos} (i : Nat) {x : Str} (hN : X.N[i]? = some x := by rfl) (hv : Vis X.env.scope x := by first | exact Or.inl rfl | exact Or.inr (Or.inl rfl) | exact Or.inr (Or.inr rfl)) (hd : (x == ("__debug__" : Str)) = false := by decide)
    (hcd : (x == ("__classdict__" : Str)) = false := by decide) (hline : (ap.endLine == pos.line) = true := by rfl) : DE X T (.Call (.Attribute (.Name x p1) "pop" ap) [] [] pos) (fPop i) := by
  refine ⟨_, pe_bm0 PySem.F.plainAttrs_list PySem.F.slot_list_pop PySem.F.type_list_pop mt_pop (pe_var hN hv hd hcd) rfl hline, fun F ρ σ H d ρ' R e Q q => ?_⟩
  unfold fPop at e
  split at e
  · rename_i xs e2
    obtain ⟨y, e3, e4⟩ := Option.map_eq_some_iff.mp e
    cases e4
    obtain ⟨p, us, h1, h2, h3, h4, h5⟩ := R.own i xs e2
    refine ⟨_, h1, .inl ⟨rfl, us, .inl (.inl h2)⟩, ?_⟩
    obtain ⟨v, e5, dv⟩ := h5.get e3
    have s := R.set_own e2 h1 h5.dropLast
    refine ⟨p, us, v, rfl, rfl, h2, by rw [h5.length]; exact e5, q v _ s ?_⟩
    exact s.da R dv
  · cases e
/-- x[k] = e -/
def sSet (i : Nat) (f fk : M D) : S := fun ρ => if hasS ρ i = true then (match f ρ with
  | some (d, ρ1) => (match fk ρ1 with
    | some (.int k, ρ2) => (match ρ2[i]? with
      | some (some (.own xs)) => (ixN xs.length k).map fun j => (.nx, ρ2.set i (some (.own (xs.set j d))))
      | _ => none)
    | _ => none)
  | none => none) else none
theorem s_setItem {p1 sp : Pos} (i : Nat) {x : Str} {fk : M D} (he : DE X T x_e f) (hk : DE X T b fk) (hN : X.N[i]? = some x := by rfl) (hv : Vis X.env.scope x := by first | exact Or.inl rfl | exact Or.inr (Or.inl rfl) | exact Or.inr (Or.inr rfl)) (hd : (x == ("__debug__" : Str)) = false := by decide)
    (hcd : (x == ("__classdict__" : Str)) = false := by decide) (ha : ∀ v, assign (.Subscript (.Name x p1) b sp) X.env v = (do
      let ov ← holding [v] (eval (.Name x p1) X.env)
      let iv ← holding [v, ov] (eval b X.env)
      standAt sp
      holding [v, ov, iv] (setItem ov iv v)
      release [v, ov, iv] []) := by intro _; rfl)
    (hs : swapsWithSole [.Subscript (.Name x p1) b sp] x_e pos.line X.env = pure false := by rfl) (hw : swappedStores [.Subscript (.Name x p1) b sp] x_e X.env = pure none := by rfl)
    (h1 : (assignEach [.Subscript (.Name x p1) b sp] X.env).map (·.2) = [assign (.Subscript (.Name x p1) b sp) X.env] := by rfl) :
    DS X T (.Assign [.Subscript (.Name x p1) b sp] x_e pos) (sSet i f fk) := by
  obtain ⟨te, a1, a2⟩ := he.ex
  obtain ⟨tk, b1, b2⟩ := hk.ex
  refine ⟨_, ps_asg a1 (pg_sub (pe_var hN hv hd hcd) b1 set_list ha) hs hw h1, fun F ρ σ H o ρ' R e E q => ?_⟩
  unfold sSet at e
  split at e
  · rename_i h0
    obtain ⟨v, hv0⟩ := R.has h0
    split at e
    · rename_i d ρ1 e1
      split at e
      · rename_i k ρ2 e2
        split at e
        · rename_i xs e3
          obtain ⟨j, e4, e5⟩ := Option.map_eq_some_iff.mp e
          cases e5
          refine a2 F ρ σ H d ρ1 R e1 _ fun w H1 s1 d1 => ⟨v, hv0, ?_⟩
          refine b2 F ρ1 σ H1 _ ρ2 s1.rep e2 _ fun u H2 s2 d2 => ?_
          cases d2
          obtain ⟨p, us, h1, h2, h3, h4, h5⟩ := s2.rep.own i xs e3
          rw [hv0] at h1
          cases h1
          refine ⟨p, us, k, j, rfl, rfl, h2, by rw [h5.length]; exact e4, ?_⟩
          have s3 := s2.rep.set_own e3 hv0 (h5.set j (s2.da s1.rep d1))
          exact q σ _ s3.rep ((s1.trans s2).trans s3).s
        · cases e
      · cases e
    · cases e
  · cases e
end
end PF
set_option Elab.async false
set_option linter.all false
set_option maxRecDepth 100000
/-! PF: defs and their calls. -/
namespace PF
open PySem PySem.Spec PyProof.Rows L2

/-! ### what a def does, by its body -/
def startS (n : Nat) (cs : List Cel) : Sl := cs.map some ++ List.replicate (n - cs.length) none
def runP (n : Nat) (g : S) (ds : List D) : Option D := match g (startS n (ds.map .val)) with
  | some (.rt d, _) => some d
  | some (.nx, _) => some .none
  | _ => none
def own0 (d : D) (ρ : Sl) : Option (D × List D) := match (ρ[(0 : Nat)]? : Option (Option Cel)) with
  | some (some (.own xs)) => some (d, xs)
  | _ => none
def runM (n : Nat) (g : S) (xs ds : List D) : Option (D × List D) := match g (startS n (.own xs :: ds.map .val)) with
  | some (.rt d, ρ) => own0 d ρ
  | some (.nx, ρ) => own0 .none ρ
  | _ => none
def runF (n : Nat) (g : S) (ds : List D) : Option (List D) := match g (startS n (ds.map .val)) with
  | some (.rf xs, _) => some xs
  | _ => none
/-- data in, data out; nothing else is touched -/
def spP (K : PySem.W.Frag) (T : AS) (n : Nat) (g : List D → Option D) : Sp := fun vs H Q _ => vs.length = n ∧ ∃ (B : AS) (ds : List D) (d : D), (∀ a, T a → B a) ∧ (∀ a, T a → TabG H a) ∧ (∀ a, B a → ∃ o, H a = some o) ∧ DaL K B H vs ds ∧ g ds = some d ∧
  ∀ v H', Stay T H H' → (∀ a, T a → TabG H' a) → Da K B H' v d → Q v H'
/-- the first argument is a list that is changed -/
def spM (K : PySem.W.Frag) (T : AS) (n : Nat) (g : List D → List D → Option (D × List D)) : Sp := fun vs H Q _ => vs.length = n ∧ ∃ (B : AS) (p : Addr) (us ws : List V) (xs ds : List D) (d : D) (ys : List D), vs = .ref p :: ws ∧ (∀ a, T a → B a) ∧ (∀ a, T a → TabG H a) ∧ (∀ a, B a → ∃ o, H a = some o) ∧ ¬ B p ∧
  H p = some (.lst us) ∧ DaL K (fun a => B a ∨ a = p) H us xs ∧ DaL K (fun a => B a ∨ a = p) H ws ds ∧ g xs ds = some (d, ys) ∧
  ∀ v zs H', Stay (fun a => T a ∨ a = p) H H' → (∀ a, T a → TabG H' a) → H' p = some (.lst zs) → DaL K (fun a => B a ∨ a = p) H' zs ys → Da K (fun a => B a ∨ a = p) H' v d → Q v H'
/-- a new list comes back -/
def spF (K : PySem.W.Frag) (T : AS) (n : Nat) (g : List D → Option (List D)) : Sp := fun vs H Q _ => vs.length = n ∧ ∃ (B : AS) (ds xs : List D), (∀ a, T a → B a) ∧ (∀ a, T a → TabG H a) ∧ (∀ a, B a → ∃ o, H a = some o) ∧ DaL K B H vs ds ∧ g ds = some xs ∧
  ∀ p us H', Stay T H H' → (∀ a, T a → TabG H' a) → H p = none → H' p = some (.lst us) → DaL K (fun a => B a ∨ a = p) H' us xs → Q (.ref p) H'

section
variable {K : PySem.W.Frag} {T : AS}
theorem start_get (N : List Str) (vs : List V) (i : Nat) : (L2.start N vs)[i]? = if h : i < vs.length then some (some vs[i]) else if i < N.length then some none else none := by
  unfold L2.start
  by_cases h : i < vs.length
  · rw [dif_pos h, List.getElem?_append_left (by simpa using h)]
    simp [h]
  · rw [dif_neg h, List.getElem?_append_right (by simpa using Nat.le_of_not_lt h)]
    by_cases h2 : i < N.length
    · rw [if_pos h2, List.getElem?_replicate]
      rw [if_pos (by rw [List.length_map]; omega)]
    · rw [if_neg h2, List.getElem?_replicate]
      rw [if_neg (by rw [List.length_map]; omega)]
theorem startS_get (n : Nat) (cs : List Cel) (i : Nat) : (startS n cs)[i]? = if h : i < cs.length then some (some cs[i]) else if i < n then some none else none := by
  unfold startS
  by_cases h : i < cs.length
  · rw [dif_pos h, List.getElem?_append_left (by simpa using h)]
    simp [h]
  · rw [dif_neg h, List.getElem?_append_right (by simpa using Nat.le_of_not_lt h)]
    by_cases h2 : i < n
    · rw [if_pos h2, List.getElem?_replicate]
      rw [if_pos (by rw [List.length_map]; omega)]
    · rw [if_neg h2, List.getElem?_replicate]
      rw [if_neg (by rw [List.length_map]; omega)]
theorem start_len (N : List Str) (vs : List V) : (L2.start N vs).length = vs.length + (N.length - vs.length) := by
  unfold L2.start
  rw [List.length_append, List.length_map, List.length_replicate]
theorem startS_len (n : Nat) (cs : List Cel) : (startS n cs).length = cs.length + (n - cs.length) := by
  unfold startS
  rw [List.length_append, List.length_map, List.length_replicate]
theorem no_ow_start {N : List Str} {vs : List V} {ds : List D} {n : Nat} : ∀ a, ¬ Ow (startS n (ds.map .val)) (L2.start N vs) a := fun a ⟨i, xs, h, _⟩ => by
  rw [startS_get] at h
  split at h
  · simp at h
  · split at h <;> cases h
/-- the slots at a def's entry -/
theorem rep_start {N : List Str} {vs : List V} {ds : List D} {B : AS} {H : Hp} (hT : ∀ a, T a → B a) (ht : ∀ a, T a → TabG H a) (hB : ∀ a, B a → ∃ o, H a = some o) (h : DaL K B H vs ds) : Rep K T ⟨B, fun _ => False, H⟩ (startS N.length (ds.map .val)) (L2.start N vs) H where
  sub := hT
  tab := ht
  old := hB
  fr := fun a o h _ _ => h
  dm := fun a o h => ⟨o, h⟩
  len := by rw [startS_len, start_len, List.length_map, h.length]
  val := fun i d e => by
    rw [startS_get] at e
    split at e
    · rename_i hi
      have hi' : i < ds.length := by simpa using hi
      simp only [List.getElem_map, Option.some.injEq, Cel.val.injEq] at e
      obtain ⟨v, e1, e2⟩ := h.get (i := i) (d := d) (by rw [List.getElem?_eq_getElem hi', e])
      obtain ⟨hv, e3⟩ := List.getElem?_eq_some_iff.mp e1
      refine ⟨v, by rw [start_get, dif_pos hv, e3], e2.weak fun a z => z.elim id fun z => absurd z (no_ow_start a)⟩
    · split at e <;> cases e
  own := fun i xs e => by
    rw [startS_get] at e
    split at e
    · simp at e
    · split at e <;> cases e
  sep := fun i j xs ys p e _ _ _ => by
    rw [startS_get] at e
    split at e
    · simp at e
    · split at e <;> cases e
theorem startM_get {n : Nat} {xs : List D} {ds : List D} {i : Nat} {ys : List D} (e : (startS n (.own xs :: ds.map .val))[i]? = some (some (.own ys))) : i = 0 ∧ ys = xs := by
  rw [startS_get] at e
  split at e
  · cases i with
    | zero =>
      simp only [List.getElem_cons_zero, Option.some.injEq, Cel.own.injEq] at e
      exact ⟨rfl, e.symm⟩
    | succ i => simp at e
  · split at e <;> cases e
theorem start_zero (N : List Str) (p : Addr) (ws : List V) : (L2.start N (.ref p :: ws))[0]? = some (some (.ref p)) := by
  rw [start_get, dif_pos (by simp)]
  rfl
theorem rep_startM {N : List Str} {ws us : List V} {ds xs : List D} {B : AS} {H : Hp} {p : Addr} (hT : ∀ a, T a → B a) (ht : ∀ a, T a → TabG H a) (hB : ∀ a, B a → ∃ o, H a = some o) (np : ¬ B p) (hp : H p = some (.lst us)) (hx : DaL K (fun a => B a ∨ a = p) H us xs) (h : DaL K (fun a => B a ∨ a = p) H ws ds) :
    Rep K T ⟨B, fun a => a = p, H⟩ (startS N.length (.own xs :: ds.map .val)) (L2.start N (.ref p :: ws)) H ∧ ∀ a, Av ⟨B, fun a => a = p, H⟩ (startS N.length (.own xs :: ds.map .val)) (L2.start N (.ref p :: ws)) a ↔ B a ∨ a = p := by
  have av : ∀ a, Av ⟨B, fun a => a = p, H⟩ (startS N.length (.own xs :: ds.map .val)) (L2.start N (.ref p :: ws)) a ↔ B a ∨ a = p := fun a => by
    constructor
    · rintro (z | ⟨i, ys, e1, e2⟩)
      · exact .inl z
      · obtain ⟨rfl, rfl⟩ := startM_get e1
        rw [start_zero] at e2
        cases e2
        exact .inr rfl
    · rintro (z | rfl)
      · exact .inl z
      · refine .inr ⟨0, xs, ?_, start_zero _ _ _⟩
        rw [startS_get, dif_pos (by simp)]
        rfl
  refine ⟨⟨hT, ht, hB, fun a o h _ _ => h, fun a o h => ⟨o, h⟩, by rw [startS_len, start_len]; simp [h.length], fun i d e => ?_, fun i ys e => ?_, fun i j ys zs q e1 e2 _ _ => ?_⟩, av⟩
  · rw [startS_get] at e
    split at e
    · rename_i hi
      cases i with
      | zero => simp at e
      | succ i =>
        have hi' : i < ds.length := by simpa using hi
        simp only [List.getElem_cons_succ, List.getElem_map, Option.some.injEq, Cel.val.injEq] at e
        obtain ⟨v, e1, e2⟩ := h.get (i := i) (d := d) (by rw [List.getElem?_eq_getElem hi', e])
        obtain ⟨hv, e3⟩ := List.getElem?_eq_some_iff.mp e1
        refine ⟨v, ?_, e2.weak fun a z => (av a).mp z⟩
        rw [start_get, dif_pos (by simpa using hv)]
        simp [e3]
    · split at e <;> cases e
  · obtain ⟨rfl, rfl⟩ := startM_get e
    exact ⟨p, us, start_zero _ _ _, hp, np, ⟨fun _ => rfl, fun z => absurd rfl z⟩, hx.weak fun a z => (av a).mp z⟩
  · exact (startM_get e1).1.trans (startM_get e2).1.symm
end

/-! ### a def of the text -/
structure Cal (P : Program) (w : World) (K : PySem.W.Frag) (mg : Str → Option Value) (base : Heap) (st : Stmt) (x : Str) (k : Nat) (ps : List Str) (sp : Sp) : Prop where
  ex : ∃ f fd, mg x = some (.ref f) ∧ FunD K x x (defArgs st) (defBody st) (defScope st) [] [] f fd ∧ Binds K fd ps [] ∧ FnOk P w K mg base CX0 k f fd ps sp
/-- the context of a def's body -/
abbrev bx (P : Program) (w : World) (K : PySem.W.Frag) (mg : Str → Option Value) (base : Heap) (N : List Str) (st : Stmt) (x : Str) (f : Addr) (cdv : Value) (A : Around) (outer : List Env) (s : Shared) (H : Hp) (E : XK) : Cx := (cxOf CX0 P w K mg base N x (defScope st) f cdv A outer s H E).nox
abbrev BindOk (x : Str) (st : Stmt) (ps : List Str) : Prop := ∀ (kV doc pm : Value) (an : Option Addr) (cdv ct : Value) (us : List Value), us.length = ps.length → bindArgs (PySem.W.fnOf x x (defArgs st) (defBody st) (defScope st) .none kV doc pm an cdv ct) ⟨us, []⟩ = pure (ps.zip us)
section
variable {P : Program} {w : World} {K : PySem.W.Frag} {mg : Str → Option Value} {base : Heap} {T : AS} {N ps : List Str} {st : Stmt} {x : Str} {k : Nat} {g : S}
/-- where a def stands -/
structure At (K : PySem.W.Frag) (mg : Str → Option Value) (st : Stmt) (x : Str) (C : Value → Prop) : Prop where
  ex : ∃ f fd, mg x = some (.ref f) ∧ FunD K x x (defArgs st) (defBody st) (defScope st) [] [] f fd ∧ C fd.code
theorem okC {P : Program} {w : World} {K : PySem.W.Frag} {mg : Str → Option Value} {base : Heap} {x qual : Str} {params : Arguments} {body : List Stmt} {scope : Scope} {dvs : List V} {kws : List (Str × V)} {f : Addr} {fd : FuncData} {CX : CXT} {N ps : List Str} {k : Nat} {sp : Sp} (F : FunD K x qual params body scope dvs kws f fd) (Sc : FnScope N ps scope) (len : ∀ vs H Q E, sp vs H Q E → vs.length = ps.length)
    (hb : ∀ (A : Around) (outer : List Env) (s : Shared) (H : Hp) (vs : List V) (Q : VK) (E : XK), Room k (A.deeper (envOfC qual scope s.heap.objs.size f fd.code)) → sp vs H Q E →
      ∃ t, PSs (cxOf CX P w K mg base N qual scope f fd.code A outer s H E) body t ∧ t { nx := fun _ H' => Q .non H', rt := Q } (start N vs) H) : FnOk P w K mg base CX (k + 1) f fd ps sp := by
  obtain ⟨oc, od, dV, kV, doc, pm, an, cdv, ct, osl, rfl, lk, hcd, _, _⟩ := F.ex
  exact fn_of lk hcd Sc len fun A outer s H vs Q E hr hsp => hb A outer s H vs Q E hr hsp
variable {C : Value → Prop}
theorem fn_none {n : Nat} (hn : ps.length = n) (a : At K mg st x C) (hb : BindOk x st ps) (Sc : FnScope N ps (defScope st)) : Cal P w K mg base st x (k + 1) ps (spP K T n fun _ => none) := by
  obtain ⟨f, fd, hm, F, _⟩ := a.ex
  refine ⟨f, fd, hm, F, F.bindsN hb, okC F Sc (fun vs H Q E h => h.1.trans hn.symm) fun A outer s H vs Q E hr h => ?_⟩
  obtain ⟨_, _, _, _, _, _, _, _, e, _⟩ := h
  cases e
theorem fn_P (a : At K mg st x C) (hb : BindOk x st ps) (Sc : FnScope N ps (defScope st)) (body : ∀ f cdv A outer s H E, C cdv → Room k (A.deeper (envOfC x (defScope st) s.heap.objs.size f cdv)) → DSs (bx P w K mg base N st x f cdv A outer s H E) T (defBody st) g) :
    Cal P w K mg base st x (k + 1) ps (spP K T ps.length (runP N.length g)) := by
  obtain ⟨f, fd, hm, F, hcv⟩ := a.ex
  refine ⟨f, fd, hm, F, F.bindsN hb, okC F Sc (fun vs H Q E h => h.1) fun A outer s H vs Q E hr h => ?_⟩
  obtain ⟨hl, B, ds, d, hT, ht, hB, hd, hg, q⟩ := h
  obtain ⟨t, h1, h2⟩ := (body f fd.code A outer s H E hcv hr).ex
  have R := rep_start (N := N) hT ht hB hd
  have fin : ∀ (ρ' : Sl) (σ' : L2.St) (H' : Hp), Rep K T ⟨B, fun _ => False, H⟩ ρ' σ' H' → StS T (startS N.length (ds.map .val)) (L2.start N vs) H ρ' σ' H' → Stay T H H' ∧ ∀ a, T a → TabG H' a := fun ρ' σ' H' R' s' =>
    ⟨s'.st.mono fun a z => z.elim id fun z => absurd z (no_ow_start a), R'.tab⟩
  refine ⟨t, h1.nox, ?_⟩
  unfold runP at hg
  split at hg
  · rename_i d' ρ' e
    cases hg
    refine h2 _ _ _ _ _ ρ' R e _ ?_
    exact fun v σ' H' R' s' dv => let ⟨a, b⟩ := fin ρ' σ' H' R' s'; q v H' a b (dv.weak fun a z => .inl z)
  · rename_i ρ' e
    cases hg
    refine h2 _ _ _ _ _ ρ' R e _ ?_
    exact fun σ' H' R' s' => let ⟨a, b⟩ := fin ρ' σ' H' R' s'; q .non H' a b .non
  · cases hg
theorem fn_F (a : At K mg st x C) (hb : BindOk x st ps) (Sc : FnScope N ps (defScope st)) (body : ∀ f cdv A outer s H E, C cdv → Room k (A.deeper (envOfC x (defScope st) s.heap.objs.size f cdv)) → DSs (bx P w K mg base N st x f cdv A outer s H E) T (defBody st) g) :
    Cal P w K mg base st x (k + 1) ps (spF K T ps.length (runF N.length g)) := by
  obtain ⟨f, fd, hm, F, hcv⟩ := a.ex
  refine ⟨f, fd, hm, F, F.bindsN hb, okC F Sc (fun vs H Q E h => h.1) fun A outer s H vs Q E hr h => ?_⟩
  obtain ⟨hl, B, ds, xs, hT, ht, hB, hd, hg, q⟩ := h
  obtain ⟨t, h1, h2⟩ := (body f fd.code A outer s H E hcv hr).ex
  have R := rep_start (N := N) hT ht hB hd
  refine ⟨t, h1.nox, ?_⟩
  unfold runF at hg
  split at hg
  · rename_i d' ρ' e
    cases hg
    refine h2 _ _ _ _ _ ρ' R e _ ?_
    exact fun p us σ' H' R' s' hp nb nh dl => q p us H' (s'.st.mono fun a z => z.elim id fun z => absurd z (no_ow_start a)) R'.tab nh hp (dl.weak fun a z => .inl z)
  · cases hg
theorem fn_M (a : At K mg st x C) (hb : BindOk x st ps) (Sc : FnScope N ps (defScope st)) (body : ∀ f cdv A outer s H E, C cdv → Room k (A.deeper (envOfC x (defScope st) s.heap.objs.size f cdv)) → DSs (bx P w K mg base N st x f cdv A outer s H E) T (defBody st) g) :
    Cal P w K mg base st x (k + 1) ps (spM K T ps.length (runM N.length g)) := by
  obtain ⟨f, fd, hm, F, hcv⟩ := a.ex
  refine ⟨f, fd, hm, F, F.bindsN hb, okC F Sc (fun vs H Q E h => h.1) fun A outer s H vs Q E hr h => ?_⟩
  obtain ⟨hl, B, p, us, ws, xs, ds, d, ys, rfl, hT, ht, hB, np, hp, hx, hd, hg, q⟩ := h
  obtain ⟨t, h1, h2⟩ := (body f fd.code A outer s H E hcv hr).ex
  obtain ⟨R, av⟩ := rep_startM (N := N) hT ht hB np hp hx hd
  have fin : ∀ (ρ' : Sl) (σ' : L2.St) (H' : Hp) (ys : List D), (ρ'[(0 : Nat)]? : Option (Option Cel)) = some (some (.own ys)) → Rep K T ⟨B, fun a => a = p, H⟩ ρ' σ' H' → StS T (startS N.length (.own xs :: ds.map .val)) (L2.start N (.ref p :: ws)) H ρ' σ' H' →
      Stay (fun a => T a ∨ a = p) H H' ∧ (∀ a, T a → TabG H' a) ∧ (∀ a, B a ∨ a = p → Av ⟨B, fun a => a = p, H⟩ ρ' σ' a) ∧ ∃ zs, H' p = some (.lst zs) ∧ DaL K (fun a => B a ∨ a = p) H' zs ys := fun ρ' σ' H' ys e R' s' => by
    obtain ⟨p', zs, e1, e2, e3, e4, e5⟩ := R'.own 0 ys e
    have e6 : p' = p := e4.1 rfl
    subst e6
    have sub : ∀ a, B a ∨ a = p' → Av ⟨B, fun a => a = p', H⟩ ρ' σ' a := fun a z => z.elim .inl fun z => .inr ⟨0, ys, e, by rw [z]; exact e1⟩
    refine ⟨s'.st.mono fun a z => z.imp id fun z => ?_, R'.tab, sub, zs, e2, e5.weak sub⟩
    rcases (av a).mp (.inr z) with z2 | z2
    · obtain ⟨i, ys', f1, f2⟩ := z
      obtain ⟨rfl, rfl⟩ := startM_get f1
      rw [start_zero] at f2
      cases f2
      rfl
    · exact z2
  refine ⟨t, h1.nox, ?_⟩
  unfold runM at hg
  split at hg
  · rename_i d' ρ' e
    unfold own0 at hg
    split at hg
    · rename_i ys' e0
      cases hg
      refine h2 _ _ _ _ _ ρ' R e _ ?_
      exact fun v σ' H' R' s' dv => let ⟨a, b, c, zs, z1, z2⟩ := fin ρ' σ' H' _ e0 R' s'; q v zs H' a b z1 z2 (dv.weak c)
    · cases hg
  · rename_i ρ' e
    unfold own0 at hg
    split at hg
    · rename_i ys' e0
      cases hg
      refine h2 _ _ _ _ _ ρ' R e _ ?_
      exact fun σ' H' R' s' => let ⟨a, b, c, zs, z1, z2⟩ := fin ρ' σ' H' _ e0 R' s'; q .non zs H' a b z1 z2 .non
    · cases hg
  · cases hg
end

/-! ### calls -/
def fCall (g : List D → Option D) (fs : M (List D)) : M D := bd fs fun ds => lf (g ds)
def fCallF (g : List D → Option (List D)) (fs : M (List D)) : M (List D) := bd fs fun ds => lf (g ds)
/-- the first argument is the owned list of slot i -/
def fCallM (g : List D → List D → Option (D × List D)) (i : Nat) (fs : M (List D)) : M D := fun ρ => if hasS ρ i = true then (match fs ρ with
  | some (ds, ρ1) => (match ρ1[i]? with
    | some (some (.own xs)) => (g xs ds).map fun r => (r.1, ρ1.set i (some (.own r.2)))
    | _ => none)
  | none => none) else none
section
variable {X : Cx} {T : AS} {e : Expr} {es : List Expr} {fs : M (List D)} {st : Stmt} {y : Str} {k n : Nat} {ps : List Str} {p pos : Pos}
theorem e_call {g : List D → Option D} (C : Cal X.prog X.w X.K X.mg X.base st y k ps (spP X.K T n g)) (hr : Room k X.A) (hg : Gl X y) (ha : DA X T (e :: es) fs) (hdb : (y == ("__debug__" : Str)) = false := by decide)
    (he : starEach (e :: es) X.env = (false, eval e X.env) :: starEach es X.env := by rfl) (hpl : (backTo pos (starEach es X.env)).any (·.1) = false := by rfl) (hn : Len fs n := by repeat (first | exact len_nil | apply len_cons)) : DE X T (.Call (.Name y p) (e :: es) [] pos) (fCall g fs) := by
  obtain ⟨f, fd, hm, F, hb, G⟩ := C.ex
  obtain ⟨t, a1, a2⟩ := ha.ex
  refine ⟨_, pe_call G hr hg hm F.kp hb .nil pass0 a1 hdb he hpl, fun F ρ σ H d ρ' R e Q q => ?_⟩
  obtain ⟨ds, ρ1, e1, e2⟩ := bd_some e
  obtain ⟨e3, rfl⟩ := lf_some e2
  refine a2 F ρ σ H ds ρ' R e1 _ fun vs H1 s1 d1 => ?_
  rw [List.append_nil]
  refine ⟨by rw [d1.length]; exact hn _ _ _ e1, Av F ρ' σ, ds, d, fun a z => .inl (s1.rep.sub a z), s1.rep.tab, s1.rep.alive, d1, e3, fun v H' st tb dv => q v H' (s1.tabs st tb) dv⟩
theorem f_call {g : List D → Option (List D)} (C : Cal X.prog X.w X.K X.mg X.base st y k ps (spF X.K T n g)) (hr : Room k X.A) (hg : Gl X y) (ha : DA X T (e :: es) fs) (hdb : (y == ("__debug__" : Str)) = false := by decide)
    (he : starEach (e :: es) X.env = (false, eval e X.env) :: starEach es X.env := by rfl) (hpl : (backTo pos (starEach es X.env)).any (·.1) = false := by rfl) (hn : Len fs n := by repeat (first | exact len_nil | apply len_cons)) : DF X T (.Call (.Name y p) (e :: es) [] pos) (fCallF g fs) := by
  obtain ⟨f, fd, hm, F, hb, G⟩ := C.ex
  obtain ⟨t, a1, a2⟩ := ha.ex
  refine ⟨_, pe_call G hr hg hm F.kp hb .nil pass0 a1 hdb he hpl, fun F ρ σ H d ρ' R e Q q => ?_⟩
  obtain ⟨ds, ρ1, e1, e2⟩ := bd_some e
  obtain ⟨e3, rfl⟩ := lf_some e2
  refine a2 F ρ σ H ds ρ' R e1 _ fun vs H1 s1 d1 => ?_
  rw [List.append_nil]
  refine ⟨by rw [d1.length]; exact hn _ _ _ e1, Av F ρ' σ, ds, d, fun a z => .inl (s1.rep.sub a z), s1.rep.tab, s1.rep.alive, d1, e3, fun p us H' st tb hp hu du => q p us H' ?_⟩
  have s2 := s1.tabs st tb
  -- what was is not at p
  have R1 : Rep X.K T (F.and p) ρ' σ H' := by
    have old : ∀ a, (F.and p).B a → ∃ o, H' a = some o := fun a z => z.elim (fun z => s2.rep.old a z) fun z => ⟨.lst us, by rw [z]; exact hu⟩
    refine ⟨fun a z => .inl (s2.rep.sub a z), s2.rep.tab, old, s2.rep.fr, s2.rep.dm, s2.rep.len, fun i d h => ?_, fun i xs h => ?_, s2.rep.sep⟩
    · obtain ⟨v, h1, h2⟩ := s1.rep.val i d h
      exact ⟨v, h1, ((Da.new hp d v h2).weak av_and).stay (st.mono fun a z => .inl (.inl (s1.rep.sub a z)))⟩
    · obtain ⟨q', vs', h1, h2, h3, h4, h5⟩ := s1.rep.own i xs h
      exact ⟨q', vs', h1, st _ _ h2 (fun z => h3 (s1.rep.sub _ z)), fun z => z.elim h3 (fun z => by rw [z, hp] at h2; cases h2), h4, ((DaL.new hp xs vs' h5).weak av_and).stay (st.mono fun a z => .inl (.inl (s1.rep.sub a z)))⟩
  exact ⟨R1, s2.st, s2.dm, s2.sh, hu, fun z => s1.rep.fresh hp (.inl z), s1.rep.no_fh hp, s1.dm_none hp, du.weak av_and⟩
theorem e_callM {g : List D → List D → Option (D × List D)} {z : Str} {p1 : Pos} (i : Nat) (C : Cal X.prog X.w X.K X.mg X.base st y k ps (spM X.K T (n + 1) g)) (hr : Room k X.A) (hg : Gl X y) (ha : DA X T es fs)
    (hN : X.N[i]? = some z := by rfl) (hv : Vis X.env.scope z := by first | exact Or.inl rfl | exact Or.inr (Or.inl rfl) | exact Or.inr (Or.inr rfl)) (hd : (z == ("__debug__" : Str)) = false := by decide) (hcd : (z == ("__classdict__" : Str)) = false := by decide) (hdb : (y == ("__debug__" : Str)) = false := by decide)
    (he : starEach (.Name z p1 :: es) X.env = (false, eval (.Name z p1) X.env) :: starEach es X.env := by rfl) (hpl : (backTo pos (starEach es X.env)).any (·.1) = false := by rfl) (hn : Len fs n := by repeat (first | exact len_nil | apply len_cons)) : DE X T (.Call (.Name y p) (.Name z p1 :: es) [] pos) (fCallM g i fs) := by
  obtain ⟨f, fd, hm, F, hb, G⟩ := C.ex
  obtain ⟨t, a1, a2⟩ := ha.ex
  refine ⟨_, pe_call G hr hg hm F.kp hb .nil pass0 (pa_cons (pe_var hN hv hd hcd) a1 he) hdb he hpl, fun F ρ σ H d ρ' R e Q q => ?_⟩
  unfold fCallM at e
  split at e
  · rename_i h0
    obtain ⟨v, hv0⟩ := R.has h0
    split at e
    · rename_i ds ρ1 e1
      split at e
      · rename_i xs e2
        obtain ⟨r, e3, e4⟩ := Option.map_eq_some_iff.mp e
        cases e4
        refine ⟨v, hv0, a2 F ρ σ H ds ρ1 R e1 _ fun vs H1 s1 d1 => ?_⟩
        show spM X.K T (n + 1) g ((v :: vs) ++ []) H1 Q E0
        rw [List.append_nil]
        obtain ⟨p', us, h1, h2, h3, h4, h5⟩ := s1.rep.own i xs e2
        rw [hv0] at h1
        cases h1
        have sub : ∀ a, (F.B a ∨ (Ow ρ1 σ a ∧ a ≠ p')) ∨ a = p' → Av F ρ1 σ a := fun a z => by
          rcases z with (z | z) | z
          · exact .inl z
          · exact .inr z.1
          · exact .inr ⟨i, xs, e2, by rw [z]; exact hv0⟩
        have sup : ∀ a, Av F ρ1 σ a → (F.B a ∨ (Ow ρ1 σ a ∧ a ≠ p')) ∨ a = p' := fun a z => by
          by_cases q : a = p'
          · exact .inr q
          · exact .inl (z.imp id fun z => ⟨z, q⟩)
        refine ⟨by rw [List.length_cons, d1.length, hn _ _ _ e1], fun a => F.B a ∨ (Ow ρ1 σ a ∧ a ≠ p'), p', us, vs, xs, ds, r.1, r.2, rfl, fun a z => .inl (s1.rep.sub a z), s1.rep.tab, fun a z => s1.rep.alive a (sub a (.inl z)), fun z => z.elim h3 fun z => z.2 rfl, h2, h5.weak sub, d1.weak sub, e3, fun w zs H' st tb hz dz dw => ?_⟩
        obtain ⟨a, b, c, d⟩ := s1.rep.upd_own e2 hv0 st tb hz (dz.weak sup)
        exact q w H' (s1.trans ⟨a, b, c, d⟩) (dw.weak fun a z => sup a (d.av a z))
      · cases e
    · cases e
  · cases e

/-! ### keywords -/
structure DK (X : Cx) (T : AS) (kws : List Keyword) (f : M (List D)) : Prop where
  ex : ∃ t, PK X kws t ∧ SA X.K T t f
theorem k_nil : DK X T [] fNil := ⟨_, pk_nil, sa_nil⟩
theorem k_cons {nm : Option Str} {kpos : Pos} {kws : List Keyword} {f : M D} (h : DE X T e f) (g : DK X T kws fs) : DK X T (⟨nm, e, kpos⟩ :: kws) (fCons f fs) := let ⟨_, h1, h2⟩ := h.ex; let ⟨_, g1, g2⟩ := g.ex; ⟨_, pk_cons h1 g1, sa_cons h2 g2⟩
/-- how keywords bind -/
structure KOrd (x : Str) (st : Stmt) (ps ks : List Str) (o : {α : Type} → List α → List α → List α) : Prop where
  bind : ∀ (kV doc pm : Value) (an : Option Addr) (cdv ct : Value) (us ws : List Value), (o us ws).length = ps.length → bindArgs (PySem.W.fnOf x x (defArgs st) (defBody st) (defScope st) .none kV doc pm an cdv ct) ⟨us, ks.zip ws⟩ = pure (ps.zip (o us ws))
  rel : ∀ {α β : Type} (R : α → β → Prop) (us ws : List α) (us' ws' : List β), Paired R us us' → Paired R ws ws' → Paired R (o us ws) (o us' ws')
theorem pe_callK0 {CX : CXT} {f : Addr} {fd : FuncData} {ks : List Str} {sp : Sp} {E : XK} {kws : List Keyword} {tk : TA} {gg : List Value → List Value → List Value} {gV : List V → List V → List V} (F : FnOk X.prog X.w X.K X.mg X.base CX k f fd ps sp) (hr : Room k X.A) (hg : Gl X y) (hm : X.mg y = some (.ref f)) (hk : PySem.W.keepIn X.K (.ref f) = true) (hb : KBinds X.K fd ps ks gg gV) (hx : Passes CX X E)
    (hkw : PK X kws tk) (hall : (backToKw pos (keywordEach kws X.env)).all (·.1.isSome) = true) (hks : (backToKw pos (keywordEach kws X.env)).filterMap (·.1) = ks)
    (hpl : ((backTo pos (starEach [] X.env)).any (·.1) || (backToKw pos (keywordEach kws X.env)).any (·.1.isNone)) = false) (hdb : (y == ("__debug__" : Str)) = false := by decide) :
    PE X (.Call (.Name y p) [] kws pos) (tCallK sp gV E tNil tk) := by
  refine ⟨fun pins s σ H Q I h => ?_⟩
  refine wpAny_Call_Name_kw (ld_glob I hg hm ?_ hdb)
  refine PySem.W.callWith_KW0 (h₀ := X.base) I.ok.mod.kin hk hall (thn (hkw.run pos pins s σ H _ I h) fun ws s2 ⟨zs, H2, I2, rz, q2⟩ => ⟨I2.kIn, ?_⟩) hpl
  rw [hks]
  exact run_fnk (us := []) (vs := []) F hr hb hx I2 .nil rz q2
theorem paired_da {K : PySem.W.Frag} {B : AS} {H : Hp} : ∀ {vs : List V} {ds : List D}, DaL K B H vs ds → Paired (Da K B H) vs ds
  | _, _, .nil => .nil
  | _, _, .cons h t => .cons h (paired_da t)
theorem da_paired {K : PySem.W.Frag} {B : AS} {H : Hp} : ∀ {vs : List V} {ds : List D}, Paired (Da K B H) vs ds → DaL K B H vs ds
  | _, _, .nil => .nil
  | _, _, .cons h t => .cons h (da_paired t)
theorem kbinds_of {K : PySem.W.Frag} {x : Str} {ks : List Str} {o : {α : Type} → List α → List α → List α} {f : Addr} {fd : FuncData} (F : FunD K x x (defArgs st) (defBody st) (defScope st) [] [] f fd) (O : KOrd x st ps ks o) : KBinds K fd ps ks o o := by
  obtain ⟨oc, od, dV, kV, doc, pm, an, cdv, ct, osl, rfl, lk, hcd, hD, hK⟩ := F.ex
  rcases hD with ⟨_, rfl⟩ | ⟨e, _⟩
  · exact ⟨fun s us ws _ hl => .of_eq (O.bind kV doc pm an cdv ct us ws hl), fun r1 r2 => O.rel RelV _ _ _ _ r1 r2⟩
  · exact absurd rfl e
/-- f(k = v, ..), all by keywords -/
theorem e_callK {g : List D → Option D} {ks : List Str} {o : {α : Type} → List α → List α → List α} {kws : List Keyword} (C : Cal X.prog X.w X.K X.mg X.base st y k ps (spP X.K T n g)) (O : KOrd y st ps ks o) (hr : Room k X.A) (hg : Gl X y) (ha : DK X T kws fs)
    (hn : ∀ ρ ds ρ', fs ρ = some (ds, ρ') → (o [] ds).length = n) (hall : (backToKw pos (keywordEach kws X.env)).all (·.1.isSome) = true := by rfl) (hks : (backToKw pos (keywordEach kws X.env)).filterMap (·.1) = ks := by rfl)
    (hpl : ((backTo pos (starEach [] X.env)).any (·.1) || (backToKw pos (keywordEach kws X.env)).any (·.1.isNone)) = false := by rfl) (hdb : (y == ("__debug__" : Str)) = false := by decide) : DE X T (.Call (.Name y p) [] kws pos) (fCall (fun ds => g (o [] ds)) fs) := by
  obtain ⟨f, fd, hm, F, hb, G⟩ := C.ex
  obtain ⟨t, a1, a2⟩ := ha.ex
  refine ⟨_, pe_callK0 (E := E0) G hr hg hm F.kp (kbinds_of F O) pass0 a1 hall hks hpl hdb, fun F ρ σ H d ρ' R e Q q => ?_⟩
  obtain ⟨ds, ρ1, e1, e2⟩ := bd_some e
  obtain ⟨e3, rfl⟩ := lf_some e2
  refine a2 F ρ σ H ds ρ' R e1 _ fun vs H1 s1 d1 => ?_
  have d2 : DaL X.K (Av F ρ' σ) H1 (o [] vs) (o [] ds) := da_paired (O.rel _ _ _ _ _ .nil (paired_da d1))
  exact ⟨by rw [d2.length]; exact hn _ _ _ e1, Av F ρ' σ, o [] ds, d, fun a z => .inl (s1.rep.sub a z), s1.rep.tab, s1.rep.alive, d2, e3, fun v H' st tb dv => q v H' (s1.tabs st tb) dv⟩
end
end PF
set_option Elab.async false
set_option linter.all false
set_option maxRecDepth 100000
set_option maxHeartbeats 1000000
/-! PF: any, all of a generator expression whose element and tests compare names. -/
namespace PF
open PySem PySem.Spec PyProof.Rows L2

mutual
theorem reads_but {h h' : Heap} {P : Addr} {ob : Obj} (hP : h.get? P = some ob) (hc : ob.cls = .none) (hk : ∀ b o, b ≠ P → h.get? b = some o → h'.get? b = some o) : ∀ {v : Value} {d : PyData} {as : List Addr}, Reads h v d as → Reads h' v d as
  | _, _, _, .none => .none
  | _, _, _, .bool b => .bool b
  | _, _, _, .int i t => .int i t
  | _, _, _, .str x t => .str x t
  | _, _, _, .list h1 h2 h3 h4 => .list (hk _ _ (fun z => by rw [z, hP] at h1; cases h1; rw [hc] at h2; cases h2) h1) h2 h3 (readsAll_but hP hc hk h4)
  | _, _, _, .tuple h1 h2 h3 h4 => .tuple (hk _ _ (fun z => by rw [z, hP] at h1; cases h1; rw [hc] at h2; cases h2) h1) h2 h3 (readsAll_but hP hc hk h4)
  | _, _, _, .dict h1 h2 h3 h4 h5 => .dict (hk _ _ (fun z => by rw [z, hP] at h1; cases h1; rw [hc] at h2; cases h2) h1) h2 h3 (readsAll_but hP hc hk h4) (readsAll_but hP hc hk h5)
theorem readsAll_but {h h' : Heap} {P : Addr} {ob : Obj} (hP : h.get? P = some ob) (hc : ob.cls = .none) (hk : ∀ b o, b ≠ P → h.get? b = some o → h'.get? b = some o) : ∀ {vs : List Value} {ds : List PyData} {as : List Addr}, ReadsAll h vs ds as → ReadsAll h' vs ds as
  | _, _, _, .nil => .nil
  | _, _, _, .cons h1 h2 => .cons (reads_but hP hc hk h1) (readsAll_but hP hc hk h2)
end
theorem readsAll_at {h : Heap} : ∀ {vs : List Value} {ds : List PyData} {as : List Addr}, ReadsAll h vs ds as → ∀ {i : Nat} {v : Value}, vs[i]? = some v → ∃ d bs, ds[i]? = some d ∧ Reads h v d bs
  | _, _, _, .nil, _, _, e => by simp at e
  | _, _, _, .cons h1 _, 0, _, e => by
    simp only [List.getElem?_cons_zero, Option.some.injEq] at e
    subst e
    exact ⟨_, _, rfl, h1⟩
  | _, _, _, .cons _ h2, i + 1, _, e => by
    simp only [List.getElem?_cons_succ] at e ⊢
    exact readsAll_at h2 e
theorem readsAll_len {h : Heap} : ∀ {vs : List Value} {ds : List PyData} {as : List Addr}, ReadsAll h vs ds as → vs.length = ds.length
  | _, _, _, .nil => rfl
  | _, _, _, .cons _ h2 => congrArg Nat.succ (readsAll_len h2)

/-! ### the quiet world of a generator's element -/
structure QEnv (cenv : Env) (h : Heap) (m : Str → Option Value) (x : Str) (dx : D) (names : List Str) (cs : List D) : Prop where
  lp : ∃ u as, m x = some u ∧ Reads h u dx as
  cp : ∀ (i : Nat) (y : Str) (d : D), names[i]? = some y → cs[i]? = some d → ∃ c u as, cenv.cells.lookup y = some c ∧ h.IsCell c (some u) ∧ Reads h u d as
structure QE (prog : Program) (w : World) (scope : Scope) (U : Nat) (x : Str) (names : List Str) (e : Expr) (f : List D → D → Option D) : Prop where
  run : ∀ (A : Around) (E : Value → Shared → Prop) (cenv : Env) (s : Shared) (m : Str → Option Value) (cs : List D) (dx d : D) (Q : Value → Shared → Prop), cenv.scope = scope → A.units ≤ U → s.heap.Ns cenv.locals m → QEnv cenv s.heap m x dx names cs → f cs dx = some d →
    (∀ v k as, Reads s.heap v d as → Q v { s with toks := k }) → wpAny (model prog w) A (eval e cenv) Q E s
structure QT (prog : Program) (w : World) (scope : Scope) (U : Nat) (x : Str) (names : List Str) (es : List Expr) (f : List D → D → Option Bool) : Prop where
  run : ∀ (A : Around) (E : Value → Shared → Prop) (cenv : Env) (s : Shared) (m : Str → Option Value) (cs : List D) (dx : D) (b : Bool) (Q : Bool → Shared → Prop), cenv.scope = scope → A.units ≤ U → s.heap.Ns cenv.locals m → QEnv cenv s.heap m x dx names cs → f cs dx = some b →
    (∀ k, Q b { s with toks := k }) → wpAny (model prog w) A (forIn es true fun c r => if r = true then do let ok ← isTrue c cenv (eval c cenv); pure (ForInStep.yield ok) else pure (ForInStep.yield r)) Q E s
section
variable {prog : Program} {w : World} {scope : Scope} {U : Nat} {x : Str} {names : List Str}
theorem q_loop {p : Pos} (hk : scope.kind = .function := by rfl) (hl : scope.names.lookup x = some .local := by rfl) (hd : (x == ("__debug__" : Str)) = false := by decide) : QE prog w scope U x names (.Name x p) (fun _ dx => some dx) := ⟨fun A E cenv s m cs dx d Q hs hu hn q e h => by
  cases e
  obtain ⟨u, as, h1, h2⟩ := q.lp
  exact wpAny_Name (wpAny_loadName_local (by rw [hs]; exact hk) (show cenv.scope.names.lookup x = some .local by rw [hs]; exact hl) hn h1 (h u s.toks as h2)) hd⟩
theorem q_cap {y : Str} {p : Pos} (i : Nat) (hi : names[i]? = some y := by rfl) (hk : scope.kind = .function := by rfl) (hl : scope.names.lookup y = some .free := by rfl) (hd : (y == ("__debug__" : Str)) = false := by decide) (hcd : (y == ("__classdict__" : Str)) = false := by decide) : QE prog w scope U x names (.Name y p) (fun cs _ => cs[i]?) := ⟨fun A E cenv s m cs dx d Q hs hu hn q e h => by
  obtain ⟨c, u, as, h1, h2, h3⟩ := q.cp i y d hi e
  exact wpAny_Name (wpAny_loadName_free (by rw [hs]; exact hk) (show cenv.scope.names.lookup y = some .free by rw [hs]; exact hl) h1 h2 (h u s.toks as h3) hcd) hd⟩
/-- a comparison, by what the values read -/
def QC (prog : Program) (w : World) (op : CmpOp) (o : D → D → Option D) : Prop := ∀ (A : Around) (E : Value → Shared → Prop) (s : Shared) (x y : Value) (dx dy d : D) (as bs : List Addr) (Q : Value → Shared → Prop), A.units + 65 < cLine → Reads s.heap x dx as → Reads s.heap y dy bs → o dx dy = some d →
  (∀ b, d = .bool b → Q (.bool b) s) → wpAny (model prog w) A (compareOp op x y) Q E s
theorem qc_in : QC prog w .In oIn := fun A E s x y dx dy d as bs Q hu r1 r2 e h => by
  unfold oIn inD at e
  split at e
  · split at e
    · rename_i hz
      cases e
      exact SeqAt.in_list_reads r2 r1 (SeqAt.canLay_of_shaped hz.2) (SeqAt.canLay_of_shaped hz.1) (room_in_shaped hz.1 hu) (h _ rfl)
    · cases e
  · split at e
    · rename_i hz
      cases e
      have hxs := SeqAt.canLay_of_shaped hz.2
      exact SeqAt.in_tuple_reads r2 r1 (by simpa only [PyData.canLay0] using hxs) (SeqAt.canLay_of_shaped hz.1) (room_in_shaped hz.1 hu) (h _ rfl)
    · cases e
  · cases e
theorem qc_notIn : QC prog w .NotIn oNotIn := fun A E s x y dx dy d as bs Q hu r1 r2 e h => by
  unfold oNotIn inD at e
  split at e
  · split at e
    · rename_i hz
      cases e
      exact SeqAt.notIn_list_reads r2 r1 (SeqAt.canLay_of_shaped hz.2) (SeqAt.canLay_of_shaped hz.1) (room_in_shaped hz.1 hu) (h _ rfl)
    · cases e
  · split at e
    · rename_i hz
      cases e
      have hxs := SeqAt.canLay_of_shaped hz.2
      exact SeqAt.notIn_tuple_reads r2 r1 (by simpa only [PyData.canLay0] using hxs) (SeqAt.canLay_of_shaped hz.1) (room_in_shaped hz.1 hu) (h _ rfl)
    · cases e
  · cases e
theorem qc_eq : QC prog w .Eq oEq := fun A E s x y dx dy d as bs Q hu r1 r2 e h => by
  unfold oEq at e
  split at e
  · rename_i hz
    cases e
    exact SeqAt.compareEq_shaped r1 r2 hz.1 hz.2 (by omega) (h _ rfl)
  · cases e
theorem qc_ne : QC prog w .NotEq oNe := fun A E s x y dx dy d as bs Q hu r1 r2 e h => by
  unfold oNe at e
  split at e
  · rename_i hz
    cases e
    exact SeqAt.compareNe_shaped r1 r2 hz.1 hz.2 (by omega) (h _ rfl)
  · cases e
def qB (o : D → D → Option D) (fa fb : List D → D → Option D) : List D → D → Option D := fun cs dx => match fa cs dx, fb cs dx with
  | some a, some b => (match o a b with
    | some (.bool c) => some (.bool c)
    | _ => none)
  | _, _ => none
theorem qB_some {o : D → D → Option D} {fa fb : List D → D → Option D} {cs : List D} {dx d : D} (h : qB o fa fb cs dx = some d) : ∃ a b c, fa cs dx = some a ∧ fb cs dx = some b ∧ o a b = some (.bool c) ∧ d = .bool c := by
  unfold qB at h
  split at h
  · rename_i a b e1 e2
    split at h
    · rename_i c e3
      cases h
      exact ⟨a, b, c, e1, e2, e3, rfl⟩
    · cases h
  · cases h
theorem reads_toks {s : Shared} {v : Value} {d : D} {as : List Addr} (h : Reads s.heap v d as) (k : Nat) : Reads ({ s with toks := k } : Shared).heap v d as := h
theorem q_cmp {a b : Expr} {op : CmpOp} {o : D → D → Option D} {fa fb : List D → D → Option D} {p : Pos} (hc : QC prog w op o) (ha : QE prog w scope U x names a fa) (hb : QE prog w scope U x names b fb) (hU : U + 65 < cLine) (hm : behindInMarks op b = false := by with_unfolding_all rfl) : QE prog w scope U x names (.Compare a [op] [b] p) (qB o fa fb) := ⟨fun A E cenv s m cs dx d Q hs hu hn q e h => by
  obtain ⟨da, db, c, e1, e2, e3, rfl⟩ := qB_some e
  refine wpAny_Compare1 (ha.run A E cenv s m cs dx da _ hs hu hn q e1 fun u k as r1 => ?_) hm
  refine hb.run A E cenv _ m cs dx db _ hs hu hn q e2 fun v k2 bs r2 => ?_
  exact hc A E _ u v da db _ as bs _ (by omega) r1 r2 e3 fun b hb => by
    cases hb
    exact h _ k2 [] (.bool c)⟩
theorem qt_nil : QT prog w scope U x names [] (fun _ _ => some true) := ⟨fun A E cenv s m cs dx b Q hs hu hn q e h => by
  cases e
  simp only [List.forIn_nil]
  exact wpAny_pure (h s.toks)⟩
def qTb (o : D → D → Option D) (fa fb : List D → D → Option D) : List D → D → Option Bool := fun cs dx => match qB o fa fb cs dx with
  | some (.bool c) => some c
  | _ => none
theorem qt_cmp {a b : Expr} {op : CmpOp} {o : D → D → Option D} {fa fb : List D → D → Option D} {p : Pos} (hc : QC prog w op o) (ha : QE prog w scope U x names a fa) (hb : QE prog w scope U x names b fb) (hU : U + 65 < cLine) (hm : behindInMarks op b = false := by with_unfolding_all rfl) : QT prog w scope U x names [.Compare a [op] [b] p] (qTb o fa fb) := ⟨fun A E cenv s m cs dx t Q hs hu hn q e h => by
  unfold qTb at e
  split at e
  · rename_i c' e'
    cases e
    obtain ⟨da, db, c, e1, e2, e3, e4⟩ := qB_some e'
    cases e4
    rw [List.forIn_cons]
    simp only [if_true]
    refine wpAny_bind (wpAny_bind ?_)
    refine wpAny_isTrue_Compare1 (ha.run A E cenv s m cs dx da _ hs hu hn q e1 fun u k as r1 => ?_) hm
    refine hb.run A E cenv _ m cs dx db _ hs hu hn q e2 fun v k2 bs r2 => ?_
    refine hc A E _ u v da db _ as bs _ (by omega) r1 r2 e3 fun b hb => ?_
    cases hb
    refine wpAny_truthy_bool ?_
    refine wpAny_pure ?_
    simp only [List.forIn_nil]
    exact wpAny_pure (h k2)
  · cases e⟩
end

/-! ### what the generator yields -/
def seqQ : D → Option (List D)
  | .list ds => if PyData.canLayAll0 ds = true then some ds else none
  | .tuple ds => if PyData.canLayAll0 ds = true then some ds else none
  | _ => none
def capS (ρ : Sl) : List Nat → Option (List D)
  | [] => some []
  | i :: is => match ρ[i]? with
    | some (some (.val d)) => if d.canLay0 = true then (capS ρ is).map (d :: ·) else none
    | _ => none
def genRun (qt : D → Option Bool) (qe : D → Option D) : List D → Option (List D)
  | [] => some []
  | d :: ds => match qt d with
    | some false => genRun qt qe ds
    | some true => (match qe d with
      | some y => (genRun qt qe ds).map (y :: ·)
      | none => none)
    | none => none
def fGen (caps : List Nat) (fi : M D) (qt : List D → D → Option Bool) (qe : List D → D → Option D) : M (List D) := fun ρ => match fi ρ with
  | some (d, ρ1) => (match seqQ d, capS ρ1 caps with
    | some ds, some cs => (genRun (qt cs) (qe cs) ds).map fun ys => (ys, ρ1)
    | _, _ => none)
  | none => none
def pzOf (qt : D → Option Bool) (ds : List D) (i : Nat) : Bool := match ds[i]? with
  | some d => qt d == some true
  | none => false
theorem pass_range (p : Nat → Bool) (n : Nat) : passing p n 0 = (List.range n).filter p := by
  unfold passing
  rw [List.drop_zero]
theorem genRun_pass {qt : D → Option Bool} {qe : D → Option D} : ∀ {ds ys : List D}, genRun qt qe ds = some ys → ((List.range ds.length).filter (pzOf qt ds)).map (fun i => ds[i]?.bind qe) = ys.map some
  | [], ys, h => by
    cases h
    rfl
  | d :: ds, ys, h => by
    have shift : ∀ z : List Nat, (z.map Nat.succ).filter (pzOf qt (d :: ds)) = (z.filter (pzOf qt ds)).map Nat.succ := fun z => by
      rw [List.filter_map]
      rfl
    have shift2 : ∀ z : List Nat, (z.map Nat.succ).map (fun i => (d :: ds)[i]?.bind qe) = z.map fun i => ds[i]?.bind qe := fun z => by
      rw [List.map_map]
      rfl
    rw [List.length_cons, List.range_succ_eq_map, List.filter_cons, shift]
    unfold genRun at h
    split at h
    · rename_i e
      have z : pzOf qt (d :: ds) 0 = false := by
        show (qt d == some true) = false
        rw [e]
        rfl
      rw [z]
      simp only [Bool.false_eq_true, if_false]
      rw [shift2]
      exact genRun_pass h
    · rename_i e
      have z : pzOf qt (d :: ds) 0 = true := by
        show (qt d == some true) = true
        rw [e]
        rfl
      rw [z]
      simp only [if_true]
      split at h
      · rename_i y ey
        obtain ⟨zs, e1, e2⟩ := Option.map_eq_some_iff.mp h
        subst e2
        rw [List.map_cons, shift2, genRun_pass e1]
        show (qe d) :: _ = _
        rw [ey]
        rfl
      · cases h
    · cases h
theorem genRun_test {qt : D → Option Bool} {qe : D → Option D} : ∀ {ds ys : List D}, genRun qt qe ds = some ys → ∀ d ∈ ds, ∃ b, qt d = some b ∧ (b = true → ∃ y, qe d = some y)
  | d :: ds, ys, h, e, he => by
    unfold genRun at h
    split at h
    · rename_i et
      rcases List.mem_cons.mp he with z | z
      · rw [z]
        exact ⟨false, et, fun q => by cases q⟩
      · exact genRun_test h e z
    · rename_i et
      split at h
      · rename_i y ey
        obtain ⟨zs, e1, e2⟩ := Option.map_eq_some_iff.mp h
        rcases List.mem_cons.mp he with z | z
        · rw [z]
          exact ⟨true, et, fun _ => ⟨y, ey⟩⟩
        · exact genRun_test e1 e z
      · cases h
    · cases h
/-- a value that is a number, a truth, a text: it stands by itself -/
def ScV (v : Value) (d : D) : Prop := (∃ b, d = .bool b ∧ v = .bool b) ∨ (∃ i t, d = .int i ∧ v = .int i t) ∨ ((∀ b : Bool, d ≠ .bool b) ∧ ∀ i : Int, d ≠ .int i)
theorem scv_of {h : Heap} {v : Value} {d : D} {as : List Addr} (r : Reads h v d as) : ScV v d := by
  cases r
  case bool b => exact .inl ⟨b, rfl, rfl⟩
  case int i t => exact .inr (.inl ⟨i, t, rfl, rfl⟩)
  all_goals exact .inr (.inr ⟨fun b z => (by cases z), fun i z => (by cases z)⟩)
theorem passing_len {qt : D → Option Bool} {qe : D → Option D} {ds ys : List D} (h : genRun qt qe ds = some ys) : (passing (pzOf qt ds) ds.length 0).length = ys.length := by
  rw [pass_range]
  have := congrArg List.length (genRun_pass h)
  simpa using this
theorem passing_at {qt : D → Option Bool} {qe : D → Option D} {ds ys : List D} (h : genRun qt qe ds = some ys) {i j : Nat} (e : (passing (pzOf qt ds) ds.length 0)[j]? = some i) : ds[i]?.bind qe = ys[j]? := by
  rw [pass_range] at e
  have q := congrArg (fun l => l[j]?) (genRun_pass h)
  simp only [List.getElem?_map, e, Option.map_some] at q
  cases e2 : ys[j]? with
  | none =>
    rw [e2] at q
    cases q
  | some y =>
    rw [e2] at q
    exact (Option.some.inj q)
/-- the comprehension's scope as seen from around: what it captures stands in cells -/
structure GenC (sc scope : Scope) (x : Str) (names : List Str) : Prop where
  kind : scope.kind = .function
  co : scope.isCoroutine = false
  cell : ∀ y ∈ scope.names, y.2 ≠ .cell
  dot : scope.names.lookup (".0" : Str) = some NameKind.local
  loc : scope.names.lookup x = some .local
  free : ∀ y ∈ scope.names, y.2 = .free → sc.names.lookup y.1 = some .cell ∨ sc.names.lookup y.1 = some .free
  caps : ∀ y ∈ names, (y, NameKind.free) ∈ scope.names
def genCB (sc scope : Scope) (x : Str) (names : List Str) : Bool := scope.names.all (fun y => y.2 != .cell && (y.2 != .free || (sc.names.lookup y.1 == some .cell || sc.names.lookup y.1 == some .free))) && (scope.names.lookup (".0" : Str) == some NameKind.local && (scope.names.lookup x == some .local && names.all fun y => scope.names.contains (y, NameKind.free)))
theorem genC_by {sc scope : Scope} {x : Str} {names : List Str} (hk : scope.kind = .function) (hco : scope.isCoroutine = false) (h : genCB sc scope x names = true) : GenC sc scope x names := by
  unfold genCB at h
  simp only [Bool.and_eq_true, List.all_eq_true] at h
  obtain ⟨h1, h2, h3, h4⟩ := h
  refine ⟨hk, hco, fun y hy z => ?_, eq_of_beq h2, eq_of_beq h3, fun y hy z => ?_, fun y hy => ?_⟩
  · have := (h1 y hy).1
    rw [z] at this
    revert this
    decide
  · have := (h1 y hy).2
    rw [z] at this
    have e : ((NameKind.free != NameKind.free) : Bool) = false := by decide
    rw [e, Bool.false_or, Bool.or_eq_true] at this
    exact this.imp (fun q => eq_of_beq q) (fun q => eq_of_beq q)
  · exact List.contains_iff_mem.mp (h4 y hy)
section
variable {X : Cx} {T : AS}
theorem clo_look {X : Cx} (ok : X.Ok) {scope : Scope} {x : Str} {names : List Str} (S : GenC X.env.scope scope x names) : (∀ y ∈ scope.names, y.2 = .free → ∃ c, X.env.cells.lookup y.1 = some c) ∧ ∀ y ∈ names, ∃ c, X.env.cells.lookup y = some c ∧ (cloFrom X.env.cells scope.names []).lookup y = some c := by
  have h1 : ∀ y ∈ scope.names, y.2 = .free → ∃ c, X.env.cells.lookup y.1 = some c := fun y hy z => ok.has y.1 (S.free y hy z)
  refine ⟨h1, fun y hy => ?_⟩
  obtain ⟨c, hc⟩ := h1 (y, .free) (S.caps y hy) rfl
  refine ⟨c, hc, ?_⟩
  have h2 := cloFrom_has (cells := X.env.cells) (acc := []) (S.caps y hy)
  obtain ⟨c', hc'⟩ := mem_lookup h2
  rw [hc']
  rcases cloFrom_mem (mem_of_lookup hc') with z | ⟨_, z⟩
  · cases z
  · rw [z, hc]
    rfl
theorem capS_get {ρ : Sl} : ∀ {caps : List Nat} {cs : List D}, capS ρ caps = some cs → ∀ {i : Nat} {d : D}, cs[i]? = some d → ∃ j, caps[i]? = some j ∧ ρ[j]? = some (some (.val d)) ∧ d.canLay0 = true
  | [], cs, h, i, d, e => by
    cases h
    simp at e
  | k :: ks, cs, h, i, d, e => by
    unfold capS at h
    split at h
    · rename_i d' e'
      split at h
      · rename_i hz
        obtain ⟨zs, e1, e2⟩ := Option.map_eq_some_iff.mp h
        subst e2
        cases i with
        | zero =>
          simp only [List.getElem?_cons_zero, Option.some.injEq] at e
          subst e
          exact ⟨k, rfl, e', hz⟩
        | succ i =>
          simp only [List.getElem?_cons_succ] at e ⊢
          exact capS_get e1 e
      · cases h
    · cases h
/-- the captured data are read in the cells -/
theorem caps_read {pins : List (Addr × Obj)} {F : Fx} {ρ : Sl} {σ : L2.St} {H : Hp} {s : Shared} {scope : Scope} {x : Str} {names : List Str} {caps : List Nat} {cs : List D} (I : Inv X pins σ H s) (R : Rep X.K T F ρ σ H) (S : GenC X.env.scope scope x names) (hN : ∀ (i : Nat) (y : Str), names[i]? = some y → ∃ j : Nat, caps[i]? = some j ∧ X.N[j]? = some y) (hc : capS ρ caps = some cs) :
    ∀ (i : Nat) (y : Str) (d : D), names[i]? = some y → cs[i]? = some d → ∃ c u as, (cloFrom X.env.cells scope.names []).lookup y = some c ∧ s.heap.IsCell c (some u) ∧ Reads s.heap u d as := fun i y d e1 e2 => by
  obtain ⟨j, e3, e4, e5⟩ := capS_get hc e2
  obtain ⟨j', e6, e7⟩ := hN i y e1
  rw [e3] at e6
  cases e6
  obtain ⟨v, e8, e9⟩ := R.val j d e4
  have hy : y ∈ names := List.mem_of_getElem? e1
  have hf := S.free (y, .free) (S.caps y hy) rfl
  obtain ⟨m, hns, hlk⟩ := I.loc
  obtain ⟨u, hu, hl⟩ := hlk j y v e7 e8 (hf.elim (fun z => .inr (.inl z)) fun z => .inr (.inr z))
  obtain ⟨as, hr⟩ := Dp.reads I d v u (e9.dp d v e5) hu
  obtain ⟨c, g1, g2⟩ := (clo_look I.ok S).2 y hy
  rcases hl with ⟨z, _⟩ | ⟨_, c', z1, z2⟩
  · have z' : X.env.scope.names.lookup y = some .local := z
    rcases hf with q | q <;> (simp only at q; rw [z'] at q; cases q)
  · rw [g1] at z1
    cases z1
    exact ⟨c, u, as, g2, z2, hr⟩
end
end PF
set_option Elab.async false
set_option linter.all false
set_option maxRecDepth 100000
set_option maxHeartbeats 1000000
/-! PF: any, all of a generator expression. -/
namespace PF
open PySem PySem.Spec PyProof.Rows L2
section
variable {X : Cx} {pins : List (Addr × Obj)} {σ : L2.St} {H : Hp} {s : Shared}
/-- the generator g that yields ys, ready to be walked, in the state s5; H1: what was held before -/
def ReadyD (X : Cx) (pins : List (Addr × Obj)) (σ : L2.St) (H1 : Hp) (P : Addr) (ys : List D) (g : Addr) (s5 : Shared) : Prop :=
  ∃ (fp wr : List Addr) (G : Array GenState → Array GenState → Prop) (Fv : Nat → Value → Prop) (St : Nat → Shared → Prop),
    WalksS X.prog X.w X.A.in1 g fp wr G ys.length Fv St ∧ St 0 s5 ∧ (∀ j v, Fv j v → ∃ y, ys[j]? = some y ∧ ScV v y) ∧
    ∀ s', Moved wr G s5 s' → ∃ H2, GxR.Tabbed P H1 H2 ∧ Inv X pins σ H2 s'
theorem seqQ_reads {h : Heap} {u : Value} {d : D} {ds : List D} {as : List Addr} (e : seqQ d = some ds) (r : Reads h u d as) : ∃ (a : Addr) (o : Obj) (vs : Array Value) (n : Nat) (bs : List Addr), u = .ref a ∧ h.get? a = some o ∧ (o.cls = .type "list" ∨ o.cls = .type "tuple") ∧ o.data = .seq vs n ∧ ReadsAll h vs.toList ds bs := by
  unfold seqQ at e
  split at e
  · split at e
    · cases e
      cases r with
      | list h1 h2 h3 h4 => exact ⟨_, _, _, _, _, rfl, h1, .inl h2, h3, h4⟩
    · cases e
  · split at e
    · cases e
      cases r with
      | tuple h1 h2 h3 h4 => exact ⟨_, _, _, _, _, rfl, h1, .inr h2, h3, h4⟩
    · cases e
  · cases e
theorem seqQ_lay {d : D} {ds : List D} (e : seqQ d = some ds) : d.canLay0 = true := by
  unfold seqQ at e
  split at e
  · split at e
    · rename_i h
      simpa only [PyData.canLay0] using h
    · cases e
  · split at e
    · rename_i h
      simpa only [PyData.canLay0] using h
    · cases e
  · cases e
/-- what an iterator over a list or a tuple is -/
theorem walk_seq {prog : Program} {w : World} {A : Around} {E : Value → Shared → Prop} {s1 : Shared} {a : Addr} {o : Obj} {vs : Array Value} {n : Nat} {Q : Value → Shared → Prop} (ho : s1.heap.get? a = some o) (hc : o.cls = .type "list" ∨ o.cls = .type "tuple") (hd : o.data = .seq vs n)
    (hQ : ∀ (ob : Obj) (St : Nat → Heap → Prop), ob.isFreed = false → (∀ A' : Around, A'.handled = none → Walks prog w A' s1.heap.objs.size [s1.heap.objs.size, a] [s1.heap.objs.size] vs.size (fun i v => vs[i]? = some v) St) →
      (∀ h3 : Heap, h3.get? s1.heap.objs.size = some ob → h3.get? a = some o → St 0 h3) → Q (.ref s1.heap.objs.size) { s1 with heap := s1.heap.push ob }) : wpAny (model prog w) A (pyIter (.ref a)) Q E s1 := by
  have ne : a ≠ s1.heap.objs.size := Nat.ne_of_lt (Heap.lt_size ho)
  rcases hc with hc | hc
  · refine wpAny_pyIter_list ⟨o, ho, hc, n, hd⟩ (hQ _ (fun i h => h.IsListIter s1.heap.objs.size a i ∧ h.IsList a vs) rfl (fun A' hA => Walks.list hA _ _ ne _) fun h3 h4 h5 => ⟨⟨_, h4, rfl, rfl⟩, o, h5, hc, n, hd⟩)
  · refine wpAny_pyIter_tuple ⟨o, ho, hc, n, hd⟩ (hQ _ (fun i h => h.IsTupleIter s1.heap.objs.size a i ∧ h.IsTuple a vs) rfl (fun A' hA => Walks.tuple hA _ _ ne _) fun h3 h4 h5 => ⟨⟨_, h4, rfl, rfl⟩, o, h5, hc, n, hd⟩)
theorem gen_seq {T : AS} {c P : Addr} {elt iter : Expr} {ifs : List Expr} {x : Str} {names : List Str} {caps : List Nat} {px gpos : Pos} {scope : Scope} {fi : M D} {qt : List D → D → Option Bool} {qe : List D → D → Option D} {k : Nat} {Q' : Value → Shared → Prop}
    {F : Fx} {ρ ρ' : Sl} {ys : List D}
    (hr : Room k X.A) (TB : GxR.TabB X.base X.mg c P) (hcode : X.env.code = .ref c) (S : GenC X.env.scope scope x names) (hN : ∀ (i : Nat) (y : Str), names[i]? = some y → ∃ j : Nat, caps[i]? = some j ∧ X.N[j]? = some y) (hi : DE X T iter fi) (hel : QE X.prog X.w scope (X.A.units + 8) x names elt qe) (hte : QT X.prog X.w scope (X.A.units + 8) x names ifs qt)
    (hs : ∀ v, genFold iter X.env v = pure v) (hTP : T P) (I : Inv X pins σ H s) (R : Rep X.K T F ρ σ H) (e : fGen caps fi qt qe ρ = some (ys, ρ'))
    (hQ : ∀ H1 g s5, Stp X.K T F σ ρ H ρ' H1 → ReadyD X pins σ H1 P ys g s5 → Q' (.ref g) s5) :
    wpAny (model X.prog X.w) X.A (eval (.GeneratorExp elt [⟨.Name x px, iter, ifs, 0⟩] scope gpos) X.env) Q' X.xe s := by
  unfold fGen at e
  split at e
  · rename_i d0 ρ1 ei
    split at e
    · rename_i ds cs ed ec
      obtain ⟨ys', er, e2⟩ := Option.map_eq_some_iff.mp e
      cases e2
      obtain ⟨ti, hi1, hi2⟩ := hi.ex
      refine wpAny_GeneratorExp_walksQD hr.hd S.co (closure_ok (fun y hy z => I.ok.has y.1 (S.free y hy z))) S.cell S.dot S.loc S.kind (by have := hr.dp; omega) ?_ hs
      refine thn (hi1.run pins s σ H (fun v H1 => Stp X.K T F σ ρ H ρ' H1 ∧ Da X.K (Av F ρ' σ) H1 v d0) I (hi2 F ρ σ H d0 ρ' R ei _ fun v H1 s1 d1 => ⟨s1, d1⟩)) fun xv s1 ⟨v, H1, I1, r1, q1⟩ => ?_
      obtain ⟨st1, da1⟩ := q1
      obtain ⟨as0, rd0⟩ := Dp.reads I1 d0 v xv (da1.dp d0 v (seqQ_lay ed)) r1
      obtain ⟨yl, oy, vs, ny, bs0, rfl, hoy, hcy, hdy, rdA⟩ := seqQ_reads ed rd0
      have rcap := caps_read I1 st1.rep S hN ec
      obtain ⟨ps, hP, ht⟩ := st1.rep.tab P hTP
      refine walk_seq hoy hcy hdy fun o St hfr W hst => ?_
      have hylt : yl < s1.heap.objs.size := Heap.lt_size hoy
      have hPs : s1.heap.get? P = some { cls := .none, data := .fields ps } := I1.hok P _ hP
      have hPlt : P < s1.heap.objs.size := Heap.lt_size hPs
      have hP2 : (s1.heap.push o).get? P = some { cls := .none, data := .fields ps } := Heap.get?_push_of_some _ hPs
      have cd : PySem.W.CodeHd (s1.heap.push o) c P := TB.code.keeps fun b u e => Heap.get?_push_of_some _ (I1.bk b u e)
      have lim2 : (s1.heap.push o).NoLimit := I1.nolimit.push o
      have hlen : vs.size = ds.length := by
        rw [← readsAll_len rdA, Array.length_toList]
      have cont : ∀ (code : Value) (h3 : Heap) (tk : Nat) (ps' : Array Value), Heap.ExtBut P (s1.heap.push o) h3 → (s1.heap.push o).objs.size ≤ h3.objs.size → h3.get? P = some { cls := .none, data := .fields ps' } → (∃ more, ps' = ps ++ more) → TriplesOk ps'.toList →
          wpAny (model X.prog X.w) X.A (builtinsFor X.env.globals X.env.builtins) (fun bi s₄ =>
            ∃ Ia fp wr n₀ Pf St₀ pz Fv, Value.ref s1.heap.objs.size = .ref Ia ∧ (∀ A' : Around, A'.handled = none → Walks X.prog X.w A' Ia fp wr n₀ Pf St₀) ∧ St₀ 0 s₄.heap ∧ (∀ b ∈ fp, b < s₄.heap.objs.size) ∧ s₄.heap.NoLimit ∧ cStatics ∉ wr ∧
              (∀ href : Heap, (∀ b o, s₄.heap.get? b = some o → href.get? b = some o) →
                QuietGenD X.prog X.w (genEnv scope (cloFrom X.env.cells scope.names []) s₄.heap.objs.size code bi X.env) x ifs elt (List.range s₄.heap.objs.size) wr Pf pz Fv href (X.A.depth + 1) (X.A.units + 8)) ∧
              (∀ a h₅ tk gs, gs.bare = true → s₄.heap.objs.size < a → h₅.objs.size = a + 1 → (∀ b o, s₄.heap.get? b = some o → h₅.get? b = some o) →
                WalksS X.prog X.w X.A.in4 a (a :: s₄.heap.objs.size :: List.range s₄.heap.objs.size) (s₄.heap.objs.size :: wr) (GenOnlyQ s₄.gens.size) (passing pz n₀ 0).length
                  (fun j y => ∃ i, (passing pz n₀ 0)[j]? = some i ∧ Fv i y) (GenAt X.prog X.w X.A.in4 a s₄.gens.size s₄.heap.objs.size (List.range s₄.heap.objs.size) wr pz n₀ Fv) →
                GenAt X.prog X.w X.A.in4 a s₄.gens.size s₄.heap.objs.size (List.range s₄.heap.objs.size) wr pz n₀ Fv 0 { s₄ with gens := s₄.gens.push gs, toks := tk, heap := h₅ } →
                Q' (.ref a) { s₄ with gens := s₄.gens.push gs, toks := tk, heap := h₅ })) X.xe { s1 with heap := h3, toks := tk } := by
        intro code h3 tk ps' hx hsz hP3 hmore ht3
        obtain ⟨bm, ob, e1, e2, e3, e4, e5, e6, e7, e8⟩ := TB.bm
        have hcP : cStatics ≠ P := fun e => by
          obtain ⟨_, hns, _⟩ := I1.nolimit
          obtain ⟨o', es, ep, ho, hd, _⟩ := hns
          rw [e, hPs] at ho
          cases ho
          cases hd
        have hcl : cStatics < s1.heap.objs.size := let ⟨_, hns, _⟩ := I1.nolimit; hns.lt
        have sz2 : (s1.heap.push o).objs.size = s1.heap.objs.size + 1 := Heap.size_push ..
        have keep3 : ∀ b u, b ≠ P → s1.heap.get? b = some u → h3.get? b = some u := fun b u hb e => hx b u hb (Heap.get?_push_of_some _ e)
        refine wpAny_builtinsFor (m := X.mg) (by rw [I1.ok.glob]; exact ((I1.mod.glob.keeps I1.bk).push o).extBut hx TB.gP) e1 e2 (keep3 _ _ e4 (I1.bk _ _ e5)) e6 e7 e8 ?_
        have hylP : yl ≠ P := fun z => by
          rw [z, hPs] at hoy
          cases hoy
          cases hdy
        have rd3 : ∀ {v : Value} {d : D} {as : List Addr}, Reads s1.heap v d as → Reads h3 v d as := fun r => reads_but hPs rfl keep3 r
        have rdA3 : ReadsAll h3 vs.toList ds bs0 := readsAll_but hPs rfl keep3 rdA
        refine ⟨s1.heap.objs.size, [s1.heap.objs.size, yl], [s1.heap.objs.size], vs.size, (fun i v => vs[i]? = some v), St, pzOf (qt cs) ds,
          (fun i y => ∃ d u, ds[i]? = some d ∧ qe cs d = some u ∧ ScV y u), rfl, W, hst h3 (hx _ _ (Nat.ne_of_gt hPlt) (Heap.get?_push_size _ hfr)) (keep3 _ _ hylP hoy), ?_, lim2.extBut hx hcP, ?_, ?_, ?_⟩
        · intro b hb
          rcases List.mem_cons.mp hb with z | z
          · rw [z]
            show s1.heap.objs.size < h3.objs.size
            omega
          · rcases List.mem_cons.mp z with z | z
            · rw [z]
              have e9 : s1.heap.objs.size ≤ h3.objs.size := by omega
              exact Nat.lt_of_lt_of_le hylt e9
            · cases z
        · intro z
          rcases List.mem_cons.mp z with z | z
          · exact Nat.ne_of_lt hcl z
          · cases z
        · intro href hhref
          -- what the element sees
          have keepS : ∀ (s₂ : Shared), (∀ b ∈ List.range h3.objs.size, b ∉ [s1.heap.objs.size] → ∀ o, href.get? b = some o → s₂.heap.get? b = some o) → ∀ b u, b ≠ P → s1.heap.get? b = some u → s₂.heap.get? b = some u := fun s₂ hk b u hb e => by
            have hl : b < s1.heap.objs.size := Heap.lt_size e
            have hl3 : b < h3.objs.size := by
              have e9 : s1.heap.objs.size ≤ h3.objs.size := by omega
              exact Nat.lt_of_lt_of_le hl e9
            exact hk b (List.mem_range.mpr hl3) (fun z => by
              rcases List.mem_cons.mp z with z | z
              · exact Nat.ne_of_lt hl z
              · cases z) u (hhref b u (keep3 b u hb e))
          have envS : ∀ (s₂ : Shared) (m₂ : Str → Option Value) (i : Nat) (v : Value) (d : D), (∀ b ∈ List.range h3.objs.size, b ∉ [s1.heap.objs.size] → ∀ o, href.get? b = some o → s₂.heap.get? b = some o) → vs[i]? = some v → ds[i]? = some d → m₂ x = some v →
              ∀ bi : Addr, QEnv (genEnv scope (cloFrom X.env.cells scope.names []) h3.objs.size code bi X.env) s₂.heap m₂ x d names cs := fun s₂ m₂ i v d hk hv hd hm bi => by
            have k2 := keepS s₂ hk
            obtain ⟨d', bs', f1, f2⟩ := readsAll_at rdA (i := i) (v := v) (by simpa using hv)
            rw [hd] at f1
            cases f1
            refine ⟨⟨v, bs', hm, reads_but hPs rfl k2 f2⟩, fun i y d g1 g2 => ?_⟩
            obtain ⟨c, u, as, g3, g4, g5⟩ := rcap i y d g1 g2
            refine ⟨c, u, as, g3, ?_, reads_but hPs rfl k2 g5⟩
            obtain ⟨oc, g6, g7⟩ := g4
            refine ⟨oc, k2 c oc (fun z => ?_) g6, g7⟩
            rw [z, hPs] at g6
            cases g6
            cases g7
          have atD : ∀ (i : Nat) (v : Value), vs[i]? = some v → ∃ d, ds[i]? = some d := fun i v hv => by
            have hi : i < vs.size := (Array.getElem?_eq_some_iff.mp hv).1
            exact ⟨ds[i]'(by omega), List.getElem?_eq_getElem _⟩
          refine ⟨fun A' E' i v s₂ m₂ hA hdp hun hPv hn hm hk => ?_, fun A' E' i v s₂ m₂ hA hdp hun hPv hp hn hm hk => ?_⟩
          · obtain ⟨d, hd⟩ := atD i v hPv
            obtain ⟨b, hb, _⟩ := genRun_test er d (List.mem_of_getElem? hd)
            refine hte.run A' E' _ s₂ m₂ cs d b _ rfl hun hn (envS s₂ m₂ i v d hk hPv hd hm _) hb fun k => ⟨?_, GxR.keeps_tok _ _⟩
            unfold pzOf
            rw [hd]
            show b = (qt cs d == some true)
            rw [hb]
            cases b <;> rfl
          · obtain ⟨d, hd⟩ := atD i v hPv
            obtain ⟨b, hb, hy⟩ := genRun_test er d (List.mem_of_getElem? hd)
            unfold pzOf at hp
            rw [hd] at hp
            have hp2 : (qt cs d == some true) = true := hp
            rw [hb] at hp2
            obtain ⟨u, hu⟩ := hy (by cases b with | true => rfl | false => cases hp2)
            exact hel.run A' E' _ s₂ m₂ cs d u _ rfl hun hn (envS s₂ m₂ i v d hk hPv hd hm _) hu fun y k as rr => ⟨⟨d, u, hd, hu, scv_of rr⟩, GxR.keeps_tok _ _⟩
        · intro g h5 tk5 gs hgb hag hsz5 hk5 W5 hgat
          rw [hlen] at W5 hgat
          rw [passing_len er] at W5
          refine hQ H1 g _ st1 ⟨_, _, _, _, _, W5.in4_1, hgat, fun j v hv => ?_, fun s' hm => ?_⟩
          · obtain ⟨i, hij, d, u, hd, hu, hsc⟩ := hv
            have := passing_at er hij
            rw [hd] at this
            exact ⟨u, by rw [← this]; exact hu, hsc⟩
          · obtain ⟨more, em⟩ := hmore
            have nwr : ∀ b u, s1.heap.get? b = some u → b ∉ h3.objs.size :: [s1.heap.objs.size] := fun b u e hb => by
              have hl := Heap.lt_size e
              rcases List.mem_cons.mp hb with z | z
              · rw [z] at hl
                have h9 : (h3.objs.size : Nat) < s1.heap.objs.size := hl
                omega
              · rcases List.mem_cons.mp z with z | z
                · rw [z] at hl
                  exact Nat.lt_irrefl _ hl
                · cases z
            have J := GxR.inv_tab (more := more) (h' := s'.heap) (g' := s'.gens) (d' := s'.drawn) (t' := s'.toks) I1 hP (fun b u hb e => hm.heap b u (nwr b u e) (hk5 b u (keep3 b u hb e)))
              (by rw [← em]; exact hm.heap P _ (nwr P _ hPs) (hk5 P _ hP3)) (AllBare.movedS (I1.bare.push hgb) hm)
            rw [GxR.sh_eta s1 s' hm.os] at J
            refine ⟨upd H1 P (.tbl (ps ++ more)), ⟨⟨ps ++ more, upd_same, by rw [← em]; exact ht3⟩, fun b hb => upd_ne hb⟩, J⟩
      refine ⟨lim2, ?_⟩
      cases hf : codeAmong gpos ps.toList with
      | none =>
        refine wpAny_genexprCodeX hcode (cd.code hP2 ht) (cd.tab hP2) hf fun c' h' tk hx hge hlt hco' _ htab' _ => ?_
        obtain ⟨o1, vs, f1, tf, fl, tg, inF, tx, tt, op, _, _, _, _, _, _, _, _, _, htr, _⟩ := hco'
        exact cont _ h' tk _ hx (Nat.le_trans hge (Nat.le_of_lt hlt)) htab'.2 ⟨_, rfl⟩ htr
      | some cv =>
        refine wpAny_genexprCode_hit hcode (cd.code hP2 ht) hf ?_
        exact cont cv (s1.heap.push o) s1.toks ps (Heap.ExtBut.refl _ _) (Nat.le_refl _) hP2 ⟨#[], by simp⟩ ht
    · cases e
  · cases e
/-! ### any, all -/
def asBoolsM (f : M (List D)) : M (List Bool) := bd f fun ys => lf (asBools ys)
def fAny (f : M (List D)) : M D := bd (asBoolsM f) fun bs => pr (.bool (bs.any id))
def fAll (f : M (List D)) : M D := bd (asBoolsM f) fun bs => pr (.bool (bs.all id))
theorem range_any {p : Nat → Bool} {bs : List Bool} (h : ∀ j b, bs[j]? = some b → p j = b) : (List.range bs.length).any p = bs.any id := by
  rw [Bool.eq_iff_iff, List.any_eq_true, List.any_eq_true]
  constructor
  · intro ⟨j, hj, e⟩
    have hj' := List.mem_range.mp hj
    exact ⟨bs[j], List.getElem_mem hj', by rw [← h j _ (List.getElem?_eq_getElem hj')]; exact e⟩
  · intro ⟨b, hb, e⟩
    obtain ⟨j, hj, e2⟩ := List.getElem_of_mem hb
    exact ⟨j, List.mem_range.mpr hj, by rw [h j b (by rw [List.getElem?_eq_getElem hj, e2])]; exact e⟩
theorem range_all {p : Nat → Bool} {bs : List Bool} (h : ∀ j b, bs[j]? = some b → p j = b) : (List.range bs.length).all p = bs.all id := by
  rw [Bool.eq_iff_iff, List.all_eq_true, List.all_eq_true]
  constructor
  · intro hp b hb
    obtain ⟨j, hj, e2⟩ := List.getElem_of_mem hb
    have := hp j (List.mem_range.mpr hj)
    rw [h j b (by rw [List.getElem?_eq_getElem hj, e2])] at this
    exact this
  · intro hp j hj
    have hj' := List.mem_range.mp hj
    rw [h j _ (List.getElem?_eq_getElem hj')]
    exact hp _ (List.getElem_mem hj')
/-- the truth at place j -/
def trB (bs : List Bool) (j : Nat) : Bool := bs.getD j false
theorem trB_at {bs : List Bool} : ∀ j b, bs[j]? = some b → trB bs j = b := fun j b e => by
  unfold trB
  rw [List.getD_eq_getElem?_getD, e]
  rfl
theorem truth_bs {A : Around} {Fv : Nat → Value → Prop} {ys : List D} {bs : List Bool} (hb : asBools ys = some bs) (h : ∀ j v, Fv j v → ∃ y, ys[j]? = some y ∧ ScV v y) : TruthOf X.prog X.w A Fv (trB bs) := fun j v sj Qj Ej hv hq => by
  obtain ⟨y, hy, sc⟩ := h j v hv
  rw [asBools_eq hb, List.getElem?_map] at hy
  obtain ⟨b, hb2, rfl⟩ := Option.map_eq_some_iff.mp hy
  rw [trB_at j b hb2] at hq
  rcases sc with ⟨b', e, rfl⟩ | ⟨i, t, e, _⟩ | ⟨z, _⟩
  · cases e
    exact wpAny_truthy_bool hq
  · cases e
  · exact absurd rfl (z b)
theorem len_bs {ys : List D} {bs : List Bool} (hb : asBools ys = some bs) : ys.length = bs.length := by
  rw [asBools_eq hb, List.length_map]
theorem tabbed_stp {T : AS} {F : Fx} {ρ ρ' : Sl} {H1 H2 : Hp} {P : Addr} (hTP : T P) (s1 : Stp X.K T F σ ρ H ρ' H1) (t : GxR.Tabbed P H1 H2) : Stp X.K T F σ ρ H ρ' H2 :=
  s1.tabs (fun a o e n => by rw [t.2 a (fun z => n (by rw [z]; exact hTP))]; exact e) fun a z => by
    by_cases q : a = P
    · rw [q]
      exact t.1
    · obtain ⟨ps, e1, e2⟩ := s1.rep.tab a z
      exact ⟨ps, by rw [t.2 a q]; exact e1, e2⟩
theorem boot_any' : bootBuiltins "any" = some (.builtin "any") := by decide +kernel
theorem boot_all' : bootBuiltins "all" = some (.builtin "all") := by decide +kernel
theorem e_anyG {T : AS} {c P : Addr} {elt iter : Expr} {ifs : List Expr} {x : Str} {names : List Str} {caps : List Nat} {px p pos gpos : Pos} {scope : Scope} {fi : M D} {qt : List D → D → Option Bool} {qe : List D → D → Option D} {k : Nat}
    (hr : Room k X.A) (hg : Gl X "any") (hm : X.mg "any" = none) (TB : GxR.TabB X.base X.mg c P) (hcode : X.env.code = .ref c) (hTP : T P) (S : GenC X.env.scope scope x names) (hN : ∀ (i : Nat) (y : Str), names[i]? = some y → ∃ j : Nat, caps[i]? = some j ∧ X.N[j]? = some y) (hi : DE X T iter fi) (hel : QE X.prog X.w scope (X.A.units + 8) x names elt qe) (hte : QT X.prog X.w scope (X.A.units + 8) x names ifs qt)
    (hs : ∀ v, genFold iter X.env v = pure v := by intro _; rfl)
    (he : starEach [.GeneratorExp elt [⟨.Name x px, iter, ifs, 0⟩] scope gpos] X.env = (false, eval (.GeneratorExp elt [⟨.Name x px, iter, ifs, 0⟩] scope gpos) X.env) :: starEach [] X.env := by rfl) :
    DE X T (.Call (.Name "any" p) [.GeneratorExp elt [⟨.Name x px, iter, ifs, 0⟩] scope gpos] [] pos) (fAny (fGen caps fi qt qe)) := by
  refine ⟨tE X.K T (fAny (fGen caps fi qt qe)), ⟨fun pins s σ H Q I h => ?_⟩, se_tE⟩
  obtain ⟨F, ρ, d, ρ', R, e, q⟩ := h
  obtain ⟨bs, ρ1, e1, e2⟩ := bd_some e
  obtain ⟨ys, ρ2, e3, e4⟩ := bd_some e1
  obtain ⟨e5, rfl⟩ := lf_some e4
  cases e2
  refine wpAny_Call_Name_kw (ld_blt I hg hm boot_any' ?_)
  refine PyProof.Rows.callWith_builtin1 ?_ he (by rfl)
  rw [he]
  show wpAny _ _ (spliced ((false, eval (.GeneratorExp elt [⟨.Name x px, iter, ifs, 0⟩] scope gpos) X.env) :: backTo pos (starEach [] X.env))) _ _ s
  refine Calls.spliced_cons (gen_seq hr TB hcode S hN hi hel hte hs hTP I R e3 fun H1 g s5 st1 hG => ?_)
  obtain ⟨fp, wr, G, Fv, St, W, hst, hF, hI⟩ := hG
  refine Calls.spliced_nil ?_
  refine call_any_walkS (W.self 0 _ _ _ hst ⟨g, fp, wr, G, _, Fv, St, _, rfl, W, hst, truth_bs e5 hF, fun s' hmv => ?_⟩)
  obtain ⟨H2, hT, J⟩ := hI s' hmv
  refine ⟨.bl _, H2, J, rfl, ?_⟩
  rw [len_bs e5, range_any trB_at]
  exact q _ H2 (tabbed_stp hTP st1 hT) (.bl _)
theorem e_allG {T : AS} {c P : Addr} {elt iter : Expr} {ifs : List Expr} {x : Str} {names : List Str} {caps : List Nat} {px p pos gpos : Pos} {scope : Scope} {fi : M D} {qt : List D → D → Option Bool} {qe : List D → D → Option D} {k : Nat}
    (hr : Room k X.A) (hg : Gl X "all") (hm : X.mg "all" = none) (TB : GxR.TabB X.base X.mg c P) (hcode : X.env.code = .ref c) (hTP : T P) (S : GenC X.env.scope scope x names) (hN : ∀ (i : Nat) (y : Str), names[i]? = some y → ∃ j : Nat, caps[i]? = some j ∧ X.N[j]? = some y) (hi : DE X T iter fi) (hel : QE X.prog X.w scope (X.A.units + 8) x names elt qe) (hte : QT X.prog X.w scope (X.A.units + 8) x names ifs qt)
    (hs : ∀ v, genFold iter X.env v = pure v := by intro _; rfl)
    (he : starEach [.GeneratorExp elt [⟨.Name x px, iter, ifs, 0⟩] scope gpos] X.env = (false, eval (.GeneratorExp elt [⟨.Name x px, iter, ifs, 0⟩] scope gpos) X.env) :: starEach [] X.env := by rfl) :
    DE X T (.Call (.Name "all" p) [.GeneratorExp elt [⟨.Name x px, iter, ifs, 0⟩] scope gpos] [] pos) (fAll (fGen caps fi qt qe)) := by
  refine ⟨tE X.K T (fAll (fGen caps fi qt qe)), ⟨fun pins s σ H Q I h => ?_⟩, se_tE⟩
  obtain ⟨F, ρ, d, ρ', R, e, q⟩ := h
  obtain ⟨bs, ρ1, e1, e2⟩ := bd_some e
  obtain ⟨ys, ρ2, e3, e4⟩ := bd_some e1
  obtain ⟨e5, rfl⟩ := lf_some e4
  cases e2
  refine wpAny_Call_Name_kw (ld_blt I hg hm boot_all' ?_)
  refine PyProof.Rows.callWith_builtin1 ?_ he (by rfl)
  rw [he]
  show wpAny _ _ (spliced ((false, eval (.GeneratorExp elt [⟨.Name x px, iter, ifs, 0⟩] scope gpos) X.env) :: backTo pos (starEach [] X.env))) _ _ s
  refine Calls.spliced_cons (gen_seq hr TB hcode S hN hi hel hte hs hTP I R e3 fun H1 g s5 st1 hG => ?_)
  obtain ⟨fp, wr, G, Fv, St, W, hst, hF, hI⟩ := hG
  refine Calls.spliced_nil ?_
  refine call_all_walkS (W.self 0 _ _ _ hst ⟨g, fp, wr, G, _, Fv, St, _, rfl, W, hst, truth_bs e5 hF, fun s' hmv => ?_⟩)
  obtain ⟨H2, hT, J⟩ := hI s' hmv
  refine ⟨.bl _, H2, J, rfl, ?_⟩
  rw [len_bs e5, range_all trB_at]
  exact q _ H2 (tabbed_stp hTP st1 hT) (.bl _)
end
end PF
set_option Elab.async false
set_option linter.all false
set_option maxRecDepth 100000
set_option maxHeartbeats 1000000
/-! PF: sets of ints by a comprehension of two clauses. -/
namespace PF
open PySem PySem.Spec PyProof.Rows L2
theorem sTurn2_out (elt t0 i0 t1 i1 : Expr) (ifs0 ifs1 : List Expr) (scope : Scope) (pos : Pos) (it acc : Value) (env : Env) :
    compTurn (.SetComp elt [⟨t0, i0, ifs0, 0⟩, ⟨t1, i1, ifs1, 0⟩] scope pos) 0 it acc env = (do
      standAt i0.pos
      match ← pyNext it with
      | none => pure (.done .next)
      | some v =>
        letOwnedTupleGo t0 it v
        assign t0 env v
        let mut ok := true
        for c in ifs0 do
          if ok then ok ← isTrue c env (eval c env)
        if ok then
          let x ← eval i1 env
          standAt i1.pos
          let x ← foldedSetIterable i1 env x
          let _ ← runOwn (.compStart (.SetComp elt [⟨t0, i0, ifs0, 0⟩, ⟨t1, i1, ifs1, 0⟩] scope pos) 1 (← holding [x] (pyIter x)) acc env) env
        again (.compLoop (.SetComp elt [⟨t0, i0, ifs0, 0⟩, ⟨t1, i1, ifs1, 0⟩] scope pos) 0 it acc env)) := by rfl
theorem sTurn2_in (elt t0 i0 t1 i1 : Expr) (ifs0 ifs1 : List Expr) (scope : Scope) (pos : Pos) (it acc : Value) (env : Env) :
    compTurn (.SetComp elt [⟨t0, i0, ifs0, 0⟩, ⟨t1, i1, ifs1, 0⟩] scope pos) 1 it acc env = (do
      standAt i1.pos
      match ← pyNext it with
      | none => pure (.done .next)
      | some v =>
        letOwnedTupleGo t1 it v
        assign t1 env v
        let mut ok := true
        for c in ifs1 do
          if ok then ok ← isTrue c env (eval c env)
        if ok then
          (do let v ← eval elt env; standAt elt.pos; let _ ← call (.builtin "set.add") [acc, v])
        again (.compLoop (.SetComp elt [⟨t0, i0, ifs0, 0⟩, ⟨t1, i1, ifs1, 0⟩] scope pos) 1 it acc env)) := by rfl

section
variable {prog : Program} {w : World} {A : Around} {R : Result → Shared → Prop} {s : Shared} {elt t0 i0 t1 i1 : Expr} {ifs0 ifs1 : List Expr} {scope : Scope} {pos : Pos} {it acc : Value} {env : Env}
/-- the loop of the first clause -/
theorem sLoop2_out (hs : ∀ x, foldedSetIterable i1 env x = pure x) (I : Nat → Shared → Prop)
    (turn : ∀ n s, I n s → wpAny (model prog w) A (pyNext it) (fun r s₁ => match r with
      | none => R (.ok .next) s₁
      | some v => wpAny (model prog w) A (letOwnedTupleGo t0 it v) (fun _ s₁' => wpAny (model prog w) A (assign t0 env v) (fun _ s₂ =>
          wpAny (model prog w) A (forIn ifs0 true fun c r => if r = true then do let ok ← isTrue c env (eval c env); pure (ForInStep.yield ok) else pure (ForInStep.yield r)) (fun ok s₃ =>
            if ok = true then wpAny (model prog w) A (eval i1 env) (fun x s₄ => wpAny (model prog w) A (pyIter x) (fun it1 s₅ =>
              codeAny (model prog w) A (.compStart (.SetComp elt [⟨t0, i0, ifs0, 0⟩, ⟨t1, i1, ifs1, 0⟩] scope pos) 1 it1 acc env) (fun r s' => match r with
                | .ok _ => ∃ m, m < n ∧ I m s'
                | .error _ => False) s₅) (notedBy (model prog w) A env fun e s' => R (.error e) s') s₄) (notedBy (model prog w) A env fun e s' => R (.error e) s') s₃
            else ∃ m, m < n ∧ I m s₃) (notedBy (model prog w) A env fun e s' => R (.error e) s') s₂) (notedBy (model prog w) A env fun e s' => R (.error e) s') s₁') (notedBy (model prog w) A env fun e s' => R (.error e) s') s₁) (notedBy (model prog w) A env fun e s' => R (.error e) s') s)
    (n : Nat) (h : I n s) :
    codeAny (model prog w) A (.compLoop (.SetComp elt [⟨t0, i0, ifs0, 0⟩, ⟨t1, i1, ifs1, 0⟩] scope pos) 0 it acc env) R s := by
  refine codeAny_loop rfl I (fun n s hI => ?_) n h
  show wpAny _ A ((compTurn (.SetComp elt [⟨t0, i0, ifs0, 0⟩, ⟨t1, i1, ifs1, 0⟩] scope pos) 0 it acc env).onRaise (fun x => do noteFrame x env; theTreesLotGoes x)) _ _ s
  refine wpAny_noted ?_
  rw [sTurn2_out]
  refine wpAny_bind (wpAny_standAt (wpAny_bind (wpAny_mono (turn n s hI) (fun r s₁ h₁ => ?_) fun _ _ h' => h')))
  cases r with
  | none => exact wpAny_pure h₁
  | some v =>
    refine wpAny_bind (wpAny_mono h₁ (fun _ s₁' h₁' => ?_) fun _ _ h' => h')
    refine wpAny_bind (wpAny_mono h₁' (fun _ s₂ h₂ => wpAny_bind (wpAny_mono h₂ (fun ok s₃ h₃ => ?_) fun _ _ h' => h')) fun _ _ h' => h')
    cases ok with
    | false => exact wpAny_pure ⟨rfl, h₃⟩
    | true =>
      refine wpAny_bind (wpAny_mono h₃ (fun x s₄ h₄ => ?_) fun _ _ h' => h')
      refine wpAny_bind (wpAny_standAt (wpAny_bind (wpAny_of_eq (hs x) (wpAny_bind (wpAny_holding (wpAny_mono h₄ (fun it1 s₅ h₅ => ?_) fun _ _ h' => h'))))))
      refine wpAny_bind (wpAny_runOwn ?_)
      rw [Around.mark_none]
      refine codeAny_mono h₅ fun r s' hr => ?_
      cases r with
      | ok f =>
        first
          | exact wpAny_pure ⟨rfl, hr⟩
          | exact wpAny_bind (wpAny_pure (wpAny_pure ⟨rfl, hr⟩))
      | error e => exact hr.elim
/-- the loop of the second -/
theorem sLoop2_in (I : Nat → Shared → Prop)
    (turn : ∀ n s, I n s → wpAny (model prog w) A (pyNext it) (fun r s₁ => match r with
      | none => R (.ok .next) s₁
      | some v => wpAny (model prog w) A (letOwnedTupleGo t1 it v) (fun _ s₁' => wpAny (model prog w) A (assign t1 env v) (fun _ s₂ =>
          wpAny (model prog w) A (forIn ifs1 true fun c r => if r = true then do let ok ← isTrue c env (eval c env); pure (ForInStep.yield ok) else pure (ForInStep.yield r)) (fun ok s₃ =>
            if ok = true then wpAny (model prog w) A (eval elt env) (fun x s₄ =>
              wpAny (model prog w) A (call (.builtin "set.add") [acc, x]) (fun _ s₅ => ∃ m, m < n ∧ I m s₅) (notedBy (model prog w) A env fun e s' => R (.error e) s') s₄) (notedBy (model prog w) A env fun e s' => R (.error e) s') s₃
            else ∃ m, m < n ∧ I m s₃) (notedBy (model prog w) A env fun e s' => R (.error e) s') s₂) (notedBy (model prog w) A env fun e s' => R (.error e) s') s₁') (notedBy (model prog w) A env fun e s' => R (.error e) s') s₁) (notedBy (model prog w) A env fun e s' => R (.error e) s') s)
    (n : Nat) (h : I n s) :
    codeAny (model prog w) A (.compLoop (.SetComp elt [⟨t0, i0, ifs0, 0⟩, ⟨t1, i1, ifs1, 0⟩] scope pos) 1 it acc env) R s := by
  refine codeAny_loop rfl I (fun n s hI => ?_) n h
  show wpAny _ A ((compTurn (.SetComp elt [⟨t0, i0, ifs0, 0⟩, ⟨t1, i1, ifs1, 0⟩] scope pos) 1 it acc env).onRaise (fun x => do noteFrame x env; theTreesLotGoes x)) _ _ s
  refine wpAny_noted ?_
  rw [sTurn2_in]
  refine wpAny_bind (wpAny_standAt (wpAny_bind (wpAny_mono (turn n s hI) (fun r s₁ h₁ => ?_) fun _ _ h' => h')))
  cases r with
  | none => exact wpAny_pure h₁
  | some v =>
    refine wpAny_bind (wpAny_mono h₁ (fun _ s₁' h₁' => ?_) fun _ _ h' => h')
    refine wpAny_bind (wpAny_mono h₁' (fun _ s₂ h₂ => wpAny_bind (wpAny_mono h₂ (fun ok s₃ h₃ => ?_) fun _ _ h' => h')) fun _ _ h' => h')
    cases ok with
    | false => exact wpAny_pure ⟨rfl, h₃⟩
    | true =>
      exact wpAny_bind (wpAny_bind (wpAny_mono h₃ (fun x s₄ h₄ => wpAny_bind (wpAny_standAt (wpAny_bind (wpAny_mono h₄ (fun _ s₅ h₅ => wpAny_pure (wpAny_pure ⟨rfl, h₅⟩)) fun _ _ h' => h')))) fun _ _ h' => h'))
/-- the second clause's start -/
theorem sStart1_ok (h0 : codeAny (model prog w) A (.compLoop (.SetComp elt [⟨t0, i0, ifs0, 0⟩, ⟨t1, i1, ifs1, 0⟩] scope pos) 1 it acc env) R s)
    (h : wpAny (model prog w) A (pyIter it) (fun it' s' => codeAny (model prog w) A (.compLoop (.SetComp elt [⟨t0, i0, ifs0, 0⟩, ⟨t1, i1, ifs1, 0⟩] scope pos) 1 it' acc env) R s')
      (notedBy (model prog w) A env fun x s' => R (.error x) s') s) :
    codeAny (model prog w) A (.compStart (.SetComp elt [⟨t0, i0, ifs0, 0⟩, ⟨t1, i1, ifs1, 0⟩] scope pos) 1 it acc env) R s := by
  refine codeAny_of_tree ?_
  show wpAny _ _ ((compStart (.SetComp elt [⟨t0, i0, ifs0, 0⟩, ⟨t1, i1, ifs1, 0⟩] scope pos) 1 it acc env).onRaise (fun x => do noteFrame x env; standAt theWindowsPlace)) _ _ s
  refine wpAny_notedAt ?_
  unfold compStart
  show wpAny _ _ (ask >>= _) _ _ s
  refine wpAny_bind (wpAny_askSetting (wpAny_ite ?_))
  split
  · first
      | exact wpAny_bind (wpAny_pure (wpAny_pure (And.intro rfl h0)))
      | exact wpAny_pure (And.intro rfl h0)
  · first
      | exact wpAny_bind (wpAny_rule (wpAny_bind (wpAny_standAt (wpAny_bind (wpAny_mono h (fun it' s' h' => wpAny_pure (And.intro rfl h')) fun _ _ x => x)))))
      | (refine wpAny_bind (wpAny_rule ?_); show wpAny _ _ (standAt i1.pos >>= _) _ _ s; exact wpAny_bind (wpAny_standAt (wpAny_bind (wpAny_mono h (fun it' s' h' => wpAny_pure (And.intro rfl h')) fun _ _ x => x))))
end

section
variable {X : Cx}
/-- {elt for tg in iter if .. for tg1 in iter1 if ..}, the elements ints: D the new set -/
def tSc2 (w : World) (wi : TI) (g : TG) (tt : TT) (wi1 : TI) (g1 : TG) (tt1 : TT) (te : TE) (vs vs1 : List Nat) : TE := fun σ H Q => wi σ H fun J H1 => ∀ D, H1 D = none → ∃ W : Nat → Nat → Hp → Prop, (∃ m, W 0 m (upd H1 D (SetO w D (fun _ => false) 0))) ∧ ∀ i m H, W i m H →
  (J.stop i H ∧ Q (.ref D) H) ∨ (J.go i H ∧ ∃ Nx : Hp → Prop, (∀ H', Nx H' → ∃ m', m' < m ∧ W (i + 1) m' H') ∧ ∀ x H', J.yld i H x H' → g x (wipe σ vs) H' fun σ2 H2 => wipe σ2 vs = wipe σ vs ∧ tt σ2 H2 fun b H3 =>
    if b = true then wi1 σ2 H3 fun J1 H4 => ∃ W1 : Nat → Nat → Hp → Prop, (∃ m, W1 0 m H4) ∧ ∀ j k H, W1 j k H →
      (J1.stop j H ∧ Nx H) ∨ (J1.go j H ∧ ∃ Nx1 : Hp → Prop, (∀ H', Nx1 H' → ∃ k', k' < k ∧ W1 (j + 1) k' H') ∧ ∀ x H', J1.yld j H x H' → g1 x (wipe σ2 vs1) H' fun σ3 H5 => wipe σ3 vs1 = wipe σ2 vs1 ∧ tt1 σ3 H5 fun b H6 =>
        if b = true then te σ3 H6 fun y H7 => ∃ (c : Int) (S : Int → Bool) (n : Nat), y = .int c ∧ H7 D = some (SetO w D S n) ∧ n + 1 < scanBound ∧ Nx1 (upd H7 D (SetO w D (fun j => S j || decide (j = c)) (if S c = true then n else n + 1))) else Nx1 H6)
    else Nx H3)
theorem addI_ok {pins : List (Addr × Obj)} {σ : L2.St} {H : Hp} {s : Shared} {E : Value → Shared → Prop} {D : Addr} {S : Int → Bool} {n : Nat} {y : Int} {tk : Tok} {Q : Value → Shared → Prop} (I : Inv X pins σ H s) (hD : H D = some (SetO X.w D S n)) (room : n + 1 < scanBound)
    (h : ∀ s', Inv X pins σ (upd H D (SetO X.w D (fun j => S j || decide (j = y)) (if S y = true then n else n + 1))) s' → Q .none s') : wpAny (model X.prog X.w) X.A (call (.builtin "set.add") [.ref D, .int y tk]) Q E s :=
  setR_add (setO_get I hD) room fun h' sb new => h _ (I.write (e := D) (t' := s.toks + 1) (by rw [hD]; trivial) (.inl rfl) (fun b u hb hu => (sb.2 b hb).trans hu) (let ⟨o, _, _, _, ho, _⟩ := new; ⟨o, ho⟩) (setO_new new))
theorem sc2_core {pins : List (Addr × Obj)} {s : Shared} {σ : L2.St} {H : Hp} {Q : VK} {elt tg iter tg1 iter1 : Expr} {ifs ifs1 : List Expr} {scope : Scope} {own : List (Str × Nat)} {vs1 : List Nat} {pos pos' : Pos} {wi wi1 : TI} {g g1 : TG} {tt tt1 : TT} {te : TE} {use : Option (Value → Sem Unit)} {Qf : Value → Shared → Prop}
    (hc : X.calm = true) (hN : X.N.Nodup) (I : Inv X pins σ H s) (hi : PI X tg iter wi) (ok : BlkOk X.N X.env.scope scope own) (hv : ∀ i ∈ vs1, i ∈ own.map (·.2))
    (hg : ∀ (s : Shared) (H : Hp) (C : Addr) (cl : List (Str × Addr)) (fp : List Addr), PG (X.blk s H scope (compEnvC scope cl C X.env) fp) tg g) (ht : ∀ (s : Shared) (H : Hp) (C : Addr) (cl : List (Str × Addr)) (fp : List Addr), PTs (X.blk s H scope (compEnvC scope cl C X.env) fp) ifs tt)
    (he : ∀ (s : Shared) (H : Hp) (C : Addr) (cl : List (Str × Addr)) (fp : List Addr), PE (X.blk s H scope (compEnvC scope cl C X.env) fp) elt te) (hs : ∀ x, foldedSetIterable iter X.env x = pure x)
    (hi1 : ∀ (s : Shared) (H : Hp) (C : Addr) (cl : List (Str × Addr)) (fp : List Addr), PI (X.blk s H scope (compEnvC scope cl C X.env) fp) tg1 iter1 wi1)
    (hg1 : ∀ (s : Shared) (H : Hp) (C : Addr) (cl : List (Str × Addr)) (fp : List Addr), PG (X.blk s H scope (compEnvC scope cl C X.env) fp) tg1 g1)
    (ht1 : ∀ (s : Shared) (H : Hp) (C : Addr) (cl : List (Str × Addr)) (fp : List Addr), PTs (X.blk s H scope (compEnvC scope cl C X.env) fp) ifs1 tt1)
    (hs1 : ∀ env x, foldedSetIterable iter1 env x = pure x)
    (h : tSc2 X.w wi g tt wi1 g1 tt1 te (own.map (·.2)) vs1 σ H Q)
    (hRR : ∀ D C s' m H', Inv X pins σ H' s' → Q (.ref D) H' → s'.heap.Ns C m → FpOk X pins H' C → compPost (model X.prog X.w) X.A X.xe use Qf (.ref D) C (.ok .next) s') :
    wpAny (model X.prog X.w) X.A (comprehension (.SetComp elt [⟨tg, iter, ifs, 0⟩, ⟨tg1, iter1, ifs1, 0⟩] scope pos) scope X.env pos' (newSet (.type "set")) false (eval iter X.env) use) Qf X.xe s := by
  have hfree : ∀ y ∈ scope.names, y.2 = .free → ∃ c, X.env.cells.lookup y.1 = some c := fun y hy e => by
    rcases ok.free y hy e with k | k
    · exact I.ok.has _ (.inl k)
    · exact I.ok.has _ (.inr k)
  refine wpAny_comprehension_free (use := use) rfl hs (closure_ok hfree) ok.kind (fun y hy e => by rw [ok.uniq y hy, e])
    (thn (hi.run pins s σ H _ I h) fun xv s1 hx => thn hx fun itv s2 h2 => ?_)
  obtain ⟨it, fp, tn, J, H2, e, I2, T, st2, f2, q⟩ := h2
  subst e
  refine PpSet.newSet_ok (newEnv_comp ?_)
  generalize hD : s2.heap.objs.size = D
  have hDn : H2 D = none := I2.hok.fresh (Nat.le_of_eq hD)
  obtain ⟨W, ⟨m0, w0⟩, turn⟩ := q D hDn
  -- the new list
  generalize hs3 : ({ s2 with heap := s2.heap.push { cls := .type "set", dict := none, data := .set #[] 0 (.fresh 0 0 (!X.w.params.followText "set-order")) } } : Shared) = s3
  have I3 : Inv X pins σ (upd H2 D (SetO X.w D (fun _ => false) 0)) s3 := by
    rw [← hs3]
    refine I2.laid (t' := s2.toks) (fun b o e => Heap.get?_push_of_some _ e) (Nat.le_of_eq hD) ?_
    rw [← hD]
    exact setO_new (setR_fresh X.w)
  have h3 : s3.heap = s2.heap.push { cls := .type "set", dict := none, data := .set #[] 0 (.fresh 0 0 (!X.w.params.followText "set-order")) } := by rw [← hs3]
  have sz : ∀ b ∈ fp, b < s2.heap.objs.size := fun b hb => by
    obtain ⟨o, e, _⟩ := T.obj _ _ st2 b hb
    exact Heap.lt_size e
  have f3 : ∀ b ∈ fp, FpOk X pins (upd H2 D (SetO X.w D (fun _ => false) 0)) b ∧ b < s3.heap.objs.size := fun b hb => by
    have hlt := sz b hb
    refine ⟨⟨?_, (f2 b hb).2⟩, by rw [h3, Heap.size_push]; exact Nat.lt_succ_of_lt hlt⟩
    rw [upd_ne (by rw [← hD]; exact Nat.ne_of_lt hlt)]
    exact (f2 b hb).1
  have st3 : tn 0 s3.heap := T.keep _ _ _ st2 fun b _ o e => by rw [h3]; exact Heap.get?_push_of_some _ e
  have I4 := block_start I3 ok hN f3
  have pg := hg s3 (upd H2 D (SetO X.w D (fun _ => false) 0)) s3.heap.objs.size (cellsFrom (s3.heap.objs.size + 1) scope.names (cloFrom X.env.cells scope.names [])) fp
  have pt := ht s3 (upd H2 D (SetO X.w D (fun _ => false) 0)) s3.heap.objs.size (cellsFrom (s3.heap.objs.size + 1) scope.names (cloFrom X.env.cells scope.names [])) fp
  have pe := he s3 (upd H2 D (SetO X.w D (fun _ => false) 0)) s3.heap.objs.size (cellsFrom (s3.heap.objs.size + 1) scope.names (cloFrom X.env.cells scope.names [])) fp
  have pi1 := hi1 s3 (upd H2 D (SetO X.w D (fun _ => false) 0)) s3.heap.objs.size (cellsFrom (s3.heap.objs.size + 1) scope.names (cloFrom X.env.cells scope.names [])) fp
  have pg1 := hg1 s3 (upd H2 D (SetO X.w D (fun _ => false) 0)) s3.heap.objs.size (cellsFrom (s3.heap.objs.size + 1) scope.names (cloFrom X.env.cells scope.names [])) fp
  have pt1 := ht1 s3 (upd H2 D (SetO X.w D (fun _ => false) 0)) s3.heap.objs.size (cellsFrom (s3.heap.objs.size + 1) scope.names (cloFrom X.env.cells scope.names [])) fp
  show codeAny _ _ (.compStart (.SetComp elt [⟨tg, iter, ifs, 0⟩, ⟨tg1, iter1, ifs1, 0⟩] scope pos) 0 (.ref it) (.ref D) (compEnvC scope (cellsFrom (s3.heap.objs.size + 1) scope.names (cloFrom X.env.cells scope.names [])) s3.heap.objs.size X.env)) (compPost (model X.prog X.w) X.A X.xe use Qf (.ref D) s3.heap.objs.size) { s3 with heap := pushCells (s3.heap.push { cls := .type "dict", data := .dict #[] }) scope.names }
  have nfp : ∀ b ∈ fp, (upd H2 D (SetO X.w D (fun _ => false) 0)) b = none := fun b hb => (f3 b hb).1.1
  generalize hce : compEnvC scope (cellsFrom (s3.heap.objs.size + 1) scope.names (cloFrom X.env.cells scope.names [])) s3.heap.objs.size X.env = ce at I4 pg pt pe pi1 pg1 pt1 ⊢
  have cL : ce.locals = s3.heap.objs.size := by subst hce; rfl
  generalize hH3 : upd H2 D (SetO X.w D (fun _ => false) 0) = H3 at I3 I4 pg pt pe pi1 pg1 pt1 w0 nfp f3
  generalize hs4 : ({ s3 with heap := pushCells (s3.heap.push { cls := .type "dict", data := .dict #[] }) scope.names } : Shared) = s4 at I4 ⊢
  have st4 : tn 0 s4.heap := T.keep _ _ _ st3 fun b _ o e => by rw [← hs4]; exact pushCells_keeps _ _ _ _ (Heap.get?_push_of_some _ e)
  have stat : ∀ {σ' : L2.St} {H' : Hp} {s' : Shared}, Inv (X.blk s3 H3 scope ce fp) [] σ' H' s' → (∀ b ∈ fp, H' b = none) → ∀ b ∈ fp, FpOk (X.blk s3 H3 scope ce fp) [] H' b := fun {σ' H' s'} I' hn b hb =>
    ⟨hn b hb, (I'.ok.exf b hb).1, I'.ok.exfs b hb, .inl hb, fun x c e => (I'.ok.exf b hb).2 x c e, fun p hp => absurd (show p ∈ ([] : List (Addr × Obj)) ++ [] from hp) (by simp)⟩
  have loop : codeAny (model X.prog X.w) X.A (.compLoop (.SetComp elt [⟨tg, iter, ifs, 0⟩, ⟨tg1, iter1, ifs1, 0⟩] scope pos) 0 (.ref it) (.ref D) ce) (compPost (model X.prog X.w) X.A X.xe use Qf (.ref D) s3.heap.objs.size) s4 := by
    refine sLoop2_out (hs1 ce) (fun n s' => ∃ i H', Inv (X.blk s3 H3 scope ce fp) [] (wipe σ (own.map (·.2))) H' s' ∧ tn i s'.heap ∧ (∀ b ∈ fp, H' b = none) ∧ W i n H') ?_ m0 ⟨0, H3, I4, st4, nfp, w0⟩
    rintro n s5 ⟨i, H5, I5, st5, n5, w5⟩
    rcases turn i n H5 w5 with ⟨stop, qq⟩ | ⟨go, Nx, hNx, step⟩
    · have td := T.done (X.blk s3 H3 scope ce fp) rfl rfl rfl hc i [] s5 _ H5 (fun _ _ => False) I5 (stat I5 n5) st5 stop
      refine thnF td fun r s6 ⟨hr, I6⟩ => ?_
      subst hr
      -- back in the def's context
      have I7 : Inv X pins σ H5 s6 := I3.call' (ch := fp) I6.os I6.base I6.hok I6.bare fun b hb => ⟨(f3 b hb).1.2.2.2.1, (f3 b hb).1.2.1, (f3 b hb).1.2.2.2.2.1, (f3 b hb).1.2.2.2.2.2⟩
      have nC : H5 s3.heap.objs.size = none := by
        have z : H5 ce.locals = none := I6.free
        rw [cL] at z
        exact z
      obtain ⟨m, hn, _⟩ := I6.loc
      have hn : s6.heap.Ns ce.locals m := hn
      rw [cL] at hn
      exact hRR D s3.heap.objs.size s6 m H5 I7 qq hn (I3.fpOk (Nat.le_refl _) nC)
    · have ti := T.item (X.blk s3 H3 scope ce fp) rfl rfl rfl hc i [] s5 _ H5 (fun _ _ => False) I5 (stat I5 n5) st5 go
      refine thnF ti fun r s6 ⟨u, hr, h6⟩ => ?_
      subst hr
      refine thnF h6 fun _ s7 ⟨x, H7, I7, r7, y7, st7, n7⟩ => ?_
      have I7' := I7.pinned (stat I7 n7) (T.obj _ _ st7)
      refine thnF (pg.run _ s7 _ H7 x u _ I7' r7 (step x H7 y7)) fun _ s8 ⟨σ8, H8, I8, hw8, q8⟩ => ?_
      refine thnF (pt.run _ s8 σ8 H8 _ I8 q8) fun b s9 ⟨H9, I9, q9⟩ => ?_
      -- the turn's end, from any slots that know what the block knew at its start
      have fin : ∀ {σ9 : L2.St} {s' : Shared} {H' : Hp}, Inv (X.blk s3 H3 scope ce fp) ([] ++ pinsAt fp s7.heap) σ9 H' s' → (wipe σ (own.map (·.2))).length = σ9.length → (∀ (j : Nat) v, (wipe σ (own.map (·.2)))[j]? = some (some v) → σ9[j]? = some (some v)) → Nx H' →
          ∃ m, m < n ∧ ∃ i H', Inv (X.blk s3 H3 scope ce fp) [] (wipe σ (own.map (·.2))) H' s' ∧ tn i s'.heap ∧ (∀ b ∈ fp, H' b = none) ∧ W i m H' := fun {σ9 s' H'} I' hl hk nx => by
        obtain ⟨m', hm, w'⟩ := hNx H' nx
        have pin' : ∀ b ∈ fp, ∀ o, s7.heap.get? b = some o → s'.heap.get? b = some o ∧ H' b = none := fun b hb o e =>
          let z := I'.pin (b, o) (List.mem_append_right _ (List.mem_append_right _ (mem_pinsAt hb e)))
          ⟨z.1, z.2.1⟩
        refine ⟨m', hm, i + 1, H', (I'.unpinned (pins := [])).weak hl hk, T.keep _ _ _ st7 fun b hb o e => (pin' b hb o e).1, fun b hb => ?_, w'⟩
        obtain ⟨o, e, _⟩ := T.obj _ _ st7 b hb
        exact (pin' b hb o e).2
      have hl8 : (wipe σ (own.map (·.2))).length = σ8.length := by rw [← hw8, wipe_length]
      have hk8 : ∀ (j : Nat) v, (wipe σ (own.map (·.2)))[j]? = some (some v) → σ8[j]? = some (some v) := fun j v e => by
        rw [← hw8] at e
        exact (wipe_some e).1
      have hk9 : ∀ (j : Nat) v, (wipe σ (own.map (·.2)))[j]? = some (some v) → (wipe σ8 vs1)[j]? = some (some v) := fun j v e => by
        rw [← hw8] at e
        obtain ⟨e1, e2⟩ := wipe_some e
        rw [wipe_out fun z => e2 (hv j z)]
        exact e1
      cases b with
      | false =>
        simp only [Bool.false_eq_true, if_false] at q9 ⊢
        exact fin I9 hl8 hk8 q9
      | true =>
        simp only [if_true] at q9 ⊢
        refine thnF (pi1.run _ s9 σ8 H9 _ I9 q9) fun xv s10 hx => thnF hx fun itv s11 h11 => ?_
        obtain ⟨it1, fp1, tn1, J1, H11, e1, I11, T1, st11, f11, W1, ⟨m1, w1⟩, turn1⟩ := h11
        subst e1
        -- the inner loop
        have stat1 : ∀ {H' : Hp}, (∀ b ∈ fp1, H' b = none) → ∀ b ∈ fp1, FpOk (X.blk s3 H3 scope ce fp) ([] ++ pinsAt fp s7.heap) H' b := fun hn b hb => ⟨hn b hb, (f11 b hb).2⟩
        have loop1 : codeAny (model X.prog X.w) X.A (.compLoop (.SetComp elt [⟨tg, iter, ifs, 0⟩, ⟨tg1, iter1, ifs1, 0⟩] scope pos) 1 (.ref it1) (.ref D) ce)
            (fun r s' => match r with
              | .ok _ => ∃ m, m < n ∧ ∃ i H', Inv (X.blk s3 H3 scope ce fp) [] (wipe σ (own.map (·.2))) H' s' ∧ tn i s'.heap ∧ (∀ b ∈ fp, H' b = none) ∧ W i m H'
              | .error _ => False) s11 := by
          refine sLoop2_in (fun k s' => ∃ j H', Inv (X.blk s3 H3 scope ce fp) ([] ++ pinsAt fp s7.heap) (wipe σ8 vs1) H' s' ∧ tn1 j s'.heap ∧ (∀ b ∈ fp1, H' b = none) ∧ W1 j k H') ?_ m1 ⟨0, H11, I11.weak (wipe_length _ _) (fun j v e => (wipe_some e).1), st11, fun b hb => (f11 b hb).1, w1⟩
          rintro k s12 ⟨j, H12, I12, st12, n12, w12⟩
          rcases turn1 j k H12 w12 with ⟨stop1, nx1⟩ | ⟨go1, Nx1, hNx1, step1⟩
          · refine thnF (T1.done (X.blk s3 H3 scope ce fp) rfl rfl rfl hc j _ s12 (wipe σ8 vs1) H12 (fun _ _ => False) I12 (stat1 n12) st12 stop1) fun r s13 ⟨hr, I13⟩ => ?_
            subst hr
            exact fin I13 (hl8.trans (wipe_length σ8 vs1).symm) hk9 nx1
          · refine thnF (T1.item (X.blk s3 H3 scope ce fp) rfl rfl rfl hc j _ s12 (wipe σ8 vs1) H12 (fun _ _ => False) I12 (stat1 n12) st12 go1) fun r s13 ⟨u1, hr, h13⟩ => ?_
            subst hr
            refine thnF h13 fun _ s14 ⟨x1, H14, I14, r14, y14, st14, n14⟩ => ?_
            have I14' := I14.pinned (stat1 n14) (T1.obj _ _ st14)
            refine thnF (pg1.run _ s14 (wipe σ8 vs1) H14 x1 u1 _ I14' r14 (step1 x1 H14 y14)) fun _ s15 ⟨σ15, H15, I15, hw15, q15⟩ => ?_
            refine thnF (pt1.run _ s15 σ15 H15 _ I15 q15) fun b1 s16 ⟨H16, I16, q16⟩ => ?_
            have fin1 : ∀ {s' : Shared} {H' : Hp}, Inv (X.blk s3 H3 scope ce fp) (([] ++ pinsAt fp s7.heap) ++ pinsAt fp1 s14.heap) σ15 H' s' → Nx1 H' → ∃ m, m < k ∧ ∃ j H', Inv (X.blk s3 H3 scope ce fp) ([] ++ pinsAt fp s7.heap) (wipe σ8 vs1) H' s' ∧ tn1 j s'.heap ∧ (∀ b ∈ fp1, H' b = none) ∧ W1 j m H' := fun {s' H'} I' nx => by
              obtain ⟨m', hm, w'⟩ := hNx1 H' nx
              have pin' : ∀ b ∈ fp1, ∀ o, s14.heap.get? b = some o → s'.heap.get? b = some o ∧ H' b = none := fun b hb o e =>
                let z := I'.pin (b, o) (List.mem_append_right _ (List.mem_append_right _ (mem_pinsAt hb e)))
                ⟨z.1, z.2.1⟩
              refine ⟨m', hm, j + 1, H', I'.unpinned.weak (by rw [← hw15, wipe_length]) (fun j v e => by rw [← hw15] at e; exact (wipe_some e).1), T1.keep _ _ _ st14 fun b hb o e => (pin' b hb o e).1, fun b hb => ?_, w'⟩
              obtain ⟨o, e, _⟩ := T1.obj _ _ st14 b hb
              exact (pin' b hb o e).2
            cases b1 with
            | false =>
              simp only [Bool.false_eq_true, if_false] at q16 ⊢
              exact fin1 I16 q16
            | true =>
              simp only [if_true] at q16 ⊢
              refine thnF (pe.run _ s16 σ15 H16 _ I16 q16) fun z s17 ⟨yv, H17, I17, r17, cb, S0, n0, ey, hD17, hz17, nx⟩ => ?_
              subst ey
              obtain ⟨tk, ez⟩ := (show ∃ t, z = Value.int cb t from r17)
              subst ez
              exact addI_ok (X := X.blk s3 H3 scope ce fp) I17 hD17 hz17 fun s18 I18 => fin1 I18 nx
        exact sStart1_ok loop1 (T1.self X.A 0 _ _ _ st11 loop1)
  exact PpSet.codeAny_compStart_set loop (T.self X.A 0 _ _ _ st4 loop)
theorem pe_sc2 {elt tg iter tg1 iter1 : Expr} {ifs ifs1 : List Expr} {scope : Scope} {own : List (Str × Nat)} {vs1 : List Nat} {pos : Pos} {wi wi1 : TI} {g g1 : TG} {tt tt1 : TT} {te : TE} (hc : X.calm = true) (hN : X.N.Nodup) (hi : PI X tg iter wi) (ok : BlkOk X.N X.env.scope scope own) (hv : ∀ i ∈ vs1, i ∈ own.map (·.2))
    (hg : ∀ (s : Shared) (H : Hp) (C : Addr) (cl : List (Str × Addr)) (fp : List Addr), PG (X.blk s H scope (compEnvC scope cl C X.env) fp) tg g) (ht : ∀ (s : Shared) (H : Hp) (C : Addr) (cl : List (Str × Addr)) (fp : List Addr), PTs (X.blk s H scope (compEnvC scope cl C X.env) fp) ifs tt)
    (hi1 : ∀ (s : Shared) (H : Hp) (C : Addr) (cl : List (Str × Addr)) (fp : List Addr), PI (X.blk s H scope (compEnvC scope cl C X.env) fp) tg1 iter1 wi1)
    (hg1 : ∀ (s : Shared) (H : Hp) (C : Addr) (cl : List (Str × Addr)) (fp : List Addr), PG (X.blk s H scope (compEnvC scope cl C X.env) fp) tg1 g1) (ht1 : ∀ (s : Shared) (H : Hp) (C : Addr) (cl : List (Str × Addr)) (fp : List Addr), PTs (X.blk s H scope (compEnvC scope cl C X.env) fp) ifs1 tt1)
    (he : ∀ (s : Shared) (H : Hp) (C : Addr) (cl : List (Str × Addr)) (fp : List Addr), PE (X.blk s H scope (compEnvC scope cl C X.env) fp) elt te) (hs : ∀ x, foldedSetIterable iter X.env x = pure x := by intro _; rfl) (hs1 : ∀ env x, foldedSetIterable iter1 env x = pure x := by intro _ _; rfl) :
    PE X (.SetComp elt [⟨tg, iter, ifs, 0⟩, ⟨tg1, iter1, ifs1, 0⟩] scope pos) (tSc2 X.w wi g tt wi1 g1 tt1 te (own.map (·.2)) vs1) := by
  refine ⟨fun pins s σ H Q I h => ?_⟩
  rw [PpSet.eval_SetComp]
  refine sc2_core hc hN I hi ok hv hg ht he hs hi1 hg1 ht1 hs1 h fun D C s' m H' I' q hn f => ⟨m, hn, fun h'' sb => ?_⟩
  obtain ⟨f0, f1, f2, f3, f4, f5⟩ := f
  exact ⟨.ref D, H', I'.turned (t' := s'.toks) (fun b o hb e => (sb.2 b hb).trans e) f0 f1 f3 f4 f5, rfl, q⟩
end
end PF
set_option Elab.async false
set_option linter.all false
set_option maxRecDepth 100000
set_option maxHeartbeats 1000000
/-! PF: sets of ints, sorted. -/
namespace PF
open PySem PySem.Spec PyProof.Rows L2

/-! ### the distinct ones, in the sequence of their first place -/
def addD (l : List Int) (k : Int) : List Int := if k ∈ l then l else l ++ [k]
def ddI (ns : List Int) : List Int := ns.foldl addD []
theorem addD_mem {l : List Int} {k j : Int} : j ∈ addD l k ↔ j ∈ l ∨ j = k := by
  unfold addD
  split
  · rename_i h
    exact ⟨.inl, fun z => z.elim id fun z => by rw [z]; exact h⟩
  · rw [List.mem_append, List.mem_singleton]
theorem addD_nodup {l : List Int} {k : Int} (h : l.Nodup) : (addD l k).Nodup := by
  unfold addD
  split
  · exact h
  · rename_i hn
    rw [List.nodup_append]
    exact ⟨h, by simp, fun a ha b hb => by rw [List.mem_singleton.mp hb]; exact fun z => hn (by rw [← z]; exact ha)⟩
theorem fold_mem {j : Int} : ∀ {ns l : List Int}, j ∈ ns.foldl addD l ↔ j ∈ l ∨ j ∈ ns
  | [], l => by simp
  | n :: ns, l => by
    rw [List.foldl_cons, fold_mem, addD_mem, List.mem_cons]
    constructor
    · rintro ((h | h) | h)
      · exact .inl h
      · exact .inr (.inl h)
      · exact .inr (.inr h)
    · rintro (h | h | h)
      · exact .inl (.inl h)
      · exact .inl (.inr h)
      · exact .inr h
theorem fold_nodup : ∀ {ns l : List Int}, l.Nodup → (ns.foldl addD l).Nodup
  | [], _, h => h
  | n :: ns, l, h => by
    rw [List.foldl_cons]
    exact fold_nodup (addD_nodup h)
theorem ddI_mem {j : Int} {ns : List Int} : j ∈ ddI ns ↔ j ∈ ns := by
  unfold ddI
  rw [fold_mem]
  simp
theorem ddI_nodup (ns : List Int) : (ddI ns).Nodup := fold_nodup List.nodup_nil
theorem ddI_snoc (ns : List Int) (k : Int) : ddI (ns ++ [k]) = addD (ddI ns) k := by
  unfold ddI
  rw [List.foldl_append]
  rfl
/-- the sorted distinct ones -/
def sdI (ns : List Int) : List Int := sortI (ddI ns)
theorem sdI_mem {j : Int} {ns : List Int} : j ∈ sdI ns ↔ j ∈ ns := ((sortI_perm (ddI ns)).mem_iff).trans ddI_mem
theorem perm_nodup {l m : List Int} (hl : l.Nodup) (hm : m.Nodup) (h : ∀ k, k ∈ l ↔ k ∈ m) : l.Perm m := (List.perm_ext_iff_of_nodup hl hm).mpr h
theorem lt_nodup {l : List Int} (h : l.Pairwise (· < ·)) : l.Nodup := h.imp fun h => Int.ne_of_lt h
theorem sdI_unique {l ns : List Int} (h : l.Pairwise (· < ·)) (e : ∀ k, k ∈ l ↔ k ∈ ns) : l = sdI ns :=
  sortI_unique (perm_nodup (lt_nodup h) (ddI_nodup ns) fun k => (e k).trans ddI_mem.symm) (h.imp fun h => Int.le_of_lt h)
theorem sdI_lt (ns : List Int) : (sdI ns).Pairwise (· < ·) := by
  have h1 := sortI_sorted (ddI ns)
  have h2 : (sdI ns).Nodup := (sortI_perm (ddI ns)).nodup_iff.mpr (ddI_nodup ns)
  have h3 := h1.and h2
  exact h3.imp fun h => (by have h1 := h.1; have h2 := h.2; omega)

/-! ### an expression whose value is a new set of ints -/
structure NewZ (K : PySem.W.Frag) (w : World) (T : AS) (F : Fx) (σ : L2.St) (ρ : Sl) (H : Hp) (ρ' : Sl) (H' : Hp) (p : Addr) (ns : List Int) (b : Nat) : Prop where
  rep : Rep K T (F.and p) ρ' σ H'
  st : Stay (fun a => T a ∨ Ow ρ σ a) H H'
  dm : ∀ a o, H a = some o → ∃ o', H' a = some o'
  sh : Shr ρ ρ'
  at_ : ∃ (Sf : Int → Bool) (n : Nat), H' p = some (SetO w p Sf n) ∧ (∀ k, Sf k = true ↔ k ∈ ns) ∧ n ≤ b
  nb : ¬ F.B p
  nh : F.H p = none
  new : H p = none
def SZ (K : PySem.W.Frag) (w : World) (T : AS) (t : TE) (f : M (List Int × Nat)) : Prop := ∀ (F : Fx) (ρ : Sl) (σ : L2.St) (H : Hp) (ns : List Int) (b : Nat) (ρ' : Sl), Rep K T F ρ σ H → f ρ = some ((ns, b), ρ') →
  ∀ Q : VK, (∀ p H', NewZ K w T F σ ρ H ρ' H' p ns b → Q (.ref p) H') → t σ H Q
structure DZ (X : Cx) (T : AS) (e : Expr) (f : M (List Int × Nat)) : Prop where
  ex : ∃ t, PE X e t ∧ SZ X.K X.w T t f
/-- sorted(set) -/
def fSortZ (f : M (List Int × Nat)) : M (List D) := bd f fun z => if z.2 < 64 then pr ((sdI z.1).map PyData.int) else fun _ => none
theorem boot_sorted' : bootBuiltins "sorted" = some (.builtin "sorted") := by decide +kernel
section
variable {X : Cx} {T : AS}
theorem f_sortZ {e : Expr} {f : M (List Int × Nat)} {p pos : Pos} (hc : X.calm = true) (hg : Gl X "sorted") (hm : X.mg "sorted" = none) (he : DZ X T e f) (hs : starEach [e] X.env = (false, eval e X.env) :: starEach [] X.env := by rfl) :
    DF X T (.Call (.Name "sorted" p) [e] [] pos) (fSortZ f) := by
  obtain ⟨t, h1, h2⟩ := he.ex
  refine ⟨_, pe_callB (cr_sortedSet hc) hg hm boot_sorted' (pa_cons h1 pa_nil hs) (by decide) (by decide) (he := hs), fun F ρ σ H d ρ' R e Q q => ?_⟩
  obtain ⟨⟨ns, b⟩, ρ1, e1, e2⟩ := bd_some e
  split at e2
  · rename_i hb
    cases e2
    refine h2 F ρ σ H ns b ρ' R e1 _ fun p H1 z => ?_
    obtain ⟨Sf, n, z1, z2, z3⟩ := z.at_
    refine ⟨p, Sf, n, rfl, z1, Nat.lt_of_le_of_lt z3 hb, fun ms p' hlt hmem hlen hp' => ?_⟩
    have em : ms = sdI ns := sdI_unique hlt fun k => (hmem k).trans (z2 k)
    have st : Stp X.K T F σ ρ H ρ' H1 := ⟨z.rep.weak_and R.sub, z.st, z.dm, z.sh⟩
    refine q p' _ _ (New.of_upd st hp' ?_)
    rw [em]
    exact DaL.of_ints _
  · cases e2
/-- set(tuple of ints) -/
def rSetT (K : PySem.W.Frag) (w : World) : List V → Hp → VK → Prop := fun vs H Q => ∃ (a : Addr) (ns : List Int), vs = [.ref a] ∧ SqT K H a (ns.map V.int) ∧ ns.length < 64 ∧
  ∀ (p : Addr) (Sf : Int → Bool) (n : Nat), H p = none → (∀ k, Sf k = true ↔ k ∈ ns) → n ≤ ns.length → Q (.ref p) (upd H p (SetO w p Sf n))
theorem cr_setT (hc : X.calm = true) : CallR X (.type "set") (rSetT X.K X.w) := by
  intro pins s σ H vs us Q I r h
  obtain ⟨a, ns, rfl, ht, hl, q⟩ := h
  rw [Vals.ref1 r]
  obtain ⟨its, rv, pt, _⟩ := I.tuple ht
  refine call_set_tupI ns (I.ok.hd hc) pt (ints_of_vals rv) (by unfold scanBound; omega) fun h' tk c R1 hcn k => ?_
  exact ⟨.ref _, _, I.laid (t' := tk) k (Nat.le_refl _) (setO_new R1), rfl, q _ _ _ (I.hok.fresh (Nat.le_refl _)) (fun k => decide_eq_true_iff) hcn⟩
def oSetT : D → Option (List Int × Nat)
  | .tuple ds => (asInts ds).bind fun ns => if ns.length < 64 then some (ns, ns.length) else none
  | _ => none
def fSetT (fa : M D) : M (List Int × Nat) := bd fa fun x => lf (oSetT x)
theorem boot_set' : bootBuiltins "set" = some (.type "set") := by decide +kernel
theorem z_setT {a : Expr} {fa : M D} {p pos : Pos} (hc : X.calm = true) (hg : Gl X "set") (hm : X.mg "set" = none) (ha : DE X T a fa) (hs : starEach [a] X.env = (false, eval a X.env) :: starEach [] X.env := by rfl) :
    DZ X T (.Call (.Name "set" p) [a] [] pos) (fSetT fa) := by
  obtain ⟨t, h1, h2⟩ := ha.ex
  refine ⟨_, pe_callTy (cr_setT hc) hg hm boot_set' (pa_cons h1 pa_nil hs) (by decide) (by decide) (he := hs), fun F ρ σ H ns b ρ' R e Q q => ?_⟩
  obtain ⟨x, ρ1, e1, e2⟩ := bd_some e
  obtain ⟨e3, rfl⟩ := lf_some e2
  unfold oSetT at e3
  split at e3
  · rename_i ds
    obtain ⟨ms, e4, e5⟩ := Option.bind_eq_some_iff.mp e3
    split at e5
    · rename_i hl
      cases e5
      refine h2 F ρ σ H _ ρ' R e1 _ fun v H1 s1 d1 => ?_
      cases d1 with
      | tup hs ha =>
        rename_i a xs
        rw [asInts_eq e4] at ha
        have ex := ha.ints
        subst ex
        refine ⟨a, ns, rfl, hs.sq, hl, fun p Sf n hp hk hn => q p _ ⟨s1.rep.and_new hp, s1.st.trans (Ext.new hp).stay, fun a o z => (s1.dm a o z).elim fun o' e' => ⟨o', Ext.new hp _ _ e'⟩, s1.sh, ⟨Sf, n, upd_same, hk, hn⟩, fun z => s1.rep.fresh hp (.inl z), s1.rep.no_fh hp, s1.dm_none hp⟩⟩
    · cases e5
  · cases e3
/-! ### {b for a in iter for b in a}, of ints -/
def flatP : List D → Option (List (List Int))
  | [] => some []
  | d :: ds => match (oSeq d).bind asInts with
    | some a => (flatP ds).map (a :: ·)
    | none => none
theorem flatP_len : ∀ {ds : List D} {ps : List (List Int)}, flatP ds = some ps → ps.length = ds.length
  | [], ps, h => by
    cases h
    rfl
  | d :: ds, ps, h => by
    unfold flatP at h
    split at h
    · obtain ⟨qs, e1, e2⟩ := Option.map_eq_some_iff.mp h
      subst e2
      exact congrArg Nat.succ (flatP_len e1)
    · cases h
theorem flatP_get : ∀ {ds : List D} {ps : List (List Int)}, flatP ds = some ps → ∀ {i : Nat} {d : D}, ds[i]? = some d → ∃ a, ps[i]? = some a ∧ oSeq d = some (a.map PyData.int)
  | [], ps, h, i, d, e => by simp at e
  | c :: ds, ps, h, i, d, e => by
    unfold flatP at h
    split at h
    · rename_i a ea
      obtain ⟨qs, e1, e2⟩ := Option.map_eq_some_iff.mp h
      subst e2
      cases i with
      | zero =>
        simp only [List.getElem?_cons_zero, Option.some.injEq] at e
        subst e
        obtain ⟨es, f1, f2⟩ := Option.bind_eq_some_iff.mp ea
        exact ⟨a, rfl, by rw [f1, asInts_eq f2]⟩
      | succ i =>
        simp only [List.getElem?_cons_succ] at e ⊢
        exact flatP_get e1 e
    · cases h
theorem wipeS_out {ρ : Sl} {i : Nat} : ∀ {vs : List Nat}, i ∉ vs → (wipeS ρ vs)[i]? = ρ[i]?
  | [], _ => rfl
  | v :: vs, h => by
    rw [List.mem_cons, not_or] at h
    unfold wipeS
    rw [List.getElem?_set_ne (fun e => h.1 e.symm)]
    exact wipeS_out h.2
theorem wipeS_at {ρ : Sl} {i : Nat} : ∀ {vs : List Nat}, i ∈ vs → i < ρ.length → (wipeS ρ vs)[i]? = some none
  | v :: vs, h, hl => by
    unfold wipeS
    by_cases e : v = i
    · subst e
      rw [List.getElem?_set_self (by rw [wipeS_length]; exact hl)]
    · rw [List.getElem?_set_ne e]
      exact wipeS_at ((List.mem_cons.mp h).elim (fun z => absurd z.symm e) id) hl
theorem wipeS_congr {ρ ρ' : Sl} {vs : List Nat} (hl : ρ.length = ρ'.length) (h : ∀ j : Nat, j ∉ vs → ρ[j]? = ρ'[j]?) : wipeS ρ vs = wipeS ρ' vs := by
  refine List.ext_getElem? fun i => ?_
  by_cases hi : i ∈ vs
  · by_cases hz : i < ρ.length
    · rw [wipeS_at hi hz, wipeS_at hi (by rw [← hl]; exact hz)]
    · rw [List.getElem?_eq_none (by rw [wipeS_length]; omega), List.getElem?_eq_none (by rw [wipeS_length]; omega)]
  · rw [wipeS_out hi, wipeS_out hi]
    exact h i hi
def fSc2 (ia ib : Nat) (vs : List Nat) (fi : M (List D)) : M (List Int × Nat) := fun ρ => match fi ρ with
  | some (ds, ρ1) => (match flatP ds with
    | some ps => if (ddI ps.flatten).length < 1000 ∧ ia < ρ1.length ∧ ib < ρ1.length then some ((ps.flatten, (ddI ps.flatten).length), wipeS ρ1 vs) else none
    | none => none)
  | none => none
/-- the set at D holds the ints of l -/
def SetAt (w : World) (D : Addr) (H : Hp) (l : List Int) : Prop := ∃ (Sf : Int → Bool) (n : Nat), H D = some (SetO w D Sf n) ∧ (∀ k, Sf k = true ↔ k ∈ l) ∧ n = (ddI l).length
theorem SetAt.add {w : World} {D : Addr} {H : Hp} {l : List Int} {c : Int} (h : SetAt w D H l) : ∃ (Sf : Int → Bool) (n : Nat), H D = some (SetO w D Sf n) ∧ n = (ddI l).length ∧ SetAt w D (upd H D (SetO w D (fun j => Sf j || decide (j = c)) (if Sf c = true then n else n + 1))) (l ++ [c]) := by
  obtain ⟨Sf, n, h1, h2, h3⟩ := h
  refine ⟨Sf, n, h1, h3, _, _, upd_same, fun k => ?_, ?_⟩
  · rw [Bool.or_eq_true, h2 k, decide_eq_true_eq, List.mem_append, List.mem_singleton]
  · rw [ddI_snoc]
    unfold addD
    by_cases hz : Sf c = true
    · rw [if_pos hz, if_pos (ddI_mem.mpr ((h2 c).mp hz))]
      exact h3
    · rw [if_neg hz, if_neg fun q => hz ((h2 c).mpr (ddI_mem.mp q)), List.length_append, h3]
      rfl
theorem ddI_mono {l m : List Int} : (ddI l).length ≤ (ddI (l ++ m)).length := by
  unfold ddI
  rw [List.foldl_append]
  generalize List.foldl addD [] l = z
  induction m generalizing z with
  | nil => exact Nat.le_refl _
  | cons k m ih =>
    rw [List.foldl_cons]
    refine Nat.le_trans ?_ (ih _)
    unfold addD
    split
    · exact Nat.le_refl _
    · rw [List.length_append]
      omega
theorem flat_take {ps : List (List Int)} {i j : Nat} {a : List Int} (h : ps[i]? = some a) : ∃ m, ps.flatten = (ps.take i).flatten ++ a.take j ++ m := by
  obtain ⟨hi, e⟩ := List.getElem?_eq_some_iff.mp h
  refine ⟨a.drop j ++ (ps.drop (i + 1)).flatten, ?_⟩
  have e1 : ps.flatten = (ps.take i ++ a :: ps.drop (i + 1)).flatten := by
    rw [← e, ← List.drop_eq_getElem_cons hi, List.take_append_drop]
  rw [e1, List.flatten_append, List.flatten_cons, List.append_assoc, ← List.append_assoc (a.take j), List.take_append_drop]
theorem take_flat {ps : List (List Int)} {i : Nat} {a : List Int} (h : ps[i]? = some a) : (ps.take (i + 1)).flatten = (ps.take i).flatten ++ a := by
  rw [List.take_add_one, h, Option.toList_some, List.flatten_append, List.flatten_singleton]
theorem take_snoc {a : List Int} {j : Nat} {c : Int} (h : a[j]? = some c) : a.take (j + 1) = a.take j ++ [c] := by
  rw [List.take_add_one, h]
  rfl
theorem z_sc2 {a b : Str} {iter : Expr} {scope : Scope} {pa pa2 pb pb2 pos : Pos} {ia ib : Nat} {own : List (Str × Nat)} {fi : M (List D)} (hc : X.calm = true) (hN : X.N.Nodup) (ok : BlkOk X.N X.env.scope scope own) (hi : DI X T (.Name a pa) iter fi)
    (hga : ∀ s H C cl fp, PG (bk X scope s H C cl fp) (.Name a pa) (gName ia)) (hgb : ∀ s H C cl fp, PG (bk X scope s H C cl fp) (.Name b pb) (gName ib)) (hia : ∀ s H C cl fp, DI (bk X scope s H C cl fp) T (.Name b pb) (.Name a pa2) (fF oSeq (fVar ia)))
    (heb : ∀ s H C cl fp, PE (bk X scope s H C cl fp) (.Name b pb2) (tVar ib)) (h1 : ia ∈ own.map (·.2)) (h2 : ib ∈ own.map (·.2)) 
    (hs : ∀ x, foldedSetIterable iter X.env x = pure x := by intro _; rfl) : DZ X T (.SetComp (.Name b pb2) [⟨.Name a pa, iter, [], 0⟩, ⟨.Name b pb, .Name a pa2, [], 0⟩] scope pos) (fSc2 ia ib (own.map (·.2)) fi) := by
  refine ⟨_, pe_sc2 (wi := tI X.K T fi) (g := gName ia) (tt := tYes) (wi1 := tI X.K T (fF oSeq (fVar ia))) (g1 := gName ib) (tt1 := tYes) (te := tVar ib) (vs1 := [ib]) hc hN hi.can ok (fun i hi => by rw [List.mem_singleton.mp hi]; exact h2) hga (fun _ _ _ _ _ => pts_nil) (fun s H C cl fp => (hia s H C cl fp).can) hgb (fun _ _ _ _ _ => pts_nil) heb hs (by intro _ _; rfl), fun F ρ σ H ns b ρ' R e Q q => ?_⟩
  generalize own.map (·.2) = vs at *
  unfold fSc2 at e
  split at e
  · rename_i ds ρ1 e1
    split at e
    · rename_i ps eps
      split at e
      · rename_i hlen
        cases e
        refine ⟨F, ρ, ds, ρ1, R, e1, fun J H1 s1 hJ => ?_⟩
        intro D hD
        have nT := s1.rep.no_tab hD
        have nF := s1.rep.no_fh hD
        have nB : ¬ F.B D := fun z => s1.rep.fresh hD (.inl z)
        refine ⟨fun i m H2 => m = ds.length - i ∧ i ≤ ds.length ∧ Rep X.K T (F.and D) (wipeS ρ1 vs) (L2.wipe σ vs) H2 ∧ Stay (fun a => T a ∨ Ow ρ1 σ a) H1 H2 ∧ (∀ a o, H1 a = some o → ∃ o', H2 a = some o') ∧ SetAt X.w D H2 (ps.take i).flatten,
          ⟨ds.length, by simp, Nat.zero_le _, (s1.rep.and_new hD).wipe vs, (Ext.new hD).stay, fun a o z => ⟨o, Ext.new hD a o z⟩, ⟨_, _, upd_same, fun k => by simp, by simp [ddI]⟩⟩, ?_⟩
        rintro i m H2 ⟨rfl, hile, R2, st, dm, sA⟩
        have av1 : ∀ a, Av (F.and D) (wipeS ρ1 vs) (L2.wipe σ vs) a → Av F ρ1 σ a ∨ H1 a = none := fun a z => by
          rcases z with (z | z) | z
          · exact .inl (.inl z)
          · exact .inr (by rw [z]; exact hD)
          · exact .inl (.inr (wipe_shr.ow a ((ow_wipe a).mp z)))
        obtain ⟨hgo, hst⟩ := hJ _ H2 (st.mono s1.rep.tow) av1 R2.alive
        by_cases hlt : i < ds.length
        · obtain ⟨go, yl⟩ := hgo i ds[i] (List.getElem?_eq_getElem hlt)
          obtain ⟨al, hal, hsq⟩ := flatP_get eps (List.getElem?_eq_getElem hlt)
          refine .inr ⟨go, fun H3 => Rep X.K T (F.and D) (wipeS ρ1 vs) (L2.wipe σ vs) H3 ∧ Stay (fun a => T a ∨ Ow ρ1 σ a) H1 H3 ∧ (∀ a o, H1 a = some o → ∃ o', H3 a = some o') ∧ SetAt X.w D H3 (ps.take (i + 1)).flatten, fun H3 h3 => ⟨ds.length - (i + 1), by omega, rfl, hlt, h3⟩, fun x H3 hy => ?_⟩
          obtain ⟨ex3, dx⟩ := yl x H3 hy
          have hl1 : ρ1.length = σ.length := s1.rep.len
          by_cases hiaσ : ia < ρ1.length
          · have hiaw : ia < (wipeS ρ1 vs).length := by rw [wipeS_length]; exact hiaσ
            obtain ⟨R4, as⟩ := (R2.ext ex3).set_val hiaw dx
            have ew : L2.wipe ((L2.wipe σ vs).set ia (some x)) vs = L2.wipe σ vs := by
              rw [wipe_congr (σ' := L2.wipe σ vs) as.len fun j hj => (as.oth j (fun z => hj (by rw [List.mem_singleton.mp z]; exact h1))).1]
              exact wipe_congr (wipe_length _ _) fun j hj => wipe_out hj
            refine ⟨ew, ?_⟩
            show tI X.K T (fF oSeq (fVar ia)) _ H3 _
            have hv : fF oSeq (fVar ia) ((wipeS ρ1 vs).set ia (some (.val ds[i]))) = some (al.map PyData.int, (wipeS ρ1 vs).set ia (some (.val ds[i]))) := by
              have z : fVar ia ((wipeS ρ1 vs).set ia (some (.val ds[i]))) = some (ds[i], (wipeS ρ1 vs).set ia (some (.val ds[i]))) := by
                unfold fVar
                rw [get_set hiaw, if_pos rfl]
              unfold fF
              rw [bd_of z, hsq]
              rfl
            refine ⟨F.and D, _, _, _, R4, hv, fun J1 H4 s4 hJ1 => ?_⟩
            generalize hρ2 : (wipeS ρ1 vs).set ia (some (.val ds[i])) = ρ2 at *
            generalize hσ2 : (L2.wipe σ vs).set ia (some x) = σ2 at *
            have ow2 : ∀ a, Ow ρ2 σ2 a → Ow ρ1 σ a := fun a z => wipe_shr.ow a ((ow_wipe a).mp (as.ow a z))
            have stx : Stay (fun a => T a ∨ Ow ρ1 σ a) H3 H4 := s4.st.mono fun a z => z.imp id (ow2 a)
            have keepD : ∀ (ρa : Sl) (σa : L2.St) (Ha Hb : Hp) (u : HO), Rep X.K T (F.and D) ρa σa Ha → Stay (fun a => T a ∨ Ow ρa σa a) Ha Hb → Ha D = some u → Hb D = some u := fun ρa σa Ha Hb u Ra sa ea => sa _ _ ea fun z => by
              rcases z with z | z
              · exact nT z
              · obtain ⟨j, xs, z1, z2⟩ := z
                obtain ⟨p, us, z3, z4, z5, _⟩ := Ra.own j xs z1
                rw [z2] at z3
                cases z3
                exact z5 (.inr rfl)
            have sA4 : SetAt X.w D H4 ((ps.take i).flatten ++ al.take 0) := by
              rw [List.take_zero, List.append_nil]
              obtain ⟨Sf, n, g1, g2, g3⟩ := sA
              exact ⟨Sf, n, keepD _ _ _ _ _ R4 s4.st (ex3 _ _ g1), g2, g3⟩
            refine ⟨fun j k H5 => k = al.length - j ∧ j ≤ al.length ∧ Rep X.K T (F.and D) (wipeS ρ2 [ib]) (L2.wipe σ2 [ib]) H5 ∧ Stay (fun a => T a ∨ Ow ρ1 σ a) H1 H5 ∧ (∀ a o, H1 a = some o → ∃ o', H5 a = some o') ∧ Stay (Av (F.and D) ρ2 σ2) H4 H5 ∧ SetAt X.w D H5 ((ps.take i).flatten ++ al.take j),
              ⟨al.length, rfl, Nat.zero_le _, s4.rep.wipe [ib], (st.trans ex3.stay).trans stx, fun a o z => ?_, Stay.refl _ _, sA4⟩, ?_⟩
            · obtain ⟨o1, z1⟩ := dm a o z
              exact s4.dm a o1 (ex3 a o1 z1)
            rintro j k H5 ⟨rfl, hjle, R5, st5, dm5, stJ, sA5⟩
            obtain ⟨hgo1, hst1⟩ := hJ1 _ H5 stJ (fun a z => .inl (z.imp id fun z => wipe_shr.ow a ((ow_wipe a).mp z))) R5.alive
            by_cases hjlt : j < al.length
            · obtain ⟨go1, yl1⟩ := hgo1 j (.int al[j]) (by rw [List.getElem?_map, List.getElem?_eq_getElem hjlt]; rfl)
              refine .inr ⟨go1, fun H6 => Rep X.K T (F.and D) (wipeS ρ2 [ib]) (L2.wipe σ2 [ib]) H6 ∧ Stay (fun a => T a ∨ Ow ρ1 σ a) H1 H6 ∧ (∀ a o, H1 a = some o → ∃ o', H6 a = some o') ∧ Stay (Av (F.and D) ρ2 σ2) H4 H6 ∧ SetAt X.w D H6 ((ps.take i).flatten ++ al.take (j + 1)), fun H6 h6 => ⟨al.length - (j + 1), by omega, rfl, hjlt, h6⟩, fun x1 H6 hy1 => ?_⟩
              obtain ⟨ex6, dx1⟩ := yl1 x1 H6 hy1
              cases dx1
              have hlσ2 : σ2.length = σ.length := by rw [as.len, wipe_length]
              refine ⟨?_, ?_⟩
              · refine (wipe_congr (σ' := L2.wipe σ2 [ib]) (by rw [List.length_set]) fun j hj => ?_).trans (wipe_congr (wipe_length _ _) fun j hj => wipe_out hj)
                rw [List.getElem?_set_ne fun z => hj (by rw [z]; exact List.mem_singleton.mpr rfl)]
              · have sA6 : SetAt X.w D H6 ((ps.take i).flatten ++ al.take j) := let ⟨Sf, n, g1, g2, g3⟩ := sA5; ⟨Sf, n, ex6 _ _ g1, g2, g3⟩
                obtain ⟨Sf, n, g1, g2, g3⟩ := sA6.add (c := al[j])
                obtain ⟨mr, em⟩ := flat_take (j := j) hal
                have hroom : n + 1 < scanBound := by
                  have := ddI_mono (l := (ps.take i).flatten ++ al.take j) (m := mr)
                  rw [← em] at this
                  unfold scanBound
                  omega
                have hib : ib < (L2.wipe σ2 [ib]).length := by
                  rw [wipe_length, hlσ2, ← hl1]
                  exact hlen.2.2
                refine ⟨.int al[j], ?_, al[j], Sf, n, rfl, g1, hroom, (R5.ext ex6).upd_and (.inr rfl) nT nF, fun a o z n => ?_, fun a o z => ?_, fun a o z n => ?_, ?_⟩
                · rw [List.getElem?_set_self hib]
                · rw [upd_ne (fun z' => by rw [z', hD] at z; cases z)]
                  exact ex6 _ _ (st5 a o z n)
                · by_cases z' : a = D
                  · exact ⟨_, by rw [z']; exact upd_same⟩
                  · obtain ⟨o', z1⟩ := dm5 a o z
                    exact ⟨o', by rw [upd_ne z']; exact ex6 _ _ z1⟩
                · rw [upd_ne (fun z' => n (.inl (.inr z')))]
                  exact ex6 _ _ (stJ a o z n)
                · rw [take_snoc (List.getElem?_eq_getElem hjlt), ← List.append_assoc]
                  exact g3
            · have ej : j = al.length := by omega
              subst ej
              refine .inl ⟨hst1 _ (by rw [List.length_map]; exact Nat.le_refl _), ?_, st5, dm5, ?_⟩
              · have R6 := R5.wipe vs
                have ea : wipeS (wipeS ρ2 [ib]) vs = wipeS ρ1 vs := by
                  refine wipeS_congr (by rw [wipeS_length, ← hρ2, List.length_set, wipeS_length]) fun j hj => ?_
                  rw [wipeS_out (fun z => hj (by rw [List.mem_singleton.mp z]; exact h2)), (as.oth j fun z => hj (by rw [List.mem_singleton.mp z]; exact h1)).2, wipeS_out hj]
                have eb : L2.wipe (L2.wipe σ2 [ib]) vs = L2.wipe σ vs := by
                  refine wipe_congr (by rw [wipe_length, as.len, wipe_length]) fun j hj => ?_
                  rw [wipe_out (fun z => hj (by rw [List.mem_singleton.mp z]; exact h2)), (as.oth j fun z => hj (by rw [List.mem_singleton.mp z]; exact h1)).1, wipe_out hj]
                rw [ea, eb] at R6
                exact R6
              · rw [take_flat hal]
                rw [List.take_length] at sA5
                exact sA5
          · exact absurd hlen.2.1 hiaσ
        · have ei : i = ds.length := by omega
          subst ei
          refine .inl ⟨hst _ (Nat.le_refl _), ?_⟩
          rw [← flatP_len eps, List.take_length] at sA
          obtain ⟨Sf, n, g1, g2, g3⟩ := sA
          refine q D H2 ⟨R2.unwipe, s1.st.trans (st.mono fun a z => z.imp id (s1.sh.ow a)), fun a o z => ?_, s1.sh.trans wipe_shr, ⟨Sf, n, g1, g2, Nat.le_of_eq g3⟩, nB, nF, s1.dm_none hD⟩
          obtain ⟨o1, z1⟩ := s1.dm a o z
          exact dm a o1 z1
      · cases e
    · cases e
  · cases e
end
end PF
set_option Elab.async false
set_option linter.all false
set_option maxRecDepth 100000
set_option maxHeartbeats 1000000
/-! PF: sorted(a list of data that are alike). -/
namespace PF
open PySem PySem.Spec PyProof.Rows L2 PySem.W

section
variable {prog : Program} {w : World} {A : Around} {E : Value → Shared → Prop} {s : Shared}
/-- tuple against tuple, by tuple's own __lt__ -/
theorem oneLt_tup {xs ys : List D} {a b : Value} {as bs : List Addr} {Q : Bool → Shared → Prop} (ra : Reads s.heap a (.tuple xs) as) (rb : Reads s.heap b (.tuple ys) bs) (h : alike (.tuple xs) (.tuple ys) = true)
    (hu : A.units + min (PyData.tuple xs).depth (PyData.tuple ys).depth < cLine) (hq : Q (dataLt (.tuple xs) (.tuple ys)) s) : wpAny (model prog w) A (oneLt' true a b) Q E s := by
  have hal : alikeAll xs ys = true := by simpa [alike] using h
  cases ra with
  | @tuple l o vs n _ as₁ h1 h2 h3 h4 =>
    cases rb with
    | @tuple l' o' vs' n' _ bs₁ k1 k2 k3 k4 =>
      have n1 : vs.size = xs.length := by simpa using SeqAt.ReadsAll.length _ _ _ h4
      have n2 : vs'.size = ys.length := by simpa using SeqAt.ReadsAll.length _ _ _ k4
      rw [dataLt_tuple, ← firstLt_toks xs ys hal, ← n1, ← n2] at hq
      rw [oneLt'_eq]
      simp only [if_true]
      refine wpAny_bind (wpAny_cRoomFor (SeqAt.room_here hu) ?_)
      obtain ⟨⟨c1, d1, t1, s1⟩, g1, g2, g3⟩ : ∃ o : Obj, s.heap.get? l = some o ∧ o.cls = .type "tuple" ∧ o.data = .seq vs n := ⟨o, h1, h2, h3⟩
      obtain ⟨⟨c2, d2, t2, s2⟩, f1, f2, f3⟩ : ∃ o : Obj, s.heap.get? l' = some o ∧ o.cls = .type "tuple" ∧ o.data = .seq vs' n' := ⟨o', k1, k2, k3⟩
      simp only at g2 g3 f2 f3
      subst g2 g3 f2 f3
      refine wpAny_bind (wpAny_callSpecialIfBound?_slot (T := "tuple") ⟨_, g1, rfl⟩ F.slot_tuple_lt (call_meets F.slot_tuple_lt ⟨_, g1, rfl⟩ F.entry_tuple_lt (F.args_tuple_lt_2 _ _)
        (SeqAt.tuple_ltAt l l' vs vs' n n' d1 d2 s1 s2 (SeqAt.pairEq xs ys) (fun j => dataLt (xs.getD j .none) (ys.getD j .none))) ⟨g1, f1, fun j j1 j2 => ?_, fun j j1 j2 hj => ?_, ?_⟩))
      · have := eqAt_alikeAll xs ys A.in1 s vs.toList vs'.toList _ _ h4 k4 hal (SeqAt.room_in hu) j (by simpa using j1) (by simpa using j2)
        simpa using this
      · have := rcLt_alikeAll xs ys A.in1 s vs.toList vs'.toList _ _ h4 k4 hal (SeqAt.room_in hu) j (by simpa using j1) (by simpa using j2) hj
        simpa using this
      · exact wpAny_truthy_bool hq
/-- the firsts of tuples, of which the very first is empty -/
theorem firsts_any : ∀ {vs : List Value} {ds : List D}, EachIs (fun v d => ∃ as, Reads s.heap v d as) vs ds → (∀ d ∈ ds, ∃ xs, d = .tuple xs) → ∃ l : List (Option Value), l.length = vs.length ∧ ((∃ r, ds = .tuple [] :: r) → l.head? = some none) ∧
    ∀ (E : Value → Shared → Prop) (Q : List (Option Value) → Shared → Prop), Q l s → wpAny (model prog w) A (vs.mapM firstOfTuple') Q E s
  | _, _, .nil, _ => ⟨[], rfl, (fun h => by obtain ⟨_, h⟩ := h; cases h), fun E Q q => (by rw [List.mapM_nil]; exact wpAny_pure q)⟩
  | _, _, .cons (a := v) (b := d) ⟨as, r⟩ t, ht => by
    obtain ⟨l, l1, l2, l3⟩ := firsts_any t fun d hd => ht d (List.mem_cons_of_mem _ hd)
    obtain ⟨xs, rfl⟩ := ht d List.mem_cons_self
    cases r with
    | @tuple a o us n _ _ ho hc hd hr =>
      refine ⟨us[0]? :: l, by rw [List.length_cons, List.length_cons, l1], fun ⟨r', e⟩ => ?_, fun E Q q => ?_⟩
      · cases e
        have hl := readsAll_len hr
        have hz : us.size = 0 := by simpa using hl
        simp [hz]
      · rw [List.mapM_cons]
        refine wpAny_bind ?_
        rw [kas_first_eq]
        refine wpAny_bind (Looks.here (show Looks _ s.heap (typeOf (.ref a)) o.cls from (Looks.ld ho).andThen .now) ?_)
        rw [hc, if_neg (by first | decide | simp)]
        refine wpAny_bind (PyProof.Rows.listItems_at ho hd (wpAny_pure ?_))
        exact wpAny_bind (l3 _ _ (wpAny_pure q))
theorem kind_tup0 {vs : List Value} {ds : List D} (e : EachIs (fun v d => ∃ as, Reads s.heap v d as) vs ds) (hall : ∀ d ∈ ds, ∃ xs, d = .tuple xs) (h0 : ∃ r, ds = .tuple [] :: r) {Q : SortKind → Shared → Prop} (h : Q oneType' s) : wpAny (model prog w) A (keyKind' vs.toArray) Q E s := by
  obtain ⟨l, l1, l2, l3⟩ := firsts_any (prog := prog) (w := w) (A := A) e hall
  have hd := l2 h0
  have hT : ∀ v ∈ vs, Looks (model prog w) s.heap (typeOf v) (.type "tuple") := fun v hv => by
    obtain ⟨d, hd, as, r⟩ := e.left v hv
    obtain ⟨xs, rfl⟩ := hall d hd
    exact looks_reads r
  match l, hd with
  | _ :: l', hd =>
    have hd' : some _ = some _ := hd
    cases hd'
    rw [keyKind'_eq, List.mapM_toArray, map_eq_pure_bind]
    refine wpAny_bind (wpAny_bind (l3 _ _ (wpAny_pure ?_)))
    rw [if_neg (by simp), if_neg (by simp)]
    rw [oneTypeOnly'_eq, List.mapM_toArray, map_eq_pure_bind]
    refine wpAny_bind (wpAny_bind (wpAny_bind (kas_mapM (r := Value.type "tuple") _ (fun v hv Q' hq => (hT v hv).here hq) (wpAny_pure ?_))))
    have hv : 0 < vs.length := by rw [← l1, List.length_cons]; omega
    have h0 : (List.map (fun _ => Value.type "tuple") vs).toArray[0]? = some (Value.type "tuple") := by
      match vs, hv with
      | v :: vs, _ => simp
    have hb : (Value.type "tuple" == Value.type "tuple") = true := by decide
    have hall2 : ((List.map (fun _ => Value.type "tuple") vs).toArray.all fun x => x == Value.type "tuple") = true := by
      simp only [List.all_toArray, List.all_map, List.all_eq_true]
      exact fun _ _ => hb
    rw [h0]
    simp only [hall2, if_true]
    exact wpAny_pure (wpAny_pure h)
theorem sortsAt_tup0 {vs : List Value} {ds : List D} (e : EachIs (fun v d => ∃ as, Reads s.heap v d as) vs ds) (hal : AllAlike ds) (hall : ∀ d ∈ ds, ∃ xs, d = .tuple xs) (h0 : ∃ r, ds = .tuple [] :: r) (hu : ∀ d, d ∈ ds → A.units + d.depth < cLine) : SortsAt prog w A s (dataKind s.heap ds) vs := by
  refine ⟨fun v hv => ?_, oneType', ?_, fun h2 E Q hq => kind_tup0 e hall h0 hq⟩
  · obtain ⟨d, hd, as, r⟩ := e.left v hv
    exact ⟨_, dataKind_some hal hd r⟩
  · intro E x y a b Q ha hb hq
    obtain ⟨d, as, hd, ra, rfl⟩ := dataKind_inv ha
    obtain ⟨d', as', hd', rb, rfl⟩ := dataKind_inv hb
    obtain ⟨xs, rfl⟩ := hall d hd
    obtain ⟨ys, rfl⟩ := hall d' hd'
    rw [keyLt'_oneType]
    exact oneLt_tup ra rb (hal _ hd _ hd') (Nat.lt_of_le_of_lt (Nat.add_le_add_left (Nat.min_le_left _ _) _) (hu _ hd)) hq
end

/-! ### the rule -/
/-- the data can be sorted -/
def SortOk (ds : List D) : Prop := Sortable ds ∨ ((∀ d ∈ ds, ∃ xs, d = .tuple xs) ∧ ∃ r, ds = .tuple [] :: r)
section
variable {prog : Program} {w : World} {A : Around} {E : Value → Shared → Prop} {s : Shared}
theorem SortsAt.any {vs : List Value} {ds : List D} (e : EachIs (fun v d => ∃ as, Reads s.heap v d as) vs ds) (hal : AllAlike ds) (hk : SortOk ds) (hu : ∀ d, d ∈ ds → A.units + d.depth < cLine) : SortsAt prog w A s (dataKind s.heap ds) vs :=
  hk.elim (fun h => SortsAt.data e hal h hu) fun h => sortsAt_tup0 e hal h.1 h.2 hu
theorem sorted_any {β : Type} {enc : β → D} {R : Value → β → Prop} {vs : List Value} {bs : List β} {l : Addr} {Q : Value → Shared → Prop} (hl : s.heap.IsList l vs.toArray) (e : EachIs R vs bs) (er : EachIs (fun v b => ∃ as, Reads s.heap v (enc b) as) vs bs) (hal : AllAlike (bs.map enc)) (hk : SortOk (bs.map enc)) (hL : bs.length ≤ sizeLine)
    (hu : ∀ b, b ∈ bs → A.units + 2 + (enc b).depth < cLine) (h : ∀ out, out.length = bs.length → EachIs R out (bs.mergeSort (dataLe false enc)) → Q (.ref (s.heap.objs.size + 1)) { s with heap := PyProof.Rows.sortedAll s.heap vs (List.toArray out) }) :
    wpAny (model prog w) A (call (.builtin "sorted") [.ref l]) Q E s := by
  have er' : EachIs (fun v b => ∃ as, Reads (sortingHeap (copyHeap s.heap vs) (s.heap.objs.size + 1) vs) v (enc b) as) vs bs := er.mono fun _ _ ⟨as, r⟩ => ⟨as, PyProof.Rows.Reads.keeps (fun _ _ => sorting_copy_old) r⟩
  refine sorted_vals hl (SortsAt.any (s := { s with heap := sortingHeap (copyHeap s.heap vs) (s.heap.objs.size + 1) vs }) (each_map (R := fun v d => ∃ as, Reads (sortingHeap (copyHeap s.heap vs) (s.heap.objs.size + 1) vs) v d as) enc er') hal hk (bound_map hu)) (by rw [e.length]; exact hL) ?_
  exact h _ (by rw [sortVals_length false rfl]; exact e.length) (sortVals_data false e er' hal)
end
/-- sorted(xs), data that are alike: pairs of a value and what it denotes -/
def rSortD (K : PySem.W.Frag) : List V → Hp → VK → Prop := fun vs H Q => ∃ (a : Addr) (zs : List (V × D)), vs = [.ref a] ∧ SqL K H a (zs.map Prod.fst) ∧ (∀ z ∈ zs, Dp K H z.1 z.2) ∧ AllAlike (zs.map Prod.snd) ∧ SortOk (zs.map Prod.snd) ∧ (∀ z ∈ zs, z.2.depth ≤ 64) ∧
  ∀ p, H p = none → Q (.ref p) (upd H p (.lst ((zs.mergeSort (dataLe false Prod.snd)).map Prod.fst)))
theorem each_of_vals {R : V → D → Prop} : ∀ {zs : List (V × D)} {us : List Value}, Vals (zs.map Prod.fst) us → EachIs (fun u z => RelV z.1 u) us zs
  | [], _, h => by
    cases h
    exact .nil
  | z :: zs, _, h => by
    cases h with
    | cons h1 h2 => exact .cons h1 (each_of_vals (R := R) h2)
theorem vals_of_each : ∀ {zs : List (V × D)} {us : List Value}, EachIs (fun u z => RelV z.1 u) us zs → Vals (zs.map Prod.fst) us
  | _, _, .nil => .nil
  | _, _, .cons h t => .cons h (vals_of_each t)
theorem cr_sortD {X : Cx} {k : Nat} (hr : Room k X.A) : CallR X (.builtin "sorted") (rSortD X.K) := by
  intro pins s σ H vs us Q I r h
  obtain ⟨a, zs, rfl, hs, hd, hal, hk, hdp, q⟩ := h
  rw [Vals.ref1 r]
  obtain ⟨its, rv, hl, hz⟩ := I.list hs
  have e : EachIs (fun u (z : V × D) => RelV z.1 u) its zs := each_of_vals (R := fun _ _ => True) rv
  have er : EachIs (fun u (z : V × D) => ∃ as, Reads s.heap u z.2 as) its zs := (each_mem e).mono fun u z ⟨h1, h2⟩ => Dp.reads I z.2 z.1 u (hd z h2) h1
  have hu := hr.units
  refine sorted_any hl.isList e er hal hk (by rw [List.length_map] at hz; exact hz) (fun b hb => by have := hdp b hb; have := hr.un; omega) fun out ho eo => ?_
  have ev := vals_of_each eo
  have hlen : ((zs.mergeSort (dataLe false Prod.snd)).map Prod.fst).length ≤ sizeLine := by
    rw [List.length_map, List.length_mergeSort]
    rw [List.length_map] at hz
    exact hz
  have hp : s.heap.objs.size ≤ s.heap.objs.size + 1 := Nat.le_succ _
  refine ⟨.ref _, _, I.laid (t' := s.toks) (fun b o e => PyProof.Rows.sortedAll_old e) hp ?_, rfl, q _ (I.hok.fresh hp)⟩
  obtain ⟨n, hn⟩ := PyProof.Rows.sortedAll_at s.heap its out.toArray
  exact ⟨hlen, out, n, ev, hn⟩
def isT1 : D → Bool
  | .tuple (_ :: _) => true
  | _ => false
def isT0 : D → Bool
  | .tuple _ => true
  | _ => false
def isN0 : D → Bool
  | .none => true
  | _ => false
def hdT0 : List D → Bool
  | .tuple [] :: _ => true
  | _ => false
def sortB (ds : List D) : Bool := (ds.all fun x => ds.all fun y => alike x y) && ((ds.all isT1 || ds.all fun d => !isN0 d && !isT0 d) || (ds.all isT0 && hdT0 ds)) && SeqAt.shaped (.list ds)
theorem isT1_of {d : D} (h : isT1 d = true) : ∃ x r, d = .tuple (x :: r) := by
  unfold isT1 at h
  split at h
  · exact ⟨_, _, rfl⟩
  · cases h
theorem isT0_of {d : D} (h : isT0 d = true) : ∃ xs, d = .tuple xs := by
  unfold isT0 at h
  split at h
  · exact ⟨_, rfl⟩
  · cases h
theorem hdT0_of {ds : List D} (h : hdT0 ds = true) : ∃ r, ds = .tuple [] :: r := by
  unfold hdT0 at h
  split at h
  · exact ⟨_, rfl⟩
  · cases h
theorem sortB_ok {ds : List D} (h : sortB ds = true) : AllAlike ds ∧ SortOk ds ∧ SeqAt.shaped (.list ds) = true := by
  unfold sortB at h
  simp only [Bool.and_eq_true, Bool.or_eq_true, List.all_eq_true] at h
  obtain ⟨⟨h1, h2⟩, h3⟩ := h
  refine ⟨fun d hd d' hd' => h1 d hd d' hd', ?_, h3⟩
  rcases h2 with (h2 | h2) | h2
  · exact .inl (.inl fun d hd => isT1_of (h2 d hd))
  · refine .inl (.inr fun d hd => ⟨fun z => ?_, fun xs z => ?_⟩)
    · have := (h2 d hd).1
      rw [z] at this
      cases this
    · have := (h2 d hd).2
      rw [z] at this
      cases this
  · exact .inr ⟨fun d hd => isT0_of (h2.1 d hd), hdT0_of h2.2⟩
def sortD (ds : List D) : List D := ds.mergeSort (dataLe false id)
def oSortD : D → Option (List D)
  | .list ds => if sortB ds = true then some (sortD ds) else none
  | _ => none
theorem depthAll_mem : ∀ {ds : List D} {d : D}, d ∈ ds → d.depth ≤ PyData.depthAll ds
  | x :: xs, d, h => by
    rw [PyData.depthAll]
    rcases List.mem_cons.mp h with z | z
    · rw [z]
      exact Nat.le_max_left _ _
    · exact Nat.le_trans (depthAll_mem z) (Nat.le_max_right _ _)
theorem zip_fst {α β : Type} : ∀ {l : List α} {m : List β}, l.length = m.length → (l.zip m).map Prod.fst = l
  | [], [], _ => rfl
  | a :: l, b :: m, h => congrArg (a :: ·) (zip_fst (Nat.succ.inj h))
theorem zip_snd {α β : Type} : ∀ {l : List α} {m : List β}, l.length = m.length → (l.zip m).map Prod.snd = m
  | [], [], _ => rfl
  | a :: l, b :: m, h => congrArg (b :: ·) (zip_snd (Nat.succ.inj h))
theorem zip_da {K : PySem.W.Frag} {B : AS} {H : Hp} : ∀ {vs : List V} {ds : List D}, DaL K B H vs ds → ∀ z ∈ vs.zip ds, Da K B H z.1 z.2
  | _, _, .nil, z, h => by simp at h
  | _, _, .cons h1 h2, z, h => by
    rw [List.zip_cons_cons] at h
    rcases List.mem_cons.mp h with e | e
    · rw [e]
      exact h1
    · exact zip_da h2 z e
theorem dal_of {K : PySem.W.Frag} {B : AS} {H : Hp} : ∀ {zs : List (V × D)}, (∀ z ∈ zs, Da K B H z.1 z.2) → DaL K B H (zs.map Prod.fst) (zs.map Prod.snd)
  | [], _ => .nil
  | z :: zs, h => .cons (h z List.mem_cons_self) (dal_of fun y hy => h y (List.mem_cons_of_mem _ hy))
theorem lay_mem : ∀ {ds : List D}, PyData.canLayAll0 ds = true → ∀ d ∈ ds, d.canLay0 = true
  | x :: xs, h, d, hd => by
    simp only [PyData.canLayAll0, Bool.and_eq_true] at h
    rcases List.mem_cons.mp hd with e | e
    · rw [e]
      exact h.1
    · exact lay_mem h.2 d e
theorem b_sortD {X : Cx} {k : Nat} (hr : Room k X.A) : CbF X (.builtin "sorted") oSortD := by
  refine ⟨_, cr_sortD hr, fun F B H x dx d hx e Q q => ?_⟩
  unfold oSortD at e
  split at e
  · rename_i ds
    split at e
    · rename_i hb
      cases e
      obtain ⟨h1, h2, h3⟩ := sortB_ok hb
      obtain ⟨p, vs, rfl, hp, hd⟩ := hx.list
      have hl := hd.length
      have hz := zip_da hd
      have hlay : PyData.canLayAll0 ds = true := by
        have := SeqAt.canLay_of_shaped h3
        simpa only [PyData.canLay0] using this
      have hdep : ∀ d ∈ ds, d.depth ≤ 64 := fun d hd => by
        have := SeqAt.depth_of_shaped h3
        have h4 := depthAll_mem hd
        rw [PyData.depth] at this
        omega
      have mem2 : ∀ z ∈ vs.zip ds, z.2 ∈ ds := fun z hz => (List.of_mem_zip hz).2
      refine ⟨p, vs.zip ds, rfl, by rw [zip_fst hl]; exact .inl (.inl hp), fun z h => Da.dp z.2 z.1 (hz z h) (lay_mem hlay _ (mem2 z h)), by rw [zip_snd hl]; exact h1, by rw [zip_snd hl]; exact h2, fun z h => hdep _ (mem2 z h), fun p' hp' => q p' _ hp' ?_⟩
      have := dal_of (K := X.K) (B := B) (H := H) (zs := (vs.zip ds).mergeSort (dataLe false Prod.snd)) fun z h => hz z (List.mem_mergeSort.mp h)
      have em : ((vs.zip ds).mergeSort (dataLe false Prod.snd)).map Prod.snd = sortD ds := by
        unfold sortD
        have z := List.map_mergeSort (l := vs.zip ds) (r := dataLe false Prod.snd) (s := dataLe false id) (f := Prod.snd) (fun a _ b _ => rfl)
        rw [zip_snd hl] at z
        exact z
      rw [em] at this
      exact this
    · cases e
  · cases e
theorem f_sorted {X : Cx} {T : AS} {a : Expr} {fa : M D} {k : Nat} {p pos : Pos} (hr : Room k X.A) (hg : Gl X "sorted") (hm : X.mg "sorted" = none) (ha : DV X T a fa) (hs : starEach [a] X.env = (false, eval a X.env) :: starEach [] X.env := by rfl) :
    DF X T (.Call (.Name "sorted" p) [a] [] pos) (fF oSortD fa) := f_cb (b_sortD hr) hg hm boot_sorted' ha (by decide) (by decide) (hs := hs)
/-- what sorting is, of ints -/
theorem sortD_ints (ns : List Int) : sortD (ns.map PyData.int) = (sortI ns).map PyData.int := by
  unfold sortD sortI
  refine (List.map_mergeSort (fun a _ b _ => ?_)).symm
  have := congrFun (congrFun (dataLe_int (fun i : Int => i)) a) b
  exact this.symm
end PF
set_option Elab.async false
set_option linter.all false
set_option maxRecDepth 100000
set_option maxHeartbeats 1000000
/-! PF: sorted(dict(pairs)), the keys ints. -/
namespace PF
open PySem PySem.Spec PyProof.Rows L2

theorem putK_keys {kvs : List (Key × V)} {k : Int} {v : V} {ls : List Int} (h : kvs.map (·.1) = ls.map Sum.inl) : (putK kvs (Sum.inl k) v).map (·.1) = (addD ls k).map Sum.inl := by
  have hm : (kvs.any fun kv => decide (kv.1 = (Sum.inl k : Key))) = true ↔ k ∈ ls := by
    rw [List.any_eq_true]
    constructor
    · rintro ⟨x, hx, e⟩
      have e' := of_decide_eq_true e
      have : (Sum.inl k : Key) ∈ kvs.map (·.1) := List.mem_map.mpr ⟨x, hx, e'⟩
      rw [h] at this
      obtain ⟨j, hj, ej⟩ := List.mem_map.mp this
      cases ej
      exact hj
    · intro hk
      have : (Sum.inl k : Key) ∈ kvs.map (·.1) := by
        rw [h]
        exact List.mem_map.mpr ⟨k, hk, rfl⟩
      obtain ⟨x, hx, e⟩ := List.mem_map.mp this
      exact ⟨x, hx, decide_eq_true e⟩
  unfold putK addD
  by_cases hk : k ∈ ls
  · rw [if_pos (hm.mpr hk), if_pos hk, List.map_map, ← h]
    refine List.map_congr_left fun x _ => ?_
    show (if x.1 = Sum.inl k then (x.1, v) else x).1 = x.1
    split <;> rfl
  · rw [if_neg (fun z => hk (hm.mp z)), if_neg hk, List.map_append, List.map_append, h]
    rfl
theorem mergeK_keys : ∀ {kvs acc : List (Key × V)} {ks ls : List Int}, kvs.map (·.1) = ks.map Sum.inl → acc.map (·.1) = ls.map Sum.inl → (mergeK acc kvs).map (·.1) = (ks.foldl addD ls).map Sum.inl
  | [], acc, ks, ls, h1, h2 => by
    have : ks = [] := by
      cases ks with
      | nil => rfl
      | cons a b => cases h1
    subst this
    exact h2
  | p :: kvs, acc, [], ls, h1, h2 => by cases h1
  | p :: kvs, acc, k :: ks, ls, h1, h2 => by
    have e1 : p.1 = Sum.inl k := (List.cons.inj h1).1
    show (mergeK (putK acc p.1 p.2) kvs).map (·.1) = _
    rw [List.foldl_cons]
    refine mergeK_keys (List.cons.inj h1).2 ?_
    rw [e1]
    exact putK_keys h2
/-- the keys of pairs -/
def pairK : D → Option Int
  | .tuple [.int k, _] => some k
  | _ => none
def pairsK : List D → Option (List Int)
  | [] => some []
  | d :: ds => match pairK d with
    | some k => (pairsK ds).map (k :: ·)
    | none => none
theorem pairs_of {K : PySem.W.Frag} {B : AS} {H : Hp} : ∀ {ds : List D} {vs : List V} {ks : List Int}, DaL K B H vs ds → pairsK ds = some ks → ∃ (ps : List Addr) (kvs : List (Key × V)), vs = ps.map V.ref ∧ Paired (fun p kv => SqT K H p [kV kv.1, kv.2]) ps kvs ∧ kvs.map (·.1) = ks.map Sum.inl
  | [], vs, ks, h, e => by
    cases h
    cases e
    exact ⟨[], [], rfl, .nil, rfl⟩
  | d :: ds, _, ks, h, e => by
    cases h with
    | cons h1 h2 =>
      unfold pairsK at e
      split at e
      · rename_i k ek
        obtain ⟨ks', e1, e2⟩ := Option.map_eq_some_iff.mp e
        subst e2
        obtain ⟨ps, kvs, f1, f2, f3⟩ := pairs_of h2 e1
        unfold pairK at ek
        split at ek
        · cases ek
          cases h1 with
          | tup hs hl =>
            rename_i a xs
            cases hl with
            | cons g1 g2 =>
              cases g1
              cases g2 with
              | cons g3 g4 =>
                cases g4
                rename_i v
                exact ⟨a :: ps, (Sum.inl k, v) :: kvs, by rw [f1]; rfl, .cons hs.sq f2, by rw [List.map_cons, f3]; rfl⟩
        · cases ek
      · cases e
def oSortDI : D → Option (List D)
  | .list ds => (pairsK ds).bind fun ks => if (ddI ks).length < 64 then some ((sdI ks).map PyData.int) else none
  | _ => none
theorem boot_dict' : bootBuiltins "dict" = some (.type "dict") := by decide +kernel
theorem f_sortDI {X : Cx} {T : AS} {a : Expr} {fa : M D} {p p2 pos pos2 : Pos} (hc : X.calm = true) (hg : Gl X "sorted") (hm : X.mg "sorted" = none) (hg2 : Gl X "dict") (hm2 : X.mg "dict" = none) (ha : DE X T a fa) (hs : starEach [a] X.env = (false, eval a X.env) :: starEach [] X.env := by rfl)
    (hs2 : starEach [.Call (.Name "dict" p2) [a] [] pos2] X.env = (false, eval (.Call (.Name "dict" p2) [a] [] pos2) X.env) :: starEach [] X.env := by rfl) :
    DF X T (.Call (.Name "sorted" p) [.Call (.Name "dict" p2) [a] [] pos2] [] pos) (fF oSortDI fa) := by
  obtain ⟨t, h1, h2⟩ := ha.ex
  refine ⟨_, pe_callB (call_sortedDI hc) hg hm boot_sorted' (pa_cons (pe_callTy (call_dictP hc) hg2 hm2 boot_dict' (pa_cons h1 pa_nil hs) (by decide) (by decide) (he := hs)) pa_nil hs2) (by decide) (by decide) (he := hs2), fun F ρ σ H d ρ' R e Q q => ?_⟩
  obtain ⟨x, ρ1, e1, e2⟩ := bd_some e
  obtain ⟨e3, rfl⟩ := lf_some e2
  unfold oSortDI at e3
  split at e3
  · rename_i ds
    obtain ⟨ks, e4, e5⟩ := Option.bind_eq_some_iff.mp e3
    split at e5
    · rename_i hl
      cases e5
      refine h2 F ρ σ H _ ρ' R e1 _ fun v H1 s1 d1 => ?_
      cases d1 with
      | lst nb hs hd =>
        rename_i a xs
        obtain ⟨ps, kvs, f1, f2, f3⟩ := pairs_of hd e4
        subst f1
        refine ⟨a, ps, kvs, rfl, .inl (.inl hs), f2, fun p1 hp1 => ?_⟩
        have hk : (mergeK [] kvs).map (·.1) = (ddI ks).map Sum.inl := mergeK_keys f3 rfl
        refine ⟨p1, mergeK [] kvs, ddI ks, rfl, .inl upd_same, hk, hl, fun ys p3 hperm hsrt hp3 => ?_⟩
        have ey : ys = sdI ks := sortI_unique hperm hsrt
        subst ey
        have ne : p3 ≠ p1 := fun z => by
          rw [z, upd_same] at hp3
          cases hp3
        refine q p3 _ _ (New.of_upd (s1.ext (Ext.new hp1)) hp3 (DaL.of_ints _))
    · cases e5
  · cases e3
end PF
set_option Elab.async false
set_option linter.all false
set_option maxRecDepth 100000
set_option maxHeartbeats 1000000
/-! PF: dicts whose keys are tuples (of tuples) of ints: made of pairs, asked, sorted. -/
namespace PF
open PySem PySem.Spec PyProof.Rows L2 PySem.W

mutual
def toKey : D → Option NestedKey
  | .int i => some (.num i)
  | .tuple ds => (toKeys ds).map .tup
  | _ => none
def toKeys : List D → Option (List NestedKey)
  | [] => some []
  | d :: ds => match toKey d, toKeys ds with
    | some k, some ks => some (k :: ks)
    | _, _ => none
end
mutual
theorem toKey_ok : ∀ (d : D) (k : NestedKey), toKey d = some k → k.data = d ∧ numK k = true ∧ d.canLay0 = true
  | .int i, k, h => by
    simp only [toKey, Option.some.injEq] at h
    subst h
    exact ⟨by rw [NestedKey.data], by rw [numK], by rw [PyData.canLay0]⟩
  | .tuple ds, k, h => by
    simp only [toKey] at h
    obtain ⟨ks, h1, rfl⟩ := Option.map_eq_some_iff.mp h
    obtain ⟨a, b, c⟩ := toKeys_ok ds ks h1
    exact ⟨by rw [NestedKey.data, a], by rw [numK]; exact b, by rw [PyData.canLay0]; exact c⟩
  | .none, k, h => by simp [toKey] at h
  | .bool _, k, h => by simp [toKey] at h
  | .str _, k, h => by simp [toKey] at h
  | .list _, k, h => by simp [toKey] at h
  | .dict _, k, h => by simp [toKey] at h
theorem toKeys_ok : ∀ (ds : List D) (ks : List NestedKey), toKeys ds = some ks → NestedKey.datas ks = ds ∧ numKs ks = true ∧ PyData.canLayAll0 ds = true
  | [], ks, h => by
    simp only [toKeys, Option.some.injEq] at h
    subst h
    exact ⟨by rw [NestedKey.datas], by rw [numKs], by rw [PyData.canLayAll0]⟩
  | d :: ds, ks, h => by
    simp only [toKeys] at h
    split at h
    · rename_i k ks' e1 e2
      cases h
      obtain ⟨a1, a2, a3⟩ := toKey_ok d k e1
      obtain ⟨b1, b2, b3⟩ := toKeys_ok ds ks' e2
      exact ⟨by rw [NestedKey.datas, a1, b1], by rw [numKs, a2, b2]; rfl, by rw [PyData.canLayAll0, a3, b3]; rfl⟩
    · cases h
end
mutual
theorem toKey_data : ∀ k : NestedKey, numK k = true → toKey k.data = some k
  | .num i, _ => by rw [NestedKey.data, toKey]
  | .tup ks, h => by
    rw [NestedKey.data, toKey, toKeys_datas ks (by simpa only [numK] using h)]
    rfl
  | .none, h => by cases h
  | .text _, h => by cases h
theorem toKeys_datas : ∀ ks : List NestedKey, numKs ks = true → toKeys (NestedKey.datas ks) = some ks
  | [], _ => by rw [NestedKey.datas, toKeys]
  | k :: ks, h => by
    simp only [numKs, Bool.and_eq_true] at h
    rw [NestedKey.datas, toKeys, toKey_data k h.1, toKeys_datas ks h.2]
end
mutual
theorem reads_key {h : Heap} : ∀ {v : Value} {d : D} {as : List Addr}, Reads h v d as → ∀ {k : NestedKey}, toKey d = some k → NestedIs h k v
  | _, _, _, .int i t, k, e => by
    simp only [toKey, Option.some.injEq] at e
    subst e
    exact .int i t
  | _, _, _, .tuple h1 h2 h3 h4, k, e => by
    simp only [toKey] at e
    obtain ⟨ks, e1, rfl⟩ := Option.map_eq_some_iff.mp e
    exact .tup h1 h2 h3 (readsAll_keys h4 e1)
  | _, _, _, .none, k, e => by simp [toKey] at e
  | _, _, _, .bool _, k, e => by simp [toKey] at e
  | _, _, _, .str _ _, k, e => by simp [toKey] at e
  | _, _, _, .list _ _ _ _, k, e => by simp [toKey] at e
  | _, _, _, .dict _ _ _ _ _, k, e => by simp [toKey] at e
theorem readsAll_keys {h : Heap} : ∀ {vs : List Value} {ds : List D} {as : List Addr}, ReadsAll h vs ds as → ∀ {ks : List NestedKey}, toKeys ds = some ks → NestedAll h ks vs
  | _, _, _, .nil, ks, e => by
    simp only [toKeys, Option.some.injEq] at e
    subst e
    exact .nil
  | _, _, _, .cons h1 h2, ks, e => by
    simp only [toKeys] at e
    split at e
    · rename_i k ks' e1 e2
      cases e
      exact .cons (reads_key h1 e1) (readsAll_keys h2 e2)
    · cases e
end
/-- a key that is a tuple -/
def tupK (d : D) : Option NestedKey := match d with
  | .tuple ds => (match toKey (.tuple ds) with
    | some k => if k.depth ≤ 8 then some k else none
    | none => none)
  | _ => none
theorem tupK_some {d : D} {k : NestedKey} (h : tupK d = some k) : (∃ ds, d = .tuple ds) ∧ toKey d = some k ∧ k.depth ≤ 8 := by
  unfold tupK at h
  split at h
  · split at h
    · split at h
      · rename_i e _
        cases h
        exact ⟨⟨_, rfl⟩, e, by assumption⟩
      · cases h
    · cases h
  · cases h
/-- the keys of pairs -/
def dicKeys : List D → Option (List NestedKey)
  | [] => some []
  | d :: ds => match d with
    | .tuple [x, _] => (match tupK x with
      | some k => (dicKeys ds).map (k :: ·)
      | none => none)
    | _ => none
def addK (l : List NestedKey) (k : NestedKey) : List NestedKey := if k ∈ l then l else l ++ [k]
def ddK (l : List NestedKey) : List NestedKey := l.foldl addK []
theorem da_tup {K : PySem.W.Frag} {B : AS} {H : Hp} {v : V} {ds : List D} (h : Da K B H v (.tuple ds)) : ∃ a xs, v = .ref a ∧ TB K B H a xs ∧ DaL K B H xs ds := by
  cases h with
  | tup hs ha => exact ⟨_, _, rfl, hs, ha⟩
section
variable {X : Cx} {pins : List (Addr × Obj)} {σ : L2.St} {H : Hp} {s : Shared} {B : AS}
theorem pairs_n (I : Inv X pins σ H s) : ∀ {ds : List D} {us : List V} {ks : List NestedKey}, DaL X.K B H us ds → dicKeys ds = some ks → ∃ (Ts : List Addr) (ps : DicL), us = Ts.map V.ref ∧ ps.map (·.1) = ks ∧ ps.length = Ts.length ∧ (∀ (j : Nat) (x : NestedKey × Addr × Value), ps[j]? = some x → ∃ T, Ts[j]? = some T ∧ s.heap.IsTuple T #[.ref x.2.1, x.2.2]) ∧
    ∀ x ∈ ps, Da X.K B H (.ref x.2.1) x.1.data ∧ (nestedKind X.prog X.w).is s.heap x.1 x.2.1 ∧ numK x.1 = true
  | [], us, ks, h, e => by
    cases h
    cases e
    exact ⟨[], [], rfl, rfl, rfl, fun j x e => by simp at e, fun x hx => by cases hx⟩
  | d :: ds, _, ks, h, e => by
    cases h with
    | cons h1 h2 =>
      unfold dicKeys at e
      split at e
      · rename_i x0 y0
        split at e
        · rename_i k ek
          obtain ⟨ks', e1, e2⟩ := Option.map_eq_some_iff.mp e
          subst e2
          obtain ⟨Ts, ps, f1, f2, f3, f4, f5⟩ := pairs_n I h2 e1
          obtain ⟨⟨kd, rfl⟩, g2, g3⟩ := tupK_some ek
          obtain ⟨k1, k2, k3⟩ := toKey_ok _ _ g2
          obtain ⟨a, xs, rfl, ht, hl⟩ := da_tup h1
          cases hl with
          | cons m1 m2 =>
            cases m2 with
            | cons m3 m4 =>
              cases m4
              obtain ⟨b, ys, rfl, hb, hy⟩ := da_tup m1
              obtain ⟨its, rv, it, _⟩ := I.tuple ht.sq
              obtain ⟨u, y, ei, ru, ry⟩ := vals2 rv
              subst ei
              cases ru
              obtain ⟨as, hr⟩ := Dp.reads I _ _ _ (m1.dp _ _ k3) rfl
              refine ⟨a :: Ts, (k, b, y) :: ps, by rw [f1]; rfl, by rw [List.map_cons, f2], by rw [List.length_cons, List.length_cons, f3], fun j x e => ?_, fun x hx => ?_⟩
              · cases j with
                | zero =>
                  cases e
                  exact ⟨a, rfl, it⟩
                | succ j => exact f4 j x (by simpa using e)
              · rcases List.mem_cons.mp hx with z | z
                · rw [z]
                  refine ⟨?_, ⟨reads_key hr g2, g3⟩, k2⟩
                  show Da X.K B H (.ref b) k.data
                  rw [k1]
                  exact m1
                · exact f5 x z
        · cases e
      · cases e
theorem atKey_mem {xs : DicL} {k : NestedKey} : (atKey xs k).isSome = true ↔ k ∈ xs.map (·.1) := by
  unfold atKey
  rw [Option.isSome_map, List.find?_isSome]
  constructor
  · rintro ⟨x, hx, e⟩
    exact List.mem_map.mpr ⟨x, hx, of_decide_eq_true e⟩
  · intro h
    obtain ⟨x, hx, e⟩ := List.mem_map.mp h
    exact ⟨x, hx, decide_eq_true e⟩
theorem storedH_keys {xs : DicL} {k : NestedKey} {a : Addr} {v : Value} : (storedH xs k a v).map (·.1) = addK (xs.map (·.1)) k := by
  unfold storedH addK
  by_cases h : k ∈ xs.map (·.1)
  · rw [if_pos (atKey_mem.mpr h), if_pos h, List.map_map]
    refine List.map_congr_left fun x _ => ?_
    show (putAt k v x).1 = x.1
    unfold putAt
    split <;> rfl
  · rw [if_neg (fun z => h (atKey_mem.mp z)), if_neg h, List.map_append]
    rfl
theorem storedAll_keys : ∀ {ps xs : DicL}, (storedAllH xs ps).map (·.1) = (ps.map (·.1)).foldl addK (xs.map (·.1))
  | [], xs => rfl
  | p :: ps, xs => by
    show (storedAllH (storedH xs p.1 p.2.1 p.2.2) ps).map (·.1) = _
    rw [storedAll_keys, storedH_keys]
    rfl
theorem da_keys {K : PySem.W.Frag} : ∀ {xs : DicL}, (∀ x ∈ xs, Da K B H (.ref x.2.1) x.1.data) → DaL K B H (xs.map fun x => V.ref x.2.1) (xs.map fun x => x.1.data)
  | [], _ => .nil
  | x :: xs, h => .cons (h x List.mem_cons_self) (da_keys fun y hy => h y (List.mem_cons_of_mem _ hy))
/-- dict(pairs) -/
def rDicN (K : PySem.W.Frag) : List V → Hp → VK → Prop := fun vs H Q => ∃ (B : AS) (a : Addr) (us : List V) (ds : List D) (ks : List NestedKey), vs = [.ref a] ∧ SqL K H a us ∧ DaL K B H us ds ∧ dicKeys ds = some ks ∧
  ∀ (p : Addr) (xs : DicL), H p = none → xs.map (·.1) = ddK ks → (∀ x ∈ xs, Da K B H (.ref x.2.1) x.1.data) → Q (.ref p) (upd H p (DicO p xs))
theorem vals_refs : ∀ {ps : List Addr} {us : List Value}, Vals (ps.map V.ref) us → us = ps.map Value.ref
  | [], us, r => by
    cases r
    rfl
  | p :: ps, us, r => by
    cases r with
    | cons h t =>
      cases h
      rw [List.map_cons, ← vals_refs t]
theorem dicO_new {P : Program} {w : World} {H : Hp} {h : Heap} {p : Addr} {xs : DicL} (hs : (p == sysModules) = false) (hd : h.DictOfH (nestedKind P w) p xs) (hn : ∀ x ∈ xs, numK x.1 = true) : ObjOk P w H h p (DicO p xs) := by
  obtain ⟨o, es, ep, h1, h2, h3, h4, h5, h6⟩ := hd
  refine ⟨⟨hs, fun x hx => ⟨hn x hx, (h5 x hx).2⟩, P, w, o, es, ep, h1, h2, h3, h4, h6⟩, ⟨o, h1⟩, fun g1 g2 ⟨a, b, P', w', o', es', ep', c1, c2⟩ k => ⟨a, b, P', w', o', es', ep', k _ c1, c2⟩⟩
theorem dicO_get {p : Addr} {xs : DicL} (I : Inv X pins σ H s) (h : H p = some (DicO p xs)) (hk : ∀ x ∈ xs, Da X.K B H (.ref x.2.1) x.1.data) : (p == sysModules) = false ∧ s.heap.DictOfH (nestedKind X.prog X.w) p xs := by
  obtain ⟨⟨a, b, P', w', o, es, ep, c1, c2, c3, c4, c5⟩, _⟩ := I.hok p _ h
  refine ⟨a, o, es, ep, c1, c2, c3, ?_, fun x hx => ⟨?_, (b x hx).2⟩, c5⟩
  · rw [c4]
    refine List.map_congr_left fun x hx => ?_
    show (⟨x.1.hash w', _, _⟩ : DictEntry) = ⟨x.1.hash X.w, _, _⟩
    rw [hash_num w' X.w x.1 (b x hx).1]
  · have hkey := toKey_data x.1 (b x hx).1
    obtain ⟨_, _, lay⟩ := toKey_ok _ _ hkey
    obtain ⟨as, hr⟩ := Dp.reads I _ _ _ ((hk x hx).dp _ _ lay) rfl
    exact reads_key hr hkey
theorem room_n {k : Nat} {A : Around} (hr : Room k A) : A.units + 16 < cLine := by
  have := hr.un
  omega
theorem cr_dicN {k : Nat} (hr : Room k X.A) : CallR X (.type "dict") (rDicN X.K) := by
  intro pins s σ H vs us Q I r q
  obtain ⟨B, a, zs, ds, ks, rfl, hq, hd, hk, q⟩ := q
  rw [Vals.ref1 r]
  obtain ⟨its, rv, pl, hz⟩ := I.list hq
  obtain ⟨Ts, ps, rfl, f2, f3, f4, f5⟩ := pairs_n I hd hk
  have ei := vals_refs rv
  subst ei
  rw [List.length_map] at hz
  obtain ⟨o, n, ho, hc, hdd, hdat⟩ := pl
  have hroom := room_n hr
  refine call_dict_pairsH (knd := nestedKind X.prog X.w) (ps := ps) (PairArg.list a (Ts.map Value.ref).toArray (fun j => Ts.getD j 0) (ps.map fun x => (Value.ref x.2.1, x.2.2))) hr.hd (by show X.A.units + 1 + 1 + 8 < cLine; omega)
    ⟨⟨o, n, ho, hc, hdd, hdat⟩, by simp [f3], fun j kk v e => ?_⟩ ⟨by rw [List.length_map], fun i key v e => ?_⟩ (fun h' hk' x hx => ?_) (by rw [List.length_map, f3]; exact hz) fun h' tk hD kp => ?_
  · rw [List.getElem?_map] at e
    obtain ⟨x, e1, e2⟩ := Option.map_eq_some_iff.mp e
    cases e2
    obtain ⟨T, g1, g2⟩ := f4 j x e1
    have g3 : Ts.getD j 0 = T := by rw [List.getD_eq_getElem?_getD, g1]; rfl
    show _ ∧ PairAt s.heap (Ts.getD j 0) _ _
    rw [g3]
    refine ⟨?_, .inl g2⟩
    show (Ts.map Value.ref).toArray[j]? = some (Value.ref (Ts.getD j 0))
    rw [g3]
    simp [g1]
  · have e' : (ps.map fun x => (Value.ref x.2.1, x.2.2))[i]? = some (key, v) := e
    rw [List.getElem?_map] at e'
    obtain ⟨x, e1, e2⟩ := Option.map_eq_some_iff.mp e'
    cases e2
    exact ⟨x.1, x.2.1, e1, rfl⟩
  · have hi := (f5 x hx).2.1
    refine ⟨NestedIs.at (fun b ob vs n hb _ => hk' b ob (Nat.ne_of_lt (Heap.lt_size hb)) (by simp) hb) _ _ hi.1, hi.2⟩
  · have hm : (s.heap.objs.size == sysModules) = false := beq_eq_false_iff_ne.mpr (Nat.ne_of_gt I.big)
    have hkeys : (storedAllH [] ps).map (·.1) = ddK ks := by rw [storedAll_keys, f2]; rfl
    have hP : ∀ x ∈ storedAllH [] ps, Da X.K B H (.ref x.2.1) x.1.data ∧ numK x.1 = true := storedAllH_keys (P := fun k b => Da X.K B H (.ref b) k.data ∧ numK k = true) (fun x hx => by cases hx) fun x hx => ⟨(f5 x hx).1, (f5 x hx).2.2⟩
    exact ⟨.ref s.heap.objs.size, _, I.laid (t' := tk) (fun b ob e => kp b ob (by simp) e) (Nat.le_refl _) (dicO_new hm hD fun x hx => (hP x hx).2), rfl, q _ _ (I.hok.fresh (Nat.le_refl _)) hkeys fun x hx => (hP x hx).1⟩
end
def oDicN : D → Option D
  | .list ds => (dicKeys ds).map fun ks => dicD ((ddK ks).map NestedKey.data)
  | _ => none
theorem b_dicN {X : Cx} {k : Nat} (hr : Room k X.A) : CbV X (.type "dict") oDicN := by
  refine ⟨_, cr_dicN hr, fun F B H x dx d hx fr e Q q => ?_⟩
  unfold oDicN at e
  split at e
  · rename_i ds
    obtain ⟨ks, e1, e2⟩ := Option.map_eq_some_iff.mp e
    subst e2
    obtain ⟨a, us, rfl, ha, hd⟩ := hx.list
    refine ⟨B, a, us, ds, ks, rfl, .inl (.inl ha), hd, e1, fun p xs hp hk hda => q _ _ (Ext.new hp) ?_⟩
    have e3 : xs.map (fun x => x.1.data) = (ddK ks).map NestedKey.data := by
      rw [← hk, List.map_map]
      rfl
    refine .dic xs (fr p hp) upd_same e3 ?_
    rw [← e3]
    exact (da_keys hda).stay (Ext.new hp).stay
  · cases e
/-- x in a dict -/
def oInN : D → D → Option D
  | x, .dict [(.tuple ks, .bool true)] => (match tupK x, toKeys ks with
    | some k, some kk => some (.bool (decide (k ∈ kk)))
    | _, _ => none)
  | _, _ => none
def rInN (K : PySem.W.Frag) : R2 := fun x y H Q => ∃ (B : AS) (d : D) (k : NestedKey) (b a : Addr) (xs : DicL), x = .ref b ∧ Dp K H x d ∧ toKey d = some k ∧ k.depth ≤ 8 ∧ y = .ref a ∧ H a = some (DicO a xs) ∧ (∀ z ∈ xs, Da K B H (.ref z.2.1) z.1.data) ∧ ∃ kk, toKeys (xs.map fun z => z.1.data) = some kk ∧ Q (.bl (decide (k ∈ kk))) H
theorem mem_numK {xs : DicL} : (∀ x ∈ xs, numK x.1 = true) → toKeys (xs.map fun x => x.1.data) = some (xs.map (·.1)) := by
  induction xs with
  | nil => intro _; rfl
  | cons x xs ih =>
    intro h
    rw [List.map_cons, List.map_cons, toKeys, toKey_data x.1 (h x List.mem_cons_self), ih fun y hy => h y (List.mem_cons_of_mem _ hy)]
theorem op_inN {X : Cx} {k : Nat} (hr : Room k X.A) : OpR X (compareOp .In) (rInN X.K) := by
  intro pins s σ H x y v u Q I rx ry h
  obtain ⟨B, d, k, b, a, xs, rfl, hd, hk, h8, rfl, ha, hda, kk, hkk, q⟩ := h
  obtain ⟨as, hr1⟩ := Dp.reads I d _ v hd rx
  cases (show v = Value.ref b from rx)
  cases (show u = Value.ref a from ry)
  obtain ⟨g1, g2⟩ := dicO_get I ha hda
  have hroom := room_n hr
  refine PySem.wpAny_in_heap (knd := nestedKind X.prog X.w) (k := k) (by show X.A.units + 1 + 8 < cLine; omega) ⟨reads_key hr1 hk, h8⟩ g1 g2 ⟨.bl _, H, I.kept (t' := _) (fun _ _ e => e), rfl, ?_⟩
  have ekk : kk = xs.map (·.1) := by
    obtain ⟨⟨_, nb, _⟩, _⟩ := I.hok a _ ha
    rw [mem_numK fun x hx => (nb x hx).1] at hkk
    exact (Option.some.inj hkk).symm
  have e : (atKey xs k).isSome = decide (k ∈ kk) := by
    rw [ekk]
    rw [Bool.eq_iff_iff, decide_eq_true_iff]
    exact atKey_mem
  rw [e]
  exact q
theorem keys_da {K : PySem.W.Frag} {B : AS} {H : Hp} : ∀ {xs : DicL}, DaL K B H (xs.map fun x => V.ref x.2.1) (xs.map fun x => x.1.data) → ∀ z ∈ xs, Da K B H (.ref z.2.1) z.1.data
  | [], _, z, hz => by cases hz
  | x :: xs, hd, z, hz => by
    cases hd with
    | cons d1 d2 =>
      rcases List.mem_cons.mp hz with w | w
      · rw [w]
        exact d1
      · exact keys_da d2 z w
theorem cx_inN {X : Cx} {k : Nat} (hr : Room k X.A) : CmX X .In oInN := by
  refine ⟨_, op_inN hr, fun F B H x y dx dy d hx hy fr e Q q => ?_⟩
  unfold oInN at e
  split at e
  · rename_i ks
    split at e
    · rename_i k kk e1 e2
      cases e
      obtain ⟨⟨kd, rfl⟩, g2, g3⟩ := tupK_some e1
      obtain ⟨_, _, lay⟩ := toKey_ok _ _ g2
      obtain ⟨b, ys, rfl, _, _⟩ := da_tup hx
      rcases hy with hy | ⟨_, _, _, _, e2', _⟩
      · cases hy with
        | dic xs nb ha hk hd =>
          rename_i a
          have hdz : ∀ z ∈ xs, Da X.K B H (.ref z.2.1) z.1.data := keys_da (by rw [hk]; exact hd)
          exact ⟨B, _, k, b, a, xs, rfl, Da.dp _ _ hx lay, g2, g3, rfl, ha, hdz, kk, by rw [hk]; exact e2, q _ _ (Ext.refl H) (.bl _)⟩
      · cases e2'
    · cases e
  · cases e
/-! ### sorted(dict) -/
/-- the keys of the dict a, sorted -/
def rSortN (K : PySem.W.Frag) : List V → Hp → VK → Prop := fun vs H Q => ∃ (B : AS) (a : Addr) (xs : DicL), vs = [.ref a] ∧ H a = some (DicO a xs) ∧ (∀ z ∈ xs, Da K B H (.ref z.2.1) z.1.data) ∧ xs.length ≤ 60000 ∧ AllAlike (xs.map fun z => z.1.data) ∧ SortOk (xs.map fun z => z.1.data) ∧ (∀ z ∈ xs, z.1.data.depth ≤ 64 ∧ z.1.data.canLay0 = true) ∧
  ∀ p, H p = none → Q (.ref p) (upd H p (.lst ((xs.mergeSort (dataLe false fun z => z.1.data)).map fun z => V.ref z.2.1)))
theorem vals_dic : ∀ {zs : DicL} {us : List Value}, EachIs (fun u z => u = Value.ref z.2.1) us zs → Vals (zs.map fun z => V.ref z.2.1) us
  | _, _, .nil => .nil
  | _, _, .cons h t => .cons h (vals_dic t)
theorem each_at {R : Value → NestedKey × Addr × Value → Prop} : ∀ {us : List Value} {zs : DicL}, us.length = zs.length → (∀ (i : Nat) (u : Value) (z : NestedKey × Addr × Value), us[i]? = some u → zs[i]? = some z → R u z) → EachIs R us zs
  | [], [], _, _ => .nil
  | u :: us, z :: zs, hl, h => .cons (h 0 u z rfl rfl) (each_at (Nat.succ.inj hl) fun i u z e1 e2 => h (i + 1) u z (by simpa using e1) (by simpa using e2))
  | [], _ :: _, hl, _ => by cases hl
  | _ :: _, [], hl, _ => by cases hl
theorem cr_sortN {X : Cx} {k : Nat} (hr : Room k X.A) : CallR X (.builtin "sorted") (rSortN X.K) := by
  intro pins s σ H vs us Q I r h
  obtain ⟨B, a, xs, rfl, ha, hda, hlen, hal, hok, hdp, q⟩ := h
  rw [Vals.ref1 r]
  obtain ⟨g1, g2⟩ := dicO_get I ha hda
  obtain ⟨es, ep, hraw, hsz, hes⟩ := g2.raw
  have hz : xs.length ≤ sizeLine := Nat.le_trans hlen (by decide)
  refine Calls.call_function_entry PyProof.Rows.kind_sorted PyProof.Rows.plain_sorted PyProof.Rows.entry_sorted (PyProof.Rows.args_sorted1 _) ?_
  unfold Builtin.«sorted»
  refine wpAny_bind (m := checkCount "sorted" 1 1 _) (wpAny_pure ?_)
  refine wpAny_bind (PySem.W.kdu_collect (A := X.A.in1) (PySem.KdlSrc.rawDict (es := es) (ep := ep) g1) hr.hd hraw (by rw [hsz]; exact hz) fun h' tk acc hk hacc => ?_)
  have I1 : Inv X pins σ H { s with heap := h', toks := tk } := I.kept hk
  have hal' : acc.toList.length = xs.length := by rw [Array.length_toList, hacc.1, hsz]
  have each : EachIs (fun u (z : NestedKey × Addr × Value) => u = Value.ref z.2.1) acc.toList xs := each_at hal' fun i u z e1 e2 => by
    obtain ⟨hi, ev⟩ := hacc.2 i u (by rw [← Array.getElem?_toList]; exact e1)
    obtain ⟨y, f1, f2, _⟩ := hes i hi
    rw [e2] at f1
    cases f1
    rw [ev, f2]
  have hu := hr.un
  refine wpAny_bind (wpAny_newList ?_ (by rw [hal']; exact hz))
  have hoL : (h'.push (seqObj "list" acc.toList.toArray 0)).get? h'.objs.size = some (seqObj "list" acc.toList.toArray 0) := Heap.get?_push_size _ rfl
  have reads : ∀ g : Heap, (∀ b o, h'.get? b = some o → g.get? b = some o) → EachIs (fun u (z : NestedKey × Addr × Value) => ∃ as, Reads g u z.1.data as) acc.toList xs := fun g kg => (each_mem each).mono fun u z ⟨e1, e2⟩ => by
    subst e1
    obtain ⟨as, hr1⟩ := Dp.reads I1 _ _ _ ((hda z e2).dp _ _ (hdp z e2).2) rfl
    exact ⟨as, PyProof.Rows.Reads.keeps kg hr1⟩
  have keepL : ∀ b o, h'.get? b = some o → (sortingHeap (h'.push (seqObj "list" acc.toList.toArray 0)) h'.objs.size acc.toList).get? b = some o := fun b o e =>
    sortingHeap_old (Nat.ne_of_lt (Heap.lt_size e)) (Heap.get?_push_of_some _ e)
  have rd := reads _ keepL
  have S := SortsAt.any (prog := X.prog) (w := X.w) (A := X.A.in1.in1) (s := { s with heap := sortingHeap (h'.push (seqObj "list" acc.toList.toArray 0)) h'.objs.size acc.toList, toks := tk }) (each_map (R := fun v d => ∃ as, Reads (sortingHeap (h'.push (seqObj "list" acc.toList.toArray 0)) h'.objs.size acc.toList) v d as) (fun z : NestedKey × Addr × Value => z.1.data) rd) hal hok (fun d hd => by
    obtain ⟨z, hz1, rfl⟩ := List.mem_map.mp hd
    have := (hdp z hz1).1
    show X.A.units + 1 + 1 + _ < cLine
    omega)
  show wpAny _ _ _ _ _ { s with heap := h'.push (seqObj "list" acc.toList.toArray 0), toks := tk }
  refine wpAny_bind (wpAny_holding (wpAny_call_entry PyProof.Rows.slot_list_sort ⟨_, hoL, rfl⟩ PyProof.Rows.entry_list_sort
    (list_sort_vals (s := { s with heap := h'.push (seqObj "list" acc.toList.toArray 0), toks := tk }) hoL S (by rw [hal']; exact hz) ⟨_, rfl, ?_⟩) (PyProof.Rows.args_list_sort _)))
  have ev := sortVals_data (h' := sortingHeap (h'.push (seqObj "list" acc.toList.toArray 0)) h'.objs.size acc.toList) false each rd hal
  have vv := vals_dic ev
  have hln : ((xs.mergeSort (dataLe false fun z => z.1.data)).map fun z => V.ref z.2.1).length ≤ sizeLine := by
    rw [List.length_map, List.length_mergeSort]
    exact hz
  obtain ⟨n, hn⟩ := PyProof.Rows.sortedHeap_at (vs := acc.toList) (out := (sortVals (dataKind (sortingHeap (h'.push (seqObj "list" acc.toList.toArray 0)) h'.objs.size acc.toList) (xs.map fun z => z.1.data)) false acc.toList acc.toList).toArray) hoL
  refine wpAny_pure ⟨_, rfl, .ref h'.objs.size, _, I1.laid (t' := tk) (fun b u e => ?_) (Nat.le_refl _) (o := .lst ((xs.mergeSort (dataLe false fun z => z.1.data)).map fun z => V.ref z.2.1)) ⟨hln, _, n, vv, hn⟩, rfl, q _ (I1.hok.fresh (Nat.le_refl _))⟩
  have hb : b < h'.objs.size := Heap.lt_size e
  rw [PyProof.Rows.sortedHeap_old (Nat.ne_of_lt hb) (by rw [PyProof.Rows.size_push']; exact Nat.lt_succ_of_lt hb)]
  exact Heap.get?_push_of_some _ e
def oSortN : D → Option (List D)
  | .dict [(.tuple ks, .bool true)] => if sortB ks = true ∧ ks.length ≤ 60000 then some (sortD ks) else none
  | _ => none
theorem b_sortN {X : Cx} {k : Nat} (hr : Room k X.A) : CbF X (.builtin "sorted") oSortN := by
  refine ⟨_, cr_sortN hr, fun F B H x dx d hx e Q q => ?_⟩
  unfold oSortN at e
  split at e
  · rename_i ks
    split at e
    · rename_i hb
      cases e
      obtain ⟨h1, h2, h3⟩ := sortB_ok hb.1
      have hlay : PyData.canLayAll0 ks = true := by
        have := SeqAt.canLay_of_shaped h3
        simpa only [PyData.canLay0] using this
      have hdep : ∀ d ∈ ks, d.depth ≤ 64 := fun d hd => by
        have := SeqAt.depth_of_shaped h3
        have h4 := depthAll_mem hd
        rw [PyData.depth] at this
        omega
      rcases hx with hx | ⟨_, _, _, _, e2', _⟩
      · cases hx with
        | dic xs nb ha hk hd =>
          rename_i a
          have hdz : ∀ z ∈ xs, Da X.K B H (.ref z.2.1) z.1.data := keys_da (by rw [hk]; exact hd)
          have mem2 : ∀ z ∈ xs, z.1.data ∈ ks := fun z hz => by
            rw [← hk]
            exact List.mem_map.mpr ⟨z, hz, rfl⟩
          refine ⟨B, a, xs, rfl, ha, hdz, by rw [← List.length_map (f := fun x : NestedKey × Addr × Value => x.1.data), hk]; exact hb.2, by rw [hk]; exact h1, by rw [hk]; exact h2, fun z hz => ⟨hdep _ (mem2 z hz), lay_mem hlay _ (mem2 z hz)⟩, fun p' hp' => q p' _ hp' ?_⟩
          have em : sortD ks = (xs.mergeSort (dataLe false fun z => z.1.data)).map fun z => z.1.data := by
            unfold sortD
            have z := List.map_mergeSort (l := xs) (r := dataLe false fun z => z.1.data) (s := dataLe false id) (f := fun z => z.1.data) (fun a _ b _ => rfl)
            rw [hk] at z
            exact z.symm
          rw [em]
          exact da_keys fun z hz => hdz z (List.mem_mergeSort.mp hz)
      · cases e2'
    · cases e
  · cases e
theorem f_sortN {X : Cx} {T : AS} {a : Expr} {fa : M D} {k : Nat} {p pos : Pos} (hr : Room k X.A) (hg : Gl X "sorted") (hm : X.mg "sorted" = none) (ha : DV X T a fa) (hs : starEach [a] X.env = (false, eval a X.env) :: starEach [] X.env := by rfl) :
    DF X T (.Call (.Name "sorted" p) [a] [] pos) (fF oSortN fa) := f_cb (b_sortN hr) hg hm boot_sorted' ha (by decide) (by decide) (hs := hs)
theorem e_dicN {X : Cx} {T : AS} {a : Expr} {fa : M D} {k : Nat} {p pos : Pos} (hr : Room k X.A) (hg : Gl X "dict") (hm : X.mg "dict" = none) (ha : DV X T a fa) (hs : starEach [a] X.env = (false, eval a X.env) :: starEach [] X.env := by rfl) :
    DE X T (.Call (.Name "dict" p) [a] [] pos) (fUn oDicN fa) := e_ct (b_dicN hr) hg hm boot_dict' ha (by decide) (by decide) (hs := hs)
end PF
set_option Elab.async false
set_option linter.all false
set_option maxRecDepth 100000
set_option maxHeartbeats 1000000
/-! PF: small things for printed derivations. -/
namespace PF
open PySem PySem.Spec PyProof.Rows L2

theorem RM {j k : Nat} {A : Around} (r : Room k A) (h : j ≤ k := by decide) : Room j A := r.mono h
theorem RU {k : Nat} {A : Around} (r : Room k A) : A.units + 8 + 65 < cLine := by
  have := r.un
  omega
theorem capsN {N names : List Str} {caps : List Nat} (h : caps.map (fun j => N[j]?) = names.map some) : ∀ (i : Nat) (y : Str), names[i]? = some y → ∃ j : Nat, caps[i]? = some j ∧ N[j]? = some y := fun i y e => by
  have h1 := congrArg (fun l => l[i]?) h
  simp only [List.getElem?_map, e, Option.map_some] at h1
  obtain ⟨j, e1, e2⟩ := Option.map_eq_some_iff.mp h1
  exact ⟨j, e1, e2⟩
theorem lenK {fs : M (List D)} {n k : Nat} {o : {α : Type} → List α → List α → List α} (h : Len fs k) (ho : ∀ ds : List D, ds.length = k → (o [] ds).length = n) : ∀ ρ ds ρ', fs ρ = some (ds, ρ') → (o [] ds).length = n := fun ρ ds ρ' e => ho ds (h ρ ds ρ' e)
section
variable {X : Cx} {T : AS}
theorem s_setLc (i : Nat) {x : Str} {px : Pos} {elt tg iter : Expr} {ifs : List Expr} {scope : Scope} (own : List (Str × Nat)) {cpos pos : Pos} {is : List Nat} {fi : M (List D)} {ga : D → Sl → Option Sl} {ft : M Bool} {fe : M D} (hc : X.calm = true) (hN : X.N.Nodup) (ok : BlkOk X.N X.env.scope scope own)
    (hi : DI X T tg iter fi) (hg : ∀ s H C cl fp, DG (bk X scope s H C cl fp) T tg is ga) (ht : ∀ s H C cl fp, DTs (bk X scope s H C cl fp) T ifs ft) (he : ∀ s H C cl fp, DE (bk X scope s H C cl fp) T elt fe)
    (hs : ∀ i ∈ is, i ∈ own.map (·.2) := by decide) (hf : ∀ x, foldedSetIterable iter X.env x = pure x := by intro _; rfl) (hy : X.N[i]? = some x := by rfl) (hl : X.env.scope.names.lookup x = some .local := by rfl) (hk : X.env.scope.kind = .function := by rfl) (hln : (px.line == cpos.line) = true := by rfl)
    (ha : (scope.names.any fun (n, k) => n == x && (k == .local || k == .cell)) = false := by rfl) :
    DS X T (.Assign [.Name x px] (.ListComp elt [⟨tg, iter, ifs, 0⟩] scope cpos) pos) (sAsg (fList (fLc (own.map (·.2)) fi ga ft fe)) (gaN i)) :=
  ⟨_, ps_setLc (g := tG X.K T is ga) (tt := tT X.K T ft) (te := tE X.K T fe) hc hN hy hl (sw_true hk hl hln ha) hi.can ok (fun s H C cl fp => (hg s H C cl fp).can) (fun s H C cl fp => (ht s H C cl fp).can) (fun s H C cl fp => (he s H C cl fp).can) hf,
    ss_asg (SF.e (sf_lc (is := is) (ga := ga) (fun F ρ σ H ds ρ' R e Q q => ⟨F, ρ, ds, ρ', R, e, q⟩) (fun F ρ σ H v d ρ' R h e Q q => ⟨F, ρ, d, ρ', R, h, e, q⟩) hs st_tT se_tE)) (sg_name i)⟩
theorem s_ownLc (i : Nat) {x : Str} {px : Pos} {elt tg iter : Expr} {ifs : List Expr} {scope : Scope} (own : List (Str × Nat)) {cpos pos : Pos} {is : List Nat} {fi : M (List D)} {ga : D → Sl → Option Sl} {ft : M Bool} {fe : M D} (hc : X.calm = true) (hN : X.N.Nodup) (ok : BlkOk X.N X.env.scope scope own)
    (hi : DI X T tg iter fi) (hg : ∀ s H C cl fp, DG (bk X scope s H C cl fp) T tg is ga) (ht : ∀ s H C cl fp, DTs (bk X scope s H C cl fp) T ifs ft) (he : ∀ s H C cl fp, DE (bk X scope s H C cl fp) T elt fe)
    (hs : ∀ i ∈ is, i ∈ own.map (·.2) := by decide) (hf : ∀ x, foldedSetIterable iter X.env x = pure x := by intro _; rfl) (hy : X.N[i]? = some x := by rfl) (hl : X.env.scope.names.lookup x = some .local := by rfl) (hk : X.env.scope.kind = .function := by rfl) (hln : (px.line == cpos.line) = true := by rfl)
    (ha : (scope.names.any fun (n, k) => n == x && (k == .local || k == .cell)) = false := by rfl) :
    DS X T (.Assign [.Name x px] (.ListComp elt [⟨tg, iter, ifs, 0⟩] scope cpos) pos) (sOwn i (fLc (own.map (·.2)) fi ga ft fe)) :=
  ⟨_, ps_setLc (g := tG X.K T is ga) (tt := tT X.K T ft) (te := tE X.K T fe) hc hN hy hl (sw_true hk hl hln ha) hi.can ok (fun s H C cl fp => (hg s H C cl fp).can) (fun s H C cl fp => (ht s H C cl fp).can) (fun s H C cl fp => (he s H C cl fp).can) hf,
    ss_own (sf_lc (is := is) (ga := ga) (fun F ρ σ H ds ρ' R e Q q => ⟨F, ρ, ds, ρ', R, e, q⟩) (fun F ρ σ H v d ρ' R h e Q q => ⟨F, ρ, d, ρ', R, h, e, q⟩) hs st_tT se_tE)⟩
end
theorem bt_len : bootBuiltins "len" = some (.builtin "len") := by decide +kernel
theorem bt_abs : bootBuiltins "abs" = some (.builtin "abs") := by decide +kernel
theorem bt_int : bootBuiltins "int" = some (.type "int") := by decide +kernel
theorem bt_str : bootBuiltins "str" = some (.type "str") := by decide +kernel
theorem bt_bool : bootBuiltins "bool" = some (.type "bool") := by decide +kernel
theorem bt_list : bootBuiltins "list" = some (.type "list") := by decide +kernel
theorem bt_tuple : bootBuiltins "tuple" = some (.type "tuple") := by decide +kernel
theorem bt_sum : bootBuiltins "sum" = some (.builtin "sum") := by decide +kernel
theorem bt_max : bootBuiltins "max" = some (.builtin "max") := by decide +kernel
theorem bt_min : bootBuiltins "min" = some (.builtin "min") := by decide +kernel
theorem bt_all : bootBuiltins "all" = some (.builtin "all") := by decide +kernel
theorem bt_any : bootBuiltins "any" = some (.builtin "any") := by decide +kernel
end PF
set_option Elab.async false
set_option linter.all false
set_option maxRecDepth 100000
set_option maxHeartbeats 1000000
/-! PF: what the mirrors compute, in plain terms. -/
namespace PF
open PySem PySem.Spec PyProof.Rows L2

/-! ### data without truths: equality is sameness -/
mutual
def numD : D → Bool
  | .int _ => true
  | .str _ => true
  | .none => true
  | .list xs => numDs xs
  | .tuple xs => numDs xs
  | _ => false
def numDs : List D → Bool
  | [] => true
  | x :: xs => numD x && numDs xs
end
mutual
theorem eqv_eq : ∀ a b : D, numD a = true → numD b = true → (PyData.eqv a b = true ↔ a = b)
  | .none, b, _, hb => by cases b <;> simp_all [PyData.eqv, numD]
  | .int i, b, _, hb => by cases b <;> simp_all [PyData.eqv, numD]
  | .str x, b, _, hb => by cases b <;> simp_all [PyData.eqv, numD]
  | .list xs, b, ha, hb => by
    cases b with
    | list ys => rw [PyData.eqv, eqvAll_eq xs ys (by simpa only [numD] using ha) (by simpa only [numD] using hb), PyData.list.injEq]
    | _ => simp_all [PyData.eqv, numD]
  | .tuple xs, b, ha, hb => by
    cases b with
    | tuple ys => rw [PyData.eqv, eqvAll_eq xs ys (by simpa only [numD] using ha) (by simpa only [numD] using hb), PyData.tuple.injEq]
    | _ => simp_all [PyData.eqv, numD]
  | .bool _, _, ha, _ => by simp [numD] at ha
  | .dict _, _, ha, _ => by simp [numD] at ha
theorem eqvAll_eq : ∀ a b : List D, numDs a = true → numDs b = true → (PyData.eqvAll a b = true ↔ a = b)
  | [], [], _, _ => by simp [PyData.eqvAll]
  | [], _ :: _, _, _ => by simp [PyData.eqvAll]
  | _ :: _, [], _, _ => by simp [PyData.eqvAll]
  | x :: xs, y :: ys, ha, hb => by
    simp only [numDs, Bool.and_eq_true] at ha hb
    rw [PyData.eqvAll, Bool.and_eq_true, eqv_eq x y ha.1 hb.1, eqvAll_eq xs ys ha.2 hb.2, List.cons.injEq]
end

/-! ### lots, families -/
abbrev Lot := List Int
def intsD (l : Lot) : List D := l.map PyData.int
def lotD (l : Lot) : D := .tuple (intsD l)
def lotsD (F : List Lot) : List D := F.map lotD
def famD (F : List Lot) : D := .tuple (lotsD F)
theorem num_ints (l : Lot) : numDs (intsD l) = true := by
  induction l with
  | nil => rfl
  | cons a l ih => show (numD (.int a) && numDs (intsD l)) = true; rw [ih]; rfl
theorem num_lot (l : Lot) : numD (lotD l) = true := by
  unfold lotD
  rw [numD]
  exact num_ints l
theorem num_lots (F : List Lot) : numDs (lotsD F) = true := by
  induction F with
  | nil => rfl
  | cons a l ih => show (numD (lotD a) && numDs (lotsD l)) = true; rw [ih, num_lot]; rfl
theorem num_fam (F : List Lot) : numD (famD F) = true := by
  unfold famD
  rw [numD]
  exact num_lots F
theorem intsD_inj {a b : Lot} : intsD a = intsD b ↔ a = b := by
  unfold intsD
  constructor
  · exact fun h => map_int_inj h
  · exact fun h => by rw [h]
theorem lotD_inj {a b : Lot} : lotD a = lotD b ↔ a = b := by
  unfold lotD
  rw [PyData.tuple.injEq, intsD_inj]
theorem lotsD_inj : ∀ {F G : List Lot}, lotsD F = lotsD G ↔ F = G
  | [], [] => by simp [lotsD]
  | [], _ :: _ => by simp [lotsD]
  | _ :: _, [] => by simp [lotsD]
  | a :: F, b :: G => by
    show lotD a :: lotsD F = lotD b :: lotsD G ↔ _
    rw [List.cons.injEq, lotD_inj, lotsD_inj, List.cons.injEq]
theorem famD_inj {F G : List Lot} : famD F = famD G ↔ F = G := by
  unfold famD
  rw [PyData.tuple.injEq, lotsD_inj]
theorem lay_ints (l : Lot) : PyData.canLayAll0 (intsD l) = true ∧ PyData.depthAll (intsD l) = 0 := by
  induction l with
  | nil => exact ⟨by rw [intsD, List.map_nil, PyData.canLayAll0], by rw [intsD, List.map_nil, PyData.depthAll]⟩
  | cons a l ih =>
    refine ⟨?_, ?_⟩
    · show PyData.canLayAll0 (.int a :: intsD l) = true
      rw [PyData.canLayAll0, ih.1, PyData.canLay0]
      rfl
    · show PyData.depthAll (.int a :: intsD l) = 0
      rw [PyData.depthAll, ih.2, PyData.depth]
      rfl
theorem lay_lots (F : List Lot) : PyData.canLayAll0 (lotsD F) = true ∧ PyData.depthAll (lotsD F) ≤ 1 := by
  induction F with
  | nil => exact ⟨by rw [lotsD, List.map_nil, PyData.canLayAll0], by rw [lotsD, List.map_nil, PyData.depthAll]; omega⟩
  | cons a F ih =>
    refine ⟨?_, ?_⟩
    · show PyData.canLayAll0 (lotD a :: lotsD F) = true
      rw [PyData.canLayAll0, ih.1, lotD, PyData.canLay0, (lay_ints a).1]
      rfl
    · show PyData.depthAll (lotD a :: lotsD F) ≤ 1
      rw [PyData.depthAll, lotD, PyData.depth, (lay_ints a).2]
      have := ih.2
      omega
theorem sh_of {d : D} (h1 : d.canLay0 = true) (h2 : d.depth ≤ 64) : SeqAt.shaped d = true := by
  unfold SeqAt.shaped
  rw [h1, decide_eq_true h2]
  rfl
theorem sh_int (i : Int) : SeqAt.shaped (.int i) = true := sh_of (by rw [PyData.canLay0]) (by rw [PyData.depth]; omega)
theorem sh_intsL (l : Lot) : SeqAt.shaped (.list (intsD l)) = true := sh_of (by rw [PyData.canLay0]; exact (lay_ints l).1) (by rw [PyData.depth, (lay_ints l).2]; omega)
theorem sh_lot (l : Lot) : SeqAt.shaped (lotD l) = true := sh_of (by rw [lotD, PyData.canLay0]; exact (lay_ints l).1) (by rw [lotD, PyData.depth, (lay_ints l).2]; omega)
theorem sh_lotsL (F : List Lot) : SeqAt.shaped (.list (lotsD F)) = true := sh_of (by rw [PyData.canLay0]; exact (lay_lots F).1) (by rw [PyData.depth]; have := (lay_lots F).2; omega)
theorem sh_fam (F : List Lot) : SeqAt.shaped (famD F) = true := sh_of (by rw [famD, PyData.canLay0]; exact (lay_lots F).1) (by rw [famD, PyData.depth]; have := (lay_lots F).2; omega)
theorem sh_str (x : Str) (h : PyData.strOk x = true) : SeqAt.shaped (.str x) = true := sh_of (by rw [PyData.canLay0]; exact h) (by rw [PyData.depth]; omega)
theorem any_ints {c : Int} {l : Lot} : ((intsD l).any fun z => PyData.eqv z (.int c)) = decide (c ∈ l) := by
  rw [Bool.eq_iff_iff, List.any_eq_true, decide_eq_true_iff]
  constructor
  · rintro ⟨x, hx, e⟩
    obtain ⟨i, hi, rfl⟩ := List.mem_map.mp hx
    have := (eqv_eq (.int i) (.int c) rfl rfl).mp e
    cases this
    exact hi
  · exact fun h => ⟨.int c, List.mem_map.mpr ⟨c, h, rfl⟩, (eqv_eq _ _ rfl rfl).mpr rfl⟩
theorem any_lots {l : Lot} {F : List Lot} : ((lotsD F).any fun z => PyData.eqv z (lotD l)) = decide (l ∈ F) := by
  rw [Bool.eq_iff_iff, List.any_eq_true, decide_eq_true_iff]
  constructor
  · rintro ⟨x, hx, e⟩
    obtain ⟨i, hi, rfl⟩ := List.mem_map.mp hx
    have := (eqv_eq _ _ (num_lot i) (num_lot l)).mp e
    rw [← lotD_inj.mp this]
    exact hi
  · exact fun h => ⟨lotD l, List.mem_map.mpr ⟨l, h, rfl⟩, (eqv_eq _ _ (num_lot l) (num_lot l)).mpr rfl⟩
theorem inD_list (d : D) (ds : List D) : inD d (.list ds) = if SeqAt.shaped d = true ∧ SeqAt.shaped (.list ds) = true then some (ds.any fun z => PyData.eqv z d) else none := rfl
theorem inD_tuple (d : D) (ds : List D) : inD d (.tuple ds) = if SeqAt.shaped d = true ∧ SeqAt.shaped (.tuple ds) = true then some (ds.any fun z => PyData.eqv z d) else none := rfl
theorem in_lot (c : Int) (l : Lot) : inD (.int c) (lotD l) = some (decide (c ∈ l)) := by
  rw [lotD, inD_tuple, if_pos ⟨sh_int c, sh_lot l⟩, any_ints]
theorem in_ints (c : Int) (l : Lot) : inD (.int c) (.list (intsD l)) = some (decide (c ∈ l)) := by
  rw [inD_list, if_pos ⟨sh_int c, sh_intsL l⟩, any_ints]
theorem in_fam (l : Lot) (F : List Lot) : inD (lotD l) (famD F) = some (decide (l ∈ F)) := by
  rw [famD, inD_tuple, if_pos ⟨sh_lot l, sh_fam F⟩, any_lots]
theorem oIn_lot (c : Int) (l : Lot) : oIn (.int c) (lotD l) = some (.bool (decide (c ∈ l))) := by rw [oIn, in_lot]; rfl
theorem oIn_ints (c : Int) (l : Lot) : oIn (.int c) (.list (intsD l)) = some (.bool (decide (c ∈ l))) := by rw [oIn, in_ints]; rfl
theorem oIn_fam (l : Lot) (F : List Lot) : oIn (lotD l) (famD F) = some (.bool (decide (l ∈ F))) := by rw [oIn, in_fam]; rfl
theorem oNotIn_lot (c : Int) (l : Lot) : oNotIn (.int c) (lotD l) = some (.bool (decide (c ∉ l))) := by rw [oNotIn, in_lot]; simp
theorem oNotIn_ints (c : Int) (l : Lot) : oNotIn (.int c) (.list (intsD l)) = some (.bool (decide (c ∉ l))) := by rw [oNotIn, in_ints]; simp
theorem oNotIn_fam (l : Lot) (F : List Lot) : oNotIn (lotD l) (famD F) = some (.bool (decide (l ∉ F))) := by rw [oNotIn, in_fam]; simp
theorem oEq_of {a b : D} {p : Prop} [Decidable p] (h1 : SeqAt.shaped a = true) (h2 : SeqAt.shaped b = true) (n1 : numD a = true) (n2 : numD b = true) (h : a = b ↔ p) : oEq a b = some (.bool (decide p)) := by
  unfold oEq
  rw [if_pos ⟨h1, h2⟩]
  congr 2
  rw [Bool.eq_iff_iff, decide_eq_true_iff, eqv_eq a b n1 n2]
  exact h
theorem oNe_of {a b : D} {p : Prop} [Decidable p] (h1 : SeqAt.shaped a = true) (h2 : SeqAt.shaped b = true) (n1 : numD a = true) (n2 : numD b = true) (h : a = b ↔ p) : oNe a b = some (.bool (decide (¬ p))) := by
  unfold oNe
  rw [if_pos ⟨h1, h2⟩]
  congr 2
  have : PyData.eqv a b = decide p := by
    rw [Bool.eq_iff_iff, decide_eq_true_iff, eqv_eq a b n1 n2]
    exact h
  rw [this]
  simp
theorem oEq_int (i j : Int) : oEq (.int i) (.int j) = some (.bool (decide (i = j))) := oEq_of (sh_int i) (sh_int j) rfl rfl (by rw [PyData.int.injEq])
theorem oNe_int (i j : Int) : oNe (.int i) (.int j) = some (.bool (decide (¬ i = j))) := oNe_of (sh_int i) (sh_int j) rfl rfl (by rw [PyData.int.injEq])
theorem oEq_str (i j : Str) (hi : PyData.strOk i = true) (hj : PyData.strOk j = true) : oEq (.str i) (.str j) = some (.bool (decide (i = j))) := oEq_of (sh_str i hi) (sh_str j hj) rfl rfl (by rw [PyData.str.injEq])
theorem oEq_fam (F G : List Lot) : oEq (famD F) (famD G) = some (.bool (decide (F = G))) := oEq_of (sh_fam F) (sh_fam G) (num_fam F) (num_fam G) famD_inj
theorem oNe_fam (F G : List Lot) : oNe (famD F) (famD G) = some (.bool (decide (¬ F = G))) := oNe_of (sh_fam F) (sh_fam G) (num_fam F) (num_fam G) famD_inj
theorem oEq_lot (F G : Lot) : oEq (lotD F) (lotD G) = some (.bool (decide (F = G))) := oEq_of (sh_lot F) (sh_lot G) (num_lot F) (num_lot G) lotD_inj
theorem oEq_lotsL (F G : List Lot) : oEq (.list (lotsD F)) (.list (lotsD G)) = some (.bool (decide (F = G))) := oEq_of (sh_lotsL F) (sh_lotsL G) (by rw [numD]; exact num_lots F) (by rw [numD]; exact num_lots G) (by rw [PyData.list.injEq, lotsD_inj])
theorem oNe_intsL (F G : Lot) : oNe (.list (intsD F)) (.list (intsD G)) = some (.bool (decide (¬ F = G))) := oNe_of (sh_intsL F) (sh_intsL G) (by rw [numD]; exact num_ints F) (by rw [numD]; exact num_ints G) (by rw [PyData.list.injEq, intsD_inj])

/-! ### comprehensions and loops -/
/-- a comprehension whose turns leave the other slots as they are -/
theorem runLc_pure {vs : List Nat} {ga : D → Sl → Option Sl} {ft : M Bool} {fe : M D} {h : D → Option D} {ρ0 : Sl} : ∀ {ds : List D} {ρ : Sl}, wipeS ρ vs = ρ0 → (∀ d ∈ ds, ∃ ρ2, turnLc ga ft fe d ρ0 = some (h d, ρ2) ∧ wipeS ρ2 vs = ρ0) → runLc vs ga ft fe ds ρ = some (ds.filterMap h, ρ0)
  | [], ρ, hw, _ => by
    unfold runLc
    rw [hw]
    rfl
  | d :: ds, ρ, hw, ht => by
    obtain ⟨ρ2, h1, h2⟩ := ht d List.mem_cons_self
    have ih := runLc_pure h2 fun e he => ht e (List.mem_cons_of_mem _ he)
    unfold runLc
    rw [hw, h1, List.filterMap_cons]
    cases hd : h d with
    | none => exact ih
    | some y =>
      simp only [ih]
theorem fLc_pure {vs : List Nat} {fi : M (List D)} {ga : D → Sl → Option Sl} {ft : M Bool} {fe : M D} {ρ ρ1 : Sl} {ds : List D} (h : D → Option D) (hi : fi ρ = some (ds, ρ1)) (hl : ds.length < sizeLine)
    (ht : ∀ d ∈ ds, ∃ ρ2, turnLc ga ft fe d (wipeS ρ1 vs) = some (h d, ρ2) ∧ wipeS ρ2 vs = wipeS ρ1 vs) : fLc vs fi ga ft fe ρ = some (ds.filterMap h, wipeS ρ1 vs) := by
  unfold fLc
  rw [bd_of hi, if_pos hl]
  exact runLc_pure rfl ht
/-- .. told over items of another kind -/
theorem fLc_map {α : Type} {vs : List Nat} {fi : M (List D)} {ga : D → Sl → Option Sl} {ft : M Bool} {fe : M D} {ρ ρ1 : Sl} (enc : α → D) (as : List α) (h : α → Option D) (hi : fi ρ = some (as.map enc, ρ1)) (hl : as.length < sizeLine)
    (ht : ∀ a ∈ as, ∃ ρ2, turnLc ga ft fe (enc a) (wipeS ρ1 vs) = some (h a, ρ2) ∧ wipeS ρ2 vs = wipeS ρ1 vs) : fLc vs fi ga ft fe ρ = some (as.filterMap h, wipeS ρ1 vs) := by
  unfold fLc
  rw [bd_of hi, if_pos (by rw [List.length_map]; exact hl)]
  have key : ∀ (as : List α) (ρ : Sl), wipeS ρ vs = wipeS ρ1 vs → (∀ a ∈ as, ∃ ρ2, turnLc ga ft fe (enc a) (wipeS ρ1 vs) = some (h a, ρ2) ∧ wipeS ρ2 vs = wipeS ρ1 vs) → runLc vs ga ft fe (as.map enc) ρ = some (as.filterMap h, wipeS ρ1 vs) := by
    intro as
    induction as with
    | nil =>
      intro ρ hw _
      rw [List.map_nil]
      unfold runLc
      rw [hw]
      rfl
    | cons a as ih =>
      intro ρ hw ht
      obtain ⟨ρ2, h1, h2⟩ := ht a List.mem_cons_self
      have ih := ih ρ2 h2 fun e he => ht e (List.mem_cons_of_mem _ he)
      rw [List.map_cons]
      unfold runLc
      rw [hw, h1, List.filterMap_cons]
      cases hd : h a with
      | none => exact ih
      | some y =>
        simp only [ih]
  exact key as ρ1 rfl ht
/-- a comprehension that changes slots: an invariant of the slots (told behind the block's own ones), by the number of items to come -/
theorem runLc_inv {α : Type} {vs : List Nat} {ga : D → Sl → Option Sl} {ft : M Bool} {fe : M D} (enc : α → D) (Pv : Nat → Sl → Prop) (Rr : α → Option D → Prop) : ∀ (as : List α) (ρ : Sl), Pv as.length (wipeS ρ vs) →
    (∀ a ∈ as, ∀ n ρ, Pv (n + 1) ρ → ∃ r ρ2, turnLc ga ft fe (enc a) ρ = some (r, ρ2) ∧ Rr a r ∧ Pv n (wipeS ρ2 vs)) → ∃ rs ρ', runLc vs ga ft fe (as.map enc) ρ = some (rs.filterMap id, ρ') ∧ Pv 0 ρ' ∧ Paired Rr as rs
  | [], ρ, hp, _ => ⟨[], wipeS ρ vs, by rw [List.map_nil]; unfold runLc; rfl, hp, .nil⟩
  | a :: as, ρ, hp, ht => by
    obtain ⟨r, ρ2, h1, h2, h3⟩ := ht a List.mem_cons_self _ _ hp
    obtain ⟨rs, ρ', e1, e2, e3⟩ := runLc_inv enc Pv Rr as ρ2 h3 fun b hb => ht b (List.mem_cons_of_mem _ hb)
    refine ⟨r :: rs, ρ', ?_, e2, .cons h2 e3⟩
    rw [List.map_cons]
    unfold runLc
    rw [h1, List.filterMap_cons]
    cases r with
    | none => exact e1
    | some y =>
      simp only [e1]
      rfl
theorem fLc_inv {α : Type} {vs : List Nat} {fi : M (List D)} {ga : D → Sl → Option Sl} {ft : M Bool} {fe : M D} {ρ ρ1 : Sl} (enc : α → D) (as : List α) (Pv : Nat → Sl → Prop) (Rr : α → Option D → Prop) (hi : fi ρ = some (as.map enc, ρ1)) (hl : as.length < sizeLine) (hp : Pv as.length (wipeS ρ1 vs))
    (ht : ∀ a ∈ as, ∀ n ρ, Pv (n + 1) ρ → ∃ r ρ2, turnLc ga ft fe (enc a) ρ = some (r, ρ2) ∧ Rr a r ∧ Pv n (wipeS ρ2 vs)) : ∃ rs ρ', fLc vs fi ga ft fe ρ = some (rs.filterMap id, ρ') ∧ Pv 0 ρ' ∧ Paired Rr as rs := by
  unfold fLc
  rw [bd_of hi, if_pos (by rw [List.length_map]; exact hl)]
  exact runLc_inv enc Pv Rr as ρ1 hp ht
/-- a loop that comes to its end -/
theorem runFor_inv {α : Type} {ga : D → Sl → Option Sl} {gb : S} (enc : α → D) (Pv : List α → Sl → Prop) : ∀ (as : List α) (ρ : Sl), Pv as ρ → (∀ a as' ρ, a ∈ as → Pv (a :: as') ρ → ∃ ρ1 ρ2 o, ga (enc a) ρ = some ρ1 ∧ gb ρ1 = some (o, ρ2) ∧ (o = .nx ∨ o = .ct) ∧ Pv as' ρ2) → ∃ ρ', runFor ga gb (as.map enc) ρ = some (.nx, ρ') ∧ Pv [] ρ'
  | [], ρ, hp, _ => ⟨ρ, by rw [List.map_nil]; unfold runFor; rfl, hp⟩
  | a :: as, ρ, hp, ht => by
    obtain ⟨ρ1, ρ2, o, h1, h2, h3, h4⟩ := ht a as ρ List.mem_cons_self hp
    obtain ⟨ρ', e1, e2⟩ := runFor_inv enc Pv as ρ2 h4 fun b bs σ hb => ht b bs σ (List.mem_cons_of_mem _ hb)
    refine ⟨ρ', ?_, e2⟩
    rw [List.map_cons]
    unfold runFor
    rw [h1]
    simp only [h2]
    rcases h3 with rfl | rfl <;> exact e1
end PF
set_option Elab.async false
set_option linter.all false
set_option maxRecDepth 100000
set_option maxHeartbeats 1000000
/-! PF: the mirrors' steps, for simp. -/
namespace PF
open PySem PySem.Spec PyProof.Rows L2
section
variable {ρ : Sl}
@[simp] theorem x_bd {α β : Type} (m : M α) (k : α → M β) : bd m k ρ = (match m ρ with
  | some (a, ρ1) => k a ρ1
  | none => none) := rfl
@[simp] theorem x_pr {α : Type} (a : α) : pr a ρ = some (a, ρ) := rfl
@[simp] theorem x_lf_some {α : Type} (a : α) : lf (some a) ρ = some (a, ρ) := rfl
@[simp] theorem x_lf_none {α : Type} : lf (none : Option α) ρ = none := rfl
@[simp] theorem x_fC (d : D) : fC d ρ = some (d, ρ) := rfl
theorem x_fVar {i : Nat} {d : D} (h : ρ[i]? = some (some (.val d))) : fVar i ρ = some (d, ρ) := by
  unfold fVar
  rw [h]
theorem x_fVarO {i : Nat} {xs : List D} (h : ρ[i]? = some (some (.own xs))) : fVar i ρ = some (.list xs, ρ.set i (some (.val (.list xs)))) := by
  unfold fVar
  rw [h]
theorem x_fVarB {i : Nat} {d : D} (h : ρ[i]? = some (some (.val d))) : fVarB i ρ = some (d, ρ) := by
  unfold fVarB
  rw [h]
theorem x_fVarBO {i : Nat} {xs : List D} (h : ρ[i]? = some (some (.own xs))) : fVarB i ρ = some (.list xs, ρ) := by
  unfold fVarB
  rw [h]
@[simp] theorem x_fBin (o : D → D → Option D) (fa fb : M D) : fBin o fa fb ρ = (match fa ρ with
  | some (x, ρ1) => (match fb ρ1 with
    | some (y, ρ2) => lf (o x y) ρ2
    | none => none)
  | none => none) := by
  show bd fa _ ρ = _
  rw [x_bd]
  cases fa ρ with
  | none => rfl
  | some p =>
    cases p with
    | mk a r =>
      show bd fb _ r = _
      rw [x_bd]
      show _ = (match fb r with
        | some (y, ρ2) => _
        | none => none)
      cases fb r with
      | none => rfl
      | some q => cases q with | mk c t => rfl
@[simp] theorem x_fUn (o : D → Option D) (fa : M D) : fUn o fa ρ = (match fa ρ with
  | some (x, ρ1) => lf (o x) ρ1
  | none => none) := by
  show bd fa _ ρ = _
  rw [x_bd]
  cases fa ρ with
  | none => rfl
  | some p => cases p with | mk a r => rfl
@[simp] theorem x_fF (o : D → Option (List D)) (fa : M D) : fF o fa ρ = (match fa ρ with
  | some (x, ρ1) => lf (o x) ρ1
  | none => none) := by
  show bd fa _ ρ = _
  rw [x_bd]
  cases fa ρ with
  | none => rfl
  | some p => cases p with | mk a r => rfl
@[simp] theorem x_fTup (f : M (List D)) : fTup f ρ = (match f ρ with
  | some (x, ρ1) => some (.tuple x, ρ1)
  | none => none) := by
  show bd f _ ρ = _
  rw [x_bd]
  cases f ρ with
  | none => rfl
  | some p => cases p with | mk a r => rfl
@[simp] theorem x_fList (f : M (List D)) : fList f ρ = (match f ρ with
  | some (x, ρ1) => some (.list x, ρ1)
  | none => none) := by
  show bd f _ ρ = _
  rw [x_bd]
  cases f ρ with
  | none => rfl
  | some p => cases p with | mk a r => rfl
@[simp] theorem x_fNil : fNil ρ = some ([], ρ) := rfl
@[simp] theorem x_fCons (f : M D) (fs : M (List D)) : fCons f fs ρ = (match f ρ with
  | some (x, ρ1) => (match fs ρ1 with
    | some (xs, ρ2) => some (x :: xs, ρ2)
    | none => none)
  | none => none) := by
  show bd f _ ρ = _
  rw [x_bd]
  cases f ρ with
  | none => rfl
  | some p =>
    cases p with
    | mk a r =>
      show bd fs _ r = _
      rw [x_bd]
      show _ = (match fs r with
        | some (y, ρ2) => _
        | none => none)
      cases fs r with
      | none => rfl
      | some q => cases q with | mk c t => rfl
def isB : D → Option Bool
  | .bool b => some b
  | _ => none
@[simp] theorem isB_bool (b : Bool) : isB (.bool b) = some b := rfl
@[simp] theorem x_asB (f : M D) : asB f ρ = (match f ρ with
  | some (x, ρ1) => lf (isB x) ρ1
  | none => none) := by
  show bd f _ ρ = _
  rw [x_bd]
  cases f ρ with
  | none => rfl
  | some p => cases p with | mk a r => rfl
@[simp] theorem x_fTru (f : M D) : fTru f ρ = (match f ρ with
  | some (x, ρ1) => lf (truD x) ρ1
  | none => none) := by
  show bd f _ ρ = _
  rw [x_bd]
  cases f ρ with
  | none => rfl
  | some p => cases p with | mk a r => rfl
@[simp] theorem x_fAndT (f g : M Bool) : fAndT f g ρ = (match f ρ with
  | some (b, ρ1) => (if b = true then g ρ1 else some (false, ρ1))
  | none => none) := by
  show bd (f) _ ρ = _
  rw [x_bd]
  cases f ρ with
  | none => rfl
  | some p => cases p with | mk b r => cases b <;> rfl
@[simp] theorem x_fOrT (f g : M Bool) : fOrT f g ρ = (match f ρ with
  | some (b, ρ1) => (if b = true then some (true, ρ1) else g ρ1)
  | none => none) := by
  show bd (f) _ ρ = _
  rw [x_bd]
  cases f ρ with
  | none => rfl
  | some p => cases p with | mk b r => cases b <;> rfl
@[simp] theorem x_fNotT (f : M Bool) : fNotT f ρ = (match f ρ with
  | some (b, ρ1) => some (!b, ρ1)
  | none => none) := by
  show bd f _ ρ = _
  rw [x_bd]
  cases f ρ with
  | none => rfl
  | some p => cases p with | mk a r => rfl
@[simp] theorem x_fAnd (f g : M D) : fAnd f g ρ = (match asB f ρ with
  | some (b, ρ1) => (if b = true then g ρ1 else some (.bool false, ρ1))
  | none => none) := by
  show bd (asB f) _ ρ = _
  rw [x_bd]
  cases asB f ρ with
  | none => rfl
  | some p => cases p with | mk b r => cases b <;> rfl
@[simp] theorem x_fOr (f g : M D) : fOr f g ρ = (match asB f ρ with
  | some (b, ρ1) => (if b = true then some (.bool true, ρ1) else g ρ1)
  | none => none) := by
  show bd (asB f) _ ρ = _
  rw [x_bd]
  cases asB f ρ with
  | none => rfl
  | some p => cases p with | mk b r => cases b <;> rfl
@[simp] theorem x_fNot (f : M D) : fNot f ρ = (match asB f ρ with
  | some (b, ρ1) => some (PyData.bool (!b), ρ1)
  | none => none) := by
  show bd (asB f) _ ρ = _
  rw [x_bd]
  cases asB f ρ with
  | none => rfl
  | some p => cases p with | mk b r => rfl
@[simp] theorem x_fIf (t : M Bool) (f g : M D) : fIf t f g ρ = (match t ρ with
  | some (b, ρ1) => (if b = true then f ρ1 else g ρ1)
  | none => none) := by
  show bd (t) _ ρ = _
  rw [x_bd]
  cases t ρ with
  | none => rfl
  | some p => cases p with | mk b r => cases b <;> rfl
theorem x_fIxN {i : Nat} {fb : M D} {y x : D} {ρ1 : Sl} (h0 : hasS ρ i = true) (h1 : fb ρ = some (y, ρ1)) (h2 : celD ρ1 i = some x) : fIxN i fb ρ = lf (oIx x y) ρ1 := by
  unfold fIxN
  rw [if_pos h0, x_bd, h1]
  simp only [h2, Option.bind_some]
@[simp] theorem x_fNo : fNo ρ = some (none, ρ) := rfl
def isI : D → Option (Option Int)
  | .int i => some (some i)
  | _ => none
@[simp] theorem isI_int (i : Int) : isI (.int i) = some (some i) := rfl
@[simp] theorem x_fPart (f : M D) : fPart f ρ = (match f ρ with
  | some (x, ρ1) => lf (isI x) ρ1
  | none => none) := by
  show bd f _ ρ = _
  rw [x_bd]
  cases f ρ with
  | none => rfl
  | some p => cases p with | mk a r => rfl
@[simp] theorem x_fSl (f : M D) (fl fh : M (Option Int)) : fSl f fl fh ρ = (match f ρ with
  | some (x, ρ1) => (match fl ρ1 with
    | some (lo, ρ2) => (match fh ρ2 with
      | some (hi, ρ3) => lf (oSl x lo hi) ρ3
      | none => none)
    | none => none)
  | none => none) := by
  show bd f _ ρ = _
  rw [x_bd]
  cases f ρ with
  | none => rfl
  | some p =>
    cases p with
    | mk a r =>
      show bd fl _ r = _
      rw [x_bd]
      show _ = (match fl r with
        | some (lo, ρ2) => (match fh ρ2 with
          | some (hi, ρ3) => lf (oSl a lo hi) ρ3
          | none => none)
        | none => none)
      cases fl r with
      | none => rfl
      | some q =>
        cases q with
        | mk c t =>
          show bd fh _ t = _
          rw [x_bd]
          show _ = (match fh t with
            | some (hi, ρ3) => lf (oSl a c hi) ρ3
            | none => none)
          cases fh t with
          | none => rfl
          | some u => cases u with | mk e v => rfl
@[simp] theorem x_fCall (g : List D → Option D) (fs : M (List D)) : fCall g fs ρ = (match fs ρ with
  | some (x, ρ1) => lf (g x) ρ1
  | none => none) := by
  show bd fs _ ρ = _
  rw [x_bd]
  cases fs ρ with
  | none => rfl
  | some p => cases p with | mk a r => rfl
@[simp] theorem x_fCallF (g : List D → Option (List D)) (fs : M (List D)) : fCallF g fs ρ = (match fs ρ with
  | some (x, ρ1) => lf (g x) ρ1
  | none => none) := by
  show bd fs _ ρ = _
  rw [x_bd]
  cases fs ρ with
  | none => rfl
  | some p => cases p with | mk a r => rfl
theorem x_fCallM {g : List D → List D → Option (D × List D)} {i : Nat} {fs : M (List D)} {ds xs ys : List D} {d : D} {ρ1 : Sl} (h0 : hasS ρ i = true) (h1 : fs ρ = some (ds, ρ1)) (h2 : ρ1[i]? = some (some (.own xs))) (h3 : g xs ds = some (d, ys)) : fCallM g i fs ρ = some (d, ρ1.set i (some (.own ys))) := by
  unfold fCallM
  rw [if_pos h0, h1]
  simp only [h2, h3, Option.map_some]
theorem x_fMut {op : List D → List D → Option (List D)} {i : Nat} {fs : M (List D)} {ds xs ys : List D} {ρ1 : Sl} (h0 : isOwn ρ i = true) (h1 : fs ρ = some (ds, ρ1)) (h2 : ρ1[i]? = some (some (.own xs))) (h3 : op xs ds = some ys) : fMut op i fs ρ = some (.none, ρ1.set i (some (.own ys))) := by
  unfold fMut
  rw [if_pos h0, h1]
  simp only [h2, h3, Option.map_some]
@[simp] theorem x_gaN {i : Nat} {d : D} (h : i < ρ.length) : gaN i d ρ = some (ρ.set i (some (.val d))) := by
  unfold gaN
  rw [if_pos h]
@[simp] theorem x_gaNil : gaNil [] ρ = some ρ := rfl
@[simp] theorem x_gaCons (g : D → Sl → Option Sl) (gr : List D → Sl → Option Sl) (d : D) (ds : List D) : gaCons g gr (d :: ds) ρ = (g d ρ).bind (gr ds) := rfl
@[simp] theorem x_gaTup {n : Nat} (g : List D → Sl → Option Sl) (ds : List D) (h : ds.length = n) : gaTup n g (.tuple ds) ρ = g ds ρ := by
  show (if ds.length = n then g ds ρ else none) = _
  rw [if_pos h]
@[simp] theorem x_sNx : sNx ρ = some (.nx, ρ) := rfl
@[simp] theorem x_sBk : sBk ρ = some (.bk, ρ) := rfl
@[simp] theorem x_sCt : sCt ρ = some (.ct, ρ) := rfl
theorem x_sSeq {a b : S} {ρ1 : Sl} (h : a ρ = some (.nx, ρ1)) : sSeq a b ρ = b ρ1 := by
  unfold sSeq
  rw [h]
theorem x_sSeqR {a b : S} {ρ1 : Sl} {d : D} (h : a ρ = some (.rt d, ρ1)) : sSeq a b ρ = some (.rt d, ρ1) := by
  unfold sSeq
  rw [h]
@[simp] theorem x_sAsg (f : M D) (ga : D → Sl → Option Sl) : sAsg f ga ρ = (match f ρ with
  | some (d, ρ1) => (ga d ρ1).map fun ρ2 => (.nx, ρ2)
  | none => none) := rfl
theorem x_sOwn {i : Nat} {f : M (List D)} {xs : List D} {ρ1 : Sl} (h : f ρ = some (xs, ρ1)) (hi : i < ρ1.length) (h0 : i ≠ 0) : sOwn i f ρ = some (.nx, ρ1.set i (some (.own xs))) := by
  unfold sOwn
  rw [h]
  simp only
  rw [if_pos ⟨hi, h0⟩]
@[simp] theorem x_sRet (f : M D) : sRet f ρ = (match f ρ with
  | some (d, ρ1) => some (.rt d, ρ1)
  | none => none) := rfl
@[simp] theorem x_sRetF (f : M (List D)) : sRetF f ρ = (match f ρ with
  | some (d, ρ1) => some (.rf d, ρ1)
  | none => none) := rfl
@[simp] theorem x_sIf (t : M Bool) (a b : S) : sIf t a b ρ = (match t ρ with
  | some (c, ρ1) => (if c = true then a ρ1 else b ρ1)
  | none => none) := rfl
@[simp] theorem x_sDrop (f : M D) : sDrop f ρ = (match f ρ with
  | some (_, ρ1) => some (.nx, ρ1)
  | none => none) := rfl
@[simp] theorem x_sFor (fi : M (List D)) (ga : D → Sl → Option Sl) (gb : S) : sFor fi ga gb ρ = (match fi ρ with
  | some (ds, ρ1) => runFor ga gb ds ρ1
  | none => none) := rfl
theorem x_turn {ga : D → Sl → Option Sl} {ft : M Bool} {fe : M D} {d y : D} {ρ1 ρ2 ρ3 : Sl} (h1 : ga d ρ = some ρ1) (h2 : ft ρ1 = some (true, ρ2)) (h3 : fe ρ2 = some (y, ρ3)) : turnLc ga ft fe d ρ = some (some y, ρ3) := by
  unfold turnLc
  rw [h1]
  simp only [x_bd, h2, if_true, h3, x_pr]
theorem x_turnN {ga : D → Sl → Option Sl} {ft : M Bool} {fe : M D} {d : D} {ρ1 ρ2 : Sl} (h1 : ga d ρ = some ρ1) (h2 : ft ρ1 = some (false, ρ2)) : turnLc ga ft fe d ρ = some (none, ρ2) := by
  unfold turnLc
  rw [h1]
  simp only [x_bd, h2, if_false, Bool.false_eq_true, x_pr]
theorem x_sSeqR' {a b : S} {ρ1 : Sl} {xs : List D} (h : a ρ = some (.rf xs, ρ1)) : sSeq a b ρ = some (.rf xs, ρ1) := by
  unfold sSeq
  rw [h]
theorem runP_of {n : Nat} {g : S} {ds : List D} {d : D} {ρ1 : Sl} (h : g (startS n (ds.map .val)) = some (.rt d, ρ1)) : runP n g ds = some d := by
  unfold runP
  rw [h]
theorem runM_of {n : Nat} {g : S} {xs ys ds : List D} {d : D} {ρ1 : Sl} (h : g (startS n (.own xs :: ds.map .val)) = some (.rt d, ρ1)) (h0 : ρ1[0]? = some (some (.own ys))) : runM n g xs ds = some (d, ys) := by
  unfold runM
  rw [h]
  simp only [own0]
  rw [h0]
theorem runF_of {n : Nat} {g : S} {ds xs : List D} {ρ1 : Sl} (h : g (startS n (ds.map .val)) = some (.rf xs, ρ1)) : runF n g ds = some xs := by
  unfold runF
  rw [h]
end
end PF
namespace PF
open PySem PySem.Spec PyProof.Rows L2
theorem filter_tt {α : Type} (l : List α) : l.filter (fun _ => true) = l := List.filter_eq_self.mpr fun _ _ => rfl
theorem fm_filter {α : Type} (e : α → D) (p : α → Bool) (l : List α) : l.filterMap (fun a => if p a = true then some (e a) else none) = (l.filter p).map e := by
  induction l with
  | nil => rfl
  | cons a l ih =>
    rw [List.filterMap_cons, List.filter_cons]
    by_cases h : p a = true
    · simp [h, ih]
    · simp [h, ih]
/-- [e a for a in as if p a], the other slots left alone -/
theorem lc_filter {α : Type} (enc enc' : α → D) (p : α → Bool) (st : α → Sl) {as : List α} {vs : List Nat} {fi : M (List D)} {ga : D → Sl → Option Sl} {ft : M Bool} {fe : M D} {ρ ρ1 : Sl} (hi : fi ρ = some (as.map enc, ρ1)) (hl : as.length < 60000)
    (h1 : ∀ a ∈ as, ga (enc a) (wipeS ρ1 vs) = some (st a)) (h2 : ∀ a ∈ as, ft (st a) = some (p a, st a)) (h3 : ∀ a ∈ as, p a = true → fe (st a) = some (enc' a, st a)) (h4 : ∀ a ∈ as, wipeS (st a) vs = wipeS ρ1 vs) :
    fLc vs fi ga ft fe ρ = some ((as.filter p).map enc', wipeS ρ1 vs) := by
  have h := fLc_map (vs := vs) (fi := fi) (ga := ga) (ft := ft) (fe := fe) (ρ := ρ) (ρ1 := ρ1) enc as (fun a => if p a = true then some (enc' a) else none) hi (Nat.lt_of_lt_of_le hl (by decide)) fun a ha => by
    refine ⟨st a, ?_, h4 a ha⟩
    have e2 := h2 a ha
    by_cases hp : p a = true
    · rw [if_pos hp]
      rw [hp] at e2
      exact x_turn (h1 a ha) e2 (h3 a ha hp)
    · rw [if_neg hp]
      rw [show p a = false by simpa using hp] at e2
      exact x_turnN (h1 a ha) e2
  rw [fm_filter] at h
  exact h
/-- [e a for a in as] -/
theorem lc_map {α : Type} (enc enc' : α → D) (st : α → Sl) {as : List α} {vs : List Nat} {fi : M (List D)} {ga : D → Sl → Option Sl} {fe : M D} {ρ ρ1 : Sl} (hi : fi ρ = some (as.map enc, ρ1)) (hl : as.length < 60000)
    (h1 : ∀ a ∈ as, ga (enc a) (wipeS ρ1 vs) = some (st a)) (h3 : ∀ a ∈ as, fe (st a) = some (enc' a, st a)) (h4 : ∀ a ∈ as, wipeS (st a) vs = wipeS ρ1 vs) :
    fLc vs fi ga (pr true) fe ρ = some (as.map enc', wipeS ρ1 vs) := by
  have h := lc_filter enc enc' (fun _ => true) st (ft := pr true) hi hl h1 (fun _ _ => rfl) (fun a ha _ => h3 a ha) h4
  rw [filter_tt] at h
  exact h
end PF
set_option Elab.async false
set_option linter.all false
set_option maxRecDepth 100000
set_option maxHeartbeats 4000000
namespace K32
open PySem PySem.Spec PyProof.Rows L2 PF
def top (i : Nat) : Stmt := PySem.Challenge.pw_seldomfalse_k32_closing_laws.main.body.getD i (.Pass ⟨0, 0, 0, 0⟩)
structure GF (mg : Str → Option Value) : Prop where
  b_all : mg "all" = none
  b_any : mg "any" = none
  b_bool : mg "bool" = none
  b_dict : mg "dict" = none
  b_int : mg "int" = none
  b_isinstance : mg "isinstance" = none
  b_len : mg "len" = none
  b_list : mg "list" = none
  b_max : mg "max" = none
  b_range : mg "range" = none
  b_set : mg "set" = none
  b_sorted : mg "sorted" = none
  b_str : mg "str" = none
  b_tuple : mg "tuple" = none
def po_wider_0 {α : Type} : List α → List α → List α
  | [], [a0, a1] => [a1, a0]
  | _, _ => []
theorem lpo_wider_0 : ∀ ds : List D, ds.length = 2 → (po_wider_0 [] ds).length = 2
  | [_, _], _ => rfl
def po_closing_1 {α : Type} : List α → List α → List α
  | [], [a0, a1] => [a1, a0]
  | _, _ => []
theorem lpo_closing_1 : ∀ ds : List D, ds.length = 2 → (po_closing_1 [] ds).length = 2
  | [_, _], _ => rfl
def po_marks_2 {α : Type} : List α → List α → List α
  | [], [a0, a1] => [a1, a0]
  | _, _ => []
theorem lpo_marks_2 : ∀ ds : List D, ds.length = 2 → (po_marks_2 [] ds).length = 2
  | [_, _], _ => rfl
def g_closing : S := (sSeq (sAsg (fList (fSortZ (fSc2 5 4 (([("lot", 5), ("claim", 4)] : List (Str × Nat)).map (·.2)) (fF oSeq (fVar 0))))) (gaN 2))
    (sSeq (sOwn 3 fNil)
    (sSeq (sFor (fF oSeq (fVar 2)) (gaN 4) (sSeq (sIf (fTru (fAll (fGen ([1, 4] : List Nat) (fVar 0) (qTb oIn (fun cs _ => cs[(1 : Nat)]?) (fun _ dx => some dx)) (qB oIn (fun _ dx => some dx) (fun cs _ => cs[(0 : Nat)]?))))) (sSeq (sDrop (fMut mAppend 3 (fCons (fVar 4) fNil)))
    sNx) sNx)
    sNx))
    (sSeq (sRet (fUn oTuple (fVarB 3)))
    sNx))))
def m_closing : List D → Option D := runP 6 g_closing
abbrev s_closing : Stmt := top 1
theorem sc_closing : FnScope ["family", "struck", "claims", "found", "claim", "lot"] ["family", "struck"] (defScope s_closing) := ⟨rfl, rfl, rfl, by decide +kernel, rfl, by decide +kernel, by decide +kernel⟩
def g_marks : S := (sSeq (sRet (fUn oTuple (fList (fLc (([("lot", 2)] : List (Str × Nat)).map (·.2)) (fF oSeq (fVar 0)) (gaN 2) (fTru (fAny (fGen ([1] : List Nat) (fVar 2) (fun _ _ => some true) (qB oIn (fun _ dx => some dx) (fun cs _ => cs[(0 : Nat)]?))))) (fVar 2)))))
    sNx)
def m_marks : List D → Option D := runP 4 g_marks
abbrev s_marks : Stmt := top 2
theorem sc_marks : FnScope ["family", "told", "lot", "claim"] ["family", "told"] (defScope s_marks) := ⟨rfl, rfl, rfl, by decide +kernel, rfl, by decide +kernel, by decide +kernel⟩
def g_wider : S := (sSeq (sAsg (fCall m_closing (fCons (fVar 0) (fCons (fCall m_marks (fCons (fVar 0) (fCons (fVar 1) fNil))) fNil))) (gaN 2))
    (sSeq (sRet (fUn oTuple (fList (fSortZ (fSetT (fBin oAdd (fVar 2) (fVar 1)))))))
    sNx))
def m_wider : List D → Option D := runP 3 g_wider
abbrev s_wider : Stmt := top 3
theorem sc_wider : FnScope ["family", "told", "more"] ["family", "told"] (defScope s_wider) := ⟨rfl, rfl, rfl, by decide +kernel, rfl, by decide +kernel, by decide +kernel⟩
def g_consonant : S := (sSeq (sRet (fBin oEq (fVar 1) (fCall m_marks (fCons (fVar 0) (fCons (fCall m_closing (fCons (fVar 0) (fCons (fVar 1) fNil))) fNil)))))
    sNx)
def m_consonant : List D → Option D := runP 2 g_consonant
abbrev s_consonant : Stmt := top 4
theorem sc_consonant : FnScope ["family", "struck"] ["family", "struck"] (defScope s_consonant) := ⟨rfl, rfl, rfl, by decide +kernel, rfl, by decide +kernel, by decide +kernel⟩
def g__law_deck : S := (sSeq (sAsg (fList (fLc (([("cell", 3)] : List (Str × Nat)).map (·.2)) (fF oSeq (fSl (fVar 0) fNo (fPart (fC (.int 63))))) (gaN 3) (pr true) (fUn oInt (fVarB 3)))) (gaN 1))
    (sSeq (sAsg (fBin oAdd (fC (.int 17)) (fUn oLen (fVarB 1))) (gaN 2))
    (sSeq (sFor (fF oSeq (fVar 1)) (gaN 3) (sSeq (sAsg (fBin oMod (fUn oInt (fBin oAdd (fBin oMul (fVar 2) (fC (.int 263))) (fBin oMod (fUn oInt (fVarB 3)) (fC (.int 1000033))))) (fC (.int 1000000093))) (gaN 2))
    sNx))
    (sSeq (sRetF (fCons (fVar 1) (fCons (fC (.int 0)) (fCons (fC (.int 0)) (fCons (fC (.int 0)) (fCons (fC (.int 0)) (fCons (fVar 2) fNil)))))))
    sNx))))
def m__law_deck : List D → Option (List D) := runF 4 g__law_deck
abbrev s__law_deck : Stmt := top 6
theorem sc__law_deck : FnScope ["script", "cells", "seed", "cell"] ["script"] (defScope s__law_deck) := ⟨rfl, rfl, rfl, by decide +kernel, rfl, by decide +kernel, by decide +kernel⟩
def g__law_draw : S := (sSeq (sIf (fAndT (asB (fBin oEq (fIxN 0 (fC (.int 3))) (fC (.int 0)))) (asB (fBin oLt (fIxN 0 (fC (.int 1))) (fUn oLen (fIxN 0 (fC (.int 0))))))) (sSeq (sAsg (fBin oIx (fIxN 0 (fC (.int 0))) (fIxN 0 (fC (.int 1)))) (gaN 2))
    (sSeq (sSet 0 (fBin oAdd (fIxN 0 (fC (.int 1))) (fC (.int 1))) (fC (.int 1)))
    (sSeq (sIf (asB (fBin oGe (fVar 2) (fBin oPow (fC (.int 10)) (fC (.int 18))))) (sSeq (sSet 0 (fBin oSub (fVar 2) (fBin oPow (fC (.int 10)) (fC (.int 18)))) (fC (.int 2)))
    (sSeq (sSet 0 (fC (.int 60)) (fC (.int 3)))
    sNx)) sNx)
    sNx))) sNx)
    (sSeq (sIf (asB (fBin oGt (fIxN 0 (fC (.int 3))) (fC (.int 0)))) (sSeq (sSet 0 (fBin oSub (fIxN 0 (fC (.int 3))) (fC (.int 1))) (fC (.int 3)))
    (sSeq (sAsg (fBin oMod (fUn oInt (fIxN 0 (fC (.int 2)))) (fVar 1)) (gaN 3))
    (sSeq (sSet 0 (fBin oDiv (fIxN 0 (fC (.int 2))) (fVar 1)) (fC (.int 2)))
    (sSeq (sRet (fVar 3))
    sNx)))) sNx)
    (sSeq (sSet 0 (fBin oAdd (fIxN 0 (fC (.int 4))) (fC (.int 1))) (fC (.int 4)))
    (sSeq (sAsg (fBin oMod (fUn oInt (fBin oAdd (fBin oAdd (fBin oMul (fIxN 0 (fC (.int 5))) (fC (.int 48271))) (fBin oMul (fIxN 0 (fC (.int 4))) (fC (.int 16807)))) (fC (.int 211)))) (fC (.int 2147483647))) (gaN 4))
    (sSeq (sAsg (fBin oMod (fUn oInt (fBin oAdd (fBin oAdd (fBin oMul (fVar 4) (fVar 4)) (fBin oMul (fIxN 0 (fC (.int 4))) (fC (.int 69621)))) (fC (.int 97)))) (fC (.int 2147483629))) (gaN 5))
    (sSeq (sRet (fBin oMod (fUn oInt (fBin oDiv (fVar 5) (fC (.int 7)))) (fVar 1)))
    sNx))))))
def m__law_draw : List D → List D → Option (D × List D) := runM 6 g__law_draw
abbrev s__law_draw : Stmt := top 7
theorem sc__law_draw : FnScope ["deck", "many", "cell", "got", "one", "two"] ["deck", "many"] (defScope s__law_draw) := ⟨rfl, rfl, rfl, by decide +kernel, rfl, by decide +kernel, by decide +kernel⟩
def g__law_pick : S := (sSeq (sRet (fIxN 1 (fCallM m__law_draw 0 (fCons (fUn oLen (fVarB 1)) fNil))))
    sNx)
def m__law_pick : List D → List D → Option (D × List D) := runM 2 g__law_pick
abbrev s__law_pick : Stmt := top 8
theorem sc__law_pick : FnScope ["deck", "some"] ["deck", "some"] (defScope s__law_pick) := ⟨rfl, rfl, rfl, by decide +kernel, rfl, by decide +kernel, by decide +kernel⟩
def g__law_shuffled : S := (sSeq (sOwn 2 fNil)
    (sSeq (sFor (fF oSeq (fVar 1)) (gaN 3) (sSeq (sDrop (fMut mInsert 2 (fCons (fCallM m__law_draw 0 (fCons (fBin oAdd (fUn oLen (fVarB 2)) (fC (.int 1))) fNil)) (fCons (fVar 3) fNil))))
    sNx))
    (sSeq (sRet (fVar 2))
    sNx)))
def m__law_shuffled : List D → List D → Option (D × List D) := runM 4 g__law_shuffled
abbrev s__law_shuffled : Stmt := top 9
theorem sc__law_shuffled : FnScope ["deck", "some", "found", "one"] ["deck", "some"] (defScope s__law_shuffled) := ⟨rfl, rfl, rfl, by decide +kernel, rfl, by decide +kernel, by decide +kernel⟩
def g__law_alike (rec : List D → Option D) : S := (sSeq (sIf (fTru (fUn (oIsi "tuple") (fVarB 1))) (sSeq (sIf (fOrT (fNotT (fTru (fUn (oIsi "tuple") (fVarB 0)))) (asB (fBin oNe (fUn oLen (fVarB 0)) (fUn oLen (fVarB 1))))) (sSeq (sRet (fC (.bool false)))
    sNx) sNx)
    (sSeq (sRet (fUn oAll (fList (fLc (([("k", 2)] : List (Str × Nat)).map (·.2)) (fF oRngI (fUn oLen (fVarB 1))) (gaN 2) (pr true) (fCall rec (fCons (fIxN 0 (fVar 2)) (fCons (fIxN 1 (fVar 2)) fNil)))))))
    sNx)) sNx)
    (sSeq (sIf (asB (fBin oIs (fVar 1) (fC .none))) (sSeq (sRet (fBin oIs (fVar 0) (fC .none)))
    sNx) sNx)
    (sSeq (sIf (fTru (fUn (oIsi "str") (fVarB 1))) (sSeq (sRet (fAnd (fUn (oIsi "str") (fVarB 0)) (fBin oEq (fVar 0) (fVarB 1))))
    sNx) sNx)
    (sSeq (sIf (fTru (fUn (oIsi "bool") (fVarB 1))) (sSeq (sRet (fAnd (fUn (oIsi "bool") (fVarB 0)) (fBin oEq (fVar 0) (fVarB 1))))
    sNx) sNx)
    (sSeq (sRet (fAnd (fUn (oIsi "int") (fVarB 0)) (fAnd (fNot (fUn (oIsi "bool") (fVarB 0))) (fBin oEq (fVar 0) (fVarB 1)))))
    sNx)))))
def m__law_alike : Nat → List D → Option D
  | 0 => fun _ => none
  | j + 1 => runP 3 (g__law_alike (m__law_alike j))
abbrev s__law_alike : Stmt := top 10
theorem sc__law_alike : FnScope ["told", "due", "k"] ["told", "due"] (defScope s__law_alike) := ⟨rfl, rfl, rfl, by decide +kernel, rfl, by decide +kernel, by decide +kernel⟩
def g__law_joint : S := (sSeq (sRet (fUn oTuple (fList (fF oSortDI (fList (fLc (([("claim", 2)] : List (Str × Nat)).map (·.2)) (fF oSeq (fBin oAdd (fVar 0) (fVar 1))) (gaN 2) (pr true) (fTup (fCons (fVar 2) (fCons (fC (.int 1)) fNil)))))))))
    sNx)
def m__law_joint : List D → Option D := runP 3 g__law_joint
abbrev s__law_joint : Stmt := top 11
theorem sc__law_joint : FnScope ["one", "other", "claim"] ["one", "other"] (defScope s__law_joint) := ⟨rfl, rfl, rfl, by decide +kernel, rfl, by decide +kernel, by decide +kernel⟩
def g__law_met : S := (sSeq (sRet (fBin oNe (fList (fLc (([("claim", 2)] : List (Str × Nat)).map (·.2)) (fF oSeq (fVar 0)) (gaN 2) (asB (fBin oIn (fVar 2) (fVarB 1))) (fVar 2))) (fList fNil)))
    sNx)
def m__law_met : List D → Option D := runP 3 g__law_met
abbrev s__law_met : Stmt := top 12
theorem sc__law_met : FnScope ["lot", "told", "claim"] ["lot", "told"] (defScope s__law_met) := ⟨rfl, rfl, rfl, by decide +kernel, rfl, by decide +kernel, by decide +kernel⟩
def g__law_marks : S := (sSeq (sRet (fUn oTuple (fList (fLc (([("lot", 2)] : List (Str × Nat)).map (·.2)) (fF oSeq (fVar 0)) (gaN 2) (fTru (fCall m__law_met (fCons (fVar 2) (fCons (fVar 1) fNil)))) (fVar 2)))))
    sNx)
def m__law_marks : List D → Option D := runP 3 g__law_marks
abbrev s__law_marks : Stmt := top 13
theorem sc__law_marks : FnScope ["family", "told", "lot"] ["family", "told"] (defScope s__law_marks) := ⟨rfl, rfl, rfl, by decide +kernel, rfl, by decide +kernel, by decide +kernel⟩
def g__law_closing : S := (sSeq (sOwn 2 fNil)
    (sSeq (sFor (fF oSeq (fVar 0)) (gaN 3) (sSeq (sDrop (fMut mExtend 2 (fCons (fList (fLc (([("claim", 4)] : List (Str × Nat)).map (·.2)) (fF oSeq (fVar 3)) (gaN 4) (asB (fBin oNotIn (fVar 4) (fVarB 2))) (fVar 4))) fNil)))
    sNx))
    (sSeq (sOwn 2 (fF oSortD (fVarB 2)))
    (sSeq (sRet (fUn oTuple (fList (fLc (([("claim", 4)] : List (Str × Nat)).map (·.2)) (fF oSeq (fVar 2)) (gaN 4) (asB (fBin oEq (fList (fLc (([("lot", 3)] : List (Str × Nat)).map (·.2)) (fF oSeq (fVar 0)) (gaN 3) (fAndT (asB (fBin oIn (fVar 4) (fVarB 3))) (asB (fBin oNotIn (fVar 3) (fVarB 1)))) (fVar 3))) (fList fNil))) (fVar 4)))))
    sNx))))
def m__law_closing : List D → Option D := runP 5 g__law_closing
abbrev s__law_closing : Stmt := top 14
theorem sc__law_closing : FnScope ["family", "struck", "claims", "lot", "claim"] ["family", "struck"] (defScope s__law_closing) := ⟨rfl, rfl, rfl, by decide +kernel, rfl, by decide +kernel, by decide +kernel⟩
def g__law_lots : S := (sSeq (sAsg (fList (fCons (fTup fNil) fNil)) (gaN 1))
    (sSeq (sFor (fF oRngI (fVar 0)) (gaN 2) (sSeq (sAsg (fBin oAdd (fVar 1) (fList (fLc (([("lot", 3)] : List (Str × Nat)).map (·.2)) (fF oSeq (fVar 1)) (gaN 3) (pr true) (fBin oAdd (fVar 3) (fTup (fCons (fVar 2) fNil)))))) (gaN 1))
    sNx))
    (sSeq (sRet (fList (fF oSortD (fVarB 1))))
    sNx)))
def m__law_lots : List D → Option D := runP 4 g__law_lots
abbrev s__law_lots : Stmt := top 15
theorem sc__law_lots : FnScope ["many", "found", "claim", "lot"] ["many"] (defScope s__law_lots) := ⟨rfl, rfl, rfl, by decide +kernel, rfl, by decide +kernel, by decide +kernel⟩
def g__law_family : S := (sSeq (sAsg (fBin oAdd (fC (.int 1)) (fCallM m__law_draw 0 (fCons (fC (.int 6)) fNil))) (gaN 1))
    (sSeq (sAsg (fCallM m__law_pick 0 (fCons (fList (fCons (fC (.str "all")) (fCons (fC (.str "single")) (fCons (fC (.str "growing")) (fCons (fC (.str "growing")) (fCons (fC (.str "drawn")) (fCons (fC (.str "drawn")) (fCons (fC (.str "drawn")) fNil)))))))) fNil)) (gaN 2))
    (sSeq (sAsg (fCallM m__law_shuffled 0 (fCons (fList (fF oRng1 (fVar 1))) fNil)) (gaN 3))
    (sSeq (sIf (asB (fBin oEq (fVar 2) (fC (.str "all")))) (sSeq (sRet (fTup (fCons (fUn oTuple (fSl (fCall m__law_lots (fCons (fVar 1) fNil)) (fPart (fC (.int 1))) fNo)) (fCons (fVar 2) (fCons (fVar 3) fNil)))))
    sNx) sNx)
    (sSeq (sIf (asB (fBin oEq (fVar 2) (fC (.str "single")))) (sSeq (sRet (fTup (fCons (fUn oTuple (fList (fLc (([("claim", 5)] : List (Str × Nat)).map (·.2)) (fF oRngI (fVar 1)) (gaN 5) (pr true) (fTup (fCons (fVar 5) fNil))))) (fCons (fVar 2) (fCons (fVar 3) fNil)))))
    sNx) sNx)
    (sSeq (sIf (asB (fBin oEq (fVar 2) (fC (.str "growing")))) (sSeq (sRet (fTup (fCons (fUn oTuple (fList (fF oSortD (fList (fLc (([("k", 6)] : List (Str × Nat)).map (·.2)) (fF oRngI (fVar 1)) (gaN 6) (pr true) (fUn oTuple (fList (fF oSortD (fSl (fVar 3) fNo (fPart (fBin oAdd (fVar 6) (fC (.int 1))))))))))))) (fCons (fVar 2) (fCons (fVar 3) fNil)))))
    sNx) sNx)
    (sSeq (sAsg (fSl (fCallM m__law_shuffled 0 (fCons (fSl (fCall m__law_lots (fCons (fC (.int 6)) fNil)) (fPart (fC (.int 1))) fNo) fNil)) fNo (fPart (fCallM m__law_draw 0 (fCons (fC (.int 21)) fNil)))) (gaN 4))
    (sSeq (sRet (fTup (fCons (fUn oTuple (fList (fF oSortD (fVarB 4)))) (fCons (fVar 2) (fCons (fVar 3) fNil)))))
    sNx))))))))
def m__law_family : List D → List D → Option (D × List D) := runM 7 g__law_family
abbrev s__law_family : Stmt := top 16
theorem sc__law_family : FnScope ["deck", "many", "kind", "order", "lots", "claim", "k"] ["deck"] (defScope s__law_family) := ⟨rfl, rfl, rfl, by decide +kernel, rfl, by decide +kernel, by decide +kernel⟩
def g__law_by_formula : S := (sSeq (sIf (asB (fBin oEq (fVar 1) (fC (.str "all")))) (sSeq (sRet (fCall (m__law_alike 5) (fCons (fCall m_closing (fCons (fVar 0) (fCons (fCall m_marks (fCons (fVar 0) (fCons (fVar 4) fNil))) fNil))) (fCons (fUn oTuple (fList (fLc (([("claim", 6)] : List (Str × Nat)).map (·.2)) (fF oSeq (fVar 4)) (gaN 6) (asB (fBin oIn (fVar 6) (fVarB 2))) (fVar 6)))) fNil))))
    sNx) sNx)
    (sSeq (sIf (asB (fBin oEq (fVar 1) (fC (.str "single")))) (sSeq (sRet (fCall (m__law_alike 5) (fCons (fCall m_closing (fCons (fVar 0) (fCons (fVar 3) fNil))) (fCons (fUn oTuple (fList (fLc (([("lot", 7)] : List (Str × Nat)).map (·.2)) (fF oSeq (fVar 3)) (gaN 7) (pr true) (fIxN 7 (fC (.int 0)))))) fNil))))
    sNx) sNx)
    (sSeq (sIf (asB (fBin oEq (fVar 1) (fC (.str "growing")))) (sSeq (sAsg (fUn oMax (fBin oAdd (fList (fCons (fC (.int 0)) fNil)) (fList (fLc (([("lot", 7)] : List (Str × Nat)).map (·.2)) (fF oSeq (fVar 0)) (gaN 7) (asB (fBin oNotIn (fVar 7) (fVarB 3))) (fUn oLen (fVarB 7)))))) (gaN 5))
    (sSeq (sRet (fCall (m__law_alike 5) (fCons (fCall m_closing (fCons (fVar 0) (fCons (fVar 3) fNil))) (fCons (fUn oTuple (fList (fF oSortD (fSl (fVar 2) (fPart (fVar 5)) fNo)))) fNil))))
    sNx)) sNx)
    (sSeq (sRet (fC (.bool true)))
    sNx))))
def m__law_by_formula : List D → Option D := runP 8 g__law_by_formula
abbrev s__law_by_formula : Stmt := top 17
theorem sc__law_by_formula : FnScope ["family", "kind", "order", "struck", "told", "last", "claim", "lot"] ["family", "kind", "order", "struck", "told"] (defScope s__law_by_formula) := ⟨rfl, rfl, rfl, by decide +kernel, rfl, by decide +kernel, by decide +kernel⟩
def g_law : S := (sSeq (sOwn 1 (fCallF m__law_deck (fCons (fVar 0) fNil)))
    (sSeq (sAsg (fCallM m__law_family 1 fNil) (gaTup 3 (gaCons (gaN 2) (gaCons (gaN 3) (gaCons (gaN 4) gaNil)))))
    (sSeq (sAsg (fCall m__law_lots (fCons (fC (.int 6)) fNil)) (gaN 5))
    (sSeq (sPar 6 7 (fCons (fCallM m__law_pick 1 (fCons (fVar 5) fNil)) (fCons (fCallM m__law_pick 1 (fCons (fVar 5) fNil)) fNil)))
    (sSeq (sAsg (fCall m__law_joint (fCons (fVar 6) (fCons (fVar 7) fNil))) (gaN 8))
    (sSeq (sAsg (fTup (fCons (fCall m__law_marks (fCons (fVar 2) (fCons (fVar 6) fNil))) (fCons (fCall m__law_marks (fCons (fVar 2) (fCons (fVar 8) fNil))) fNil))) (gaTup 2 (gaCons (gaN 9) (gaCons (gaN 10) gaNil))))
    (sSeq (sAsg (fUn oTuple (fList (fLc (([("lot", 14)] : List (Str × Nat)).map (·.2)) (fF oSeq (fVar 2)) (gaN 14) (asB (fBin oEq (fCallM m__law_draw 1 (fCons (fC (.int 2)) fNil)) (fC (.int 0)))) (fVar 14)))) (gaN 11))
    (sSeq (sAsg (fUn oTuple (fList (fLc (([("lot", 14)] : List (Str × Nat)).map (·.2)) (fF oSeq (fVar 2)) (gaN 14) (fOrT (asB (fBin oIn (fVar 14) (fVarB 11))) (asB (fBin oEq (fCallM m__law_draw 1 (fCons (fC (.int 3)) fNil)) (fC (.int 0))))) (fVar 14)))) (gaN 12))
    (sSeq (sAsg (fVar 9) (gaN 13))
    (sSeq (sIf (asB (fBin oNe (fVar 2) (fTup fNil))) (sSeq (sAsg (fCallM m__law_pick 1 (fCons (fVar 2) fNil)) (gaN 14))
    (sSeq (sAsg (fUn oTuple (fList (fLc (([("one", 20)] : List (Str × Nat)).map (·.2)) (fF oSeq (fVar 2)) (gaN 20) (asB (fBin oNe (fBin oIn (fVar 20) (fVarB 9)) (fBin oEq (fVar 20) (fVarB 14)))) (fVar 20)))) (gaN 13))
    sNx)) sNx)
    (sSeq (sIf (fNotT (fTru (fCall (m__law_alike 5) (fCons (fTup (fCons (fCall m_marks (fCons (fVar 2) (fCons (fVar 6) fNil))) (fCons (fCall (fun ds => m_marks (po_marks_2 [] ds)) (fCons (fVar 8) (fCons (fVar 2) fNil))) fNil))) (fCons (fTup (fCons (fVar 9) (fCons (fVar 10) fNil))) fNil))))) (sSeq (sRet (fC (.bool false)))
    sNx) sNx)
    (sSeq (sIf (asB (fBin oNe (fUn oTuple (fList (fF oSortN (fUn oDicN (fList (fLc (([("lot", 14)] : List (Str × Nat)).map (·.2)) (fF oSeq (fBin oAdd (fVar 9) (fCall m__law_marks (fCons (fVar 2) (fCons (fVar 7) fNil))))) (gaN 14) (pr true) (fTup (fCons (fVar 14) (fCons (fC (.int 1)) fNil))))))))) (fVarB 10))) (sSeq (sRet (fC (.bool false)))
    sNx) sNx)
    (sSeq (sAsg (fUn oDicN (fList (fLc (([("some", 22)] : List (Str × Nat)).map (·.2)) (fF oSeq (fVar 5)) (gaN 22) (pr true) (fTup (fCons (fCall m__law_marks (fCons (fVar 2) (fCons (fVar 22) fNil))) (fCons (fC (.bool true)) fNil)))))) (gaN 15))
    (sSeq (sFor (fF oSeq (fList (fCons (fTup fNil) (fCons (fVar 2) (fCons (fVar 11) (fCons (fVar 12) (fCons (fVar 9) (fCons (fVar 10) (fCons (fVar 13) fNil))))))))) (gaN 16) (sSeq (sAsg (fCall m__law_closing (fCons (fVar 2) (fCons (fVar 16) fNil))) (gaN 17))
    (sSeq (sIf (fOrT (fNotT (fTru (fCall (m__law_alike 5) (fCons (fCall m_closing (fCons (fVar 2) (fCons (fVar 16) fNil))) (fCons (fVar 17) fNil))))) (fNotT (fTru (fCall (m__law_alike 5) (fCons (fCall m_consonant (fCons (fVar 2) (fCons (fVar 16) fNil))) (fCons (fBin oInN (fVar 16) (fVarB 15)) fNil)))))) (sSeq (sRet (fC (.bool false)))
    sNx) sNx)
    (sSeq (sIf (fNotT (fTru (fCall (m__law_alike 5) (fCons (fCall m_closing (fCons (fVar 2) (fCons (fCall m_marks (fCons (fVar 2) (fCons (fVar 17) fNil))) fNil))) (fCons (fVar 17) fNil))))) (sSeq (sRet (fC (.bool false)))
    sNx) sNx)
    (sSeq (sIf (fNotT (fTru (fCall m__law_by_formula (fCons (fVar 2) (fCons (fVar 3) (fCons (fVar 4) (fCons (fVar 16) (fCons (fVar 6) fNil)))))))) (sSeq (sRet (fC (.bool false)))
    sNx) sNx)
    sNx)))))
    (sSeq (sFor (fF oSeq (fList (fCons (fTup (fCons (fTup fNil) (fCons (fVar 11) fNil))) (fCons (fTup (fCons (fVar 11) (fCons (fVar 12) fNil))) (fCons (fTup (fCons (fVar 12) (fCons (fVar 2) fNil))) (fCons (fTup (fCons (fVar 9) (fCons (fVar 10) fNil))) fNil)))))) (gaTup 2 (gaCons (gaN 18) (gaCons (gaN 19) gaNil))) (sSeq (sAsg (fTup (fCons (fCall m_closing (fCons (fVar 2) (fCons (fVar 18) fNil))) (fCons (fCall (fun ds => m_closing (po_closing_1 [] ds)) (fCons (fVar 19) (fCons (fVar 2) fNil))) fNil))) (gaTup 2 (gaCons (gaN 20) (gaCons (gaN 21) gaNil))))
    (sSeq (sIf (asB (fBin oNe (fList (fLc (([("claim", 23)] : List (Str × Nat)).map (·.2)) (fF oSeq (fVar 20)) (gaN 23) (asB (fBin oNotIn (fVar 23) (fVarB 21))) (fVar 23))) (fList fNil))) (sSeq (sRet (fC (.bool false)))
    sNx) sNx)
    sNx)))
    (sSeq (sAsg (fCall m__law_joint (fCons (fCall m__law_closing (fCons (fVar 2) (fCons (fVar 9) fNil))) (fCons (fVar 6) fNil))) (gaN 17))
    (sSeq (sRet (fAnd (fCall (m__law_alike 5) (fCons (fCall m_wider (fCons (fVar 2) (fCons (fVar 6) fNil))) (fCons (fVar 17) fNil))) (fCall (m__law_alike 5) (fCons (fCall (fun ds => m_wider (po_wider_0 [] ds)) (fCons (fVar 17) (fCons (fVar 2) fNil))) (fCons (fVar 17) fNil)))))
    sNx)))))))))))))))))
def m_law : List D → Option D := runP 24 g_law
abbrev s_law : Stmt := top 18
theorem sc_law : FnScope ["script", "deck", "family", "kind", "order", "tellings", "told", "more", "joined", "own", "both", "drawn", "wide", "bent", "lot", "possible", "struck", "due", "less", "greater", "one", "other", "some", "claim"] ["script"] (defScope s_law) := ⟨rfl, rfl, rfl, by decide +kernel, rfl, by decide +kernel, by decide +kernel⟩
theorem kpo_wider_0 : KOrd "wider" s_wider ["family", "told"] ["told", "family"] po_wider_0 := by
  refine ⟨?_, ?_⟩
  · intro kV doc pm an cdv ct us ws hl
    unfold po_wider_0 at hl ⊢
    split at hl
    · rfl
    · cases hl
  · intro α β R us ws us2 ws2 t t0
    cases t with
    | cons _ _ => exact .nil
    | nil =>
      cases t0 with
        | nil => exact .nil
        | cons h0 t1 =>
          cases t1 with
          | nil => exact .nil
          | cons h1 t2 =>
            cases t2 with
            | nil => exact (.cons h1 (.cons h0 .nil))
            | cons _ _ => exact .nil
theorem kpo_closing_1 : KOrd "closing" s_closing ["family", "struck"] ["struck", "family"] po_closing_1 := by
  refine ⟨?_, ?_⟩
  · intro kV doc pm an cdv ct us ws hl
    unfold po_closing_1 at hl ⊢
    split at hl
    · rfl
    · cases hl
  · intro α β R us ws us2 ws2 t t0
    cases t with
    | cons _ _ => exact .nil
    | nil =>
      cases t0 with
        | nil => exact .nil
        | cons h0 t1 =>
          cases t1 with
          | nil => exact .nil
          | cons h1 t2 =>
            cases t2 with
            | nil => exact (.cons h1 (.cons h0 .nil))
            | cons _ _ => exact .nil
theorem kpo_marks_2 : KOrd "marks" s_marks ["family", "told"] ["told", "family"] po_marks_2 := by
  refine ⟨?_, ?_⟩
  · intro kV doc pm an cdv ct us ws hl
    unfold po_marks_2 at hl ⊢
    split at hl
    · rfl
    · cases hl
  · intro α β R us ws us2 ws2 t t0
    cases t with
    | cons _ _ => exact .nil
    | nil =>
      cases t0 with
        | nil => exact .nil
        | cons h0 t1 =>
          cases t1 with
          | nil => exact .nil
          | cons h1 t2 =>
            cases t2 with
            | nil => exact (.cons h1 (.cons h0 .nil))
            | cons _ _ => exact .nil
end K32
set_option Elab.async false
set_option linter.all false
set_option maxRecDepth 100000
set_option maxHeartbeats 4000000
namespace K32
open PySem PySem.Spec PyProof.Rows L2 PF
section
variable {P : Program} {w : World} {K : PySem.W.Frag} {mg : Str → Option Value} {base : Heap} {T : AS}
theorem ok_closing (G : GF mg) {c pt : Addr} (TB : GxR.TabB base mg c pt) (hTP : T pt)  (a : At K mg s_closing "closing" (fun v => v = .ref c)) : Cal P w K mg base s_closing "closing" 2 ["family", "struck"] (spP K T 2 m_closing) := fn_P (N := ["family", "struck", "claims", "found", "claim", "lot"]) (g := g_closing) a (fun _ _ _ _ _ _ us hl => match us, hl with | [_, _], _ => rfl) sc_closing fun f cdv A outer s H E hc hr => by
  subst hc
  exact (s_cons (s_set 2 sc_closing.nd (DF.e (f_sortZ rfl rfl G.b_sorted (z_sc2 (ia := 5) (ib := 4) (own := ([("lot", 5), ("claim", 4)] : List (Str × Nat))) rfl sc_closing.nd (blkOk_by (by kernel_rfl)) (i_seq (e_var 0)) (fun _ _ _ _ _ => pg_name sc_closing.nd rfl (.inl rfl) (.inr rfl)) (fun _ _ _ _ _ => pg_name sc_closing.nd rfl (.inl rfl) (.inr rfl)) (fun _ _ _ _ _ => i_seq (e_var 5)) (fun _ _ _ _ _ => pe_var rfl (.inl rfl)) (by decide) (by decide)))))
    (s_cons (s_own 3 sc_closing.nd (f_lst a_nil))
    (s_cons (s_for (fun _ _ z => z.elim) rfl (i_seq (e_var 2)) (g_name 4 sc_closing.nd) (s_cons (s_if (t_val (DE.v (e_allG (names := (["struck", "claim"] : List Str)) (caps := ([1, 4] : List Nat)) hr rfl G.b_all TB rfl hTP (genC_by rfl rfl (by kernel_rfl)) (capsN (by rfl)) (e_var 0) (q_cmp qc_in q_loop (q_cap 0) (RU hr)) (qt_cmp qc_in (q_cap 1) q_loop (RU hr))))) (s_cons (s_expr (e_append 3 (a_cons (e_var 4) a_nil)))
    s_nil) s_nil)
    s_nil))
    (s_cons (s_ret (e_ct b_tuple rfl G.b_tuple bt_tuple (v_var 3)))
    s_nil))))
theorem ok_marks (G : GF mg) {c pt : Addr} (TB : GxR.TabB base mg c pt) (hTP : T pt)  (a : At K mg s_marks "marks" (fun v => v = .ref c)) : Cal P w K mg base s_marks "marks" 2 ["family", "told"] (spP K T 2 m_marks) := fn_P (N := ["family", "told", "lot", "claim"]) (g := g_marks) a (fun _ _ _ _ _ _ us hl => match us, hl with | [_, _], _ => rfl) sc_marks fun f cdv A outer s H E hc hr => by
  subst hc
  exact (s_cons (s_ret (e_ct b_tuple rfl G.b_tuple bt_tuple (DE.v (DF.e (f_lc ([("lot", 2)] : List (Str × Nat)) rfl sc_marks.nd (blkOk_by (by kernel_rfl)) (i_seq (e_var 0)) (fun _ _ _ _ _ => (g_name 2 sc_marks.nd)) (fun _ _ _ _ _ => ts_one (t_val (DE.v (e_anyG (names := (["told"] : List Str)) (caps := ([1] : List Nat)) hr rfl G.b_any TB rfl hTP (genC_by rfl rfl (by kernel_rfl)) (capsN (by rfl)) (e_var 2) (q_cmp qc_in q_loop (q_cap 0) (RU hr)) qt_nil)))) (fun _ _ _ _ _ => (e_var 2)))))))
    s_nil)
theorem ok_wider (G : GF mg)  (c_closing : Cal P w K mg base s_closing "closing" 2 ["family", "struck"] (spP K T 2 m_closing)) (c_marks : Cal P w K mg base s_marks "marks" 2 ["family", "told"] (spP K T 2 m_marks)) (a : At K mg s_wider "wider" (fun _ => True)) : Cal P w K mg base s_wider "wider" 3 ["family", "told"] (spP K T 2 m_wider) := fn_P (N := ["family", "told", "more"]) (g := g_wider) a (fun _ _ _ _ _ _ us hl => match us, hl with | [_, _], _ => rfl) sc_wider fun f cdv A outer s H E hc hr => by
  exact (s_cons (s_set 2 sc_wider.nd (e_call c_closing (RM hr) rfl (a_cons (e_var 0) (a_cons (e_call c_marks (RM hr) rfl (a_cons (e_var 0) (a_cons (e_var 1) a_nil))) a_nil))))
    (s_cons (s_ret (e_ct b_tuple rfl G.b_tuple bt_tuple (DE.v (DF.e (f_sortZ rfl rfl G.b_sorted (z_setT rfl rfl G.b_set (e_bin ox_add (e_var 2) (e_var 1))))))))
    s_nil))
theorem ok_consonant (G : GF mg)  (c_marks : Cal P w K mg base s_marks "marks" 2 ["family", "told"] (spP K T 2 m_marks)) (c_closing : Cal P w K mg base s_closing "closing" 2 ["family", "struck"] (spP K T 2 m_closing)) (a : At K mg s_consonant "consonant" (fun _ => True)) : Cal P w K mg base s_consonant "consonant" 3 ["family", "struck"] (spP K T 2 m_consonant) := fn_P (N := ["family", "struck"]) (g := g_consonant) a (fun _ _ _ _ _ _ us hl => match us, hl with | [_, _], _ => rfl) sc_consonant fun f cdv A outer s H E hc hr => by
  exact (s_cons (s_ret (e_cmp (cx_eq hr) (e_var 1) (DE.v (e_call c_marks (RM hr) rfl (a_cons (e_var 0) (a_cons (e_call c_closing (RM hr) rfl (a_cons (e_var 0) (a_cons (e_var 1) a_nil))) a_nil))))))
    s_nil)
theorem ok__law_deck (G : GF mg)   (a : At K mg s__law_deck "_law_deck" (fun _ => True)) : Cal P w K mg base s__law_deck "_law_deck" 2 ["script"] (spF K T 1 m__law_deck) := fn_F (N := ["script", "cells", "seed", "cell"]) (g := g__law_deck) a (fun _ _ _ _ _ _ us hl => match us, hl with | [_], _ => rfl) sc__law_deck fun f cdv A outer s H E hc hr => by
  exact (s_cons (s_setLc 1 ([("cell", 3)] : List (Str × Nat)) rfl sc__law_deck.nd (blkOk_by (by kernel_rfl)) (i_seq (e_sl (e_var 0) o_no (o_part e_int))) (fun _ _ _ _ _ => (g_name 3 sc__law_deck.nd)) (fun _ _ _ _ _ => ts_nil) (fun _ _ _ _ _ => (e_ct b_int rfl G.b_int bt_int (v_var 3))))
    (s_cons (s_set 2 sc__law_deck.nd (e_bin ox_add e_int (e_cb b_len rfl G.b_len bt_len (v_var 1))))
    (s_cons (s_for (fun _ _ z => z.elim) rfl (i_seq (e_var 1)) (g_name 3 sc__law_deck.nd) (s_cons (s_set 2 sc__law_deck.nd (e_bin ox_mod (e_ct b_int rfl G.b_int bt_int (DE.v (e_bin ox_add (e_bin ox_mul (e_var 2) e_int) (e_bin ox_mod (e_ct b_int rfl G.b_int bt_int (v_var 3)) e_int)))) e_int))
    s_nil))
    (s_cons (s_retF (f_lst (a_cons (e_var 1) (a_cons e_int (a_cons e_int (a_cons e_int (a_cons e_int (a_cons (e_var 2) a_nil))))))))
    s_nil))))
theorem ok__law_draw (G : GF mg)   (a : At K mg s__law_draw "_law_draw" (fun _ => True)) : Cal P w K mg base s__law_draw "_law_draw" 2 ["deck", "many"] (spM K T 2 m__law_draw) := fn_M (N := ["deck", "many", "cell", "got", "one", "two"]) (g := g__law_draw) a (fun _ _ _ _ _ _ us hl => match us, hl with | [_, _], _ => rfl) sc__law_draw fun f cdv A outer s H E hc hr => by
  exact (s_cons (s_if (DW.t (w_and (t_cmp (cx_eq hr) (e_ixN 0 e_int) (DE.v e_int)) (w_and1 (t_cmp cx_lt (e_ixN 0 e_int) (DE.v (e_cb b_len rfl G.b_len bt_len (DE.v (e_ixN 0 e_int)))))))) (s_cons (s_set 2 sc__law_draw.nd (e_ix (e_ixN 0 e_int) (e_ixN 0 e_int)))
    (s_cons (s_setItem 0 (e_bin ox_add (e_ixN 0 e_int) e_int) e_int)
    (s_cons (s_if (t_cmp cx_ge (e_var 2) (DE.v (e_bin ox_pow e_int e_int))) (s_cons (s_setItem 0 (e_bin ox_sub (e_var 2) (e_bin ox_pow e_int e_int)) e_int)
    (s_cons (s_setItem 0 e_int e_int)
    s_nil)) s_nil)
    s_nil))) s_nil)
    (s_cons (s_if (t_cmp cx_gt (e_ixN 0 e_int) (DE.v e_int)) (s_cons (s_setItem 0 (e_bin ox_sub (e_ixN 0 e_int) e_int) e_int)
    (s_cons (s_set 3 sc__law_draw.nd (e_bin ox_mod (e_ct b_int rfl G.b_int bt_int (DE.v (e_ixN 0 e_int))) (e_var 1)))
    (s_cons (s_setItem 0 (e_bin ox_div (e_ixN 0 e_int) (e_var 1)) e_int)
    (s_cons (s_ret (e_var 3))
    s_nil)))) s_nil)
    (s_cons (s_setItem 0 (e_bin ox_add (e_ixN 0 e_int) e_int) e_int)
    (s_cons (s_set 4 sc__law_draw.nd (e_bin ox_mod (e_ct b_int rfl G.b_int bt_int (DE.v (e_bin ox_add (e_bin ox_add (e_bin ox_mul (e_ixN 0 e_int) e_int) (e_bin ox_mul (e_ixN 0 e_int) e_int)) e_int))) e_int))
    (s_cons (s_set 5 sc__law_draw.nd (e_bin ox_mod (e_ct b_int rfl G.b_int bt_int (DE.v (e_bin ox_add (e_bin ox_add (e_bin ox_mul (e_var 4) (e_var 4)) (e_bin ox_mul (e_ixN 0 e_int) e_int)) e_int))) e_int))
    (s_cons (s_ret (e_bin ox_mod (e_ct b_int rfl G.b_int bt_int (DE.v (e_bin ox_div (e_var 5) e_int))) (e_var 1)))
    s_nil))))))
theorem ok__law_pick (G : GF mg)  (c__law_draw : Cal P w K mg base s__law_draw "_law_draw" 2 ["deck", "many"] (spM K T 2 m__law_draw)) (a : At K mg s__law_pick "_law_pick" (fun _ => True)) : Cal P w K mg base s__law_pick "_law_pick" 3 ["deck", "some"] (spM K T 2 m__law_pick) := fn_M (N := ["deck", "some"]) (g := g__law_pick) a (fun _ _ _ _ _ _ us hl => match us, hl with | [_, _], _ => rfl) sc__law_pick fun f cdv A outer s H E hc hr => by
  exact (s_cons (s_ret (e_ixN 1 (e_callM 0 c__law_draw (RM hr) rfl (a_cons (e_cb b_len rfl G.b_len bt_len (v_var 1)) a_nil))))
    s_nil)
theorem ok__law_shuffled (G : GF mg)  (c__law_draw : Cal P w K mg base s__law_draw "_law_draw" 2 ["deck", "many"] (spM K T 2 m__law_draw)) (a : At K mg s__law_shuffled "_law_shuffled" (fun _ => True)) : Cal P w K mg base s__law_shuffled "_law_shuffled" 3 ["deck", "some"] (spM K T 2 m__law_shuffled) := fn_M (N := ["deck", "some", "found", "one"]) (g := g__law_shuffled) a (fun _ _ _ _ _ _ us hl => match us, hl with | [_, _], _ => rfl) sc__law_shuffled fun f cdv A outer s H E hc hr => by
  exact (s_cons (s_own 2 sc__law_shuffled.nd (f_lst a_nil))
    (s_cons (s_for (fun _ _ z => z.elim) rfl (i_seq (e_var 1)) (g_name 3 sc__law_shuffled.nd) (s_cons (s_expr (e_insert 2 (a_cons (e_callM 0 c__law_draw (RM hr) rfl (a_cons (e_bin ox_add (e_cb b_len rfl G.b_len bt_len (v_var 2)) e_int) a_nil)) (a_cons (e_var 3) a_nil))))
    s_nil))
    (s_cons (s_ret (e_var 2))
    s_nil)))
theorem ok__law_alike (G : GF mg)  (a : At K mg s__law_alike "_law_alike" (fun _ => True)) : ∀ j : Nat, Cal P w K mg base s__law_alike "_law_alike" (j + 1) ["told", "due"] (spP K T 2 (m__law_alike j))
  | 0 => fn_none rfl a (fun _ _ _ _ _ _ us hl => match us, hl with | [_, _], _ => rfl) sc__law_alike
  | j + 1 => by
    have ih := ok__law_alike G  a j
    exact fn_P (N := ["told", "due", "k"]) (g := g__law_alike (m__law_alike j)) a (fun _ _ _ _ _ _ us hl => match us, hl with | [_, _], _ => rfl) sc__law_alike fun f cdv A outer s H E hc hr =>
      (s_cons (s_if (t_val (DE.v (e_isi rfl G.b_isinstance rfl G.b_tuple bt_tuple (v_var 1)))) (s_cons (s_if (DW.t (w_or (t_not (t_val (DE.v (e_isi rfl G.b_isinstance rfl G.b_tuple bt_tuple (v_var 0))))) (w_or1 (t_cmp (cx_ne hr) (e_cb b_len rfl G.b_len bt_len (v_var 0)) (DE.v (e_cb b_len rfl G.b_len bt_len (v_var 1))))))) (s_cons (s_ret e_bl)
    s_nil) s_nil)
    (s_cons (s_ret (e_cb (b_all rfl) rfl G.b_all bt_all (DE.v (DF.e (f_lc ([("k", 2)] : List (Str × Nat)) rfl sc__law_alike.nd (blkOk_by (by kernel_rfl)) (i_rng1 rfl G.b_range (e_cb b_len rfl G.b_len bt_len (v_var 1))) (fun _ _ _ _ _ => (g_name 2 sc__law_alike.nd)) (fun _ _ _ _ _ => ts_nil) (fun _ _ _ _ _ => (e_call ih hr rfl (a_cons (e_ixN 0 (e_var 2)) (a_cons (e_ixN 1 (e_var 2)) a_nil)))))))))
    s_nil)) s_nil)
    (s_cons (s_if (t_cmp cx_is (e_var 1) (DE.v e_non)) (s_cons (s_ret (e_cmp cx_is (e_var 0) (DE.v e_non)))
    s_nil) s_nil)
    (s_cons (s_if (t_val (DE.v (e_isi rfl G.b_isinstance rfl G.b_str bt_str (v_var 1)))) (s_cons (s_ret (e_and (e_isi rfl G.b_isinstance rfl G.b_str bt_str (v_var 0)) (e_one (e_cmp (cx_eq hr) (e_var 0) (v_var 1)))))
    s_nil) s_nil)
    (s_cons (s_if (t_val (DE.v (e_isi rfl G.b_isinstance rfl G.b_bool bt_bool (v_var 1)))) (s_cons (s_ret (e_and (e_isi rfl G.b_isinstance rfl G.b_bool bt_bool (v_var 0)) (e_one (e_cmp (cx_eq hr) (e_var 0) (v_var 1)))))
    s_nil) s_nil)
    (s_cons (s_ret (e_and (e_isi rfl G.b_isinstance rfl G.b_int bt_int (v_var 0)) (e_and (e_not (e_isi rfl G.b_isinstance rfl G.b_bool bt_bool (v_var 0))) (e_one (e_cmp (cx_eq hr) (e_var 0) (v_var 1))))))
    s_nil)))))
theorem ok__law_joint (G : GF mg)   (a : At K mg s__law_joint "_law_joint" (fun _ => True)) : Cal P w K mg base s__law_joint "_law_joint" 2 ["one", "other"] (spP K T 2 m__law_joint) := fn_P (N := ["one", "other", "claim"]) (g := g__law_joint) a (fun _ _ _ _ _ _ us hl => match us, hl with | [_, _], _ => rfl) sc__law_joint fun f cdv A outer s H E hc hr => by
  exact (s_cons (s_ret (e_ct b_tuple rfl G.b_tuple bt_tuple (DE.v (DF.e (f_sortDI rfl rfl G.b_sorted rfl G.b_dict (DF.e (f_lc ([("claim", 2)] : List (Str × Nat)) rfl sc__law_joint.nd (blkOk_by (by kernel_rfl)) (i_seq (e_bin ox_add (e_var 0) (e_var 1))) (fun _ _ _ _ _ => (g_name 2 sc__law_joint.nd)) (fun _ _ _ _ _ => ts_nil) (fun _ _ _ _ _ => (e_tup (a_cons (e_var 2) (a_cons e_int a_nil)))))))))))
    s_nil)
theorem ok__law_met (G : GF mg)   (a : At K mg s__law_met "_law_met" (fun _ => True)) : Cal P w K mg base s__law_met "_law_met" 2 ["lot", "told"] (spP K T 2 m__law_met) := fn_P (N := ["lot", "told", "claim"]) (g := g__law_met) a (fun _ _ _ _ _ _ us hl => match us, hl with | [_, _], _ => rfl) sc__law_met fun f cdv A outer s H E hc hr => by
  exact (s_cons (s_ret (e_cmp (cx_ne hr) (DF.e (f_lc ([("claim", 2)] : List (Str × Nat)) rfl sc__law_met.nd (blkOk_by (by kernel_rfl)) (i_seq (e_var 0)) (fun _ _ _ _ _ => (g_name 2 sc__law_met.nd)) (fun _ _ _ _ _ => ts_one (t_cmp (cx_in hr) (e_var 2) (v_var 1))) (fun _ _ _ _ _ => (e_var 2)))) (DE.v (DF.e (f_lst a_nil)))))
    s_nil)
theorem ok__law_marks (G : GF mg)  (c__law_met : Cal P w K mg base s__law_met "_law_met" 2 ["lot", "told"] (spP K T 2 m__law_met)) (a : At K mg s__law_marks "_law_marks" (fun _ => True)) : Cal P w K mg base s__law_marks "_law_marks" 3 ["family", "told"] (spP K T 2 m__law_marks) := fn_P (N := ["family", "told", "lot"]) (g := g__law_marks) a (fun _ _ _ _ _ _ us hl => match us, hl with | [_, _], _ => rfl) sc__law_marks fun f cdv A outer s H E hc hr => by
  exact (s_cons (s_ret (e_ct b_tuple rfl G.b_tuple bt_tuple (DE.v (DF.e (f_lc ([("lot", 2)] : List (Str × Nat)) rfl sc__law_marks.nd (blkOk_by (by kernel_rfl)) (i_seq (e_var 0)) (fun _ _ _ _ _ => (g_name 2 sc__law_marks.nd)) (fun _ _ _ _ _ => ts_one (t_val (DE.v (e_call c__law_met (RM hr) rfl (a_cons (e_var 2) (a_cons (e_var 1) a_nil)))))) (fun _ _ _ _ _ => (e_var 2)))))))
    s_nil)
theorem ok__law_closing (G : GF mg)   (a : At K mg s__law_closing "_law_closing" (fun _ => True)) : Cal P w K mg base s__law_closing "_law_closing" 2 ["family", "struck"] (spP K T 2 m__law_closing) := fn_P (N := ["family", "struck", "claims", "lot", "claim"]) (g := g__law_closing) a (fun _ _ _ _ _ _ us hl => match us, hl with | [_, _], _ => rfl) sc__law_closing fun f cdv A outer s H E hc hr => by
  exact (s_cons (s_own 2 sc__law_closing.nd (f_lst a_nil))
    (s_cons (s_for (fun _ _ z => z.elim) rfl (i_seq (e_var 0)) (g_name 3 sc__law_closing.nd) (s_cons (s_expr (e_extend 2 (a_cons (DF.e (f_lc ([("claim", 4)] : List (Str × Nat)) rfl sc__law_closing.nd (blkOk_by (by kernel_rfl)) (i_seq (e_var 3)) (fun _ _ _ _ _ => (g_name 4 sc__law_closing.nd)) (fun _ _ _ _ _ => ts_one (t_cmp (cx_notIn hr) (e_var 4) (v_var 2))) (fun _ _ _ _ _ => (e_var 4)))) a_nil)))
    s_nil))
    (s_cons (s_own 2 sc__law_closing.nd (f_sorted hr rfl G.b_sorted (v_var 2)))
    (s_cons (s_ret (e_ct b_tuple rfl G.b_tuple bt_tuple (DE.v (DF.e (f_lc ([("claim", 4)] : List (Str × Nat)) rfl sc__law_closing.nd (blkOk_by (by kernel_rfl)) (i_seq (e_var 2)) (fun _ _ _ _ _ => (g_name 4 sc__law_closing.nd)) (fun _ _ _ _ _ => ts_one (t_cmp (cx_eq hr) (DF.e (f_lc ([("lot", 3)] : List (Str × Nat)) rfl sc__law_closing.nd (blkOk_by (by kernel_rfl)) (i_seq (e_var 0)) (fun _ _ _ _ _ => (g_name 3 sc__law_closing.nd)) (fun _ _ _ _ _ => ts_one (DW.t (w_and (t_cmp (cx_in hr) (e_var 4) (v_var 3)) (w_and1 (t_cmp (cx_notIn hr) (e_var 3) (v_var 1)))))) (fun _ _ _ _ _ => (e_var 3)))) (DE.v (DF.e (f_lst a_nil))))) (fun _ _ _ _ _ => (e_var 4)))))))
    s_nil))))
theorem ok__law_lots (G : GF mg)   (a : At K mg s__law_lots "_law_lots" (fun _ => True)) : Cal P w K mg base s__law_lots "_law_lots" 2 ["many"] (spP K T 1 m__law_lots) := fn_P (N := ["many", "found", "claim", "lot"]) (g := g__law_lots) a (fun _ _ _ _ _ _ us hl => match us, hl with | [_], _ => rfl) sc__law_lots fun f cdv A outer s H E hc hr => by
  exact (s_cons (s_set 1 sc__law_lots.nd (DF.e (f_lst (a_cons (e_tup a_nil) a_nil))))
    (s_cons (s_for (fun _ _ z => z.elim) rfl (i_rng1 rfl G.b_range (e_var 0)) (g_name 2 sc__law_lots.nd) (s_cons (s_set 1 sc__law_lots.nd (e_bin ox_add (e_var 1) (DF.e (f_lc ([("lot", 3)] : List (Str × Nat)) rfl sc__law_lots.nd (blkOk_by (by kernel_rfl)) (i_seq (e_var 1)) (fun _ _ _ _ _ => (g_name 3 sc__law_lots.nd)) (fun _ _ _ _ _ => ts_nil) (fun _ _ _ _ _ => (e_bin ox_add (e_var 3) (e_tup (a_cons (e_var 2) a_nil))))))))
    s_nil))
    (s_cons (s_ret (DF.e (f_sorted hr rfl G.b_sorted (v_var 1))))
    s_nil)))
theorem ok__law_family (G : GF mg)  (c__law_pick : Cal P w K mg base s__law_pick "_law_pick" 3 ["deck", "some"] (spM K T 2 m__law_pick)) (c__law_shuffled : Cal P w K mg base s__law_shuffled "_law_shuffled" 3 ["deck", "some"] (spM K T 2 m__law_shuffled)) (c__law_draw : Cal P w K mg base s__law_draw "_law_draw" 2 ["deck", "many"] (spM K T 2 m__law_draw)) (c__law_lots : Cal P w K mg base s__law_lots "_law_lots" 2 ["many"] (spP K T 1 m__law_lots)) (a : At K mg s__law_family "_law_family" (fun _ => True)) : Cal P w K mg base s__law_family "_law_family" 4 ["deck"] (spM K T 1 m__law_family) := fn_M (N := ["deck", "many", "kind", "order", "lots", "claim", "k"]) (g := g__law_family) a (fun _ _ _ _ _ _ us hl => match us, hl with | [_], _ => rfl) sc__law_family fun f cdv A outer s H E hc hr => by
  exact (s_cons (s_set 1 sc__law_family.nd (e_bin ox_add e_int (e_callM 0 c__law_draw (RM hr) rfl (a_cons e_int a_nil))))
    (s_cons (s_set 2 sc__law_family.nd (e_callM 0 c__law_pick (RM hr) rfl (a_cons (DF.e (f_lst (a_cons e_str (a_cons e_str (a_cons e_str (a_cons e_str (a_cons e_str (a_cons e_str (a_cons e_str a_nil))))))))) a_nil)))
    (s_cons (s_set 3 sc__law_family.nd (e_callM 0 c__law_shuffled (RM hr) rfl (a_cons (DF.e (f_listRg rfl rfl G.b_list rfl G.b_range (e_var 1))) a_nil)))
    (s_cons (s_if (t_cmp (cx_eq hr) (e_var 2) (DE.v e_str)) (s_cons (s_ret (e_tup (a_cons (e_ct b_tuple rfl G.b_tuple bt_tuple (DE.v (e_sl (e_call c__law_lots (RM hr) rfl (a_cons (e_var 1) a_nil)) (o_part e_int) o_no))) (a_cons (e_var 2) (a_cons (e_var 3) a_nil)))))
    s_nil) s_nil)
    (s_cons (s_if (t_cmp (cx_eq hr) (e_var 2) (DE.v e_str)) (s_cons (s_ret (e_tup (a_cons (e_ct b_tuple rfl G.b_tuple bt_tuple (DE.v (DF.e (f_lc ([("claim", 5)] : List (Str × Nat)) rfl sc__law_family.nd (blkOk_by (by kernel_rfl)) (i_rng1 rfl G.b_range (e_var 1)) (fun _ _ _ _ _ => (g_name 5 sc__law_family.nd)) (fun _ _ _ _ _ => ts_nil) (fun _ _ _ _ _ => (e_tup (a_cons (e_var 5) a_nil))))))) (a_cons (e_var 2) (a_cons (e_var 3) a_nil)))))
    s_nil) s_nil)
    (s_cons (s_if (t_cmp (cx_eq hr) (e_var 2) (DE.v e_str)) (s_cons (s_ret (e_tup (a_cons (e_ct b_tuple rfl G.b_tuple bt_tuple (DE.v (DF.e (f_sorted hr rfl G.b_sorted (DE.v (DF.e (f_lc ([("k", 6)] : List (Str × Nat)) rfl sc__law_family.nd (blkOk_by (by kernel_rfl)) (i_rng1 rfl G.b_range (e_var 1)) (fun _ _ _ _ _ => (g_name 6 sc__law_family.nd)) (fun _ _ _ _ _ => ts_nil) (fun _ _ _ _ _ => (e_ct b_tuple rfl G.b_tuple bt_tuple (DE.v (DF.e (f_sorted hr rfl G.b_sorted (DE.v (e_sl (e_var 3) o_no (o_part (e_bin ox_add (e_var 6) e_int)))))))))))))))) (a_cons (e_var 2) (a_cons (e_var 3) a_nil)))))
    s_nil) s_nil)
    (s_cons (s_set 4 sc__law_family.nd (e_sl (e_callM 0 c__law_shuffled (RM hr) rfl (a_cons (e_sl (e_call c__law_lots (RM hr) rfl (a_cons e_int a_nil)) (o_part e_int) o_no) a_nil)) o_no (o_part (e_callM 0 c__law_draw (RM hr) rfl (a_cons e_int a_nil)))))
    (s_cons (s_ret (e_tup (a_cons (e_ct b_tuple rfl G.b_tuple bt_tuple (DE.v (DF.e (f_sorted hr rfl G.b_sorted (v_var 4))))) (a_cons (e_var 2) (a_cons (e_var 3) a_nil)))))
    s_nil))))))))
theorem ok__law_by_formula (G : GF mg)  (c__law_alike : Cal P w K mg base s__law_alike "_law_alike" 6 ["told", "due"] (spP K T 2 (m__law_alike 5))) (c_closing : Cal P w K mg base s_closing "closing" 2 ["family", "struck"] (spP K T 2 m_closing)) (c_marks : Cal P w K mg base s_marks "marks" 2 ["family", "told"] (spP K T 2 m_marks)) (a : At K mg s__law_by_formula "_law_by_formula" (fun _ => True)) : Cal P w K mg base s__law_by_formula "_law_by_formula" 7 ["family", "kind", "order", "struck", "told"] (spP K T 5 m__law_by_formula) := fn_P (N := ["family", "kind", "order", "struck", "told", "last", "claim", "lot"]) (g := g__law_by_formula) a (fun _ _ _ _ _ _ us hl => match us, hl with | [_, _, _, _, _], _ => rfl) sc__law_by_formula fun f cdv A outer s H E hc hr => by
  exact (s_cons (s_if (t_cmp (cx_eq hr) (e_var 1) (DE.v e_str)) (s_cons (s_ret (e_call c__law_alike (RM hr) rfl (a_cons (e_call c_closing (RM hr) rfl (a_cons (e_var 0) (a_cons (e_call c_marks (RM hr) rfl (a_cons (e_var 0) (a_cons (e_var 4) a_nil))) a_nil))) (a_cons (e_ct b_tuple rfl G.b_tuple bt_tuple (DE.v (DF.e (f_lc ([("claim", 6)] : List (Str × Nat)) rfl sc__law_by_formula.nd (blkOk_by (by kernel_rfl)) (i_seq (e_var 4)) (fun _ _ _ _ _ => (g_name 6 sc__law_by_formula.nd)) (fun _ _ _ _ _ => ts_one (t_cmp (cx_in hr) (e_var 6) (v_var 2))) (fun _ _ _ _ _ => (e_var 6)))))) a_nil))))
    s_nil) s_nil)
    (s_cons (s_if (t_cmp (cx_eq hr) (e_var 1) (DE.v e_str)) (s_cons (s_ret (e_call c__law_alike (RM hr) rfl (a_cons (e_call c_closing (RM hr) rfl (a_cons (e_var 0) (a_cons (e_var 3) a_nil))) (a_cons (e_ct b_tuple rfl G.b_tuple bt_tuple (DE.v (DF.e (f_lc ([("lot", 7)] : List (Str × Nat)) rfl sc__law_by_formula.nd (blkOk_by (by kernel_rfl)) (i_seq (e_var 3)) (fun _ _ _ _ _ => (g_name 7 sc__law_by_formula.nd)) (fun _ _ _ _ _ => ts_nil) (fun _ _ _ _ _ => (e_ixN 7 e_int)))))) a_nil))))
    s_nil) s_nil)
    (s_cons (s_if (t_cmp (cx_eq hr) (e_var 1) (DE.v e_str)) (s_cons (s_set 5 sc__law_by_formula.nd (e_cb (b_max rfl) rfl G.b_max bt_max (DE.v (e_bin ox_add (DF.e (f_lst (a_cons e_int a_nil))) (DF.e (f_lc ([("lot", 7)] : List (Str × Nat)) rfl sc__law_by_formula.nd (blkOk_by (by kernel_rfl)) (i_seq (e_var 0)) (fun _ _ _ _ _ => (g_name 7 sc__law_by_formula.nd)) (fun _ _ _ _ _ => ts_one (t_cmp (cx_notIn hr) (e_var 7) (v_var 3))) (fun _ _ _ _ _ => (e_cb b_len rfl G.b_len bt_len (v_var 7)))))))))
    (s_cons (s_ret (e_call c__law_alike (RM hr) rfl (a_cons (e_call c_closing (RM hr) rfl (a_cons (e_var 0) (a_cons (e_var 3) a_nil))) (a_cons (e_ct b_tuple rfl G.b_tuple bt_tuple (DE.v (DF.e (f_sorted hr rfl G.b_sorted (DE.v (e_sl (e_var 2) (o_part (e_var 5)) o_no)))))) a_nil))))
    s_nil)) s_nil)
    (s_cons (s_ret e_bl)
    s_nil))))
theorem ok_law (G : GF mg)  (c__law_deck : Cal P w K mg base s__law_deck "_law_deck" 2 ["script"] (spF K T 1 m__law_deck)) (c__law_family : Cal P w K mg base s__law_family "_law_family" 4 ["deck"] (spM K T 1 m__law_family)) (c__law_lots : Cal P w K mg base s__law_lots "_law_lots" 2 ["many"] (spP K T 1 m__law_lots)) (c__law_joint : Cal P w K mg base s__law_joint "_law_joint" 2 ["one", "other"] (spP K T 2 m__law_joint)) (c__law_pick : Cal P w K mg base s__law_pick "_law_pick" 3 ["deck", "some"] (spM K T 2 m__law_pick)) (c__law_marks : Cal P w K mg base s__law_marks "_law_marks" 3 ["family", "told"] (spP K T 2 m__law_marks)) (c__law_alike : Cal P w K mg base s__law_alike "_law_alike" 6 ["told", "due"] (spP K T 2 (m__law_alike 5))) (c__law_closing : Cal P w K mg base s__law_closing "_law_closing" 2 ["family", "struck"] (spP K T 2 m__law_closing)) (c__law_by_formula : Cal P w K mg base s__law_by_formula "_law_by_formula" 7 ["family", "kind", "order", "struck", "told"] (spP K T 5 m__law_by_formula)) (c_closing : Cal P w K mg base s_closing "closing" 2 ["family", "struck"] (spP K T 2 m_closing)) (c_wider : Cal P w K mg base s_wider "wider" 3 ["family", "told"] (spP K T 2 m_wider)) (c_marks : Cal P w K mg base s_marks "marks" 2 ["family", "told"] (spP K T 2 m_marks)) (c__law_draw : Cal P w K mg base s__law_draw "_law_draw" 2 ["deck", "many"] (spM K T 2 m__law_draw)) (c_consonant : Cal P w K mg base s_consonant "consonant" 3 ["family", "struck"] (spP K T 2 m_consonant)) (a : At K mg s_law "law" (fun _ => True)) : Cal P w K mg base s_law "law" 8 ["script"] (spP K T 1 m_law) := fn_P (N := ["script", "deck", "family", "kind", "order", "tellings", "told", "more", "joined", "own", "both", "drawn", "wide", "bent", "lot", "possible", "struck", "due", "less", "greater", "one", "other", "some", "claim"]) (g := g_law) a (fun _ _ _ _ _ _ us hl => match us, hl with | [_], _ => rfl) sc_law fun f cdv A outer s H E hc hr => by
  exact (s_cons (s_own 1 sc_law.nd (f_call c__law_deck (RM hr) rfl (a_cons (e_var 0) a_nil)))
    (s_cons (s_asg (e_callM 1 c__law_family (RM hr) rfl a_nil) (g_tup (n := 3) rfl (gs_cons (g_name 2 sc_law.nd) (gs_cons (g_name 3 sc_law.nd) (gs_cons (g_name 4 sc_law.nd) gs_nil)))))
    (s_cons (s_set 5 sc_law.nd (e_call c__law_lots (RM hr) rfl (a_cons e_int a_nil)))
    (s_cons (s_par (i := 6) (j := 7) rfl sc_law.nd (a_cons (e_callM 1 c__law_pick (RM hr) rfl (a_cons (e_var 5) a_nil)) (a_cons (e_callM 1 c__law_pick (RM hr) rfl (a_cons (e_var 5) a_nil)) a_nil)))
    (s_cons (s_set 8 sc_law.nd (e_call c__law_joint (RM hr) rfl (a_cons (e_var 6) (a_cons (e_var 7) a_nil))))
    (s_cons (s_asg (e_tup (a_cons (e_call c__law_marks (RM hr) rfl (a_cons (e_var 2) (a_cons (e_var 6) a_nil))) (a_cons (e_call c__law_marks (RM hr) rfl (a_cons (e_var 2) (a_cons (e_var 8) a_nil))) a_nil))) (g_tup (n := 2) rfl (gs_cons (g_name 9 sc_law.nd) (gs_cons (g_name 10 sc_law.nd) gs_nil))))
    (s_cons (s_set 11 sc_law.nd (e_ct b_tuple rfl G.b_tuple bt_tuple (DE.v (DF.e (f_lc ([("lot", 14)] : List (Str × Nat)) rfl sc_law.nd (blkOk_by (by kernel_rfl)) (i_seq (e_var 2)) (fun _ _ _ _ _ => (g_name 14 sc_law.nd)) (fun _ _ _ _ _ => ts_one (t_cmp (cx_eq hr) (e_callM 1 c__law_draw (RM hr) rfl (a_cons e_int a_nil)) (DE.v e_int))) (fun _ _ _ _ _ => (e_var 14)))))))
    (s_cons (s_set 12 sc_law.nd (e_ct b_tuple rfl G.b_tuple bt_tuple (DE.v (DF.e (f_lc ([("lot", 14)] : List (Str × Nat)) rfl sc_law.nd (blkOk_by (by kernel_rfl)) (i_seq (e_var 2)) (fun _ _ _ _ _ => (g_name 14 sc_law.nd)) (fun _ _ _ _ _ => ts_one (DW.t (w_or (t_cmp (cx_in hr) (e_var 14) (v_var 11)) (w_or1 (t_cmp (cx_eq hr) (e_callM 1 c__law_draw (RM hr) rfl (a_cons e_int a_nil)) (DE.v e_int)))))) (fun _ _ _ _ _ => (e_var 14)))))))
    (s_cons (s_set 13 sc_law.nd (e_var 9))
    (s_cons (s_if (t_cmp (cx_ne hr) (e_var 2) (DE.v (e_tup a_nil))) (s_cons (s_set 14 sc_law.nd (e_callM 1 c__law_pick (RM hr) rfl (a_cons (e_var 2) a_nil)))
    (s_cons (s_set 13 sc_law.nd (e_ct b_tuple rfl G.b_tuple bt_tuple (DE.v (DF.e (f_lc ([("one", 20)] : List (Str × Nat)) rfl sc_law.nd (blkOk_by (by kernel_rfl)) (i_seq (e_var 2)) (fun _ _ _ _ _ => (g_name 20 sc_law.nd)) (fun _ _ _ _ _ => ts_one (t_cmp (cx_ne hr) (e_cmp (cx_in hr) (e_var 20) (v_var 9)) (DE.v (e_cmp (cx_eq hr) (e_var 20) (v_var 14))))) (fun _ _ _ _ _ => (e_var 20)))))))
    s_nil)) s_nil)
    (s_cons (s_if (t_not (t_val (DE.v (e_call c__law_alike (RM hr) rfl (a_cons (e_tup (a_cons (e_call c_marks (RM hr) rfl (a_cons (e_var 2) (a_cons (e_var 6) a_nil))) (a_cons (e_callK c_marks kpo_marks_2 (RM hr) rfl (k_cons (e_var 8) (k_cons (e_var 2) k_nil)) (lenK (k := 2) (by repeat (first | exact len_nil | apply len_cons)) lpo_marks_2)) a_nil))) (a_cons (e_tup (a_cons (e_var 9) (a_cons (e_var 10) a_nil))) a_nil)))))) (s_cons (s_ret e_bl)
    s_nil) s_nil)
    (s_cons (s_if (t_cmp (cx_ne hr) (e_ct b_tuple rfl G.b_tuple bt_tuple (DE.v (DF.e (f_sortN hr rfl G.b_sorted (DE.v (e_dicN hr rfl G.b_dict (DE.v (DF.e (f_lc ([("lot", 14)] : List (Str × Nat)) rfl sc_law.nd (blkOk_by (by kernel_rfl)) (i_seq (e_bin ox_add (e_var 9) (e_call c__law_marks (RM hr) rfl (a_cons (e_var 2) (a_cons (e_var 7) a_nil))))) (fun _ _ _ _ _ => (g_name 14 sc_law.nd)) (fun _ _ _ _ _ => ts_nil) (fun _ _ _ _ _ => (e_tup (a_cons (e_var 14) (a_cons e_int a_nil))))))))))))) (v_var 10)) (s_cons (s_ret e_bl)
    s_nil) s_nil)
    (s_cons (s_set 15 sc_law.nd (e_dicN hr rfl G.b_dict (DE.v (DF.e (f_lc ([("some", 22)] : List (Str × Nat)) rfl sc_law.nd (blkOk_by (by kernel_rfl)) (i_seq (e_var 5)) (fun _ _ _ _ _ => (g_name 22 sc_law.nd)) (fun _ _ _ _ _ => ts_nil) (fun _ _ _ _ _ => (e_tup (a_cons (e_call c__law_marks (RM hr) rfl (a_cons (e_var 2) (a_cons (e_var 22) a_nil))) (a_cons e_bl a_nil)))))))))
    (s_cons (s_for (fun _ _ z => z.elim) rfl (i_seq (DF.e (f_lst (a_cons (e_tup a_nil) (a_cons (e_var 2) (a_cons (e_var 11) (a_cons (e_var 12) (a_cons (e_var 9) (a_cons (e_var 10) (a_cons (e_var 13) a_nil)))))))))) (g_name 16 sc_law.nd) (s_cons (s_set 17 sc_law.nd (e_call c__law_closing (RM hr) rfl (a_cons (e_var 2) (a_cons (e_var 16) a_nil))))
    (s_cons (s_if (DW.t (w_or (t_not (t_val (DE.v (e_call c__law_alike (RM hr) rfl (a_cons (e_call c_closing (RM hr) rfl (a_cons (e_var 2) (a_cons (e_var 16) a_nil))) (a_cons (e_var 17) a_nil)))))) (w_or1 (t_not (t_val (DE.v (e_call c__law_alike (RM hr) rfl (a_cons (e_call c_consonant (RM hr) rfl (a_cons (e_var 2) (a_cons (e_var 16) a_nil))) (a_cons (e_cmp (cx_inN hr) (e_var 16) (v_var 15)) a_nil))))))))) (s_cons (s_ret e_bl)
    s_nil) s_nil)
    (s_cons (s_if (t_not (t_val (DE.v (e_call c__law_alike (RM hr) rfl (a_cons (e_call c_closing (RM hr) rfl (a_cons (e_var 2) (a_cons (e_call c_marks (RM hr) rfl (a_cons (e_var 2) (a_cons (e_var 17) a_nil))) a_nil))) (a_cons (e_var 17) a_nil)))))) (s_cons (s_ret e_bl)
    s_nil) s_nil)
    (s_cons (s_if (t_not (t_val (DE.v (e_call c__law_by_formula (RM hr) rfl (a_cons (e_var 2) (a_cons (e_var 3) (a_cons (e_var 4) (a_cons (e_var 16) (a_cons (e_var 6) a_nil))))))))) (s_cons (s_ret e_bl)
    s_nil) s_nil)
    s_nil)))))
    (s_cons (s_for (fun _ _ z => z.elim) rfl (i_seq (DF.e (f_lst (a_cons (e_tup (a_cons (e_tup a_nil) (a_cons (e_var 11) a_nil))) (a_cons (e_tup (a_cons (e_var 11) (a_cons (e_var 12) a_nil))) (a_cons (e_tup (a_cons (e_var 12) (a_cons (e_var 2) a_nil))) (a_cons (e_tup (a_cons (e_var 9) (a_cons (e_var 10) a_nil))) a_nil))))))) (g_tup (n := 2) rfl (gs_cons (g_name 18 sc_law.nd) (gs_cons (g_name 19 sc_law.nd) gs_nil))) (s_cons (s_asg (e_tup (a_cons (e_call c_closing (RM hr) rfl (a_cons (e_var 2) (a_cons (e_var 18) a_nil))) (a_cons (e_callK c_closing kpo_closing_1 (RM hr) rfl (k_cons (e_var 19) (k_cons (e_var 2) k_nil)) (lenK (k := 2) (by repeat (first | exact len_nil | apply len_cons)) lpo_closing_1)) a_nil))) (g_tup (n := 2) rfl (gs_cons (g_name 20 sc_law.nd) (gs_cons (g_name 21 sc_law.nd) gs_nil))))
    (s_cons (s_if (t_cmp (cx_ne hr) (DF.e (f_lc ([("claim", 23)] : List (Str × Nat)) rfl sc_law.nd (blkOk_by (by kernel_rfl)) (i_seq (e_var 20)) (fun _ _ _ _ _ => (g_name 23 sc_law.nd)) (fun _ _ _ _ _ => ts_one (t_cmp (cx_notIn hr) (e_var 23) (v_var 21))) (fun _ _ _ _ _ => (e_var 23)))) (DE.v (DF.e (f_lst a_nil)))) (s_cons (s_ret e_bl)
    s_nil) s_nil)
    s_nil)))
    (s_cons (s_set 17 sc_law.nd (e_call c__law_joint (RM hr) rfl (a_cons (e_call c__law_closing (RM hr) rfl (a_cons (e_var 2) (a_cons (e_var 9) a_nil))) (a_cons (e_var 6) a_nil))))
    (s_cons (s_ret (e_and (e_call c__law_alike (RM hr) rfl (a_cons (e_call c_wider (RM hr) rfl (a_cons (e_var 2) (a_cons (e_var 6) a_nil))) (a_cons (e_var 17) a_nil))) (e_one (e_call c__law_alike (RM hr) rfl (a_cons (e_callK c_wider kpo_wider_0 (RM hr) rfl (k_cons (e_var 17) (k_cons (e_var 2) k_nil)) (lenK (k := 2) (by repeat (first | exact len_nil | apply len_cons)) lpo_wider_0)) (a_cons (e_var 17) a_nil))))))
    s_nil)))))))))))))))))
end
end K32
set_option Elab.async false
set_option linter.all false
set_option maxRecDepth 100000
set_option maxHeartbeats 1000000
namespace K32
open PySem PySem.Spec PyProof.Rows L2 PF
theorem big {n : Nat} (h : n < 5000) : n < sizeLine := by rw [sizeLine_eq]; omega
/-- a lot meets told -/
def meets (l t : Lot) : Bool := !(l.filter fun c => decide (c ∈ t)).isEmpty
theorem meets_iff {l t : Lot} : meets l t = true ↔ ∃ c ∈ l, c ∈ t := by
  unfold meets
  rw [Bool.not_eq_true', Bool.eq_false_iff, ne_eq, List.isEmpty_iff, List.filter_eq_nil_iff]
  simp
def marksL (F : List Lot) (t : Lot) : List Lot := F.filter fun l => meets l t
theorem seq_lot (l : Lot) : oSeq (lotD l) = some (intsD l) := rfl
theorem seq_fam (F : List Lot) : oSeq (famD F) = some (lotsD F) := rfl
theorem met_eq (l t : Lot) (hl : l.length < 1000) : m__law_met [lotD l, lotD t] = some (.bool (meets l t)) := by
  have hc : fLc [2] (fF oSeq (fVar 0)) (gaN 2) (asB (fBin oIn (fVar 2) (fVarB 1))) (fVar 2) [some (.val (lotD l)), some (.val (lotD t)), none]
      = some (intsD (l.filter fun c => decide (c ∈ t)), [some (.val (lotD l)), some (.val (lotD t)), none]) :=
    by
    refine lc_filter (as := l) (ρ1 := [some (.val (lotD l)), some (.val (lotD t)), none]) PyData.int PyData.int (fun c => decide (c ∈ t)) (fun c => [some (.val (lotD l)), some (.val (lotD t)), some (.val (.int c))]) ?_ (by omega) (fun _ _ => rfl) (fun c _ => ?_) (fun _ _ _ => rfl) (fun _ _ => rfl)
    · simp [x_fVar, seq_lot]
      rfl
    · simp [x_fVar, x_fVarB, oIn_lot]
  refine runP_of (ρ1 := [some (.val (lotD l)), some (.val (lotD t)), none]) ?_
  show g__law_met [some (.val (lotD l)), some (.val (lotD t)), none] = _
  unfold g__law_met
  refine x_sSeqR ?_
  simp only [x_sRet, x_fBin, x_fList, List.map_cons, List.map_nil, hc, x_fNil]
  have := oNe_intsL (l.filter fun c => decide (c ∈ t)) []
  rw [show (PyData.list (intsD [])) = PyData.list [] from rfl] at this
  rw [this, x_lf_some]
  simp only [meets]
  congr 4
  rw [Bool.eq_iff_iff]
  simp
theorem lawMarks_eq (F : List Lot) (t : Lot) (hF : F.length < 1000) (hl : ∀ l ∈ F, l.length < 1000) : m__law_marks [famD F, lotD t] = some (famD (marksL F t)) := by
  have hc : fLc [2] (fF oSeq (fVar 0)) (gaN 2) (fTru (fCall m__law_met (fCons (fVar 2) (fCons (fVar 1) fNil)))) (fVar 2) [some (.val (famD F)), some (.val (lotD t)), none]
      = some (lotsD (marksL F t), [some (.val (famD F)), some (.val (lotD t)), none]) :=
    by
    refine lc_filter (as := F) (ρ1 := [some (.val (famD F)), some (.val (lotD t)), none]) lotD lotD (fun l => meets l t) (fun c => [some (.val (famD F)), some (.val (lotD t)), some (.val (lotD c))]) ?_ (by omega) (fun _ _ => rfl) (fun c hc => ?_) (fun _ _ _ => rfl) (fun _ _ => rfl)
    · simp [x_fVar, seq_fam]
      rfl
    · simp [x_fVar, x_fVarB, met_eq c t (hl c hc), truD]
  refine runP_of (ρ1 := [some (.val (famD F)), some (.val (lotD t)), none]) ?_
  show g__law_marks [some (.val (famD F)), some (.val (lotD t)), none] = _
  unfold g__law_marks
  refine x_sSeqR ?_
  simp only [x_sRet, x_fUn, x_fList, List.map_cons, List.map_nil, hc]
  rfl
/-! ### the program's own -/
theorem genRun_pure {qt : D → Option Bool} {qe : D → Option D} {α : Type} (enc : α → D) (p : α → Bool) (e : α → D) : ∀ (as : List α), (∀ a ∈ as, qt (enc a) = some (p a)) → (∀ a ∈ as, p a = true → qe (enc a) = some (e a)) → genRun qt qe (as.map enc) = some ((as.filter p).map e)
  | [], _, _ => rfl
  | a :: as, h1, h2 => by
    have ih := genRun_pure enc p e as (fun b hb => h1 b (List.mem_cons_of_mem _ hb)) fun b hb => h2 b (List.mem_cons_of_mem _ hb)
    have e1 := h1 a List.mem_cons_self
    rw [List.map_cons]
    unfold genRun
    rw [e1, List.filter_cons]
    by_cases hp : p a = true
    · rw [hp]
      simp only [h2 a List.mem_cons_self hp, ih, if_true, Option.map_some, List.map_cons]
    · rw [show p a = false by simpa using hp]
      simp only [ih, Bool.false_eq_true, if_false]
theorem seqQ_lot (l : Lot) : seqQ (lotD l) = some (intsD l) := by
  show (if PyData.canLayAll0 (intsD l) = true then some (intsD l) else none) = _
  rw [if_pos (lay_ints l).1]
theorem seqQ_fam (F : List Lot) : seqQ (famD F) = some (lotsD F) := by
  show (if PyData.canLayAll0 (lotsD F) = true then some (lotsD F) else none) = _
  rw [if_pos (lay_lots F).1]
theorem lay_lot (l : Lot) : (lotD l).canLay0 = true := SeqAt.canLay_of_shaped (sh_lot l)
theorem lay_fam (F : List Lot) : (famD F).canLay0 = true := SeqAt.canLay_of_shaped (sh_fam F)
theorem asBools_of (bs : List Bool) : asBools (bs.map PyData.bool) = some bs := asBools_map bs
theorem any_gen (l t : Lot) (ρ : Sl) (hl : ρ[(2 : Nat)]? = some (some (.val (lotD l)))) (ht : ρ[(1 : Nat)]? = some (some (.val (lotD t)))) :
    fAny (fGen [1] (fVar 2) (fun _ _ => some true) (qB oIn (fun _ dx => some dx) (fun cs _ => cs[(0 : Nat)]?))) ρ = some (.bool (meets l t), ρ) := by
  have hg : fGen [1] (fVar 2) (fun _ _ => some true) (qB oIn (fun _ dx => some dx) (fun cs _ => cs[(0 : Nat)]?)) ρ = some ((l.map fun c => PyData.bool (decide (c ∈ t))), ρ) := by
    unfold fGen
    rw [x_fVar hl]
    have hcap : capS ρ [1] = some [lotD t] := by
      unfold capS
      rw [ht]
      simp only [lay_lot, if_true]
      rfl
    simp only [seqQ_lot, hcap]
    have := genRun_pure (qt := fun _ => some true) (qe := fun dx => qB oIn (fun _ dx => some dx) (fun cs _ => cs[(0 : Nat)]?) [lotD t] dx) PyData.int (fun _ => true) (fun c => PyData.bool (decide (c ∈ t))) l (fun _ _ => rfl) (fun c _ _ => by
      unfold qB
      simp [oIn_lot])
    rw [filter_tt] at this
    show (genRun _ _ (l.map PyData.int)).map _ = _
    rw [this]
    rfl
  unfold fAny asBoolsM
  rw [x_bd, x_bd, hg]
  simp only
  have e : (l.map fun c => PyData.bool (decide (c ∈ t))) = (l.map fun c => decide (c ∈ t)).map PyData.bool := by rw [List.map_map]; rfl
  rw [e, asBools_map]
  simp only [x_lf_some, x_pr]
  congr 3
  rw [Bool.eq_iff_iff, meets_iff]
  simp
theorem marks_eq (F : List Lot) (t : Lot) (hF : F.length < 1000) : m_marks [famD F, lotD t] = some (famD (marksL F t)) := by
  have hc : fLc [2] (fF oSeq (fVar 0)) (gaN 2) (fTru (fAny (fGen [1] (fVar 2) (fun _ _ => some true) (qB oIn (fun _ dx => some dx) (fun cs _ => cs[(0 : Nat)]?))))) (fVar 2) [some (.val (famD F)), some (.val (lotD t)), none, none]
      = some (lotsD (marksL F t), [some (.val (famD F)), some (.val (lotD t)), none, none]) :=
    by
    refine lc_filter (as := F) (ρ1 := [some (.val (famD F)), some (.val (lotD t)), none, none]) lotD lotD (fun l => meets l t) (fun c => [some (.val (famD F)), some (.val (lotD t)), some (.val (lotD c)), none]) ?_ (by omega) (fun _ _ => rfl) (fun c hc => ?_) (fun _ _ _ => rfl) (fun _ _ => rfl)
    · simp [x_fVar, seq_fam]
      rfl
    · rw [x_fTru, any_gen c t _ rfl rfl]
      rfl
  refine runP_of (ρ1 := [some (.val (famD F)), some (.val (lotD t)), none, none]) ?_
  show g_marks [some (.val (famD F)), some (.val (lotD t)), none, none] = _
  unfold g_marks
  refine x_sSeqR ?_
  simp only [x_sRet, x_fUn, x_fList, List.map_cons, List.map_nil, hc]
  rfl
end K32
set_option Elab.async false
set_option linter.all false
set_option maxRecDepth 100000
set_option maxHeartbeats 1000000
namespace K32
open PySem PySem.Spec PyProof.Rows L2 PF
/-- all lots with the claim are struck -/
def shut (F S : List Lot) (c : Int) : Bool := F.all fun l => !decide (c ∈ l) || decide (l ∈ S)
def closingL (F S : List Lot) : Lot := (sdI F.flatten).filter (shut F S)
theorem seqv {i : Nat} {ρ : Sl} {d : D} {ds : List D} (h : ρ[i]? = some (some (.val d))) (e : oSeq d = some ds) : fF oSeq (fVar i) ρ = some (ds, ρ) := by
  rw [x_fF, x_fVar h]
  simp only [e, x_lf_some]
theorem flatP_lots : ∀ F : List Lot, flatP (lotsD F) = some F
  | [] => rfl
  | l :: F => by
    show (match (oSeq (lotD l)).bind asInts with
      | some a => (flatP (lotsD F)).map (a :: ·)
      | none => none) = _
    rw [seq_lot, Option.bind_some, intsD, asInts_map, flatP_lots F]
    rfl
theorem all_gen (F S : List Lot) (c : Int) (ρ : Sl) (h0 : ρ[(0 : Nat)]? = some (some (.val (famD F)))) (h1 : ρ[(1 : Nat)]? = some (some (.val (famD S)))) (h4 : ρ[(4 : Nat)]? = some (some (.val (.int c)))) :
    fAll (fGen [1, 4] (fVar 0) (qTb oIn (fun cs _ => cs[(1 : Nat)]?) (fun _ dx => some dx)) (qB oIn (fun _ dx => some dx) (fun cs _ => cs[(0 : Nat)]?))) ρ = some (.bool (shut F S c), ρ) := by
  have hg : fGen [1, 4] (fVar 0) (qTb oIn (fun cs _ => cs[(1 : Nat)]?) (fun _ dx => some dx)) (qB oIn (fun _ dx => some dx) (fun cs _ => cs[(0 : Nat)]?)) ρ = some (((F.filter fun l => decide (c ∈ l)).map fun l => PyData.bool (decide (l ∈ S))), ρ) := by
    unfold fGen
    rw [x_fVar h0]
    have hcap : capS ρ [1, 4] = some [famD S, .int c] := by
      unfold capS
      rw [h1]
      simp only [lay_fam, if_true]
      unfold capS
      rw [h4]
      simp only [show (PyData.int c).canLay0 = true from by rw [PyData.canLay0], if_true]
      rfl
    simp only [seqQ_fam, hcap]
    have := genRun_pure (qt := fun dx => qTb oIn (fun cs _ => cs[(1 : Nat)]?) (fun _ dx => some dx) [famD S, .int c] dx) (qe := fun dx => qB oIn (fun _ dx => some dx) (fun cs _ => cs[(0 : Nat)]?) [famD S, .int c] dx) lotD (fun l => decide (c ∈ l)) (fun l => PyData.bool (decide (l ∈ S))) F (fun l _ => by
      unfold qTb qB
      simp [oIn_lot]) (fun l _ _ => by
      unfold qB
      simp [oIn_fam])
    show (genRun _ _ (F.map lotD)).map _ = _
    rw [this]
    rfl
  unfold fAll asBoolsM
  rw [x_bd, x_bd, hg]
  simp only
  have e : ((F.filter fun l => decide (c ∈ l)).map fun l => PyData.bool (decide (l ∈ S))) = ((F.filter fun l => decide (c ∈ l)).map fun l => decide (l ∈ S)).map PyData.bool := by rw [List.map_map]; rfl
  rw [e, asBools_map]
  simp only [x_lf_some, x_pr]
  congr 3
  rw [Bool.eq_iff_iff]
  unfold shut
  simp only [List.all_eq_true, List.mem_map, List.mem_filter, id, forall_exists_index, and_imp, Bool.or_eq_true, Bool.not_eq_true', decide_eq_false_iff_not, decide_eq_true_iff]
  constructor
  · intro h l hl
    by_cases hc : c ∈ l
    · exact .inr (by simpa using h _ l hl (by simpa using hc) rfl)
    · exact .inl hc
  · rintro h x l hl hc rfl
    rcases h l hl with z | z
    · exact absurd (by simpa using hc) z
    · simpa using z
theorem closing_eq (F S : List Lot) (hF : F.length < 1000) (h64 : (ddI F.flatten).length < 64) : m_closing [famD F, famD S] = some (lotD (closingL F S)) := by
  have hs : fSortZ (fSc2 5 4 [5, 4] (fF oSeq (fVar 0))) [some (.val (famD F)), some (.val (famD S)), none, none, none, none] = some ((sdI F.flatten).map PyData.int, [some (.val (famD F)), some (.val (famD S)), none, none, none, none]) := by
    have h1 : fSc2 5 4 [5, 4] (fF oSeq (fVar 0)) [some (.val (famD F)), some (.val (famD S)), none, none, none, none] = some ((F.flatten, (ddI F.flatten).length), [some (.val (famD F)), some (.val (famD S)), none, none, none, none]) := by
      unfold fSc2
      rw [seqv rfl (seq_fam F)]
      simp only [flatP_lots]
      rw [if_pos ⟨by omega, by simp, by simp⟩]
      rfl
    unfold fSortZ
    rw [x_bd, h1]
    simp only
    rw [if_pos h64]
    rfl
  have hlen : (sdI F.flatten).length < 64 := by
    unfold sdI
    rw [(sortI_perm _).length_eq]
    exact h64
  have hloop : ∃ ρ', runFor (gaN 4) (sSeq (sIf (fTru (fAll (fGen [1, 4] (fVar 0) (qTb oIn (fun cs _ => cs[(1 : Nat)]?) (fun _ dx => some dx)) (qB oIn (fun _ dx => some dx) (fun cs _ => cs[(0 : Nat)]?))))) (sSeq (sDrop (fMut mAppend 3 (fCons (fVar 4) fNil))) sNx) sNx) sNx) ((sdI F.flatten).map PyData.int)
      [some (.val (famD F)), some (.val (famD S)), some (.val (.list (intsD (sdI F.flatten)))), some (.own []), none, none] = some (.nx, ρ') ∧ ∃ cl, ρ' = [some (.val (famD F)), some (.val (famD S)), some (.val (.list (intsD (sdI F.flatten)))), some (.own (intsD (closingL F S))), cl, none] := by
    obtain ⟨ρ', e1, acc, cl, e2, e3⟩ := runFor_inv PyData.int (fun rest ρ => ∃ (acc : Lot) (cl : Option Cel), ρ = [some (.val (famD F)), some (.val (famD S)), some (.val (.list (intsD (sdI F.flatten)))), some (.own (intsD acc)), cl, none] ∧ closingL F S = acc ++ rest.filter (shut F S)) (ga := gaN 4) (gb := sSeq (sIf (fTru (fAll (fGen [1, 4] (fVar 0) (qTb oIn (fun cs _ => cs[(1 : Nat)]?) (fun _ dx => some dx)) (qB oIn (fun _ dx => some dx) (fun cs _ => cs[(0 : Nat)]?))))) (sSeq (sDrop (fMut mAppend 3 (fCons (fVar 4) fNil))) sNx) sNx) sNx)
      (sdI F.flatten) [some (.val (famD F)), some (.val (famD S)), some (.val (.list (intsD (sdI F.flatten)))), some (.own []), none, none] ⟨[], none, rfl, rfl⟩ (by
      rintro c rest ρ hc ⟨acc, cl, rfl, e⟩
      have hl : (closingL F S).length < 64 := Nat.lt_of_le_of_lt (List.length_filter_le _ _) hlen
      refine ⟨[some (.val (famD F)), some (.val (famD S)), some (.val (.list (intsD (sdI F.flatten)))), some (.own (intsD acc)), some (.val (.int c)), none], ?_⟩
      rw [List.filter_cons] at e
      by_cases hs : shut F S c = true
      · rw [if_pos hs] at e
        refine ⟨[some (.val (famD F)), some (.val (famD S)), some (.val (.list (intsD (sdI F.flatten)))), some (.own (intsD (acc ++ [c]))), some (.val (.int c)), none], .nx, rfl, ?_, .inl rfl, acc ++ [c], _, rfl, by rw [List.append_assoc]; exact e⟩
        have hm : fMut mAppend 3 (fCons (fVar 4) fNil) [some (.val (famD F)), some (.val (famD S)), some (.val (.list (intsD (sdI F.flatten)))), some (.own (intsD acc)), some (.val (.int c)), none] = some (.none, [some (.val (famD F)), some (.val (famD S)), some (.val (.list (intsD (sdI F.flatten)))), some (.own (intsD (acc ++ [c]))), some (.val (.int c)), none]) := by
          have := x_fMut (op := mAppend) (i := 3) (fs := fCons (fVar 4) fNil) (ρ := [some (.val (famD F)), some (.val (famD S)), some (.val (.list (intsD (sdI F.flatten)))), some (.own (intsD acc)), some (.val (.int c)), none]) (ds := [.int c]) (xs := intsD acc) (ys := intsD (acc ++ [c])) rfl rfl rfl (by
            show (if (intsD acc).length < sizeLine then some (intsD acc ++ [PyData.int c]) else none) = _
            rw [if_pos]
            · rw [intsD, intsD, List.map_append]
              rfl
            · rw [intsD, List.length_map]
              have : acc.length ≤ (closingL F S).length := by rw [e, List.length_append]; omega
              exact big (by omega))
          exact this
        refine (x_sSeq (ρ1 := [some (.val (famD F)), some (.val (famD S)), some (.val (.list (intsD (sdI F.flatten)))), some (.own (intsD (acc ++ [c]))), some (.val (.int c)), none]) ?_).trans rfl
        rw [x_sIf, x_fTru, all_gen F S c _ rfl rfl rfl, hs]
        simp only [truD, x_lf_some, if_true]
        refine (x_sSeq (ρ1 := [some (.val (famD F)), some (.val (famD S)), some (.val (.list (intsD (sdI F.flatten)))), some (.own (intsD (acc ++ [c]))), some (.val (.int c)), none]) ?_).trans rfl
        rw [x_sDrop, hm]
      · rw [if_neg hs] at e
        refine ⟨[some (.val (famD F)), some (.val (famD S)), some (.val (.list (intsD (sdI F.flatten)))), some (.own (intsD acc)), some (.val (.int c)), none], .nx, rfl, ?_, .inl rfl, acc, _, rfl, e⟩
        refine (x_sSeq (ρ1 := [some (.val (famD F)), some (.val (famD S)), some (.val (.list (intsD (sdI F.flatten)))), some (.own (intsD acc)), some (.val (.int c)), none]) ?_).trans rfl
        rw [x_sIf, x_fTru, all_gen F S c _ rfl rfl rfl, show shut F S c = false by simpa using hs]
        simp only [truD, x_lf_some, if_false, Bool.false_eq_true, x_sNx])
    rw [List.filter_nil, List.append_nil] at e3
    subst e3
    exact ⟨ρ', e1, cl, e2⟩
  obtain ⟨ρ', e1, cl, rfl⟩ := hloop
  refine runP_of (ρ1 := [some (.val (famD F)), some (.val (famD S)), some (.val (.list (intsD (sdI F.flatten)))), some (.own (intsD (closingL F S))), cl, none]) ?_
  show g_closing [some (.val (famD F)), some (.val (famD S)), none, none, none, none] = _
  unfold g_closing
  refine (x_sSeq (ρ1 := [some (.val (famD F)), some (.val (famD S)), some (.val (.list (intsD (sdI F.flatten)))), none, none, none]) ?_).trans ?_
  · rw [x_sAsg, x_fList]
    simp only [List.map_cons, List.map_nil, hs]
    rfl
  refine (x_sSeq (ρ1 := [some (.val (famD F)), some (.val (famD S)), some (.val (.list (intsD (sdI F.flatten)))), some (.own []), none, none]) ?_).trans ?_
  · exact x_sOwn (x_fNil) (by simp) (by decide)
  refine (x_sSeq (ρ1 := [some (.val (famD F)), some (.val (famD S)), some (.val (.list (intsD (sdI F.flatten)))), some (.own (intsD (closingL F S))), cl, none]) ?_).trans ?_
  · rw [x_sFor, seqv (ds := (sdI F.flatten).map PyData.int) rfl rfl]
    exact e1
  refine x_sSeqR ?_
  rw [x_sRet, x_fUn, x_fVarBO rfl]
  rfl
end K32
set_option Elab.async false
set_option linter.all false
set_option maxRecDepth 100000
set_option maxHeartbeats 1000000
namespace K32
open PySem PySem.Spec PyProof.Rows L2 PF
theorem nodup_len {α : Type} [DecidableEq α] : ∀ {a b : List α}, a.Nodup → (∀ x ∈ a, x ∈ b) → a.length ≤ b.length
  | [], _, _, _ => Nat.zero_le _
  | x :: a, b, hn, hs => by
    have hx := hs x List.mem_cons_self
    have hn' := List.nodup_cons.mp hn
    have ih := nodup_len (b := b.erase x) hn'.2 fun y hy => (List.mem_erase_of_ne (fun e => hn'.1 (by rw [← e]; exact hy))).mpr (hs y (List.mem_cons_of_mem _ hy))
    rw [List.length_erase_of_mem hx] at ih
    have : 0 < b.length := List.length_pos_of_mem hx
    rw [List.length_cons]
    omega
theorem lc_filterI {α : Type} (enc enc' : α → D) (p : α → Bool) (Pv : Sl → Prop) {as : List α} {vs : List Nat} {fi : M (List D)} {ga : D → Sl → Option Sl} {ft : M Bool} {fe : M D} {ρ ρ1 : Sl} (hi : fi ρ = some (as.map enc, ρ1)) (hl : as.length < 60000) (hp : Pv (wipeS ρ1 vs))
    (ht : ∀ a ∈ as, ∀ ρ, Pv ρ → ∃ ρ2, turnLc ga ft fe (enc a) ρ = some (if p a = true then some (enc' a) else none, ρ2) ∧ Pv (wipeS ρ2 vs)) : ∃ ρ', fLc vs fi ga ft fe ρ = some ((as.filter p).map enc', ρ') ∧ Pv ρ' := by
  obtain ⟨rs, ρ', e1, e2, e3⟩ := fLc_inv (vs := vs) (fi := fi) (ga := ga) (ft := ft) (fe := fe) (ρ := ρ) (ρ1 := ρ1) enc as (fun _ ρ => Pv ρ) (fun a r => r = if p a = true then some (enc' a) else none) hi (Nat.lt_of_lt_of_le hl (by decide)) hp fun a ha n ρ h => by
    obtain ⟨ρ2, h1, h2⟩ := ht a ha ρ h
    exact ⟨_, ρ2, h1, rfl, h2⟩
  refine ⟨ρ', ?_, e2⟩
  have key : ∀ {as : List α} {rs : List (Option D)}, Paired (fun a r => r = if p a = true then some (enc' a) else none) as rs → rs.filterMap id = (as.filter p).map enc' := by
    intro as rs h
    induction h with
    | nil => rfl
    | @cons a r as rs h _ ih =>
      subst h
      rw [List.filterMap_cons, List.filter_cons, ih]
      by_cases hp : p a = true
      · simp [hp]
      · simp [hp]
  rw [← key e3]
  exact e1
theorem sort_ok {ds : List D} (h1 : ∀ x ∈ ds, ∀ y ∈ ds, PySem.W.alike x y = true) (h2 : (∀ d ∈ ds, isN0 d = false ∧ isT0 d = false) ∨ (∀ d ∈ ds, isT1 d = true) ∨ ((∀ d ∈ ds, isT0 d = true) ∧ hdT0 ds = true)) (h3 : SeqAt.shaped (.list ds) = true) : sortB ds = true := by
  unfold sortB
  simp only [Bool.and_eq_true, Bool.or_eq_true, List.all_eq_true, Bool.not_eq_true']
  refine ⟨⟨fun x hx y hy => h1 x hx y hy, ?_⟩, h3⟩
  rcases h2 with h | h | h
  · exact .inl (.inr fun d hd => h d hd)
  · exact .inl (.inl h)
  · exact .inr h
theorem sortB_ints (l : Lot) : sortB (intsD l) = true := by
  refine sort_ok (fun x hx y hy => ?_) (.inl fun d hd => ?_) (sh_intsL l)
  · obtain ⟨i, _, rfl⟩ := List.mem_map.mp hx
    obtain ⟨j, _, rfl⟩ := List.mem_map.mp hy
    rfl
  · obtain ⟨i, _, rfl⟩ := List.mem_map.mp hd
    exact ⟨rfl, rfl⟩
theorem oSort_ints (l : Lot) : oSortD (.list (intsD l)) = some (intsD (sortI l)) := by
  show (if sortB (intsD l) = true then some (sortD (intsD l)) else none) = _
  rw [if_pos (sortB_ints l), intsD, sortD_ints]
  rfl
/-- no lot with the claim is not struck -/
theorem open_eq (F S : List Lot) (c : Int) : decide ((F.filter fun l => decide (c ∈ l) && decide (l ∉ S)) = []) = shut F S c := by
  rw [Bool.eq_iff_iff, decide_eq_true_iff, List.filter_eq_nil_iff]
  unfold shut
  rw [List.all_eq_true]
  refine ⟨fun h l hl => ?_, fun h l hl => ?_⟩
  · have := h l hl
    by_cases hc : c ∈ l <;> by_cases hs : l ∈ S <;> simp_all
  · have := h l hl
    by_cases hc : c ∈ l <;> by_cases hs : l ∈ S <;> simp_all
theorem lawClosing_eq (F S : List Lot) (hF : F.length < 100) (hn : ∀ l ∈ F, l.Nodup) (h64 : (ddI F.flatten).length < 64) : m__law_closing [famD F, famD S] = some (lotD (closingL F S)) := by
  -- the claims, one lot behind the other
  have hacc : ∀ {acc : Lot} {done : List Lot}, acc.Nodup → (∀ c, c ∈ acc ↔ c ∈ done.flatten) → (∃ more, F = done ++ more) → acc.length < 64 := by
    rintro acc done hnd hm ⟨more, e⟩
    refine Nat.lt_of_le_of_lt ?_ h64
    have hs : ∀ c ∈ acc, c ∈ ddI F.flatten := fun c hc => ddI_mem.mpr (by rw [e, List.flatten_append]; exact List.mem_append_left _ ((hm c).mp hc))
    exact nodup_len hnd hs
  have hloop : ∃ ρ', runFor (gaN 3) (sSeq (sDrop (fMut mExtend 2 (fCons (fList (fLc [4] (fF oSeq (fVar 3)) (gaN 4) (asB (fBin oNotIn (fVar 4) (fVarB 2))) (fVar 4))) fNil))) sNx) (F.map lotD) [some (.val (famD F)), some (.val (famD S)), some (.own []), none, none] = some (.nx, ρ') ∧
      ∃ acc x, ρ' = [some (.val (famD F)), some (.val (famD S)), some (.own (intsD acc)), x, none] ∧ acc.Nodup ∧ ∀ c, c ∈ acc ↔ c ∈ F.flatten := by
    obtain ⟨ρ', e1, done, acc, x, e2, e3, e4, e5⟩ := runFor_inv lotD (fun rest ρ => ∃ (done : List Lot) (acc : Lot) (x : Option Cel), ρ = [some (.val (famD F)), some (.val (famD S)), some (.own (intsD acc)), x, none] ∧ F = done ++ rest ∧ acc.Nodup ∧ ∀ c, c ∈ acc ↔ c ∈ done.flatten)
      (ga := gaN 3) (gb := sSeq (sDrop (fMut mExtend 2 (fCons (fList (fLc [4] (fF oSeq (fVar 3)) (gaN 4) (asB (fBin oNotIn (fVar 4) (fVarB 2))) (fVar 4))) fNil))) sNx) F [some (.val (famD F)), some (.val (famD S)), some (.own []), none, none] ⟨[], [], none, rfl, rfl, List.nodup_nil, fun c => by simp⟩ (by
      rintro l rest ρ hl ⟨done, acc, x, rfl, e, hnd, hm⟩
      have hlF : l ∈ F := hl
      have hlen : l.length < 64 := by
        refine Nat.lt_of_le_of_lt ?_ h64
        exact nodup_len (hn l hlF) fun c hc => ddI_mem.mpr (List.mem_flatten.mpr ⟨l, hlF, hc⟩)
      have hacl := hacc hnd hm ⟨_, e⟩
      refine ⟨[some (.val (famD F)), some (.val (famD S)), some (.own (intsD acc)), some (.val (lotD l)), none], [some (.val (famD F)), some (.val (famD S)), some (.own (intsD (acc ++ l.filter fun c => decide (c ∉ acc)))), some (.val (lotD l)), none], .nx, rfl, ?_, .inl rfl, done ++ [l], acc ++ l.filter (fun c => decide (c ∉ acc)), _, rfl, by rw [e, List.append_assoc]; rfl, ?_, fun c => ?_⟩
      · have hc : fLc [4] (fF oSeq (fVar 3)) (gaN 4) (asB (fBin oNotIn (fVar 4) (fVarB 2))) (fVar 4) [some (.val (famD F)), some (.val (famD S)), some (.own (intsD acc)), some (.val (lotD l)), none] = some (intsD (l.filter fun c => decide (c ∉ acc)), [some (.val (famD F)), some (.val (famD S)), some (.own (intsD acc)), some (.val (lotD l)), none]) := by
          refine lc_filter (as := l) (ρ1 := [some (.val (famD F)), some (.val (famD S)), some (.own (intsD acc)), some (.val (lotD l)), none]) PyData.int PyData.int (fun c => decide (c ∉ acc)) (fun c => [some (.val (famD F)), some (.val (famD S)), some (.own (intsD acc)), some (.val (lotD l)), some (.val (.int c))]) (seqv rfl rfl) (by omega) (fun _ _ => rfl) (fun c _ => ?_) (fun _ _ _ => rfl) (fun _ _ => rfl)
          rw [x_asB, x_fBin, x_fVar (d := .int c) rfl]
          simp only
          rw [x_fVarBO (xs := intsD acc) rfl]
          simp only [oNotIn_ints, x_lf_some, isB_bool]
        have hm2 := x_fMut (op := mExtend) (i := 2) (fs := fCons (fList (fLc [4] (fF oSeq (fVar 3)) (gaN 4) (asB (fBin oNotIn (fVar 4) (fVarB 2))) (fVar 4))) fNil) (ρ := [some (.val (famD F)), some (.val (famD S)), some (.own (intsD acc)), some (.val (lotD l)), none]) (ρ1 := [some (.val (famD F)), some (.val (famD S)), some (.own (intsD acc)), some (.val (lotD l)), none]) (ds := [.list (intsD (l.filter fun c => decide (c ∉ acc)))]) (xs := intsD acc) (ys := intsD (acc ++ l.filter fun c => decide (c ∉ acc))) rfl (by
          rw [x_fCons, x_fList, hc]
          rfl) rfl (by
          show (if (intsD acc).length + (intsD (l.filter fun c => decide (c ∉ acc))).length ≤ sizeLine then some (intsD acc ++ intsD (l.filter fun c => decide (c ∉ acc))) else none) = _
          rw [if_pos]
          · rw [intsD, intsD, intsD, List.map_append]
          · rw [intsD, intsD, List.length_map, List.length_map]
            have := List.length_filter_le (fun c => decide (c ∉ acc)) l
            exact Nat.le_of_lt (big (by omega)))
        refine (x_sSeq (ρ1 := [some (.val (famD F)), some (.val (famD S)), some (.own (intsD (acc ++ l.filter fun c => decide (c ∉ acc)))), some (.val (lotD l)), none]) ?_).trans rfl
        rw [x_sDrop, hm2]
        rfl
      · rw [List.nodup_append]
        refine ⟨hnd, (hn l hlF).filter _, fun a ha b hb => ?_⟩
        have := (List.mem_filter.mp hb).2
        exact fun z => by rw [← z] at this; simp at this; exact this ha
      · rw [List.mem_append, List.mem_filter, List.flatten_append, List.mem_append, ← hm c]
        simp only [List.flatten_cons, List.flatten_nil, List.append_nil, decide_eq_true_iff]
        constructor
        · rintro (h | ⟨h, _⟩)
          · exact .inl h
          · exact .inr h
        · rintro (h | h)
          · exact .inl h
          · by_cases hc : c ∈ acc
            · exact .inl hc
            · exact .inr ⟨h, hc⟩)
    rw [List.append_nil] at e3
    subst e3
    exact ⟨ρ', e1, acc, x, e2, e4, e5⟩
  obtain ⟨ρ', e1, acc, x, rfl, hnd, hm⟩ := hloop
  have es : sortI acc = sdI F.flatten := by
    refine sdI_unique ?_ fun c => ((sortI_perm acc).mem_iff).trans (hm c)
    have h2 : (sortI acc).Nodup := (sortI_perm acc).nodup_iff.mpr hnd
    exact ((sortI_sorted acc).and h2).imp fun h => (by have h1 := h.1; have h2 := h.2; omega)
  have hfin : ∃ ρ2, fLc [4] (fF oSeq (fVar 2)) (gaN 4) (asB (fBin oEq (fList (fLc [3] (fF oSeq (fVar 0)) (gaN 3) (fAndT (asB (fBin oIn (fVar 4) (fVarB 3))) (asB (fBin oNotIn (fVar 3) (fVarB 1)))) (fVar 3))) (fList fNil))) (fVar 4) [some (.val (famD F)), some (.val (famD S)), some (.own (intsD (sdI F.flatten))), x, none] = some (intsD (closingL F S), ρ2) := by
    obtain ⟨ρ2, e, _⟩ := lc_filterI (as := sdI F.flatten) (ρ1 := [some (.val (famD F)), some (.val (famD S)), some (.val (.list (intsD (sdI F.flatten)))), x, none]) (vs := [4]) (fi := fF oSeq (fVar 2)) (ga := gaN 4) (ft := asB (fBin oEq (fList (fLc [3] (fF oSeq (fVar 0)) (gaN 3) (fAndT (asB (fBin oIn (fVar 4) (fVarB 3))) (asB (fBin oNotIn (fVar 3) (fVarB 1)))) (fVar 3))) (fList fNil))) (fe := fVar 4) (ρ := [some (.val (famD F)), some (.val (famD S)), some (.own (intsD (sdI F.flatten))), x, none]) PyData.int PyData.int (shut F S) (fun ρ => ∃ y, ρ = [some (.val (famD F)), some (.val (famD S)), some (.val (.list (intsD (sdI F.flatten)))), y, none])
      (by rw [x_fF, x_fVarO rfl]; rfl) (by
        have := (sortI_perm acc).length_eq
        rw [es] at this
        have := hacc (done := F) hnd hm ⟨[], by simp⟩
        omega) ⟨x, rfl⟩ (by
      rintro c hc ρ ⟨y, rfl⟩
      have hin : fLc [3] (fF oSeq (fVar 0)) (gaN 3) (fAndT (asB (fBin oIn (fVar 4) (fVarB 3))) (asB (fBin oNotIn (fVar 3) (fVarB 1)))) (fVar 3) [some (.val (famD F)), some (.val (famD S)), some (.val (.list (intsD (sdI F.flatten)))), y, some (.val (.int c))] = some (lotsD (F.filter fun l => decide (c ∈ l) && decide (l ∉ S)), [some (.val (famD F)), some (.val (famD S)), some (.val (.list (intsD (sdI F.flatten)))), none, some (.val (.int c))]) := by
        refine lc_filter (as := F) (ρ1 := [some (.val (famD F)), some (.val (famD S)), some (.val (.list (intsD (sdI F.flatten)))), y, some (.val (.int c))]) lotD lotD (fun l => decide (c ∈ l) && decide (l ∉ S)) (fun l => [some (.val (famD F)), some (.val (famD S)), some (.val (.list (intsD (sdI F.flatten)))), some (.val (lotD l)), some (.val (.int c))]) (seqv rfl rfl) (by omega) (fun _ _ => rfl) (fun l _ => ?_) (fun _ _ _ => rfl) (fun _ _ => rfl)
        have q1 : asB (fBin oIn (fVar 4) (fVarB 3)) [some (.val (famD F)), some (.val (famD S)), some (.val (.list (intsD (sdI F.flatten)))), some (.val (lotD l)), some (.val (.int c))] = some (decide (c ∈ l), [some (.val (famD F)), some (.val (famD S)), some (.val (.list (intsD (sdI F.flatten)))), some (.val (lotD l)), some (.val (.int c))]) := by
          rw [x_asB, x_fBin, x_fVar (d := .int c) rfl]
          simp only
          rw [x_fVarB (d := lotD l) rfl]
          simp only [oIn_lot, x_lf_some, isB_bool]
        have q2 : asB (fBin oNotIn (fVar 3) (fVarB 1)) [some (.val (famD F)), some (.val (famD S)), some (.val (.list (intsD (sdI F.flatten)))), some (.val (lotD l)), some (.val (.int c))] = some (decide (l ∉ S), [some (.val (famD F)), some (.val (famD S)), some (.val (.list (intsD (sdI F.flatten)))), some (.val (lotD l)), some (.val (.int c))]) := by
          rw [x_asB, x_fBin, x_fVar (d := lotD l) rfl]
          simp only
          rw [x_fVarB (d := famD S) rfl]
          simp only [oNotIn_fam, x_lf_some, isB_bool]
        rw [x_fAndT, q1]
        simp only
        by_cases hcl : c ∈ l
        · rw [if_pos (by simpa using hcl), q2]
          simp [hcl]
        · rw [if_neg (by simpa using hcl)]
          simp [hcl]
      have ht : asB (fBin oEq (fList (fLc [3] (fF oSeq (fVar 0)) (gaN 3) (fAndT (asB (fBin oIn (fVar 4) (fVarB 3))) (asB (fBin oNotIn (fVar 3) (fVarB 1)))) (fVar 3))) (fList fNil)) [some (.val (famD F)), some (.val (famD S)), some (.val (.list (intsD (sdI F.flatten)))), y, some (.val (.int c))] = some (shut F S c, [some (.val (famD F)), some (.val (famD S)), some (.val (.list (intsD (sdI F.flatten)))), none, some (.val (.int c))]) := by
        rw [x_asB, x_fBin, x_fList, hin]
        simp only
        rw [x_fList, x_fNil]
        simp only
        rw [show (PyData.list ([] : List D)) = .list (lotsD []) from rfl, oEq_lotsL]
        simp only [x_lf_some, isB_bool]
        rw [open_eq]
      refine ⟨[some (.val (famD F)), some (.val (famD S)), some (.val (.list (intsD (sdI F.flatten)))), none, some (.val (.int c))], ?_, none, rfl⟩
      by_cases hs : shut F S c = true
      · rw [if_pos hs]
        rw [hs] at ht
        exact x_turn (ρ1 := [some (.val (famD F)), some (.val (famD S)), some (.val (.list (intsD (sdI F.flatten)))), y, some (.val (.int c))]) rfl ht rfl
      · rw [if_neg hs]
        rw [show shut F S c = false by simpa using hs] at ht
        exact x_turnN (ρ1 := [some (.val (famD F)), some (.val (famD S)), some (.val (.list (intsD (sdI F.flatten)))), y, some (.val (.int c))]) rfl ht)
    exact ⟨ρ2, e⟩
  obtain ⟨ρ2, e2⟩ := hfin
  refine runP_of (ρ1 := ρ2) ?_
  show g__law_closing [some (.val (famD F)), some (.val (famD S)), none, none, none] = _
  unfold g__law_closing
  refine (x_sSeq (ρ1 := [some (.val (famD F)), some (.val (famD S)), some (.own []), none, none]) ?_).trans ?_
  · exact x_sOwn x_fNil (by simp) (by decide)
  refine (x_sSeq (ρ1 := [some (.val (famD F)), some (.val (famD S)), some (.own (intsD acc)), x, none]) ?_).trans ?_
  · rw [x_sFor, seqv (ds := F.map lotD) rfl rfl]
    exact e1
  refine (x_sSeq (ρ1 := [some (.val (famD F)), some (.val (famD S)), some (.own (intsD (sdI F.flatten))), x, none]) ?_).trans ?_
  · refine x_sOwn (ρ1 := [some (.val (famD F)), some (.val (famD S)), some (.own (intsD acc)), x, none]) ?_ (by simp) (by decide)
    rw [x_fF, x_fVarBO (xs := intsD acc) rfl]
    simp only [oSort_ints, x_lf_some, es]
  refine x_sSeqR ?_
  rw [x_sRet, x_fUn, x_fList]
  simp only [List.map_cons, List.map_nil, e2]
  rfl
end K32
set_option Elab.async false
set_option linter.all false
set_option maxRecDepth 100000
set_option maxHeartbeats 1000000
namespace K32
open PySem PySem.Spec PyProof.Rows L2 PF
theorem asInts_intsD (l : Lot) : asInts (intsD l) = some l := asInts_map l
theorem oAdd_lot (a b : Lot) (h : a.length + b.length < 1000) : oAdd (lotD a) (lotD b) = some (lotD (a ++ b)) := by
  show (if (intsD a).length + (intsD b).length ≤ sizeLine then some (PyData.tuple (intsD a ++ intsD b)) else none) = _
  rw [if_pos, lotD, intsD, intsD, intsD, List.map_append]
  rw [intsD, intsD, List.length_map, List.length_map]
  exact Nat.le_of_lt (big (by omega))
theorem joint_eq (a b : Lot) (h : a.length + b.length < 60) : m__law_joint [lotD a, lotD b] = some (lotD (sdI (a ++ b))) := by
  have hc : fLc [2] (fF oSeq (fBin oAdd (fVar 0) (fVar 1))) (gaN 2) (pr true) (fTup (fCons (fVar 2) (fCons (fC (.int 1)) fNil))) [some (.val (lotD a)), some (.val (lotD b)), none] = some ((a ++ b).map (fun c => .tuple [.int c, .int 1]), [some (.val (lotD a)), some (.val (lotD b)), none]) := by
    refine lc_map (as := a ++ b) (ρ1 := [some (.val (lotD a)), some (.val (lotD b)), none]) PyData.int (fun c => .tuple [.int c, .int 1]) (fun c => [some (.val (lotD a)), some (.val (lotD b)), some (.val (.int c))]) ?_ (by rw [List.length_append]; omega) (fun _ _ => rfl) (fun _ _ => rfl) (fun _ _ => rfl)
    rw [x_fF, x_fBin, x_fVar (d := lotD a) rfl]
    simp only
    rw [x_fVar (d := lotD b) rfl]
    simp only [oAdd_lot a b (by omega), x_lf_some]
    rfl
  refine runP_of (ρ1 := [some (.val (lotD a)), some (.val (lotD b)), none]) ?_
  show g__law_joint [some (.val (lotD a)), some (.val (lotD b)), none] = _
  unfold g__law_joint
  refine x_sSeqR ?_
  rw [x_sRet, x_fUn, x_fList, x_fF, x_fList]
  simp only [List.map_cons, List.map_nil, hc]
  have hk : ∀ l : Lot, pairsK (l.map fun c => PyData.tuple [.int c, .int 1]) = some l := fun l => by
    induction l with
    | nil => rfl
    | cons c l ih =>
      rw [List.map_cons]
      unfold pairsK
      rw [ih]
      rfl
  have h64 : (ddI (a ++ b)).length < 64 := by
    have := nodup_len (b := a ++ b) (ddI_nodup (a ++ b)) fun x hx => ddI_mem.mp hx
    rw [List.length_append] at this
    omega
  have ho : oSortDI (.list ((a ++ b).map fun c => PyData.tuple [.int c, .int 1])) = some (intsD (sdI (a ++ b))) := by
    show ((pairsK _).bind fun ks => if (ddI ks).length < 64 then some ((sdI ks).map PyData.int) else none) = _
    rw [hk, Option.bind_some, if_pos h64]
    rfl
  rw [ho]
  rfl
theorem consonant_eq (F S : List Lot) (hF : F.length < 1000) (h64 : (ddI F.flatten).length < 64) : m_consonant [famD F, famD S] = some (.bool (decide (S = marksL F (closingL F S)))) := by
  refine runP_of (ρ1 := [some (.val (famD F)), some (.val (famD S))]) ?_
  show g_consonant [some (.val (famD F)), some (.val (famD S))] = _
  unfold g_consonant
  refine x_sSeqR ?_
  have h1 : fCons (fVar 0) (fCons (fVar 1) fNil) [some (.val (famD F)), some (.val (famD S))] = some ([famD F, famD S], [some (.val (famD F)), some (.val (famD S))]) := rfl
  have h2 : fCall m_closing (fCons (fVar 0) (fCons (fVar 1) fNil)) [some (.val (famD F)), some (.val (famD S))] = some (lotD (closingL F S), [some (.val (famD F)), some (.val (famD S))]) := by
    rw [x_fCall, h1]
    simp only [closing_eq F S hF h64, x_lf_some]
  have h3 : fCall m_marks (fCons (fVar 0) (fCons (fCall m_closing (fCons (fVar 0) (fCons (fVar 1) fNil))) fNil)) [some (.val (famD F)), some (.val (famD S))] = some (famD (marksL F (closingL F S)), [some (.val (famD F)), some (.val (famD S))]) := by
    rw [x_fCall, x_fCons, x_fVar (d := famD F) rfl]
    simp only
    rw [x_fCons, h2]
    simp only [x_fNil, marks_eq F _ hF, x_lf_some]
  rw [x_sRet, x_fBin, x_fVar (d := famD S) rfl]
  simp only [h3, oEq_fam, x_lf_some]
theorem wider_eq (F : List Lot) (t : Lot) (hF : F.length < 1000) (h64 : (ddI F.flatten).length < 32) (ht : t.length < 32) : m_wider [famD F, lotD t] = some (lotD (sdI (closingL F (marksL F t) ++ t))) := by
  have hlen : (closingL F (marksL F t)).length < 32 := by
    refine Nat.lt_of_le_of_lt (List.length_filter_le _ _) ?_
    unfold sdI
    rw [(sortI_perm _).length_eq]
    exact h64
  have h1 : fCons (fVar 0) (fCons (fVar 1) fNil) [some (.val (famD F)), some (.val (lotD t)), none] = some ([famD F, lotD t], [some (.val (famD F)), some (.val (lotD t)), none]) := rfl
  have h2 : fCall m_marks (fCons (fVar 0) (fCons (fVar 1) fNil)) [some (.val (famD F)), some (.val (lotD t)), none] = some (famD (marksL F t), [some (.val (famD F)), some (.val (lotD t)), none]) := by
    rw [x_fCall, h1]
    simp only [marks_eq F t hF, x_lf_some]
  have h3 : fCall m_closing (fCons (fVar 0) (fCons (fCall m_marks (fCons (fVar 0) (fCons (fVar 1) fNil))) fNil)) [some (.val (famD F)), some (.val (lotD t)), none] = some (lotD (closingL F (marksL F t)), [some (.val (famD F)), some (.val (lotD t)), none]) := by
    rw [x_fCall, x_fCons, x_fVar (d := famD F) rfl]
    simp only
    rw [x_fCons, h2]
    simp only [x_fNil, closing_eq F _ hF (by omega), x_lf_some]
  refine runP_of (ρ1 := [some (.val (famD F)), some (.val (lotD t)), some (.val (lotD (closingL F (marksL F t))))]) ?_
  show g_wider [some (.val (famD F)), some (.val (lotD t)), none] = _
  unfold g_wider
  refine (x_sSeq (ρ1 := [some (.val (famD F)), some (.val (lotD t)), some (.val (lotD (closingL F (marksL F t))))]) ?_).trans ?_
  · rw [x_sAsg, h3]
    rfl
  refine x_sSeqR ?_
  have hz : fSortZ (fSetT (fBin oAdd (fVar 2) (fVar 1))) [some (.val (famD F)), some (.val (lotD t)), some (.val (lotD (closingL F (marksL F t))))] = some (intsD (sdI (closingL F (marksL F t) ++ t)), [some (.val (famD F)), some (.val (lotD t)), some (.val (lotD (closingL F (marksL F t))))]) := by
    unfold fSortZ fSetT
    rw [x_bd, x_bd, x_fBin, x_fVar (d := lotD (closingL F (marksL F t))) rfl]
    simp only
    rw [x_fVar (d := lotD t) rfl]
    have ha : oAdd (lotD (closingL F (marksL F t))) (lotD t) = some (lotD (closingL F (marksL F t) ++ t)) := oAdd_lot _ t (by omega)
    simp only [ha, x_lf_some]
    have : oSetT (lotD (closingL F (marksL F t) ++ t)) = some (closingL F (marksL F t) ++ t, (closingL F (marksL F t) ++ t).length) := by
      show ((asInts (intsD _)).bind fun ns => if ns.length < 64 then some (ns, ns.length) else none) = _
      rw [asInts_intsD, Option.bind_some, if_pos (by rw [List.length_append]; omega)]
    rw [this]
    simp only [x_lf_some]
    rw [if_pos (by rw [List.length_append]; omega)]
    rfl
  rw [x_sRet, x_fUn, x_fList, hz]
  rfl
/-! ### alike -/
theorem k_tt : kitB "tuple" "tuple" = some true := by kernel_rfl
theorem k_it : kitB "int" "tuple" = some false := by kernel_rfl
theorem k_bt : kitB "bool" "tuple" = some false := by kernel_rfl
theorem k_is : kitB "int" "str" = some false := by kernel_rfl
theorem k_bs : kitB "bool" "str" = some false := by kernel_rfl
theorem k_ib : kitB "int" "bool" = some false := by kernel_rfl
theorem k_bb : kitB "bool" "bool" = some true := by kernel_rfl
theorem k_ii : kitB "int" "int" = some true := by kernel_rfl
theorem isi {n t : String} {d : D} {b : Bool} (h1 : tyD d = some t) (h2 : kitB t n = some b) : oIsi n d = some (.bool b) := by
  unfold oIsi
  rw [h1, Option.bind_some, h2]
  rfl
theorem atI_at {α : Type} {xs : List α} {i : Nat} (h : i < xs.length) : L2.atI xs (i : Int) = xs[i]? := by
  unfold L2.atI
  have : ixN xs.length (i : Int) = some i := by
    unfold ixN
    rw [if_pos (by omega)]
    simp [h]
  rw [this]
  rfl
theorem rngI_nat {n : Nat} (h : n < 100000) : oRngI (.int (n : Int)) = some ((List.range n).map fun i : Nat => PyData.int (0 + (i : Int))) := by
  unfold oRngI
  simp only
  rw [if_pos ⟨by omega, by omega⟩]
  unfold rngD
  rw [Int.sub_zero, Int.toNat_natCast]
/-- what is alike to itself -/
inductive Al : Nat → D → Prop
  | int {j : Nat} (i : Int) : Al (j + 1) (.int i)
  | bool {j : Nat} (b : Bool) : Al (j + 1) (.bool b)
  | tuple {j : Nat} {ds : List D} (h : ∀ d ∈ ds, Al j d) (hl : ds.length < 1000) : Al (j + 1) (.tuple ds)
theorem all_tt (n : Nat) : oAll (.list ((List.range n).map fun _ => PyData.bool true)) = some (.bool true) := by
  have e : (List.range n).map (fun _ => PyData.bool true) = ((List.range n).map fun _ => true).map PyData.bool := by rw [List.map_map]; rfl
  rw [e]
  unfold oAll
  simp only [asBools_map, Option.map_some]
  congr 2
  rw [List.all_eq_true]
  intro x hx
  obtain ⟨_, _, rfl⟩ := List.mem_map.mp hx
  rfl
theorem alike_int (rec : List D → Option D) (i : Int) : runP 3 (g__law_alike rec) [.int i, .int i] = some (.bool true) := by
  refine runP_of (ρ1 := [some (.val (.int i)), some (.val (.int i)), none]) ?_
  show g__law_alike (rec) [some (.val (.int i)), some (.val (.int i)), none] = _
  unfold g__law_alike
  have e1 := isi (n := "tuple") (d := .int i) rfl k_it
  have e2 := isi (n := "str") (d := .int i) rfl k_is
  have e3 := isi (n := "bool") (d := .int i) rfl k_ib
  have e4 := isi (n := "int") (d := .int i) rfl k_ii
  refine (x_sSeq (ρ1 := [some (.val (.int i)), some (.val (.int i)), none]) ?_).trans ?_
  · rw [x_sIf, x_fTru, x_fUn, x_fVarB (d := .int i) rfl]
    simp only [e1, x_lf_some, truD]
    rfl
  refine (x_sSeq (ρ1 := [some (.val (.int i)), some (.val (.int i)), none]) ?_).trans ?_
  · rw [x_sIf, x_asB, x_fBin, x_fVar (d := .int i) rfl]
    rfl
  refine (x_sSeq (ρ1 := [some (.val (.int i)), some (.val (.int i)), none]) ?_).trans ?_
  · rw [x_sIf, x_fTru, x_fUn, x_fVarB (d := .int i) rfl]
    simp only [e2, x_lf_some, truD]
    rfl
  refine (x_sSeq (ρ1 := [some (.val (.int i)), some (.val (.int i)), none]) ?_).trans ?_
  · rw [x_sIf, x_fTru, x_fUn, x_fVarB (d := .int i) rfl]
    simp only [e3, x_lf_some, truD]
    rfl
  refine x_sSeqR ?_
  rw [x_sRet, x_fAnd, x_asB, x_fUn, x_fVarB (d := .int i) rfl]
  simp only [e4, x_lf_some, isB_bool, if_true]
  rw [x_fAnd, x_asB, x_fNot, x_asB, x_fUn, x_fVarB (d := .int i) rfl]
  simp only [e3, x_lf_some, isB_bool]
  simp only [Bool.not_false, isB_bool, x_lf_some, if_true]
  rw [x_fBin, x_fVar (d := .int i) rfl]
  simp only
  rw [x_fVarB (d := .int i) rfl]
  simp [oEq_int]
theorem alike_bool (rec : List D → Option D) (b : Bool) : runP 3 (g__law_alike rec) [.bool b, .bool b] = some (.bool true) := by
  refine runP_of (ρ1 := [some (.val (.bool b)), some (.val (.bool b)), none]) ?_
  show g__law_alike (rec) [some (.val (.bool b)), some (.val (.bool b)), none] = _
  unfold g__law_alike
  have e1 := isi (n := "tuple") (d := .bool b) rfl k_bt
  have e2 := isi (n := "str") (d := .bool b) rfl k_bs
  have e3 := isi (n := "bool") (d := .bool b) rfl k_bb
  refine (x_sSeq (ρ1 := [some (.val (.bool b)), some (.val (.bool b)), none]) ?_).trans ?_
  · rw [x_sIf, x_fTru, x_fUn, x_fVarB (d := .bool b) rfl]
    simp only [e1, x_lf_some, truD]
    rfl
  refine (x_sSeq (ρ1 := [some (.val (.bool b)), some (.val (.bool b)), none]) ?_).trans ?_
  · rw [x_sIf, x_asB, x_fBin, x_fVar (d := .bool b) rfl]
    rfl
  refine (x_sSeq (ρ1 := [some (.val (.bool b)), some (.val (.bool b)), none]) ?_).trans ?_
  · rw [x_sIf, x_fTru, x_fUn, x_fVarB (d := .bool b) rfl]
    simp only [e2, x_lf_some, truD]
    rfl
  refine x_sSeqR ?_
  rw [x_sIf, x_fTru, x_fUn, x_fVarB (d := .bool b) rfl]
  simp only [e3, x_lf_some, truD, if_true]
  refine x_sSeqR ?_
  rw [x_sRet, x_fAnd, x_asB, x_fUn, x_fVarB (d := .bool b) rfl]
  simp only [e3, x_lf_some, isB_bool, if_true]
  rw [x_fBin, x_fVar (d := .bool b) rfl]
  simp only
  rw [x_fVarB (d := .bool b) rfl]
  cases b <;> rfl
theorem alike_tup (rec : List D → Option D) (ds : List D) (hd : ∀ d ∈ ds, rec [d, d] = some (.bool true)) (hl : ds.length < 1000) : runP 3 (g__law_alike rec) [.tuple ds, .tuple ds] = some (.bool true) := by
  refine runP_of (ρ1 := [some (.val (.tuple ds)), some (.val (.tuple ds)), none]) ?_
  show g__law_alike (rec) [some (.val (.tuple ds)), some (.val (.tuple ds)), none] = _
  unfold g__law_alike
  have e1 := isi (n := "tuple") (d := .tuple ds) rfl k_tt
  refine x_sSeqR ?_
  rw [x_sIf, x_fTru, x_fUn, x_fVarB (d := .tuple ds) rfl]
  simp only [e1, x_lf_some, truD, if_true]
  refine (x_sSeq (ρ1 := [some (.val (.tuple ds)), some (.val (.tuple ds)), none]) ?_).trans ?_
  · rw [x_sIf, x_fOrT, x_fNotT, x_fTru, x_fUn, x_fVarB (d := .tuple ds) rfl]
    simp only [e1, x_lf_some, truD]
    rw [if_neg (by decide), x_asB, x_fBin, x_fUn, x_fVarB (d := .tuple ds) rfl]
    simp only [oLen, x_lf_some]
    rw [x_fUn, x_fVarB (d := .tuple ds) rfl]
    simp only [oLen, x_lf_some, oNe_int, isB_bool]
    simp
  refine x_sSeqR ?_
  have hc : fLc [2] (fF oRngI (fUn oLen (fVarB 1))) (gaN 2) (pr true) (fCall (rec) (fCons (fIxN 0 (fVar 2)) (fCons (fIxN 1 (fVar 2)) fNil))) [some (.val (.tuple ds)), some (.val (.tuple ds)), none] = some ((List.range ds.length).map (fun _ => PyData.bool true), [some (.val (.tuple ds)), some (.val (.tuple ds)), none]) := by
    refine lc_map (as := List.range ds.length) (ρ1 := [some (.val (.tuple ds)), some (.val (.tuple ds)), none]) (fun i : Nat => PyData.int (0 + (i : Int))) (fun _ => .bool true) (fun i => [some (.val (.tuple ds)), some (.val (.tuple ds)), some (.val (.int (0 + (i : Int))))]) ?_ (by rw [List.length_range]; omega) (fun _ _ => rfl) (fun i hi => ?_) (fun _ _ => rfl)
    · rw [x_fF, x_fUn, x_fVarB (d := .tuple ds) rfl]
      simp only [oLen, x_lf_some]
      rw [rngI_nat (by omega)]
      simp only [x_lf_some]
    · have hi' := List.mem_range.mp hi
      have ex : oIx (.tuple ds) (.int (0 + (i : Int))) = some ds[i] := by
        show L2.atI ds (0 + (i : Int)) = _
        rw [Int.zero_add, atI_at hi', List.getElem?_eq_getElem hi']
      have q0 : fIxN 0 (fVar 2) [some (.val (.tuple ds)), some (.val (.tuple ds)), some (.val (.int (0 + (i : Int))))] = some (ds[i], [some (.val (.tuple ds)), some (.val (.tuple ds)), some (.val (.int (0 + (i : Int))))]) := by
        rw [x_fIxN (y := .int (0 + (i : Int))) (x := .tuple ds) (ρ1 := [some (.val (.tuple ds)), some (.val (.tuple ds)), some (.val (.int (0 + (i : Int))))]) rfl rfl rfl, ex, x_lf_some]
      have q1 : fIxN 1 (fVar 2) [some (.val (.tuple ds)), some (.val (.tuple ds)), some (.val (.int (0 + (i : Int))))] = some (ds[i], [some (.val (.tuple ds)), some (.val (.tuple ds)), some (.val (.int (0 + (i : Int))))]) := by
        rw [x_fIxN (y := .int (0 + (i : Int))) (x := .tuple ds) (ρ1 := [some (.val (.tuple ds)), some (.val (.tuple ds)), some (.val (.int (0 + (i : Int))))]) rfl rfl rfl, ex, x_lf_some]
      rw [x_fCall, x_fCons, q0]
      simp only
      rw [x_fCons, q1]
      simp only [x_fNil]
      rw [hd _ (List.getElem_mem hi')]
      rfl
  rw [x_sRet, x_fUn, x_fList]
  rw [show List.map (fun x => x.snd) ([(Str.ofString "k", 2)] : List (Str × Nat)) = [2] from rfl, hc]
  generalize [some (Cel.val (PyData.tuple ds)), some (Cel.val (PyData.tuple ds)), none] = ρ0
  show (match lf (oAll (.list (List.map (fun _ => PyData.bool true) (List.range ds.length)))) ρ0 with
    | some (d, ρ1) => some (Out.rt d, ρ1)
    | none => none) = _
  rw [all_tt, x_lf_some]
theorem alike_refl : ∀ (j : Nat) (x : D), Al j x → m__law_alike j [x, x] = some (.bool true)
  | 0, x, h => by cases h
  | j + 1, x, h => by
    cases h with
    | int i => exact alike_int _ i
    | bool b => exact alike_bool _ b
    | tuple hd hl => exact alike_tup _ _ (fun d hdm => alike_refl j d (hd d hdm)) hl
theorem al_lot {j : Nat} (l : Lot) (hl : l.length < 1000) : Al (j + 2) (lotD l) := .tuple (fun d hd => by
  obtain ⟨i, _, rfl⟩ := List.mem_map.mp hd
  exact .int i) (by rw [intsD, List.length_map]; exact hl)
theorem al_fam {j : Nat} (F : List Lot) (hF : F.length < 1000) (hl : ∀ l ∈ F, l.length < 1000) : Al (j + 3) (famD F) := .tuple (fun d hd => by
  obtain ⟨l, h, rfl⟩ := List.mem_map.mp hd
  exact al_lot l (hl l h)) (by rw [lotsD, List.length_map]; exact hF)
end K32
set_option Elab.async false
set_option linter.all false
set_option maxRecDepth 100000
set_option maxHeartbeats 1000000
namespace K32
open PySem PySem.Spec PyProof.Rows L2 PF
/-! ### draws -/
def deckD (cells : Lot) (p a b c s : Int) : List D := [.list (intsD cells), .int p, .int a, .int b, .int c, .int s]
/-- a deck from which k more draws may be taken -/
def DeckOk (k : Nat) (xs : List D) : Prop := ∃ (cells : Lot) (p a b c s : Int), xs = deckD cells p a b c s ∧ 0 ≤ p ∧ 0 ≤ c ∧ c + k ≤ 1000000 ∧ 0 ≤ s ∧ s < 2000000000
theorem DeckOk.less {k j : Nat} {xs : List D} (h : DeckOk k xs) (hj : j ≤ k) : DeckOk j xs := by
  obtain ⟨cells, p, a, b, c, s, e, h1, h2, h3, h4, h5⟩ := h
  exact ⟨cells, p, a, b, c, s, e, h1, h2, by omega, h4, h5⟩
theorem log_lt {n k : Nat} (h : n < 2 ^ k) (hk : 0 < k) : n.log2 < k := by
  by_cases h0 : n = 0
  · rw [h0]
    simpa using hk
  · exact (Nat.log2_lt h0).mpr h
theorem mul_ok {i j : Int} (hi : i.natAbs < 2 ^ 100) (hj : j.natAbs < 2 ^ 100) : oMul (.int i) (.int j) = some (.int (i * j)) := by
  show (if mulOk i j = true then some (PyData.int (i * j)) else none) = _
  rw [if_pos]
  unfold mulOk
  rw [decide_eq_true_iff]
  have h1 := log_lt hi (by decide)
  have h2 := log_lt hj (by decide)
  omega
theorem mod_ok {i j : Int} (hj : 0 < j) : oMod (.int i) (.int j) = some (.int (i % j)) := by
  show (if 0 < j then some (PyData.int (i % j)) else none) = _
  rw [if_pos hj]
theorem div_ok {i j : Int} (hj : 0 < j) (h2 : j.natAbs < 2 ^ 100) : oDiv (.int i) (.int j) = some (.int (i / j)) := by
  show (if 0 < j ∧ j.natAbs.log2 < 9000 then some (PyData.int (i / j)) else none) = _
  rw [if_pos ⟨hj, by have := log_lt h2 (by decide); omega⟩]
theorem pow_ok : oPow (.int 10) (.int 18) = some (.int 1000000000000000000) := by kernel_rfl
theorem ixD {xs : List D} {ρ : Sl} {j : Int} {d : D} (h0 : ρ[(0 : Nat)]? = some (some (.own xs))) (h : oIx (.list xs) (.int j) = some d) : fIxN 0 (fC (.int j)) ρ = some (d, ρ) := by
  rw [x_fIxN (y := .int j) (x := .list xs) (ρ1 := ρ) (by unfold hasS; rw [h0]) rfl (by unfold celD; rw [h0]), h, x_lf_some]
theorem ix0 (cells : Lot) (p a b c s : Int) : oIx (.list (deckD cells p a b c s)) (.int 0) = some (.list (intsD cells)) := rfl
theorem ix1 (cells : Lot) (p a b c s : Int) : oIx (.list (deckD cells p a b c s)) (.int 1) = some (.int p) := rfl
theorem ix2 (cells : Lot) (p a b c s : Int) : oIx (.list (deckD cells p a b c s)) (.int 2) = some (.int a) := rfl
theorem ix3 (cells : Lot) (p a b c s : Int) : oIx (.list (deckD cells p a b c s)) (.int 3) = some (.int b) := rfl
theorem ix4 (cells : Lot) (p a b c s : Int) : oIx (.list (deckD cells p a b c s)) (.int 4) = some (.int c) := rfl
theorem ix5 (cells : Lot) (p a b c s : Int) : oIx (.list (deckD cells p a b c s)) (.int 5) = some (.int s) := rfl
theorem x_sSet {i j : Nat} {k : Int} {f fk : M D} {ρ ρ1 : Sl} {d : D} {xs : List D} (h0 : hasS ρ i = true) (h1 : f ρ = some (d, ρ1)) (h2 : fk ρ1 = some (.int k, ρ1)) (h3 : ρ1[i]? = some (some (.own xs))) (h4 : ixN xs.length k = some j) : sSet i f fk ρ = some (.nx, ρ1.set i (some (.own (xs.set j d)))) := by
  unfold sSet
  rw [if_pos h0, h1]
  simp only
  rw [h2]
  simp only
  rw [h3]
  simp only [h4, Option.map_some]
/-- the first part: a cell may be taken -/
theorem draw_1 (cells : Lot) (p a b c s m : Int) (hp : 0 ≤ p) : ∃ (p' a' b' : Int) (x : Option Cel), 0 ≤ p' ∧
    sIf (fAndT (asB (fBin oEq (fIxN 0 (fC (.int 3))) (fC (.int 0)))) (asB (fBin oLt (fIxN 0 (fC (.int 1))) (fUn oLen (fIxN 0 (fC (.int 0))))))) (sSeq (sAsg (fBin oIx (fIxN 0 (fC (.int 0))) (fIxN 0 (fC (.int 1)))) (gaN 2))
    (sSeq (sSet 0 (fBin oAdd (fIxN 0 (fC (.int 1))) (fC (.int 1))) (fC (.int 1)))
    (sSeq (sIf (asB (fBin oGe (fVar 2) (fBin oPow (fC (.int 10)) (fC (.int 18))))) (sSeq (sSet 0 (fBin oSub (fVar 2) (fBin oPow (fC (.int 10)) (fC (.int 18)))) (fC (.int 2)))
    (sSeq (sSet 0 (fC (.int 60)) (fC (.int 3)))
    sNx)) sNx)
    sNx))) sNx [some (.own (deckD cells p a b c s)), some (.val (.int m)), none, none, none, none] = some (.nx, [some (.own (deckD cells p' a' b' c s)), some (.val (.int m)), x, none, none, none]) := by
  have i0 := ixD (ρ := [some (.own (deckD cells p a b c s)), some (.val (.int m)), none, none, none, none]) rfl (ix0 cells p a b c s)
  have i1 := ixD (ρ := [some (.own (deckD cells p a b c s)), some (.val (.int m)), none, none, none, none]) rfl (ix1 cells p a b c s)
  have i3 := ixD (ρ := [some (.own (deckD cells p a b c s)), some (.val (.int m)), none, none, none, none]) rfl (ix3 cells p a b c s)
  rw [x_sIf, x_fAndT, x_asB, x_fBin, i3]
  simp only [x_fC, oEq_int, x_lf_some, isB_bool]
  by_cases hb : b = 0
  · rw [if_pos (by simpa using hb), x_asB, x_fBin, i1]
    simp only
    rw [x_fUn, i0]
    simp only [oLen, x_lf_some, oLt, isB_bool]
    by_cases hl : p < ((intsD cells).length : Nat)
    · rw [if_pos (by simpa using hl)]
      have ec : ∃ cell : Int, oIx (.list (intsD cells)) (.int p) = some (.int cell) := by
        obtain ⟨q, hq⟩ := Int.eq_ofNat_of_zero_le hp
        have hl' : q < cells.length := by
          rw [intsD, List.length_map] at hl
          omega
        refine ⟨cells[q], ?_⟩
        show L2.atI (intsD cells) p = _
        rw [hq, atI_at (by rw [intsD, List.length_map]; exact hl'), intsD, List.getElem?_map, List.getElem?_eq_getElem hl']
        rfl
      obtain ⟨cell, ec⟩ := ec
      have s1 : sAsg (fBin oIx (fIxN 0 (fC (.int 0))) (fIxN 0 (fC (.int 1)))) (gaN 2) [some (.own (deckD cells p a b c s)), some (.val (.int m)), none, none, none, none] = some (.nx, [some (.own (deckD cells p a b c s)), some (.val (.int m)), some (.val (.int cell)), none, none, none]) := by
        rw [x_sAsg, x_fBin, i0]
        simp only
        rw [i1]
        simp only [ec, x_lf_some]
        rfl
      have s2 : sSet 0 (fBin oAdd (fIxN 0 (fC (.int 1))) (fC (.int 1))) (fC (.int 1)) [some (.own (deckD cells p a b c s)), some (.val (.int m)), some (.val (.int cell)), none, none, none] = some (.nx, [some (.own (deckD cells (p + 1) a b c s)), some (.val (.int m)), some (.val (.int cell)), none, none, none]) := by
        refine x_sSet (j := 1) (k := 1) (xs := deckD cells p a b c s) (d := .int (p + 1)) (ρ1 := [some (.own (deckD cells p a b c s)), some (.val (.int m)), some (.val (.int cell)), none, none, none]) rfl ?_ rfl rfl rfl
        rw [x_fBin, ixD rfl (ix1 cells p a b c s)]
        rfl
      have e18 : fBin oPow (fC (.int 10)) (fC (.int 18)) [some (.own (deckD cells (p + 1) a b c s)), some (.val (.int m)), some (.val (.int cell)), none, none, none] = some (.int 1000000000000000000, [some (.own (deckD cells (p + 1) a b c s)), some (.val (.int m)), some (.val (.int cell)), none, none, none]) := by
        rw [x_fBin, x_fC]
        simp only [x_fC, pow_ok, x_lf_some]
      by_cases hge : (1000000000000000000 : Int) ≤ cell
      · refine ⟨p + 1, cell - 1000000000000000000, 60, some (.val (.int cell)), by omega, ?_⟩
        refine (x_sSeq s1).trans ((x_sSeq s2).trans ((x_sSeq (ρ1 := [some (.own (deckD cells (p + 1) (cell - 1000000000000000000) 60 c s)), some (.val (.int m)), some (.val (.int cell)), none, none, none]) ?_).trans rfl))
        rw [x_sIf, x_asB, x_fBin, x_fVar (d := .int cell) rfl]
        simp only [e18, oGe, x_lf_some, isB_bool]
        rw [if_pos (by simpa using hge)]
        refine (x_sSeq (ρ1 := [some (.own (deckD cells (p + 1) (cell - 1000000000000000000) b c s)), some (.val (.int m)), some (.val (.int cell)), none, none, none]) ?_).trans ?_
        · refine x_sSet (j := 2) (k := 2) (xs := deckD cells (p + 1) a b c s) (d := .int (cell - 1000000000000000000)) (ρ1 := [some (.own (deckD cells (p + 1) a b c s)), some (.val (.int m)), some (.val (.int cell)), none, none, none]) rfl ?_ rfl rfl rfl
          rw [x_fBin, x_fVar (d := .int cell) rfl]
          simp only [e18]
          rfl
        refine (x_sSeq (ρ1 := [some (.own (deckD cells (p + 1) (cell - 1000000000000000000) 60 c s)), some (.val (.int m)), some (.val (.int cell)), none, none, none]) ?_).trans rfl
        exact x_sSet (j := 3) (k := 3) (xs := deckD cells (p + 1) (cell - 1000000000000000000) b c s) (d := .int 60) (ρ1 := [some (.own (deckD cells (p + 1) (cell - 1000000000000000000) b c s)), some (.val (.int m)), some (.val (.int cell)), none, none, none]) rfl rfl rfl rfl rfl
      · refine ⟨p + 1, a, b, some (.val (.int cell)), by omega, ?_⟩
        refine (x_sSeq s1).trans ((x_sSeq s2).trans ((x_sSeq (ρ1 := [some (.own (deckD cells (p + 1) a b c s)), some (.val (.int m)), some (.val (.int cell)), none, none, none]) ?_).trans rfl))
        rw [x_sIf, x_asB, x_fBin, x_fVar (d := .int cell) rfl]
        simp only [e18, oGe, x_lf_some, isB_bool]
        rw [if_neg (by simpa using hge)]
        rfl
    · rw [decide_eq_false hl]
      exact ⟨p, a, b, none, hp, rfl⟩
  · rw [if_neg (by simpa using hb)]
    exact ⟨p, a, b, none, hp, rfl⟩
theorem draw_ok {k : Nat} {xs : List D} {m : Int} (h : DeckOk (k + 1) xs) (hm : 0 < m) (hm2 : m < 100000) : ∃ (r : Int) (ys : List D), m__law_draw xs [.int m] = some (.int r, ys) ∧ 0 ≤ r ∧ r < m ∧ DeckOk k ys := by
  obtain ⟨cells, p, a, b, c, s, rfl, hp, hc, hck, hs, hs2⟩ := h
  obtain ⟨p', a', b', x, hp', e1⟩ := draw_1 cells p a b c s m hp
  have hm3 : m.natAbs < 2 ^ 100 := by
    have : m.natAbs < 100000 := by omega
    exact Nat.lt_of_lt_of_le this (by decide)
  by_cases hb : 0 < b'
  · refine ⟨a' % m, deckD cells p' (a' / m) (b' - 1) c s, ?_, Int.emod_nonneg _ (by omega), Int.emod_lt_of_pos _ hm, cells, p', a' / m, b' - 1, c, s, rfl, hp', hc, by omega, hs, hs2⟩
    refine runM_of (ρ1 := [some (.own (deckD cells p' (a' / m) (b' - 1) c s)), some (.val (.int m)), x, some (.val (.int (a' % m))), none, none]) ?_ rfl
    show g__law_draw [some (.own (deckD cells p a b c s)), some (.val (.int m)), none, none, none, none] = _
    unfold g__law_draw
    refine (x_sSeq e1).trans ?_
    refine x_sSeqR ?_
    rw [x_sIf, x_asB, x_fBin, ixD rfl (ix3 cells p' a' b' c s)]
    simp only [x_fC, oGt, x_lf_some, isB_bool]
    rw [if_pos (by simpa using hb)]
    refine (x_sSeq (ρ1 := [some (.own (deckD cells p' a' (b' - 1) c s)), some (.val (.int m)), x, none, none, none]) ?_).trans ?_
    · refine x_sSet (j := 3) (k := 3) (xs := deckD cells p' a' b' c s) (d := .int (b' - 1)) (ρ1 := [some (.own (deckD cells p' a' b' c s)), some (.val (.int m)), x, none, none, none]) rfl ?_ rfl rfl rfl
      rw [x_fBin, ixD rfl (ix3 cells p' a' b' c s)]
      rfl
    refine (x_sSeq (ρ1 := [some (.own (deckD cells p' a' (b' - 1) c s)), some (.val (.int m)), x, some (.val (.int (a' % m))), none, none]) ?_).trans ?_
    · rw [x_sAsg, x_fBin, x_fUn, ixD rfl (ix2 cells p' a' (b' - 1) c s)]
      simp only [oInt, x_lf_some]
      rw [x_fVar (d := .int m) rfl]
      simp only [mod_ok hm, x_lf_some]
      rfl
    refine (x_sSeq (ρ1 := [some (.own (deckD cells p' (a' / m) (b' - 1) c s)), some (.val (.int m)), x, some (.val (.int (a' % m))), none, none]) ?_).trans ?_
    · refine x_sSet (j := 2) (k := 2) (xs := deckD cells p' a' (b' - 1) c s) (d := .int (a' / m)) (ρ1 := [some (.own (deckD cells p' a' (b' - 1) c s)), some (.val (.int m)), x, some (.val (.int (a' % m))), none, none]) rfl ?_ rfl rfl rfl
      rw [x_fBin, ixD rfl (ix2 cells p' a' (b' - 1) c s)]
      simp only
      rw [x_fVar (d := .int m) rfl]
      simp only [div_ok hm hm3, x_lf_some]
    exact x_sSeqR rfl
  · generalize hone : (s * 48271 + (c + 1) * 16807 + 211) % 2147483647 = one
    generalize htwo : (one * one + (c + 1) * 69621 + 97) % 2147483629 = two
    have ho1 : 0 ≤ one ∧ one < 2147483647 := by rw [← hone]; exact ⟨Int.emod_nonneg _ (by decide), Int.emod_lt_of_pos _ (by decide)⟩
    refine ⟨two / 7 % m, deckD cells p' a' b' (c + 1) s, ?_, Int.emod_nonneg _ (by omega), Int.emod_lt_of_pos _ hm, cells, p', a', b', c + 1, s, rfl, hp', by omega, by omega, hs, hs2⟩
    refine runM_of (ρ1 := [some (.own (deckD cells p' a' b' (c + 1) s)), some (.val (.int m)), x, none, some (.val (.int one)), some (.val (.int two))]) ?_ rfl
    show g__law_draw [some (.own (deckD cells p a b c s)), some (.val (.int m)), none, none, none, none] = _
    unfold g__law_draw
    refine (x_sSeq e1).trans ?_
    refine (x_sSeq (ρ1 := [some (.own (deckD cells p' a' b' c s)), some (.val (.int m)), x, none, none, none]) ?_).trans ?_
    · rw [x_sIf, x_asB, x_fBin, ixD rfl (ix3 cells p' a' b' c s)]
      simp only [x_fC, oGt, x_lf_some, isB_bool]
      rw [if_neg (by simpa using hb)]
      rfl
    refine (x_sSeq (ρ1 := [some (.own (deckD cells p' a' b' (c + 1) s)), some (.val (.int m)), x, none, none, none]) ?_).trans ?_
    · refine x_sSet (j := 4) (k := 4) (xs := deckD cells p' a' b' c s) (d := .int (c + 1)) (ρ1 := [some (.own (deckD cells p' a' b' c s)), some (.val (.int m)), x, none, none, none]) rfl ?_ rfl rfl rfl
      rw [x_fBin, ixD rfl (ix4 cells p' a' b' c s)]
      rfl
    have sm : ∀ i : Int, -4000000000 < i → i < 4000000000 → i.natAbs < 2 ^ 100 := fun i h1 h2 => Nat.lt_of_lt_of_le (show i.natAbs < 4000000000 by omega) (by decide)
    have m1 : oMul (.int s) (.int 48271) = some (.int (s * 48271)) := mul_ok (sm _ (by omega) (by omega)) (sm _ (by omega) (by omega))
    have m2 : oMul (.int (c + 1)) (.int 16807) = some (.int ((c + 1) * 16807)) := mul_ok (sm _ (by omega) (by omega)) (sm _ (by omega) (by omega))
    have m3 : oMul (.int (c + 1)) (.int 69621) = some (.int ((c + 1) * 69621)) := mul_ok (sm _ (by omega) (by omega)) (sm _ (by omega) (by omega))
    have m4 : oMul (.int one) (.int one) = some (.int (one * one)) := mul_ok (sm _ (by omega) (by omega)) (sm _ (by omega) (by omega))
    refine (x_sSeq (ρ1 := [some (.own (deckD cells p' a' b' (c + 1) s)), some (.val (.int m)), x, none, some (.val (.int one)), none]) ?_).trans ?_
    · rw [x_sAsg, x_fBin, x_fUn, x_fBin, x_fBin, x_fBin, ixD rfl (ix5 cells p' a' b' (c + 1) s)]
      simp only [x_fC, m1, x_lf_some]
      rw [x_fBin, ixD rfl (ix4 cells p' a' b' (c + 1) s)]
      simp only [x_fC, m2, x_lf_some, oAdd, oInt, mod_ok (show (0 : Int) < 2147483647 by decide), hone]
      rfl
    refine (x_sSeq (ρ1 := [some (.own (deckD cells p' a' b' (c + 1) s)), some (.val (.int m)), x, none, some (.val (.int one)), some (.val (.int two))]) ?_).trans ?_
    · rw [x_sAsg, x_fBin, x_fUn, x_fBin, x_fBin, x_fBin, x_fVar (d := .int one) rfl]
      simp only
      rw [x_fVar (d := .int one) rfl]
      simp only [m4, x_lf_some]
      rw [x_fBin, ixD rfl (ix4 cells p' a' b' (c + 1) s)]
      simp only [x_fC, m3, x_lf_some, oAdd, oInt, mod_ok (show (0 : Int) < 2147483629 by decide), htwo]
      rfl
    refine x_sSeqR ?_
    rw [x_sRet, x_fBin, x_fUn, x_fBin, x_fVar (d := .int two) rfl]
    simp only [x_fC, div_ok (show (0 : Int) < 7 by decide) (show (7 : Int).natAbs < 2 ^ 100 by decide), x_lf_some, oInt]
    rw [x_fVar (d := .int m) rfl]
    simp only [mod_ok hm, x_lf_some]
end K32
set_option Elab.async false
set_option linter.all false
set_option maxRecDepth 100000
set_option maxHeartbeats 1000000
namespace K32
open PySem PySem.Spec PyProof.Rows L2 PF
theorem deck_ok (ns : Lot) (hn : ns.length ≤ 63) : ∃ xs, m__law_deck [frnD ns] = some xs ∧ DeckOk 1000000 xs := by
  obtain ⟨cells, hcl, hcut⟩ : ∃ cells : Lot, cells.length ≤ 63 ∧ oSl (frnD ns) none (some 63) = some (.list (intsD cells)) := by
    refine ⟨(ns.drop (HT.sIx (ns.map PyData.int).length 0 none)).take (HT.sIx (ns.map PyData.int).length (ns.map PyData.int).length (some 63) - HT.sIx (ns.map PyData.int).length 0 none), ?_, ?_⟩
    · rw [List.length_take, List.length_drop]
      omega
    · show some (PyData.list (PF.cutD (ns.map PyData.int) none (some 63))) = _
      unfold PF.cutD
      rw [intsD, List.map_take, List.map_drop]
  have hc : fLc [3] (fF oSeq (fSl (fVar 0) fNo (fPart (fC (.int 63))))) (gaN 3) (pr true) (fUn oInt (fVarB 3)) [some (.val (frnD ns)), none, none, none] = some (intsD cells, [some (.val (frnD ns)), none, none, none]) := by
    refine lc_map (as := cells) (ρ1 := [some (.val (frnD ns)), none, none, none]) PyData.int PyData.int (fun c => [some (.val (frnD ns)), none, none, some (.val (.int c))]) ?_ (by omega) (fun _ _ => rfl) (fun c _ => rfl) (fun _ _ => rfl)
    rw [x_fF, x_fSl, x_fVar (d := frnD ns) rfl]
    simp only [x_fNo, x_fPart, x_fC, isI_int, x_lf_some, hcut]
    rfl
  obtain ⟨ρ', e1, s, cl, e2, hs0, hs1⟩ := runFor_inv PyData.int (fun _ ρ => ∃ (s : Int) (cl : Option Cel), ρ = [some (.val (frnD ns)), some (.val (.list (intsD cells))), some (.val (.int s)), cl] ∧ 0 ≤ s ∧ s < 2000000000)
    (ga := gaN 3) (gb := sSeq (sAsg (fBin oMod (fUn oInt (fBin oAdd (fBin oMul (fVar 2) (fC (.int 263))) (fBin oMod (fUn oInt (fVarB 3)) (fC (.int 1000033))))) (fC (.int 1000000093))) (gaN 2)) sNx) cells [some (.val (frnD ns)), some (.val (.list (intsD cells))), some (.val (.int (17 + (cells.length : Nat)))), none] ⟨_, none, rfl, by omega, by omega⟩ (by
    rintro c rest ρ _ ⟨s, cl, rfl, h0, h1⟩
    refine ⟨[some (.val (frnD ns)), some (.val (.list (intsD cells))), some (.val (.int s)), some (.val (.int c))], [some (.val (frnD ns)), some (.val (.list (intsD cells))), some (.val (.int ((s * 263 + c % 1000033) % 1000000093))), some (.val (.int c))], .nx, rfl, ?_, .inl rfl, _, _, rfl, Int.emod_nonneg _ (by decide), by have := Int.emod_lt_of_pos (s * 263 + c % 1000033) (show (0 : Int) < 1000000093 by decide); omega⟩
    refine (x_sSeq (ρ1 := [some (.val (frnD ns)), some (.val (.list (intsD cells))), some (.val (.int ((s * 263 + c % 1000033) % 1000000093))), some (.val (.int c))]) ?_).trans rfl
    have m1 : oMul (.int s) (.int 263) = some (.int (s * 263)) := mul_ok (Nat.lt_of_lt_of_le (show s.natAbs < 4000000000 by omega) (by decide)) (by decide)
    rw [x_sAsg, x_fBin, x_fUn, x_fBin, x_fBin, x_fVar (d := .int s) rfl]
    simp only [x_fC, m1, x_lf_some]
    rw [x_fBin, x_fUn, x_fVarB (d := .int c) rfl]
    simp only [oInt, x_lf_some, x_fC, mod_ok (show (0 : Int) < 1000033 by decide), oAdd, mod_ok (show (0 : Int) < 1000000093 by decide)]
    rfl)
  subst e2
  refine ⟨deckD cells 0 0 0 0 s, ?_, cells, 0, 0, 0, 0, s, rfl, by omega, by omega, by omega, hs0, hs1⟩
  refine runF_of (ρ1 := [some (.val (frnD ns)), some (.val (.list (intsD cells))), some (.val (.int s)), cl]) ?_
  show g__law_deck [some (.val (frnD ns)), none, none, none] = _
  unfold g__law_deck
  refine (x_sSeq (ρ1 := [some (.val (frnD ns)), some (.val (.list (intsD cells))), none, none]) ?_).trans ?_
  · rw [x_sAsg, x_fList]
    simp only [List.map_cons, List.map_nil, hc]
    rfl
  refine (x_sSeq (ρ1 := [some (.val (frnD ns)), some (.val (.list (intsD cells))), some (.val (.int (17 + (cells.length : Nat)))), none]) ?_).trans ?_
  · rw [x_sAsg, x_fBin, x_fC]
    simp only
    rw [x_fUn, x_fVarB (d := .list (intsD cells)) rfl]
    simp only [oLen, x_lf_some, oAdd, intsD, List.length_map]
    rfl
  refine (x_sSeq (ρ1 := [some (.val (frnD ns)), some (.val (.list (intsD cells))), some (.val (.int s)), cl]) ?_).trans ?_
  · rw [x_sFor, seqv (ds := intsD cells) rfl rfl]
    exact e1
  exact x_sSeqR' rfl
theorem pick_ok {k : Nat} {xs ds : List D} {sd : D} (h : DeckOk (k + 1) xs) (hsd : sd = .list ds ∨ sd = .tuple ds) (hne : ds ≠ []) (hl : ds.length < 100000) : ∃ d ∈ ds, ∃ ys, m__law_pick xs [sd] = some (d, ys) ∧ DeckOk k ys := by
  have hpos : 0 < ds.length := List.length_pos_iff.mpr hne
  obtain ⟨r, ys, e, h0, h1, h2⟩ := draw_ok (m := (ds.length : Nat)) h (by omega) (by omega)
  obtain ⟨q, hq⟩ := Int.eq_ofNat_of_zero_le h0
  have hq' : q < ds.length := by omega
  refine ⟨ds[q], List.getElem_mem hq', ys, ?_, h2⟩
  refine runM_of (ρ1 := [some (.own ys), some (.val sd)]) ?_ rfl
  show g__law_pick [some (.own xs), some (.val sd)] = _
  unfold g__law_pick
  refine x_sSeqR ?_
  have hlen : oLen sd = some (.int (ds.length : Nat)) := by rcases hsd with rfl | rfl <;> rfl
  have e2 : fCallM m__law_draw 0 (fCons (fUn oLen (fVarB 1)) fNil) [some (.own xs), some (.val sd)] = some (.int r, [some (.own ys), some (.val sd)]) := by
    refine x_fCallM (ds := [.int (ds.length : Nat)]) (xs := xs) (ys := ys) (ρ1 := [some (.own xs), some (.val sd)]) rfl ?_ rfl e
    rw [x_fCons, x_fUn, x_fVarB (d := sd) rfl]
    simp only [hlen, x_lf_some, x_fNil]
  have ex : oIx sd (.int r) = some ds[q] := by
    rw [hq]
    rcases hsd with rfl | rfl
    · show L2.atI ds (q : Int) = _
      rw [atI_at hq', List.getElem?_eq_getElem hq']
    · show L2.atI ds (q : Int) = _
      rw [atI_at hq', List.getElem?_eq_getElem hq']
  rw [x_sRet, x_fIxN (y := .int r) (x := sd) (ρ1 := [some (.own ys), some (.val sd)]) rfl e2 rfl, ex, x_lf_some]
end K32
set_option Elab.async false
set_option linter.all false
set_option maxRecDepth 100000
set_option maxHeartbeats 1000000
namespace K32
open PySem PySem.Spec PyProof.Rows L2 PF
theorem shuffled_ok {α : Type} (enc : α → D) (as : List α) {k : Nat} {xs : List D} (h : DeckOk (k + as.length) xs) (hl : as.length < 1000) : ∃ (bs : List α) (ys : List D), m__law_shuffled xs [.list (as.map enc)] = some (.list (bs.map enc), ys) ∧ bs.Perm as ∧ DeckOk k ys := by
  obtain ⟨ρ', e1, done, acc, ys, x, e2, e3, e4, e5⟩ := runFor_inv enc (fun rest ρ => ∃ (done acc : List α) (ys : List D) (x : Option Cel), ρ = [some (.own ys), some (.val (.list (as.map enc))), some (.own (acc.map enc)), x] ∧ as = done ++ rest ∧ acc.Perm done ∧ DeckOk (k + rest.length) ys)
    (ga := gaN 3) (gb := sSeq (sDrop (fMut mInsert 2 (fCons (fCallM m__law_draw 0 (fCons (fBin oAdd (fUn oLen (fVarB 2)) (fC (.int 1))) fNil)) (fCons (fVar 3) fNil)))) sNx) as [some (.own xs), some (.val (.list (as.map enc))), some (.own []), none] ⟨[], [], xs, none, rfl, rfl, List.Perm.refl _, h⟩ (by
    rintro a rest ρ _ ⟨done, acc, ys, x, rfl, e, hp, hd⟩
    have hal : acc.length < 1000 := by
      have h1 := hp.length_eq
      have h2 := congrArg List.length e
      rw [List.length_append] at h2
      omega
    obtain ⟨r, zs, er, h0, h1, h2⟩ := draw_ok (k := k + rest.length) (m := (acc.length : Nat) + 1) (by rw [List.length_cons] at hd; exact hd) (by omega) (by omega)
    obtain ⟨q, rfl⟩ := Int.eq_ofNat_of_zero_le h0
    have hm : fMut mInsert 2 (fCons (fCallM m__law_draw 0 (fCons (fBin oAdd (fUn oLen (fVarB 2)) (fC (.int 1))) fNil)) (fCons (fVar 3) fNil)) [some (.own ys), some (.val (.list (as.map enc))), some (.own (acc.map enc)), some (.val (enc a))] = some (.none, [some (.own zs), some (.val (.list (as.map enc))), some (.own ((acc.take q ++ [a] ++ acc.drop q).map enc)), some (.val (enc a))]) := by
      refine x_fMut (ds := [.int (q : Int), enc a]) (xs := acc.map enc) (ρ1 := [some (.own zs), some (.val (.list (as.map enc))), some (.own (acc.map enc)), some (.val (enc a))]) rfl ?_ rfl ?_
      · have ec : fCallM m__law_draw 0 (fCons (fBin oAdd (fUn oLen (fVarB 2)) (fC (.int 1))) fNil) [some (.own ys), some (.val (.list (as.map enc))), some (.own (acc.map enc)), some (.val (enc a))] = some (.int (q : Int), [some (.own zs), some (.val (.list (as.map enc))), some (.own (acc.map enc)), some (.val (enc a))]) := by
          refine x_fCallM (ds := [.int ((acc.length : Nat) + 1)]) (xs := ys) (ys := zs) (ρ1 := [some (.own ys), some (.val (.list (as.map enc))), some (.own (acc.map enc)), some (.val (enc a))]) rfl ?_ rfl er
          rw [x_fCons, x_fBin, x_fUn, x_fVarBO (xs := acc.map enc) rfl]
          simp only [oLen, x_lf_some, x_fC, oAdd, List.length_map, x_fNil]
        rw [x_fCons, ec]
        simp only
        rw [x_fCons, x_fVar (d := enc a) rfl]
        simp only [x_fNil]
      · show (if (acc.map enc).length < sizeLine ∧ 0 ≤ (q : Int) ∧ (q : Int) < 2 ^ 63 then some ((acc.map enc).take ((q : Int)).toNat ++ [enc a] ++ (acc.map enc).drop ((q : Int)).toNat) else none) = _
        rw [if_pos ⟨by rw [List.length_map]; exact big (by omega), by omega, by omega⟩, Int.toNat_natCast, List.map_append, List.map_append, List.map_take, List.map_drop]
        rfl
    refine ⟨[some (.own ys), some (.val (.list (as.map enc))), some (.own (acc.map enc)), some (.val (enc a))], [some (.own zs), some (.val (.list (as.map enc))), some (.own ((acc.take q ++ [a] ++ acc.drop q).map enc)), some (.val (enc a))], .nx, rfl, ?_, .inl rfl, done ++ [a], acc.take q ++ [a] ++ acc.drop q, zs, _, rfl, by rw [e, List.append_assoc]; rfl, ?_, h2⟩
    · refine (x_sSeq (ρ1 := [some (.own zs), some (.val (.list (as.map enc))), some (.own ((acc.take q ++ [a] ++ acc.drop q).map enc)), some (.val (enc a))]) ?_).trans rfl
      rw [x_sDrop, hm]
    · have p1 : (acc.take q ++ [a] ++ acc.drop q).Perm (acc.take q ++ acc.drop q ++ [a]) := by
        rw [List.append_assoc, List.append_assoc]
        exact List.Perm.append_left _ List.perm_append_comm
      rw [List.take_append_drop] at p1
      exact p1.trans (hp.append_right _))
  rw [List.append_nil] at e3
  subst e3
  subst e2
  refine ⟨acc, ys, ?_, e4, by simpa using e5⟩
  refine runM_of (ρ1 := [some (.own ys), some (.val (.list (as.map enc))), some (.val (.list (acc.map enc))), x]) ?_ rfl
  show g__law_shuffled [some (.own xs), some (.val (.list (as.map enc))), none, none] = _
  unfold g__law_shuffled
  refine (x_sSeq (ρ1 := [some (.own xs), some (.val (.list (as.map enc))), some (.own []), none]) ?_).trans ?_
  · exact x_sOwn x_fNil (by simp) (by decide)
  refine (x_sSeq (ρ1 := [some (.own ys), some (.val (.list (as.map enc))), some (.own (acc.map enc)), x]) ?_).trans ?_
  · rw [x_sFor, seqv (ds := as.map enc) rfl rfl]
    exact e1
  refine x_sSeqR ?_
  rw [x_sRet, x_fVarO rfl]
  rfl
/-! ### all lots of the claims below m -/
def rawL : Nat → List Lot
  | 0 => [[]]
  | m + 1 => rawL m ++ (rawL m).map fun l => l ++ [(m : Int)]
/-- a row of claims below m, each greater than the one ahead of it -/
def LotOk (m : Nat) (l : Lot) : Prop := l.Pairwise (· < ·) ∧ ∀ c ∈ l, 0 ≤ c ∧ c < m
theorem rawL_mem : ∀ (m : Nat) (l : Lot), l ∈ rawL m ↔ LotOk m l
  | 0, l => by
    constructor
    · intro h
      rw [rawL, List.mem_singleton] at h
      subst h
      exact ⟨List.Pairwise.nil, fun c hc => by cases hc⟩
    · rintro ⟨_, h⟩
      rw [rawL, List.mem_singleton]
      cases l with
      | nil => rfl
      | cons a l =>
        have := h a List.mem_cons_self
        omega
  | m + 1, l => by
    rw [rawL, List.mem_append, rawL_mem m, List.mem_map]
    constructor
    · rintro (⟨h1, h2⟩ | ⟨t, ht, rfl⟩)
      · exact ⟨h1, fun c hc => by have := h2 c hc; omega⟩
      · obtain ⟨h1, h2⟩ := (rawL_mem m t).mp ht
        refine ⟨List.pairwise_append.mpr ⟨h1, List.pairwise_singleton _ _, fun a ha b hb => ?_⟩, fun c hc => ?_⟩
        · rw [List.mem_singleton.mp hb]
          exact (h2 a ha).2
        · rcases List.mem_append.mp hc with h | h
          · have := h2 c h
            omega
          · rw [List.mem_singleton.mp h]
            omega
    · rintro ⟨h1, h2⟩
      by_cases hm : (m : Int) ∈ l
      · right
        have hne : l ≠ [] := List.ne_nil_of_mem hm
        have el := List.dropLast_concat_getLast hne
        have hlast : l.getLast hne = (m : Int) := by
          have hb := h2 _ (List.getLast_mem hne)
          rcases List.mem_append.mp (by rw [el]; exact hm) with h | h
          · have hp := h1
            rw [← el, List.pairwise_append] at hp
            have := hp.2.2 _ h _ (List.mem_singleton.mpr rfl)
            omega
          · exact (List.mem_singleton.mp h).symm
        refine ⟨l.dropLast, (rawL_mem m _).mpr ⟨?_, fun c hc => ?_⟩, by rw [← hlast]; exact el⟩
        · exact h1.sublist (List.dropLast_sublist l)
        · have hb := h2 c (List.dropLast_subset l hc)
          have hp := h1
          rw [← el, List.pairwise_append] at hp
          have := hp.2.2 _ hc _ (List.mem_singleton.mpr rfl)
          omega
      · left
        refine ⟨h1, fun c hc => ?_⟩
        have := h2 c hc
        have hne : c ≠ (m : Int) := fun e => hm (by rw [← e]; exact hc)
        omega
theorem rawL_len : ∀ m : Nat, (rawL m).length = 2 ^ m
  | 0 => rfl
  | m + 1 => by
    rw [rawL, List.length_append, List.length_map, rawL_len m]
    omega
theorem rawL_nodup : ∀ m : Nat, (rawL m).Nodup
  | 0 => by simp [rawL]
  | m + 1 => by
    rw [rawL, List.nodup_append]
    refine ⟨rawL_nodup m, ?_, fun a ha b hb => ?_⟩
    · exact List.Pairwise.map _ (fun a b h e => h (List.append_cancel_right e)) (rawL_nodup m)
    · obtain ⟨t, ht, rfl⟩ := List.mem_map.mp hb
      intro e
      have := ((rawL_mem m a).mp ha).2 (m : Int) (by rw [e]; simp)
      omega
theorem rawL_head : ∀ m : Nat, ∃ r, rawL m = [] :: r
  | 0 => ⟨[], rfl⟩
  | m + 1 => by
    obtain ⟨r, e⟩ := rawL_head m
    refine ⟨r ++ (rawL m).map fun l => l ++ [(m : Int)], ?_⟩
    rw [rawL]
    conv => lhs; arg 1; rw [e]
    rfl
end K32
set_option Elab.async false
set_option linter.all false
set_option maxRecDepth 100000
set_option maxHeartbeats 1000000
namespace K32
open PySem PySem.Spec PyProof.Rows L2 PF
/-! ### the order of lots -/
def leL (a b : Lot) : Bool := !decide (b < a)
def sortL (F : List Lot) : List Lot := F.mergeSort leL
theorem leL_iff {a b : Lot} : leL a b = true ↔ a ≤ b := by
  unfold leL
  rw [Bool.not_eq_true', decide_eq_false_iff_not]
  exact List.not_lt
theorem leL_trans (a b c : Lot) (h1 : leL a b = true) (h2 : leL b c = true) : leL a c = true := leL_iff.mpr (List.le_trans (leL_iff.mp h1) (leL_iff.mp h2))
theorem leL_total (a b : Lot) : (leL a b || leL b a) = true := by
  rw [Bool.or_eq_true, leL_iff, leL_iff]
  exact List.le_total a b
theorem leL_anti {a b : Lot} (h1 : leL a b = true) (h2 : leL b a = true) : a = b := List.le_antisymm (leL_iff.mp h1) (leL_iff.mp h2)
theorem sortL_perm (F : List Lot) : (sortL F).Perm F := List.mergeSort_perm _ _
theorem sortL_sorted (F : List Lot) : (sortL F).Pairwise (fun a b => leL a b = true) := List.pairwise_mergeSort leL_trans leL_total F
theorem sorted_unique {F G : List Lot} (p : F.Perm G) (h1 : F.Pairwise (fun a b => leL a b = true)) (h2 : G.Pairwise (fun a b => leL a b = true)) : F = G := p.eq_of_pairwise (fun a b _ _ h3 h4 => leL_anti h3 h4) h1 h2
theorem sortD_lots (F : List Lot) : sortD (lotsD F) = lotsD (sortL F) := by
  unfold sortD sortL lotsD
  refine (List.map_mergeSort (fun a _ b _ => ?_)).symm
  show leL a b = (!PySem.W.dataLt (lotD b) (lotD a))
  rw [lotD, lotD, PySem.W.dataLt_tuple]
  have := PySem.W.dataLt_ints b a
  unfold PySem.W.rowLt at this
  unfold leL intsD
  rw [this]
theorem alike_lots (a b : Lot) : PySem.W.alike (lotD a) (lotD b) = true := by
  rw [lotD, lotD, PySem.W.alike]
  exact PySem.W.alike_ints a b
theorem sortB_ne {F : List Lot} (h : ∀ l ∈ F, l ≠ []) : sortB (lotsD F) = true := by
  refine sort_ok (fun x hx y hy => ?_) (.inr (.inl fun d hd => ?_)) (sh_lotsL F)
  · obtain ⟨i, _, rfl⟩ := List.mem_map.mp hx
    obtain ⟨j, _, rfl⟩ := List.mem_map.mp hy
    exact alike_lots i j
  · obtain ⟨i, hi, rfl⟩ := List.mem_map.mp hd
    have := h i hi
    cases i with
    | nil => exact absurd rfl this
    | cons a l => rfl
theorem sortB_hd (F : List Lot) : sortB (lotsD ([] :: F)) = true := by
  refine sort_ok (fun x hx y hy => ?_) (.inr (.inr ⟨fun d hd => ?_, rfl⟩)) (sh_lotsL _)
  · obtain ⟨i, _, rfl⟩ := List.mem_map.mp hx
    obtain ⟨j, _, rfl⟩ := List.mem_map.mp hy
    exact alike_lots i j
  · obtain ⟨i, _, rfl⟩ := List.mem_map.mp hd
    rfl
theorem oSort_lots {F : List Lot} (h : sortB (lotsD F) = true) : oSortD (.list (lotsD F)) = some (lotsD (sortL F)) := by
  show (if sortB (lotsD F) = true then some (sortD (lotsD F)) else none) = _
  rw [if_pos h, sortD_lots]
theorem lots_eq (m : Nat) (hm : m ≤ 6) : m__law_lots [.int (m : Int)] = some (.list (lotsD (sortL (rawL m)))) := by
  obtain ⟨ρ', e1, j, x, e2, e3⟩ := runFor_inv (fun i : Nat => PyData.int (0 + (i : Int))) (fun rest ρ => ∃ (j : Nat) (x : Option Cel), ρ = [some (.val (.int (m : Int))), some (.val (.list (lotsD (rawL j)))), x, none] ∧ ∃ n, rest = List.range' j n ∧ j + n = m)
    (ga := gaN 2) (gb := sSeq (sAsg (fBin oAdd (fVar 1) (fList (fLc [3] (fF oSeq (fVar 1)) (gaN 3) (pr true) (fBin oAdd (fVar 3) (fTup (fCons (fVar 2) fNil)))))) (gaN 1)) sNx) (List.range m) [some (.val (.int (m : Int))), some (.val (.list (lotsD (rawL 0)))), none, none] ⟨0, none, rfl, m, by rw [List.range_eq_range'], by omega⟩ (by
    rintro i rest ρ _ ⟨j, x, rfl, n, e, hn⟩
    cases n with
    | zero => cases e
    | succ n =>
      rw [List.range'_succ] at e
      obtain ⟨rfl, rfl⟩ := List.cons.inj e
      have hj : (rawL i).length ≤ 64 := by
        rw [rawL_len]
        exact Nat.le_trans (Nat.pow_le_pow_right (by decide) (show i ≤ 6 by omega)) (by decide)
      have hc : fLc [3] (fF oSeq (fVar 1)) (gaN 3) (pr true) (fBin oAdd (fVar 3) (fTup (fCons (fVar 2) fNil))) [some (.val (.int (m : Int))), some (.val (.list (lotsD (rawL i)))), some (.val (.int (0 + (i : Int)))), none] = some ((rawL i).map (fun l => lotD (l ++ [(i : Int)])), [some (.val (.int (m : Int))), some (.val (.list (lotsD (rawL i)))), some (.val (.int (0 + (i : Int)))), none]) := by
        refine lc_map (as := rawL i) (ρ1 := [some (.val (.int (m : Int))), some (.val (.list (lotsD (rawL i)))), some (.val (.int (0 + (i : Int)))), none]) lotD (fun l => lotD (l ++ [(i : Int)])) (fun l => [some (.val (.int (m : Int))), some (.val (.list (lotsD (rawL i)))), some (.val (.int (0 + (i : Int)))), some (.val (lotD l))]) (seqv rfl rfl) (by omega) (fun _ _ => rfl) (fun l hl => ?_) (fun _ _ => rfl)
        have hll : l.length ≤ i := by
          have h := ((rawL_mem i l).mp hl)
          have := nodup_len (a := l) (b := (List.range i).map fun q : Nat => (q : Int)) (lt_nodup h.1) fun c hc => by
            have hb := h.2 c hc
            exact List.mem_map.mpr ⟨c.toNat, List.mem_range.mpr (by omega), by omega⟩
          rw [List.length_map, List.length_range] at this
          exact this
        have ea : oAdd (lotD l) (lotD [(i : Int)]) = some (lotD (l ++ [(i : Int)])) := oAdd_lot l [(i : Int)] (by rw [List.length_singleton]; omega)
        rw [x_fBin, x_fVar (d := lotD l) rfl]
        simp only
        rw [x_fTup, x_fCons, x_fVar (d := .int (0 + (i : Int))) rfl]
        simp only [x_fNil, Int.zero_add]
        rw [show (PyData.tuple [PyData.int (i : Int)]) = lotD [(i : Int)] from rfl, ea, x_lf_some]
      have ea : oAdd (.list (lotsD (rawL i))) (.list ((rawL i).map fun l => lotD (l ++ [(i : Int)]))) = some (.list (lotsD (rawL (i + 1)))) := by
        show (if (lotsD (rawL i)).length + ((rawL i).map fun l => lotD (l ++ [(i : Int)])).length ≤ sizeLine then some (PyData.list (lotsD (rawL i) ++ (rawL i).map fun l => lotD (l ++ [(i : Int)]))) else none) = _
        rw [if_pos (by rw [lotsD, List.length_map, List.length_map]; exact Nat.le_of_lt (big (by omega))), rawL, lotsD, lotsD, List.map_append, List.map_map]
        rfl
      refine ⟨[some (.val (.int (m : Int))), some (.val (.list (lotsD (rawL i)))), some (.val (.int (0 + (i : Int)))), none], [some (.val (.int (m : Int))), some (.val (.list (lotsD (rawL (i + 1))))), some (.val (.int (0 + (i : Int)))), none], .nx, rfl, ?_, .inl rfl, i + 1, _, rfl, n, rfl, by omega⟩
      refine (x_sSeq (ρ1 := [some (.val (.int (m : Int))), some (.val (.list (lotsD (rawL (i + 1))))), some (.val (.int (0 + (i : Int)))), none]) ?_).trans rfl
      rw [x_sAsg, x_fBin, x_fVar (d := .list (lotsD (rawL i))) rfl]
      simp only
      rw [x_fList, hc]
      simp only [ea, x_lf_some]
      rfl)
  obtain ⟨n, e4, e5⟩ := e3
  have hn : n = 0 := by
    cases n with
    | zero => rfl
    | succ n => rw [List.range'_succ] at e4; cases e4
  have hj : j = m := by omega
  subst hj
  subst e2
  obtain ⟨r, er⟩ := rawL_head j
  refine runP_of (ρ1 := [some (.val (.int (j : Int))), some (.val (.list (lotsD (rawL j)))), x, none]) ?_
  show g__law_lots [some (.val (.int (j : Int))), none, none, none] = _
  unfold g__law_lots
  refine (x_sSeq (ρ1 := [some (.val (.int (j : Int))), some (.val (.list (lotsD (rawL 0)))), none, none]) rfl).trans ?_
  refine (x_sSeq (ρ1 := [some (.val (.int (j : Int))), some (.val (.list (lotsD (rawL j)))), x, none]) ?_).trans ?_
  · have hi : fF oRngI (fVar 0) [some (.val (.int (j : Int))), some (.val (.list (lotsD (rawL 0)))), none, none] = some ((List.range j).map fun i : Nat => PyData.int (0 + (i : Int)), [some (.val (.int (j : Int))), some (.val (.list (lotsD (rawL 0)))), none, none]) := by
      rw [x_fF, x_fVar (d := .int (j : Int)) rfl]
      simp only [rngI_nat (show j < 100000 by omega), x_lf_some]
    rw [x_sFor, hi]
    exact e1
  refine x_sSeqR ?_
  have hb : sortB (lotsD (rawL j)) = true := by rw [er]; exact sortB_hd r
  rw [x_sRet, x_fList, x_fF, x_fVarB (d := .list (lotsD (rawL j))) rfl]
  simp only [oSort_lots hb, x_lf_some]
/-- the row of all lots, sorted, begins with the empty one -/
theorem lots_head (m : Nat) : ∃ r, sortL (rawL m) = [] :: r ∧ r.Pairwise (fun a b => leL a b = true) ∧ r.Nodup ∧ ∀ l, l ∈ r ↔ LotOk m l ∧ l ≠ [] := by
  have hs := sortL_sorted (rawL m)
  have hp := sortL_perm (rawL m)
  have hmem : ([] : Lot) ∈ sortL (rawL m) := hp.mem_iff.mpr ((rawL_mem m []).mpr ⟨List.Pairwise.nil, fun c hc => by cases hc⟩)
  cases e : sortL (rawL m) with
  | nil =>
    rw [e] at hmem
    cases hmem
  | cons a r =>
    rw [e] at hs hp hmem
    have ha : a = [] := by
      rcases List.mem_cons.mp hmem with z | z
      · exact z.symm
      · have h1 := leL_iff.mp ((List.pairwise_cons.mp hs).1 _ z)
        cases a with
        | nil => rfl
        | cons b l => exact absurd h1 (List.not_le.mpr (by exact List.Lex.nil))
    subst ha
    have hnd : ([] :: r : List Lot).Nodup := hp.nodup_iff.mpr (rawL_nodup m)
    refine ⟨r, rfl, (List.pairwise_cons.mp hs).2, (List.nodup_cons.mp hnd).2, fun l => ⟨fun h => ?_, fun h => ?_⟩⟩
    · refine ⟨(rawL_mem m l).mp (hp.mem_iff.mp (List.mem_cons_of_mem _ h)), fun z => ?_⟩
      rw [z] at h
      exact (List.nodup_cons.mp hnd).1 h
    · have := hp.mem_iff.mpr ((rawL_mem m l).mpr h.1)
      rcases List.mem_cons.mp this with z | z
      · exact absurd z h.2
      · exact z
end K32
set_option Elab.async false
set_option linter.all false
set_option maxRecDepth 100000
set_option maxHeartbeats 1000000
namespace K32
open PySem PySem.Spec PyProof.Rows L2 PF
/-! ### marks and closings: the plain law -/
theorem shut_iff {F S : List Lot} {c : Int} : shut F S c = true ↔ ∀ l ∈ F, c ∈ l → l ∈ S := by
  unfold shut
  rw [List.all_eq_true]
  refine ⟨fun h l hl hc => ?_, fun h l hl => ?_⟩
  · have := h l hl
    simp [hc] at this
    exact this
  · by_cases hc : c ∈ l
    · simp [h l hl hc]
    · simp [hc]
theorem mem_closing {F S : List Lot} {c : Int} : c ∈ closingL F S ↔ (∃ l ∈ F, c ∈ l) ∧ ∀ l ∈ F, c ∈ l → l ∈ S := by
  unfold closingL
  rw [List.mem_filter, sdI_mem, List.mem_flatten, shut_iff]
theorem mem_marks {F : List Lot} {t l : Lot} : l ∈ marksL F t ↔ l ∈ F ∧ ∃ c ∈ l, c ∈ t := by
  unfold marksL
  rw [List.mem_filter, meets_iff]
theorem marks_congr {F : List Lot} {t u : Lot} (h : ∀ l ∈ F, (∃ c ∈ l, c ∈ t) ↔ ∃ c ∈ l, c ∈ u) : marksL F t = marksL F u := by
  unfold marksL
  refine List.filter_congr fun l hl => ?_
  rw [Bool.eq_iff_iff, meets_iff, meets_iff]
  exact h l hl
theorem closing_congr {F S S' : List Lot} (h : ∀ c, (∃ l ∈ F, c ∈ l) → ((∀ l ∈ F, c ∈ l → l ∈ S) ↔ ∀ l ∈ F, c ∈ l → l ∈ S')) : closingL F S = closingL F S' := by
  unfold closingL
  refine List.filter_congr fun c hc => ?_
  rw [sdI_mem, List.mem_flatten] at hc
  rw [Bool.eq_iff_iff, shut_iff, shut_iff]
  exact h c hc
theorem gal1 (F : List Lot) (t : Lot) : marksL F (closingL F (marksL F t)) = marksL F t := by
  refine marks_congr fun l hl => ⟨?_, ?_⟩
  · rintro ⟨c, hc, h⟩
    exact (mem_marks.mp ((mem_closing.mp h).2 l hl hc)).2
  · rintro ⟨c, hc, h⟩
    exact ⟨c, hc, mem_closing.mpr ⟨⟨l, hl, hc⟩, fun m hm hcm => mem_marks.mpr ⟨hm, c, hcm, h⟩⟩⟩
theorem gal2 (F S : List Lot) : closingL F (marksL F (closingL F S)) = closingL F S := by
  refine closing_congr fun c hF => ⟨fun h => ?_, fun h l hl hc => ?_⟩
  · intro l hl hc
    obtain ⟨d, hd, hd2⟩ := (mem_marks.mp (h l hl hc)).2
    exact (mem_closing.mp hd2).2 l hl hd
  · exact mem_marks.mpr ⟨hl, c, hc, mem_closing.mpr ⟨hF, h⟩⟩
theorem closing_mono {F S S' : List Lot} (h : ∀ l ∈ S, l ∈ S') {c : Int} (hc : c ∈ closingL F S) : c ∈ closingL F S' :=
  mem_closing.mpr ⟨(mem_closing.mp hc).1, fun l hl hcl => h l ((mem_closing.mp hc).2 l hl hcl)⟩
theorem less_nil {F S S' : List Lot} (h : ∀ l ∈ S, l ∈ S') : (closingL F S).filter (fun c => decide (c ∉ closingL F S')) = [] := by
  rw [List.filter_eq_nil_iff]
  intro c hc
  simp [closing_mono h hc]
theorem marks_joint (F : List Lot) (t u : Lot) {l : Lot} : l ∈ marksL F (sdI (t ++ u)) ↔ l ∈ marksL F t ∨ l ∈ marksL F u := by
  rw [mem_marks, mem_marks, mem_marks]
  constructor
  · rintro ⟨h, c, hc, h2⟩
    rw [sdI_mem, List.mem_append] at h2
    rcases h2 with h2 | h2
    · exact .inl ⟨h, c, hc, h2⟩
    · exact .inr ⟨h, c, hc, h2⟩
  · rintro (⟨h, c, hc, h2⟩ | ⟨h, c, hc, h2⟩)
    · exact ⟨h, c, hc, by rw [sdI_mem, List.mem_append]; exact .inl h2⟩
    · exact ⟨h, c, hc, by rw [sdI_mem, List.mem_append]; exact .inr h2⟩
theorem wider_fix (F : List Lot) (t : Lot) : sdI (closingL F (marksL F (sdI (closingL F (marksL F t) ++ t))) ++ sdI (closingL F (marksL F t) ++ t)) = sdI (closingL F (marksL F t) ++ t) := by
  have e : marksL F (sdI (closingL F (marksL F t) ++ t)) = marksL F t := by
    refine marks_congr fun l hl => ⟨?_, ?_⟩
    · rintro ⟨c, hc, h⟩
      rw [sdI_mem, List.mem_append] at h
      rcases h with h | h
      · exact (mem_marks.mp ((mem_closing.mp h).2 l hl hc)).2
      · exact ⟨c, hc, h⟩
    · rintro ⟨c, hc, h⟩
      exact ⟨c, hc, by rw [sdI_mem, List.mem_append]; exact .inr h⟩
  rw [e]
  refine (sdI_unique (sdI_lt _) fun k => ?_).symm
  rw [List.mem_append, sdI_mem, List.mem_append]
  constructor
  · exact fun h => .inr h
  · rintro (h | h)
    · exact .inl h
    · exact h
/-- a family: lots of the claims below 6, none empty, sorted, none twice -/
structure Fam (F : List Lot) : Prop where
  ok : ∀ l ∈ F, LotOk 6 l
  ne : ∀ l ∈ F, l ≠ []
  sorted : F.Pairwise (fun a b => leL a b = true)
  nodup : F.Nodup
theorem lotOk_len {m : Nat} {l : Lot} (h : LotOk m l) : l.length ≤ m := by
  have := nodup_len (a := l) (b := (List.range m).map fun q : Nat => (q : Int)) (h.1.imp fun h => by omega) fun c hc => by
    have hb := h.2 c hc
    exact List.mem_map.mpr ⟨c.toNat, List.mem_range.mpr (by omega), by omega⟩
  rw [List.length_map, List.length_range] at this
  exact this
theorem Fam.len {F : List Lot} (h : Fam F) : F.length ≤ 64 := by
  have := nodup_len (b := rawL 6) h.nodup fun l hl => (rawL_mem 6 l).mpr (h.ok l hl)
  rw [rawL_len] at this
  exact this
theorem Fam.flat {F : List Lot} (h : Fam F) : (ddI F.flatten).length ≤ 6 := by
  have := nodup_len (b := (List.range 6).map fun q : Nat => (q : Int)) (ddI_nodup F.flatten) fun c hc => by
    rw [ddI_mem, List.mem_flatten] at hc
    obtain ⟨l, hl, hcl⟩ := hc
    have hb := (h.ok l hl).2 c hcl
    exact List.mem_map.mpr ⟨c.toNat, List.mem_range.mpr (by omega), by omega⟩
  rw [List.length_map, List.length_range] at this
  exact this
theorem Fam.closing {F : List Lot} (h : Fam F) (S : List Lot) : LotOk 6 (closingL F S) := by
  refine ⟨(sdI_lt _).filter _, fun c hc => ?_⟩
  obtain ⟨⟨l, hl, hcl⟩, _⟩ := mem_closing.mp hc
  exact (h.ok l hl).2 c hcl
theorem Fam.nd {F : List Lot} (h : Fam F) {l : Lot} (hl : l ∈ F) : l.Nodup := (h.ok l hl).1.imp fun h => by omega
theorem lotOk_joint {t u : Lot} (h1 : LotOk 6 t) (h2 : LotOk 6 u) : LotOk 6 (sdI (t ++ u)) := by
  refine ⟨sdI_lt _, fun c hc => ?_⟩
  rw [sdI_mem, List.mem_append] at hc
  rcases hc with hc | hc
  · exact h1.2 c hc
  · exact h2.2 c hc
/-- consonant: the row is one of the rows that some telling marks -/
theorem consonant_iff {F : List Lot} (h : Fam F) (S : List Lot) : S = marksL F (closingL F S) ↔ ∃ t, LotOk 6 t ∧ S = marksL F t :=
  ⟨fun e => ⟨_, h.closing S, e⟩, fun ⟨t, _, e⟩ => by rw [e, gal1]⟩
theorem lt_eq {a b : Lot} (ha : a.Pairwise (· < ·)) (hb : b.Pairwise (· < ·)) (e : ∀ c, c ∈ a ↔ c ∈ b) : a = b := (sdI_unique ha e).trans (sdI_unique hb fun _ => Iff.rfl).symm
theorem closing_lt (F S : List Lot) : (closingL F S).Pairwise (· < ·) := (sdI_lt _).filter _
theorem sortI_lt {l : Lot} (h : l.Nodup) : (sortI l).Pairwise (· < ·) := by
  have h1 := sortI_sorted l
  have h2 : (sortI l).Nodup := (sortI_perm l).nodup_iff.mpr h
  exact (List.Pairwise.and h1 h2).imp fun ⟨a, b⟩ => by omega
theorem closing_all {F : List Lot} {many : Nat} {order : Lot} (hF : ∀ l, l ∈ F ↔ LotOk many l ∧ l ≠ []) (ho : ∀ c, c ∈ order ↔ 0 ≤ c ∧ c < (many : Int)) (t : Lot) (ht : t.Pairwise (· < ·)) : closingL F (marksL F t) = t.filter fun c => decide (c ∈ order) := by
  refine lt_eq (closing_lt _ _) (ht.filter _) fun c => ?_
  rw [mem_closing, List.mem_filter, decide_eq_true_eq, ho]
  constructor
  · rintro ⟨⟨l, hl, hcl⟩, h⟩
    have hb := ((hF l).mp hl).1.2 c hcl
    have h1 : [c] ∈ F := (hF [c]).mpr ⟨⟨List.pairwise_singleton _ _, fun d hd => by rw [List.mem_singleton.mp hd]; exact hb⟩, by simp⟩
    obtain ⟨d, hd, hdt⟩ := (mem_marks.mp (h [c] h1 (List.mem_singleton.mpr rfl))).2
    rw [List.mem_singleton.mp hd] at hdt
    exact ⟨hdt, hb⟩
  · rintro ⟨hct, hb⟩
    refine ⟨⟨[c], (hF [c]).mpr ⟨⟨List.pairwise_singleton _ _, fun d hd => by rw [List.mem_singleton.mp hd]; exact hb⟩, by simp⟩, List.mem_singleton.mpr rfl⟩, fun l hl hcl => mem_marks.mpr ⟨hl, c, hcl, hct⟩⟩
theorem closing_single {ds cs : Lot} (h1 : ds.Pairwise (· < ·)) (h : cs.Sublist ds) : closingL (ds.map fun c => [c]) (cs.map fun c => [c]) = cs := by
  refine lt_eq (closing_lt _ _) (h1.sublist h) fun c => ?_
  rw [mem_closing]
  constructor
  · rintro ⟨⟨l, hl, hcl⟩, h⟩
    have := h l hl hcl
    obtain ⟨d, hd, rfl⟩ := List.mem_map.mp this
    rw [List.mem_singleton.mp hcl]
    exact hd
  · intro hc
    refine ⟨⟨[c], List.mem_map.mpr ⟨c, h.subset hc, rfl⟩, List.mem_singleton.mpr rfl⟩, fun l hl hcl => ?_⟩
    obtain ⟨d, hd, rfl⟩ := List.mem_map.mp hl
    rw [List.mem_singleton.mp hcl] at hc
    exact List.mem_map.mpr ⟨d, hc, rfl⟩
/-- the growing family of an order: the sorted lots of its first 1, 2, … claims -/
def growL (order : Lot) : List Lot := sortL ((List.range order.length).map fun k => sortI (order.take (k + 1)))
theorem mem_grow {order l : Lot} : l ∈ growL order ↔ ∃ k, k < order.length ∧ l = sortI (order.take (k + 1)) := by
  unfold growL
  rw [(sortL_perm _).mem_iff, List.mem_map]
  constructor
  · rintro ⟨k, hk, rfl⟩
    exact ⟨k, List.mem_range.mp hk, rfl⟩
  · rintro ⟨k, hk, rfl⟩
    exact ⟨k, List.mem_range.mpr hk, rfl⟩
theorem grow_len {order : Lot} {k : Nat} (hk : k < order.length) : (sortI (order.take (k + 1))).length = k + 1 := by
  rw [(sortI_perm _).length_eq, List.length_take]
  omega
theorem mem_take_iff {order : Lot} (hn : order.Nodup) {i k : Nat} (hi : i < order.length) : order[i] ∈ order.take k ↔ i < k := by
  constructor
  · intro h
    obtain ⟨j, hj, e⟩ := List.getElem_of_mem h
    rw [List.length_take] at hj
    rw [List.getElem_take] at e
    have hjl : j < order.length := by omega
    have e2 : order[j]? = order[i]? := by rw [List.getElem?_eq_getElem hjl, List.getElem?_eq_getElem hi, e]
    have := (List.getElem?_inj hjl hn).mp e2
    omega
  · intro h
    have : (order.take k)[i]'(by rw [List.length_take]; omega) = order[i] := List.getElem_take
    rw [← this]
    exact List.getElem_mem _
theorem mem_drop_iff {order : Lot} (hn : order.Nodup) {i k : Nat} (hi : i < order.length) : order[i] ∈ order.drop k ↔ k ≤ i := by
  constructor
  · intro h
    obtain ⟨j, hj, e⟩ := List.getElem_of_mem h
    rw [List.getElem_drop] at e
    have hjl : k + j < order.length := by rw [List.length_drop] at hj; omega
    have e2 : order[k + j]? = order[i]? := by rw [List.getElem?_eq_getElem hjl, List.getElem?_eq_getElem hi, e]
    have := (List.getElem?_inj hjl hn).mp e2
    omega
  · intro h
    have : (order.drop k)[i - k]'(by rw [List.length_drop]; omega) = order[i] := by
      rw [List.getElem_drop]
      congr 1
      omega
    rw [← this]
    exact List.getElem_mem _
theorem closing_grow {order : Lot} (hn : order.Nodup) {S : List Lot} {last : Nat} (h1 : ∀ l ∈ growL order, l ∉ S → l.length ≤ last) (h2 : last = 0 ∨ ∃ l ∈ growL order, l ∉ S ∧ l.length = last) : closingL (growL order) S = sortI (order.drop last) := by
  refine lt_eq (closing_lt _ _) (sortI_lt (hn.sublist (List.drop_sublist _ _))) fun c => ?_
  rw [mem_closing, (sortI_perm _).mem_iff]
  constructor
  · rintro ⟨⟨l, hl, hcl⟩, h⟩
    obtain ⟨k, hk, rfl⟩ := mem_grow.mp hl
    rw [(sortI_perm _).mem_iff] at hcl
    obtain ⟨i, hi, e⟩ := List.getElem_of_mem (List.mem_of_mem_take hcl)
    subst e
    rw [mem_drop_iff hn hi]
    rcases h2 with h2 | ⟨l, hl, hlS, hll⟩
    · omega
    · by_cases hle : last ≤ i
      · exact hle
      · refine absurd (h l hl ?_) hlS
        obtain ⟨j, hj, rfl⟩ := mem_grow.mp hl
        rw [grow_len hj] at hll
        rw [(sortI_perm _).mem_iff, mem_take_iff hn hi]
        omega
  · intro hc
    obtain ⟨i, hi, e⟩ := List.getElem_of_mem (List.mem_of_mem_drop hc)
    subst e
    rw [mem_drop_iff hn hi] at hc
    refine ⟨⟨_, mem_grow.mpr ⟨i, hi, rfl⟩, by rw [(sortI_perm _).mem_iff, mem_take_iff hn hi]; omega⟩, fun l hl hcl => ?_⟩
    by_cases hS : l ∈ S
    · exact hS
    · have := h1 l hl hS
      obtain ⟨j, hj, rfl⟩ := mem_grow.mp hl
      rw [(sortI_perm _).mem_iff, mem_take_iff hn hi] at hcl
      rw [grow_len hj] at this
      omega
theorem fam_grow {order : Lot} (hn : order.Nodup) (ho : ∀ c ∈ order, 0 ≤ c ∧ c < 6) : Fam (growL order) := by
  refine ⟨fun l hl => ?_, fun l hl => ?_, sortL_sorted _, (sortL_perm _).nodup_iff.mpr ?_⟩
  · obtain ⟨k, hk, rfl⟩ := mem_grow.mp hl
    refine ⟨sortI_lt (hn.sublist (List.take_sublist _ _)), fun c hc => ?_⟩
    rw [(sortI_perm _).mem_iff] at hc
    exact ho c (List.mem_of_mem_take hc)
  · obtain ⟨k, hk, rfl⟩ := mem_grow.mp hl
    intro e
    have := grow_len hk
    rw [e] at this
    cases this
  · refine List.pairwise_map.mpr ((List.nodup_range (n := order.length)).imp_of_mem fun {a b} ha hb hab e => hab ?_)
    have h1 := grow_len (List.mem_range.mp ha)
    have h2 := grow_len (List.mem_range.mp hb)
    rw [e] at h1
    omega
def rangI (m : Nat) : Lot := (List.range m).map fun c : Nat => (c : Int)
theorem rangI_lt (m : Nat) : (rangI m).Pairwise (· < ·) := List.pairwise_map.mpr ((List.pairwise_lt_range (n := m)).imp fun h => by omega)
theorem mem_rangI {m : Nat} {c : Int} : c ∈ rangI m ↔ 0 ≤ c ∧ c < m := by
  unfold rangI
  rw [List.mem_map]
  exact ⟨fun ⟨k, hk, e⟩ => by have := List.mem_range.mp hk; omega, fun h => ⟨c.toNat, List.mem_range.mpr (by omega), by omega⟩⟩
theorem fam_single (many : Nat) (h : many ≤ 6) : Fam ((rangI many).map fun c => [c]) := by
  refine ⟨fun l hl => ?_, fun l hl => ?_, ?_, ?_⟩
  · obtain ⟨k, hk, rfl⟩ := List.mem_map.mp hl
    have := mem_rangI.mp hk
    refine ⟨List.pairwise_singleton _ _, fun c hc => ?_⟩
    rw [List.mem_singleton.mp hc]
    omega
  · obtain ⟨k, hk, rfl⟩ := List.mem_map.mp hl
    simp
  · refine List.pairwise_map.mpr ((rangI_lt many).imp fun {a b} hab => ?_)
    unfold leL
    rw [Bool.not_eq_true', decide_eq_false_iff_not]
    intro hlt
    cases hlt with
    | cons h => cases h
    | rel h => omega
  · refine List.pairwise_map.mpr ((rangI_lt many).imp fun {a b} hab e => ?_)
    have := List.cons.inj e
    omega
theorem fam_sub {r bs : List Lot} (hr : ∀ l ∈ r, LotOk 6 l ∧ l ≠ []) (hn : r.Nodup) (hp : bs.Perm r) (n : Nat) : Fam (sortL (bs.take n)) := by
  have hs : ∀ l ∈ sortL (bs.take n), l ∈ r := fun l hl => hp.mem_iff.mp (List.mem_of_mem_take ((sortL_perm _).mem_iff.mp hl))
  exact ⟨fun l hl => (hr l (hs l hl)).1, fun l hl => (hr l (hs l hl)).2, sortL_sorted _, (sortL_perm _).nodup_iff.mpr ((hp.nodup_iff.mpr hn).sublist (List.take_sublist _ _))⟩
/-- what the drawn family obeys -/
inductive FK (F : List Lot) (kind : Str) (order : Lot) : Prop
  | all (many : Nat) : kind = "all" → (∀ l, l ∈ F ↔ LotOk many l ∧ l ≠ []) → (∀ c, c ∈ order ↔ 0 ≤ c ∧ c < (many : Int)) → FK F kind order
  | single (many : Nat) : kind = "single" → F = (rangI many).map (fun c => [c]) → FK F kind order
  | growing : kind = "growing" → F = growL order → order.Nodup → FK F kind order
  | drawn : kind = "drawn" → FK F kind order
end K32
set_option Elab.async false
set_option linter.all false
set_option maxRecDepth 100000
set_option maxHeartbeats 1000000
namespace K32
open PySem PySem.Spec PyProof.Rows L2 PF
/-! ### steps, one by one -/
section
variable {ρ ρ1 ρ2 ρ3 : Sl} {d e x y z : D} {ds xs : List D} {f fa fb : M D} {fs : M (List D)}
theorem y_un {o : D → Option D} (h : f ρ = some (d, ρ1)) (ho : o d = some e) : fUn o f ρ = some (e, ρ1) := by
  rw [x_fUn, h]; simp only [ho, x_lf_some]
theorem y_bin {o : D → D → Option D} (h : fa ρ = some (x, ρ1)) (h2 : fb ρ1 = some (y, ρ2)) (ho : o x y = some z) : fBin o fa fb ρ = some (z, ρ2) := by
  rw [x_fBin, h]; simp only [h2, ho, x_lf_some]
theorem y_list (h : fs ρ = some (ds, ρ1)) : fList fs ρ = some (.list ds, ρ1) := by
  rw [x_fList, h]
theorem y_tup (h : fs ρ = some (ds, ρ1)) : fTup fs ρ = some (.tuple ds, ρ1) := by
  rw [x_fTup, h]
theorem y_cons (h : f ρ = some (d, ρ1)) (h2 : fs ρ1 = some (ds, ρ2)) : fCons f fs ρ = some (d :: ds, ρ2) := by
  rw [x_fCons, h]; simp only [h2]
theorem y_nil : fNil ρ = some ([], ρ) := rfl
theorem y_c : fC d ρ = some (d, ρ) := rfl
theorem y_call {g : List D → Option D} (h : fs ρ = some (ds, ρ1)) (h2 : g ds = some d) : fCall g fs ρ = some (d, ρ1) := by
  rw [x_fCall, h]; simp only [h2, x_lf_some]
theorem y_f {o : D → Option (List D)} (h : f ρ = some (d, ρ1)) (h2 : o d = some ds) : fF o f ρ = some (ds, ρ1) := by
  rw [x_fF, h]; simp only [h2, x_lf_some]
theorem y_sl {fl fh : M (Option Int)} {lo hi : Option Int} (h : f ρ = some (x, ρ1)) (h2 : fl ρ1 = some (lo, ρ2)) (h3 : fh ρ2 = some (hi, ρ3)) (ho : oSl x lo hi = some z) : fSl f fl fh ρ = some (z, ρ3) := by
  rw [x_fSl, h]; simp only [h2, h3, ho, x_lf_some]
theorem y_part {i : Int} (h : f ρ = some (.int i, ρ1)) : fPart f ρ = some (some i, ρ1) := by
  rw [x_fPart, h]; simp only [isI_int, x_lf_some]
theorem y_no : fNo ρ = some (none, ρ) := rfl
theorem y_asg {ga : D → Sl → Option Sl} (h : f ρ = some (d, ρ1)) (h2 : ga d ρ1 = some ρ2) : sAsg f ga ρ = some (.nx, ρ2) := by
  rw [x_sAsg, h]; simp only [h2, Option.map_some]
theorem y_ret (h : f ρ = some (d, ρ1)) : sRet f ρ = some (.rt d, ρ1) := by
  rw [x_sRet, h]
theorem y_ifT {t : M Bool} {a b : S} (h : t ρ = some (true, ρ1)) : sIf t a b ρ = a ρ1 := by
  rw [x_sIf, h]; rfl
theorem y_ifF {t : M Bool} {a b : S} (h : t ρ = some (false, ρ1)) : sIf t a b ρ = b ρ1 := by
  rw [x_sIf, h]; rfl
theorem y_asB {b : Bool} (h : f ρ = some (.bool b, ρ1)) : asB f ρ = some (b, ρ1) := by
  rw [x_asB, h]; rfl
theorem y_tru {b : Bool} (h : f ρ = some (d, ρ1)) (h2 : truD d = some b) : fTru f ρ = some (b, ρ1) := by
  rw [x_fTru, h]; simp only [h2, x_lf_some]
theorem y_not {t : M Bool} {b : Bool} (h : t ρ = some (b, ρ1)) : fNotT t ρ = some (!b, ρ1) := by
  rw [x_fNotT, h]
theorem y_or {t u : M Bool} {b c : Bool} (h : t ρ = some (b, ρ1)) (h2 : u ρ1 = some (c, ρ1)) : fOrT t u ρ = some (b || c, ρ1) := by
  rw [x_fOrT, h]
  cases b
  · simp [h2]
  · simp [h2]
end
theorem rng_ints {n : Nat} (h : n < 100000) : oRngI (.int (n : Int)) = some (intsD (rangI n)) := by
  rw [rngI_nat h, intsD, rangI, List.map_map]
  congr 1
  refine List.map_congr_left fun i _ => ?_
  rw [Int.zero_add]
  rfl
theorem rng1_ints {n : Nat} (h : n < 100000) : oRng1 (.int (n : Int)) = some (intsD (rangI n)) := by
  unfold oRng1
  simp only
  rw [if_pos (by omega)]
  unfold rngD intsD rangI
  rw [List.map_map]
  congr 1
  rw [show ((n : Int) - 0).toNat = n by omega]
  refine List.map_congr_left fun i _ => ?_
  rw [Int.zero_add]
  rfl
theorem cut_drop (xs : List D) (k : Nat) : PF.cutD xs (some (k : Int)) none = xs.drop k := by
  unfold PF.cutD
  rw [HT.sIx_none, HT.sIx_nat]
  by_cases h : k ≤ xs.length
  · rw [Nat.min_eq_left h, List.take_of_length_le (by rw [List.length_drop]; omega)]
  · rw [Nat.min_eq_right (by omega), List.drop_eq_nil_of_le (Nat.le_refl _), List.drop_eq_nil_of_le (by omega), List.take_nil]
theorem cut_take (xs : List D) (k : Nat) : PF.cutD xs none (some (k : Int)) = xs.take k := by
  unfold PF.cutD
  rw [HT.sIx_none, HT.sIx_nat, List.drop_zero, Nat.sub_zero]
  by_cases h : k ≤ xs.length
  · rw [Nat.min_eq_left h]
  · rw [Nat.min_eq_right (by omega), List.take_of_length_le (Nat.le_refl _), List.take_of_length_le (by omega)]
theorem sl_drop (xs : List D) (k : Nat) : oSl (.list xs) (some (k : Int)) none = some (.list (xs.drop k)) := by
  show some (PyData.list (PF.cutD xs (some (k : Int)) none)) = _
  rw [cut_drop]
theorem sl_take (xs : List D) (k : Nat) : oSl (.list xs) none (some (k : Int)) = some (.list (xs.take k)) := by
  show some (PyData.list (PF.cutD xs none (some (k : Int)))) = _
  rw [cut_take]
def kinds : List Str := ["all", "single", "growing", "growing", "drawn", "drawn", "drawn"]
theorem kinds_ok : ∀ s ∈ kinds, PyData.strOk s = true := by decide +kernel
theorem kind_test {ρ : Sl} {i : Nat} {s t : Str} (h : ρ[i]? = some (some (.val (.str s)))) (hs : s ∈ kinds) (ht : t ∈ kinds) : asB (fBin oEq (fVar i) (fC (.str t))) ρ = some (decide (s = t), ρ) :=
  y_asB (y_bin (x_fVar h) y_c (oEq_str s t (kinds_ok s hs) (kinds_ok t ht)))
theorem perm_nodup {m : Nat} {o : Lot} (h : o.Perm (rangI m)) : o.Nodup := h.nodup_iff.mpr ((rangI_lt m).imp fun h => by omega)
theorem family_ok {k : Nat} {xs : List D} (h : DeckOk (k + 100) xs) : ∃ (F : List Lot) (kind : Str) (order : Lot) (ys : List D), m__law_family xs [] = some (.tuple [famD F, .str kind, .list (intsD order)], ys) ∧ DeckOk k ys ∧ Fam F ∧ FK F kind order ∧ kind ∈ kinds ∧ order.length ≤ 6 := by
  obtain ⟨r, xs1, e1, h0, h1, hd1⟩ := draw_ok (k := k + 99) (m := 6) h (by decide) (by decide)
  obtain ⟨many, hm, hm6⟩ : ∃ many : Nat, 1 + r = (many : Int) ∧ many ≤ 6 := ⟨(1 + r).toNat, by omega, by omega⟩
  obtain ⟨d, hd, xs2, e2, hd2⟩ := pick_ok (k := k + 98) (sd := .list (kinds.map .str)) (ds := kinds.map .str) hd1 (.inl rfl) (by decide) (by decide)
  obtain ⟨kind, hk, rfl⟩ := List.mem_map.mp hd
  have hrl : (rangI many).length = many := by rw [rangI, List.length_map, List.length_range]
  obtain ⟨order, xs3, e3, hp, hd3⟩ := shuffled_ok PyData.int (rangI many) (k := k + 92) (xs := xs2) (hd2.less (by omega)) (by omega)
  have hol : order.length = many := by rw [hp.length_eq, hrl]
  have hom : ∀ c, c ∈ order ↔ 0 ≤ c ∧ c < (many : Int) := fun c => by rw [hp.mem_iff, mem_rangI]
  suffices H : ∃ (F : List Lot) (ys : List D) (ρ' : Sl), g__law_family [some (.own xs), none, none, none, none, none, none] = some (.rt (.tuple [famD F, .str kind, .list (intsD order)]), ρ') ∧ ρ'[(0 : Nat)]? = some (some (.own ys)) ∧ DeckOk k ys ∧ Fam F ∧ FK F kind order by
    obtain ⟨F, ys, ρ', g1, g2, g3, g4, g5⟩ := H
    exact ⟨F, kind, order, ys, runM_of g1 g2, g3, g4, g5, hk, by omega⟩
  have s1 : sAsg (fBin oAdd (fC (.int 1)) (fCallM m__law_draw 0 (fCons (fC (.int 6)) fNil))) (gaN 1) [some (.own xs), none, none, none, none, none, none] = some (.nx, [some (.own xs1), some (.val (.int (many : Int))), none, none, none, none, none]) := by
    rw [← hm]
    exact y_asg (ρ1 := [some (.own xs1), none, none, none, none, none, none]) (y_bin y_c (x_fCallM (ρ1 := [some (.own xs), none, none, none, none, none, none]) rfl (y_cons y_c y_nil) rfl e1) rfl) rfl
  have s2 : sAsg (fCallM m__law_pick 0 (fCons (fList (fCons (fC (.str "all")) (fCons (fC (.str "single")) (fCons (fC (.str "growing")) (fCons (fC (.str "growing")) (fCons (fC (.str "drawn")) (fCons (fC (.str "drawn")) (fCons (fC (.str "drawn")) fNil)))))))) fNil)) (gaN 2) [some (.own xs1), some (.val (.int (many : Int))), none, none, none, none, none] = some (.nx, [some (.own xs2), some (.val (.int (many : Int))), some (.val (.str kind)), none, none, none, none]) :=
    y_asg (x_fCallM (ρ1 := [some (.own xs1), some (.val (.int (many : Int))), none, none, none, none, none]) rfl (y_cons (y_list (y_cons y_c (y_cons y_c (y_cons y_c (y_cons y_c (y_cons y_c (y_cons y_c (y_cons y_c y_nil)))))))) y_nil) rfl e2) rfl
  have s3 : sAsg (fCallM m__law_shuffled 0 (fCons (fList (fF oRng1 (fVar 1))) fNil)) (gaN 3) [some (.own xs2), some (.val (.int (many : Int))), some (.val (.str kind)), none, none, none, none] = some (.nx, [some (.own xs3), some (.val (.int (many : Int))), some (.val (.str kind)), some (.val (.list (intsD order))), none, none, none]) :=
    y_asg (x_fCallM (ρ1 := [some (.own xs2), some (.val (.int (many : Int))), some (.val (.str kind)), none, none, none, none]) rfl (y_cons (y_list (y_f (x_fVar rfl) (rng1_ints (by omega)))) y_nil) rfl e3) rfl
  unfold g__law_family
  rw [x_sSeq s1, x_sSeq s2, x_sSeq s3]
  clear s1 s2 s3
  by_cases k1 : kind = "all"
  · obtain ⟨rr, q1, q2, q3, q4⟩ := lots_head many
    refine ⟨rr, xs3, [some (.own xs3), some (.val (.int (many : Int))), some (.val (.str kind)), some (.val (.list (intsD order))), none, none, none], ?_, rfl, hd3.less (by omega), ⟨fun l hl => ?_, fun l hl => ((q4 l).mp hl).2, q2, q3⟩, .all many k1 q4 hom⟩
    · refine x_sSeqR ((y_ifT ((kind_test rfl hk (by decide)).trans (by rw [decide_eq_true k1]))).trans (x_sSeqR (y_ret (y_tup (y_cons (y_un (y_sl (y_call (y_cons (x_fVar rfl) y_nil) (lots_eq many hm6)) (y_part y_c) y_no (sl_drop _ 1)) ?_) (y_cons (x_fVar rfl) (y_cons (x_fVar rfl) y_nil)))))))
      rw [q1]
      rfl
    · obtain ⟨⟨a, b⟩, _⟩ := (q4 l).mp hl
      exact ⟨a, fun c hc => by have := b c hc; omega⟩
  rw [x_sSeq ((y_ifF ((kind_test rfl hk (by decide)).trans (by rw [decide_eq_false k1]))).trans (x_sNx))]
  by_cases k2 : kind = "single"
  · refine ⟨_, xs3, [some (.own xs3), some (.val (.int (many : Int))), some (.val (.str kind)), some (.val (.list (intsD order))), none, none, none], ?_, rfl, hd3.less (by omega), fam_single many hm6, .single many k2 rfl⟩
    have hc : fLc [5] (fF oRngI (fVar 1)) (gaN 5) (pr true) (fTup (fCons (fVar 5) fNil)) [some (.own xs3), some (.val (.int (many : Int))), some (.val (.str kind)), some (.val (.list (intsD order))), none, none, none] = some ((rangI many).map (fun c => lotD [c]), [some (.own xs3), some (.val (.int (many : Int))), some (.val (.str kind)), some (.val (.list (intsD order))), none, none, none]) :=
      lc_map (as := rangI many) PyData.int (fun c => lotD [c]) (fun c => [some (.own xs3), some (.val (.int (many : Int))), some (.val (.str kind)), some (.val (.list (intsD order))), none, some (.val (.int c)), none]) (y_f (x_fVar rfl) (rng_ints (by omega))) (by omega) (fun _ _ => rfl) (fun c _ => y_tup (y_cons (x_fVar rfl) y_nil)) (fun _ _ => rfl)
    refine x_sSeqR ((y_ifT ((kind_test rfl hk (by decide)).trans (by rw [decide_eq_true k2]))).trans (x_sSeqR (y_ret (y_tup (y_cons (y_un (y_list hc) ?_) (y_cons (x_fVar rfl) (y_cons (x_fVar rfl) y_nil)))))))
    rw [oTuple, famD, lotsD, List.map_map]
    rfl
  rw [x_sSeq ((y_ifF ((kind_test rfl hk (by decide)).trans (by rw [decide_eq_false k2]))).trans (x_sNx))]
  by_cases k3 : kind = "growing"
  · have hn := perm_nodup hp
    have hfg := fam_grow hn fun c hc => by have := (hom c).mp hc; omega
    refine ⟨growL order, xs3, [some (.own xs3), some (.val (.int (many : Int))), some (.val (.str kind)), some (.val (.list (intsD order))), none, none, none], ?_, rfl, hd3.less (by omega), hfg, .growing k3 rfl hn⟩
    have hc : fLc [6] (fF oRngI (fVar 1)) (gaN 6) (pr true) (fUn oTuple (fList (fF oSortD (fSl (fVar 3) fNo (fPart (fBin oAdd (fVar 6) (fC (.int 1)))))))) [some (.own xs3), some (.val (.int (many : Int))), some (.val (.str kind)), some (.val (.list (intsD order))), none, none, none] = some ((List.range many).map (fun k => lotD (sortI (order.take (k + 1)))), [some (.own xs3), some (.val (.int (many : Int))), some (.val (.str kind)), some (.val (.list (intsD order))), none, none, none]) :=
      lc_map (as := List.range many) (fun i : Nat => PyData.int (0 + (i : Int))) (fun k => lotD (sortI (order.take (k + 1)))) (fun c => [some (.own xs3), some (.val (.int (many : Int))), some (.val (.str kind)), some (.val (.list (intsD order))), none, none, some (.val (.int (0 + (c : Int))))]) (y_f (x_fVar rfl) (rngI_nat (by omega))) (by rw [List.length_range]; omega) (fun _ _ => rfl) (fun c _ => y_un (y_list (y_f (y_sl (x_fVar rfl) y_no (y_part (y_bin (z := .int ((c + 1 : Nat) : Int)) (x_fVar rfl) y_c (by rw [Int.zero_add]; rfl))) (sl_take _ _)) (by rw [intsD, ← List.map_take]; exact oSort_ints _))) rfl) (fun _ _ => rfl)
    have hne : ∀ l ∈ (List.range many).map (fun k => sortI (order.take (k + 1))), l ≠ [] := fun l hl => by
      obtain ⟨q, hq, rfl⟩ := List.mem_map.mp hl
      exact hfg.ne _ (mem_grow.mpr ⟨q, by have := List.mem_range.mp hq; omega, rfl⟩)
    have hs := oSort_lots (sortB_ne hne)
    refine x_sSeqR ((y_ifT ((kind_test rfl hk (by decide)).trans (by rw [decide_eq_true k3]))).trans (x_sSeqR (y_ret (y_tup (y_cons (y_un (y_list (y_f (y_list hc) (?_ : _ = some (lotsD (growL order))))) rfl) (y_cons (x_fVar rfl) (y_cons (x_fVar rfl) y_nil)))))))
    rw [lotsD, List.map_map] at hs
    unfold growL
    rw [hol]
    exact hs
  rw [x_sSeq ((y_ifF ((kind_test rfl hk (by decide)).trans (by rw [decide_eq_false k3]))).trans (x_sNx))]
  obtain ⟨rr, q1, q2, q3, q4⟩ := lots_head 6
  have hrrl : rr.length ≤ 63 := by
    have := nodup_len (b := rawL 6) (show ([] :: rr : List Lot).Nodup by rw [← q1]; exact (sortL_perm _).nodup_iff.mpr (rawL_nodup 6)) fun l hl => (sortL_perm _).mem_iff.mp (by rw [q1]; exact hl)
    rw [rawL_len, List.length_cons] at this
    omega
  obtain ⟨lots, xs4, e4, hp4, hd4⟩ := shuffled_ok lotD rr (k := k + 29) (xs := xs3) (hd3.less (by omega)) (by omega)
  obtain ⟨r2, xs5, e5, h50, h51, hd5⟩ := draw_ok (k := k + 28) (m := 21) hd4 (by decide) (by decide)
  obtain ⟨n2, rfl⟩ := Int.eq_ofNat_of_zero_le h50
  have hfs := fam_sub (fun l hl => (q4 l).mp hl) q3 hp4 n2
  have hd : kind = "drawn" := by
    have : ∀ s ∈ kinds, s ≠ "all" → s ≠ "single" → s ≠ "growing" → s = "drawn" := by decide +kernel
    exact this kind hk k1 k2 k3
  refine ⟨sortL (lots.take n2), xs5, [some (.own xs5), some (.val (.int (many : Int))), some (.val (.str kind)), some (.val (.list (intsD order))), some (.val (.list (lotsD (lots.take n2)))), none, none], ?_, rfl, hd5.less (by omega), hfs, .drawn hd⟩
  have s4 : sAsg (fSl (fCallM m__law_shuffled 0 (fCons (fSl (fCall m__law_lots (fCons (fC (.int 6)) fNil)) (fPart (fC (.int 1))) fNo) fNil)) fNo (fPart (fCallM m__law_draw 0 (fCons (fC (.int 21)) fNil)))) (gaN 4) [some (.own xs3), some (.val (.int (many : Int))), some (.val (.str kind)), some (.val (.list (intsD order))), none, none, none] = some (.nx, [some (.own xs5), some (.val (.int (many : Int))), some (.val (.str kind)), some (.val (.list (intsD order))), some (.val (.list (lotsD (lots.take n2)))), none, none]) := by
    refine y_asg (y_sl (ρ1 := [some (.own xs4), some (.val (.int (many : Int))), some (.val (.str kind)), some (.val (.list (intsD order))), none, none, none]) (ρ3 := [some (.own xs5), some (.val (.int (many : Int))), some (.val (.str kind)), some (.val (.list (intsD order))), none, none, none]) (x_fCallM (ρ1 := [some (.own xs3), some (.val (.int (many : Int))), some (.val (.str kind)), some (.val (.list (intsD order))), none, none, none]) (ds := [.list (lotsD rr)]) rfl (y_cons (y_sl (y_call (y_cons y_c y_nil) (lots_eq 6 (by decide))) (y_part y_c) y_no ?_) y_nil) rfl e4) y_no (y_part (x_fCallM (ρ1 := [some (.own xs4), some (.val (.int (many : Int))), some (.val (.str kind)), some (.val (.list (intsD order))), none, none, none]) rfl (y_cons y_c y_nil) rfl e5)) (sl_take _ _)) ?_
    · rw [q1]
      exact sl_drop _ 1
    · rw [← List.map_take]
      rfl
  rw [x_sSeq s4]
  exact x_sSeqR (y_ret (y_tup (y_cons (y_un (y_list (y_f (x_fVarB rfl) (oSort_lots (sortB_ne fun l hl => ((q4 l).mp (hp4.mem_iff.mp (List.mem_of_mem_take hl))).2)))) rfl) (y_cons (x_fVar rfl) (y_cons (x_fVar rfl) y_nil)))))
end K32
set_option Elab.async false
set_option linter.all false
set_option maxRecDepth 100000
set_option maxHeartbeats 1000000
namespace K32
open PySem PySem.Spec PyProof.Rows L2 PF
theorem lot_alike {x : Lot} (h : x.length < 1000) : m__law_alike 5 [lotD x, lotD x] = some (.bool true) := alike_refl 5 _ (al_lot (j := 3) x h)
theorem oAdd_listI (xs ys : List D) (h : xs.length + ys.length < 1000) : oAdd (.list xs) (.list ys) = some (.list (xs ++ ys)) := by
  show (if xs.length + ys.length ≤ sizeLine then some (PyData.list (xs ++ ys)) else none) = _
  rw [if_pos (Nat.le_of_lt (big (by omega)))]
theorem formula_ok {F S : List Lot} {order t : Lot} {kind : Str} (hF : Fam F) (hk : kind ∈ kinds) (fk : FK F kind order) (ho : order.length ≤ 6) (hS : S.Sublist F) (ht : LotOk 6 t) :
    m__law_by_formula [famD F, .str kind, .list (intsD order), famD S, lotD t] = some (.bool true) := by
  have hFl := hF.len
  have h64 : (ddI F.flatten).length < 64 := Nat.lt_of_le_of_lt hF.flat (by decide)
  have htl := lotOk_len ht
  suffices H : ∃ ρ', g__law_by_formula [some (.val (famD F)), some (.val (.str kind)), some (.val (.list (intsD order))), some (.val (famD S)), some (.val (lotD t)), none, none, none] = some (.rt (.bool true), ρ') by
    obtain ⟨ρ', e⟩ := H
    exact runP_of e
  unfold g__law_by_formula
  by_cases k1 : kind = "all"
  · refine ⟨[some (.val (famD F)), some (.val (.str kind)), some (.val (.list (intsD order))), some (.val (famD S)), some (.val (lotD t)), none, none, none], x_sSeqR ((y_ifT ((kind_test rfl hk (by decide)).trans (by rw [decide_eq_true k1]))).trans (x_sSeqR (y_ret ?_)))⟩
    have e : closingL F (marksL F t) = t.filter fun c => decide (c ∈ order) := by
      cases fk with
      | all many _ a b => exact closing_all a b t ht.1
      | single _ a => rw [k1] at a; exact absurd a (by decide)
      | growing a => rw [k1] at a; exact absurd a (by decide)
      | drawn a => rw [k1] at a; exact absurd a (by decide)
    have hc : fLc [6] (fF oSeq (fVar 4)) (gaN 6) (asB (fBin oIn (fVar 6) (fVarB 2))) (fVar 6) [some (.val (famD F)), some (.val (.str kind)), some (.val (.list (intsD order))), some (.val (famD S)), some (.val (lotD t)), none, none, none] = some (intsD (t.filter fun c => decide (c ∈ order)), [some (.val (famD F)), some (.val (.str kind)), some (.val (.list (intsD order))), some (.val (famD S)), some (.val (lotD t)), none, none, none]) :=
      lc_filter (as := t) PyData.int PyData.int (fun c => decide (c ∈ order)) (fun c => [some (.val (famD F)), some (.val (.str kind)), some (.val (.list (intsD order))), some (.val (famD S)), some (.val (lotD t)), none, some (.val (.int c)), none]) (y_f (x_fVar rfl) rfl) (by omega) (fun _ _ => rfl) (fun c _ => y_asB (y_bin (x_fVar rfl) (x_fVarB rfl) (oIn_ints c order))) (fun c _ _ => x_fVar rfl) (fun _ _ => rfl)
    refine y_call (y_cons (y_call (y_cons (x_fVar rfl) (y_cons (y_call (y_cons (x_fVar rfl) (y_cons (x_fVar rfl) y_nil)) (marks_eq F t (by omega))) y_nil)) (closing_eq F _ (by omega) h64)) (y_cons (y_un (y_list hc) rfl) y_nil)) ?_
    rw [e]
    exact lot_alike (Nat.lt_of_le_of_lt (List.length_filter_le _ _) (by omega))
  rw [x_sSeq ((y_ifF ((kind_test rfl hk (by decide)).trans (by rw [decide_eq_false k1]))).trans (x_sNx))]
  by_cases k2 : kind = "single"
  · refine ⟨[some (.val (famD F)), some (.val (.str kind)), some (.val (.list (intsD order))), some (.val (famD S)), some (.val (lotD t)), none, none, none], x_sSeqR ((y_ifT ((kind_test rfl hk (by decide)).trans (by rw [decide_eq_true k2]))).trans (x_sSeqR (y_ret ?_)))⟩
    obtain ⟨cs, rfl, e⟩ : ∃ cs : Lot, S = cs.map (fun c => [c]) ∧ closingL F S = cs := by
      cases fk with
      | all _ a => rw [k2] at a; exact absurd a (by decide)
      | single many _ a =>
        rw [a] at hS
        obtain ⟨cs, h1, h2⟩ := List.sublist_map_iff.mp hS
        refine ⟨cs, h2, ?_⟩
        rw [a, h2]
        exact closing_single (rangI_lt many) h1
      | growing a => rw [k2] at a; exact absurd a (by decide)
      | drawn a => rw [k2] at a; exact absurd a (by decide)
    have hcl : cs.length ≤ 64 := by
      have := hS.length_le
      rw [List.length_map] at this
      omega
    have hc : fLc [7] (fF oSeq (fVar 3)) (gaN 7) (pr true) (fIxN 7 (fC (.int 0))) [some (.val (famD F)), some (.val (.str kind)), some (.val (.list (intsD order))), some (.val (famD (cs.map fun c => [c]))), some (.val (lotD t)), none, none, none] = some (intsD cs, [some (.val (famD F)), some (.val (.str kind)), some (.val (.list (intsD order))), some (.val (famD (cs.map fun c => [c]))), some (.val (lotD t)), none, none, none]) :=
      lc_map (as := cs) (fun c => lotD [c]) PyData.int (fun c => [some (.val (famD F)), some (.val (.str kind)), some (.val (.list (intsD order))), some (.val (famD (cs.map fun c => [c]))), some (.val (lotD t)), none, none, some (.val (lotD [c]))]) (y_f (x_fVar rfl) (by rw [seq_fam, lotsD, List.map_map]; rfl)) (by omega) (fun _ _ => rfl) (fun c _ => (x_fIxN (y := .int 0) (x := lotD [c]) rfl y_c rfl).trans rfl) (fun _ _ => rfl)
    refine y_call (y_cons (y_call (y_cons (x_fVar rfl) (y_cons (x_fVar rfl) y_nil)) (closing_eq F _ (by omega) h64)) (y_cons (y_un (y_list hc) rfl) y_nil)) ?_
    rw [e]
    exact lot_alike (by omega)
  rw [x_sSeq ((y_ifF ((kind_test rfl hk (by decide)).trans (by rw [decide_eq_false k2]))).trans (x_sNx))]
  by_cases k3 : kind = "growing"
  · obtain ⟨rfl, hn⟩ : F = growL order ∧ order.Nodup := by
      cases fk with
      | all _ a => rw [k3] at a; exact absurd a (by decide)
      | single _ a => rw [k3] at a; exact absurd a (by decide)
      | growing _ a b => exact ⟨a, b⟩
      | drawn a => rw [k3] at a; exact absurd a (by decide)
    generalize hFg : growL order = F at *
    have hlc : ((F.filter fun l => decide (l ∉ S)).map fun l => (l.length : Int)).length ≤ 64 := by
      rw [List.length_map]
      exact Nat.le_trans (List.length_filter_le _ _) hFl
    have hc : fLc [7] (fF oSeq (fVar 0)) (gaN 7) (asB (fBin oNotIn (fVar 7) (fVarB 3))) (fUn oLen (fVarB 7)) [some (.val (famD F)), some (.val (.str kind)), some (.val (.list (intsD order))), some (.val (famD S)), some (.val (lotD t)), none, none, none] = some ((F.filter fun l => decide (l ∉ S)).map (fun l => PyData.int (l.length : Int)), [some (.val (famD F)), some (.val (.str kind)), some (.val (.list (intsD order))), some (.val (famD S)), some (.val (lotD t)), none, none, none]) :=
      lc_filter (as := F) lotD (fun l => PyData.int (l.length : Int)) (fun l => decide (l ∉ S)) (fun l => [some (.val (famD F)), some (.val (.str kind)), some (.val (.list (intsD order))), some (.val (famD S)), some (.val (lotD t)), none, none, some (.val (lotD l))]) (y_f (x_fVar rfl) rfl) (by omega) (fun _ _ => rfl) (fun l _ => y_asB (y_bin (x_fVar rfl) (x_fVarB rfl) (oNotIn_fam l S))) (fun l _ _ => y_un (x_fVarB rfl) (by show some (PyData.int ((intsD l).length : Nat)) = _; rw [intsD, List.length_map])) (fun _ _ => rfl)
    have hmx := maxI_spec (ns := 0 :: (F.filter fun l => decide (l ∉ S)).map fun l => (l.length : Int)) (by simp)
    have hom : oMax (.list (PyData.int 0 :: (F.filter fun l => decide (l ∉ S)).map (fun l => PyData.int (l.length : Int)))) = some (.int (maxI (0 :: (F.filter fun l => decide (l ∉ S)).map fun l => (l.length : Int)))) := by
      have : (PyData.int 0 :: (F.filter fun l => decide (l ∉ S)).map (fun l => PyData.int (l.length : Int))) = intsD (0 :: (F.filter fun l => decide (l ∉ S)).map fun l => (l.length : Int)) := by
        rw [intsD, List.map_cons, List.map_map]
        rfl
      unfold oMax
      rw [this]
      simp only [asInts_intsD]
    generalize hlst : maxI (0 :: (F.filter fun l => decide (l ∉ S)).map fun l => (l.length : Int)) = lst at hmx hom
    obtain ⟨last, rfl⟩ := Int.eq_ofNat_of_zero_le (hmx.2 0 List.mem_cons_self)
    have e : closingL F S = sortI (order.drop last) := by
      rw [← hFg]
      refine closing_grow hn (fun l hl hlS => ?_) ?_
      · rw [hFg] at hl
        have := hmx.2 (l.length : Int) (List.mem_cons_of_mem _ (List.mem_map.mpr ⟨l, List.mem_filter.mpr ⟨hl, decide_eq_true hlS⟩, rfl⟩))
        omega
      · rcases List.mem_cons.mp hmx.1 with h | h
        · exact .inl (by omega)
        · obtain ⟨l, hl, e⟩ := List.mem_map.mp h
          obtain ⟨h1, h2⟩ := List.mem_filter.mp hl
          exact .inr ⟨l, by rw [hFg]; exact h1, of_decide_eq_true h2, by omega⟩
    refine ⟨[some (.val (famD F)), some (.val (.str kind)), some (.val (.list (intsD order))), some (.val (famD S)), some (.val (lotD t)), some (.val (.int (last : Int))), none, none], x_sSeqR ((y_ifT ((kind_test rfl hk (by decide)).trans (by rw [decide_eq_true k3]))).trans ((x_sSeq (ρ1 := [some (.val (famD F)), some (.val (.str kind)), some (.val (.list (intsD order))), some (.val (famD S)), some (.val (lotD t)), some (.val (.int (last : Int))), none, none]) (y_asg (y_un (y_bin (y_list (y_cons y_c y_nil)) (y_list hc) (oAdd_listI _ _ ?_)) hom) rfl)).trans (x_sSeqR (y_ret ?_))))⟩
    · rw [List.length_map] at hlc ⊢
      rw [List.length_singleton]
      omega
    · refine y_call (y_cons (y_call (y_cons (x_fVar rfl) (y_cons (x_fVar rfl) y_nil)) (closing_eq F _ (by omega) h64)) (y_cons (y_un (y_list (y_f (y_sl (x_fVar rfl) (y_part (x_fVar rfl)) y_no (sl_drop _ _)) (by rw [intsD, ← List.map_drop]; exact oSort_ints _))) rfl) y_nil)) ?_
      rw [e]
      refine lot_alike ?_
      rw [(sortI_perm _).length_eq, List.length_drop]
      omega
  rw [x_sSeq ((y_ifF ((kind_test rfl hk (by decide)).trans (by rw [decide_eq_false k3]))).trans (x_sNx))]
  exact ⟨_, x_sSeqR (y_ret y_c)⟩
end K32
set_option Elab.async false
set_option linter.all false
set_option maxRecDepth 100000
set_option maxHeartbeats 1000000
namespace K32
open PySem PySem.Spec PyProof.Rows L2 PF PySem.W
/-! ### the rows and the families as keys -/
def keyL (l : Lot) : NestedKey := .tup (l.map .num)
def keyF (F : List Lot) : NestedKey := .tup (F.map keyL)
theorem toKeys_map {α : Type} (enc : α → D) (key : α → NestedKey) (h : ∀ a, toKey (enc a) = some (key a)) : ∀ as : List α, toKeys (as.map enc) = some (as.map key)
  | [] => by rw [List.map_nil, List.map_nil, toKeys]
  | a :: as => by rw [List.map_cons, List.map_cons, toKeys, h a, toKeys_map enc key h as]
theorem toKey_lot (l : Lot) : toKey (lotD l) = some (keyL l) := by
  rw [lotD, toKey, intsD, toKeys_map PyData.int .num (fun i => by rw [toKey])]
  rfl
theorem toKey_fam (F : List Lot) : toKey (famD F) = some (keyF F) := by
  rw [famD, toKey, lotsD, toKeys_map lotD keyL toKey_lot]
  rfl
theorem data_lot (l : Lot) : (keyL l).data = lotD l := (toKey_ok _ _ (toKey_lot l)).1
theorem data_fam (F : List Lot) : (keyF F).data = famD F := (toKey_ok _ _ (toKey_fam F)).1
theorem depths_le {n : Nat} : ∀ {ks : List NestedKey}, (∀ k ∈ ks, k.depth ≤ n) → NestedKey.depthAll ks ≤ n
  | [], _ => by rw [NestedKey.depthAll]; omega
  | k :: ks, h => by
    rw [NestedKey.depthAll]
    have h1 := h k List.mem_cons_self
    have h2 := depths_le (ks := ks) fun x hx => h x (List.mem_cons_of_mem _ hx)
    omega
theorem depth_lot (l : Lot) : (keyL l).depth ≤ 1 := by
  rw [keyL, NestedKey.depth]
  have := depths_le (n := 0) (ks := l.map .num) fun k hk => by
    obtain ⟨i, _, rfl⟩ := List.mem_map.mp hk
    rw [NestedKey.depth]
    omega
  omega
theorem depth_fam (F : List Lot) : (keyF F).depth ≤ 2 := by
  rw [keyF, NestedKey.depth]
  have := depths_le (n := 1) (ks := F.map keyL) fun k hk => by
    obtain ⟨i, _, rfl⟩ := List.mem_map.mp hk
    exact depth_lot i
  omega
theorem tupK_lot (l : Lot) : tupK (lotD l) = some (keyL l) := by
  show (match toKey (lotD l) with
    | some k => if k.depth ≤ 8 then some k else none
    | none => none) = _
  rw [toKey_lot]
  simp only
  rw [if_pos (by have := depth_lot l; omega)]
theorem tupK_fam (F : List Lot) : tupK (famD F) = some (keyF F) := by
  show (match toKey (famD F) with
    | some k => if k.depth ≤ 8 then some k else none
    | none => none) = _
  rw [toKey_fam]
  simp only
  rw [if_pos (by have := depth_fam F; omega)]
theorem keyL_inj {a b : Lot} (h : keyL a = keyL b) : a = b := lotD_inj.mp (by rw [← data_lot, ← data_lot, h])
theorem keyF_inj {a b : List Lot} (h : keyF a = keyF b) : a = b := famD_inj.mp (by rw [← data_fam, ← data_fam, h])
def addG {α : Type} [DecidableEq α] (l : List α) (k : α) : List α := if k ∈ l then l else l ++ [k]
def ddG {α : Type} [DecidableEq α] (l : List α) : List α := l.foldl addG []
section
variable {α : Type} [DecidableEq α]
theorem addG_mem {l : List α} {k j : α} : j ∈ addG l k ↔ j ∈ l ∨ j = k := by
  unfold addG
  by_cases h : k ∈ l
  · rw [if_pos h]
    exact ⟨fun z => .inl z, fun z => z.elim (fun y => y) fun y => y ▸ h⟩
  · rw [if_neg h, List.mem_append, List.mem_singleton]
theorem addG_nodup {l : List α} {k : α} (h : l.Nodup) : (addG l k).Nodup := by
  unfold addG
  by_cases hk : k ∈ l
  · rw [if_pos hk]
    exact h
  · rw [if_neg hk, List.nodup_append]
    exact ⟨h, by simp, fun a ha b hb e => hk (by rw [← List.mem_singleton.mp hb, ← e]; exact ha)⟩
theorem foldG : ∀ (ns l : List α), (∀ j, j ∈ ns.foldl addG l ↔ j ∈ l ∨ j ∈ ns) ∧ (l.Nodup → (ns.foldl addG l).Nodup)
  | [], l => ⟨fun j => by simp, fun h => h⟩
  | n :: ns, l => by
    obtain ⟨a, b⟩ := foldG ns (addG l n)
    refine ⟨fun j => ?_, fun h => b (addG_nodup h)⟩
    rw [List.foldl_cons, a, addG_mem, List.mem_cons, or_assoc]
theorem ddG_mem {ns : List α} {j : α} : j ∈ ddG ns ↔ j ∈ ns := by
  unfold ddG
  rw [(foldG ns []).1]
  simp
theorem ddG_nodup (ns : List α) : (ddG ns).Nodup := (foldG ns []).2 List.nodup_nil
theorem ddG_len (ns : List α) : (ddG ns).length ≤ ns.length := nodup_len (ddG_nodup ns) fun x hx => ddG_mem.mp hx
theorem ddK_map {key : α → NestedKey} (h : ∀ a b, key a = key b → a = b) (as : List α) : ddK (as.map key) = (ddG as).map key := by
  have step : ∀ (as l : List α), (as.map key).foldl addK (l.map key) = (as.foldl addG l).map key := by
    intro as
    induction as with
    | nil => intro l; rfl
    | cons a as ih =>
      intro l
      rw [List.map_cons, List.foldl_cons, List.foldl_cons, ← ih]
      congr 1
      unfold addK addG
      by_cases hk : a ∈ l
      · rw [if_pos hk, if_pos (List.mem_map.mpr ⟨a, hk, rfl⟩)]
      · rw [if_neg hk, if_neg fun hm => by
          obtain ⟨b, hb, e⟩ := List.mem_map.mp hm
          rw [h b a e] at hb
          exact hk hb, List.map_append]
        rfl
  exact step as []
theorem dicKeys_map (enc : α → D) (key : α → NestedKey) (v : D) (h : ∀ a, tupK (enc a) = some (key a)) : ∀ as : List α, dicKeys (as.map fun a => .tuple [enc a, v]) = some (as.map key)
  | [] => rfl
  | a :: as => by
    rw [List.map_cons, List.map_cons]
    show (match tupK (enc a) with
      | some k => (dicKeys (as.map fun a => .tuple [enc a, v])).map (k :: ·)
      | none => none) = _
    rw [h a, dicKeys_map enc key v h as]
    rfl
end
theorem oDic_lots (F : List Lot) (v : D) : oDicN (.list (F.map fun l => .tuple [lotD l, v])) = some (dicD (lotsD (ddG F))) := by
  unfold oDicN
  simp only
  rw [dicKeys_map lotD keyL v tupK_lot, Option.map_some, ddK_map (fun a b => keyL_inj), List.map_map, lotsD]
  exact congrArg (fun z => some (dicD z)) (List.map_congr_left fun l _ => data_lot l)
theorem oDic_fams (Fs : List (List Lot)) (v : D) : oDicN (.list (Fs.map fun l => .tuple [famD l, v])) = some (dicD ((ddG Fs).map famD)) := by
  unfold oDicN
  simp only
  rw [dicKeys_map famD keyF v tupK_fam, Option.map_some, ddK_map (fun a b => keyF_inj), List.map_map]
  exact congrArg (fun z => some (dicD z)) (List.map_congr_left fun l _ => data_fam l)
theorem oSortN_lots {F : List Lot} (hne : ∀ l ∈ F, l ≠ []) (hl : F.length ≤ 1000) : oSortN (dicD (lotsD F)) = some (lotsD (sortL F)) := by
  show (if sortB (lotsD F) = true ∧ (lotsD F).length ≤ 60000 then some (sortD (lotsD F)) else none) = _
  rw [if_pos ⟨sortB_ne hne, by rw [lotsD, List.length_map]; omega⟩, sortD_lots]
theorem oInN_fams (S : List Lot) (Fs : List (List Lot)) : oInN (famD S) (dicD (Fs.map famD)) = some (.bool (decide (S ∈ Fs))) := by
  show (match tupK (famD S), toKeys (Fs.map famD) with
    | some k, some kk => some (PyData.bool (decide (k ∈ kk)))
    | _, _ => none) = _
  rw [tupK_fam, toKeys_map famD keyF toKey_fam]
  simp only
  congr 2
  rw [decide_eq_decide]
  exact ⟨fun h => by
    obtain ⟨T, hT, e⟩ := List.mem_map.mp h
    rw [← keyF_inj e]
    exact hT, fun h => List.mem_map.mpr ⟨S, h, rfl⟩⟩
/-- own marks and the second telling's, each once and sorted: the marks of the joint telling -/
theorem both_eq {F : List Lot} (hF : Fam F) (t u : Lot) : sortL (ddG (marksL F t ++ marksL F u)) = marksL F (sdI (t ++ u)) := by
  have hn : (marksL F (sdI (t ++ u))).Nodup := hF.nodup.filter _
  refine sorted_unique ((List.perm_ext_iff_of_nodup ((sortL_perm _).nodup_iff.mpr (ddG_nodup _)) hn).mpr fun l => ?_) (sortL_sorted _) (hF.sorted.filter _)
  rw [(sortL_perm _).mem_iff, ddG_mem, List.mem_append, marks_joint]
end K32
set_option Elab.async false
set_option linter.all false
set_option maxRecDepth 100000
set_option maxHeartbeats 2000000
namespace K32
open PySem PySem.Spec PyProof.Rows L2 PF
abbrev v (d : D) : Option Cel := some (.val d)
/-- the slots of the law -/
def ST (sc : D) (dk : List D) (l : List (Option Cel)) : Sl := v sc :: some (.own dk) :: (l ++ List.replicate (22 - l.length) none)
section
variable {ρ ρ1 ρ2 ρ3 : Sl} {d e x y z : D} {ds xs : List D} {f fa fb : M D} {fs : M (List D)}
theorem y_callF {g : List D → Option (List D)} (h : fs ρ = some (ds, ρ1)) (h2 : g ds = some xs) : fCallF g fs ρ = some (xs, ρ1) := by
  unfold fCallF
  rw [x_bd, h]
  simp only [h2, x_lf_some]
theorem y_par {i j : Nat} (h : fs ρ = some ([x, y], ρ1)) (h2 : gaN i x ρ1 = some ρ2) (h3 : gaN j y ρ2 = some ρ3) : sPar i j fs ρ = some (.nx, ρ3) := by
  unfold sPar
  rw [h]
  simp only [h2, Option.bind_some, h3, Option.map_some]
theorem y_and (h : fa ρ = some (.bool true, ρ1)) (h2 : fb ρ1 = some (d, ρ2)) : fAnd fa fb ρ = some (d, ρ2) := by
  rw [x_fAnd, y_asB h]
  simp only [if_true, h2]
end
theorem oAdd_fam (a b : List Lot) (h : a.length + b.length < 1000) : oAdd (famD a) (famD b) = some (famD (a ++ b)) := by
  show (if (lotsD a).length + (lotsD b).length ≤ sizeLine then some (PyData.tuple (lotsD a ++ lotsD b)) else none) = _
  rw [if_pos (by rw [lotsD, lotsD, List.length_map, List.length_map]; exact Nat.le_of_lt (big (by omega))), famD, lotsD, lotsD, lotsD, List.map_append]
theorem oNe_bool (a b : Bool) : oNe (.bool a) (.bool b) = some (.bool (a != b)) := by
  cases a <;> cases b <;> kernel_rfl
/-- a comprehension that keeps some, at least those of q -/
theorem kept {α : Type} {enc : α → D} {q : α → Prop} {as : List α} {rs : List (Option D)} (h : Paired (fun a r => (r = none ∧ ¬ q a) ∨ r = some (enc a)) as rs) : ∃ bs : List α, rs.filterMap id = bs.map enc ∧ bs.Sublist as ∧ ∀ a ∈ as, q a → a ∈ bs := by
  induction h with
  | nil => exact ⟨[], rfl, List.Sublist.refl _, fun a ha => by cases ha⟩
  | @cons a r as rs h _ ih =>
    obtain ⟨bs, h1, h2, h3⟩ := ih
    rcases h with ⟨rfl, hq⟩ | rfl
    · refine ⟨bs, by rw [List.filterMap_cons]; exact h1, h2.cons _, fun b hb qb => ?_⟩
      rcases List.mem_cons.mp hb with e | e
      · rw [e] at qb
        exact absurd qb hq
      · exact h3 b e qb
    · refine ⟨a :: bs, by rw [List.filterMap_cons, List.map_cons, ← h1]; rfl, h2.cons_cons _, fun b hb qb => ?_⟩
      rcases List.mem_cons.mp hb with e | e
      · exact e ▸ List.mem_cons_self
      · exact List.mem_cons_of_mem _ (h3 b e qb)
theorem draw_is {k : Nat} {sc : D} {xs : List D} {l : List (Option Cel)} {m : Int} (h : DeckOk (k + 1) xs) (hm : 0 < m) (hm2 : m < 100000) : ∃ (b : Bool) (ys : List D), asB (fBin oEq (fCallM m__law_draw 1 (fCons (fC (.int m)) fNil)) (fC (.int 0))) (ST sc xs l) = some (b, ST sc ys l) ∧ DeckOk k ys := by
  obtain ⟨r, ys, e, _, _, h2⟩ := draw_ok h hm hm2
  refine ⟨decide (r = 0), ys, y_asB (y_bin (ρ1 := ST sc ys l) (x_fCallM (ρ1 := ST sc xs l) rfl (y_cons y_c y_nil) rfl e) y_c (oEq_int r 0)), h2⟩
theorem pick_is {k : Nat} {sc : D} {xs ds : List D} {l : List (Option Cel)} {sd : D} {i : Nat} (h : DeckOk (k + 1) xs) (hsd : sd = .list ds ∨ sd = .tuple ds) (hne : ds ≠ []) (hl : ds.length < 100000) (hi : (ST sc xs l)[i]? = some (v sd)) : ∃ d ∈ ds, ∃ ys, fCallM m__law_pick 1 (fCons (fVar i) fNil) (ST sc xs l) = some (d, ST sc ys l) ∧ DeckOk k ys := by
  obtain ⟨d, hd, ys, e, h2⟩ := pick_ok h hsd hne hl
  exact ⟨d, hd, ys, x_fCallM (ρ1 := ST sc xs l) rfl (y_cons (x_fVar hi) y_nil) rfl e, h2⟩
theorem drawn_ok {k : Nat} {sc : D} {xs : List D} {F : List Lot} {c3 c4 c5 c6 c7 c8 c9 c10 : Option Cel} (h : DeckOk (k + F.length) xs) (hl : F.length < 1000) :
    ∃ (S : List Lot) (ys : List D), fLc [14] (fF oSeq (fVar 2)) (gaN 14) (asB (fBin oEq (fCallM m__law_draw 1 (fCons (fC (.int 2)) fNil)) (fC (.int 0)))) (fVar 14) (ST sc xs [v (famD F), c3, c4, c5, c6, c7, c8, c9, c10]) = some (lotsD S, ST sc ys [v (famD F), c3, c4, c5, c6, c7, c8, c9, c10]) ∧ S.Sublist F ∧ DeckOk k ys := by
  obtain ⟨rs, ρ', e1, ⟨ys, e2, e3⟩, e4⟩ := fLc_inv (vs := [14]) (fi := fF oSeq (fVar 2)) (ga := gaN 14) (ft := asB (fBin oEq (fCallM m__law_draw 1 (fCons (fC (.int 2)) fNil)) (fC (.int 0)))) (fe := fVar 14) (ρ := ST sc xs [v (famD F), c3, c4, c5, c6, c7, c8, c9, c10]) (ρ1 := ST sc xs [v (famD F), c3, c4, c5, c6, c7, c8, c9, c10]) lotD F (fun n ρ => ∃ ys, ρ = ST sc ys [v (famD F), c3, c4, c5, c6, c7, c8, c9, c10] ∧ DeckOk (k + n) ys) (fun a r => (r = none ∧ ¬ False) ∨ r = some (lotD a)) (y_f (x_fVar rfl) rfl) (big (by omega)) ⟨xs, rfl, h⟩ (by
    rintro a ha n ρ ⟨ys, rfl, hd⟩
    obtain ⟨b, zs, q1, q2⟩ := draw_is (k := k + n) (sc := sc) (xs := ys) (l := [v (famD F), c3, c4, c5, c6, c7, c8, c9, c10, none, none, none, v (lotD a)]) (m := 2) hd (by decide) (by decide)
    cases b with
    | false => exact ⟨none, _, x_turnN (ρ1 := ST sc ys [v (famD F), c3, c4, c5, c6, c7, c8, c9, c10, none, none, none, v (lotD a)]) rfl q1, .inl ⟨rfl, id⟩, zs, rfl, q2⟩
    | true => exact ⟨some (lotD a), _, x_turn (ρ1 := ST sc ys [v (famD F), c3, c4, c5, c6, c7, c8, c9, c10, none, none, none, v (lotD a)]) rfl q1 (x_fVar rfl), .inr rfl, zs, rfl, q2⟩)
  obtain ⟨bs, h1, h2, _⟩ := kept e4
  rw [e2, h1] at e1
  exact ⟨bs, ys, e1, h2, e3⟩
theorem wide_ok {k : Nat} {sc : D} {xs : List D} {F S0 : List Lot} {c3 c4 c5 c6 c7 c8 c9 c10 : Option Cel} (h : DeckOk (k + F.length) xs) (hl : F.length < 1000) :
    ∃ (S : List Lot) (ys : List D), fLc [14] (fF oSeq (fVar 2)) (gaN 14) (fOrT (asB (fBin oIn (fVar 14) (fVarB 11))) (asB (fBin oEq (fCallM m__law_draw 1 (fCons (fC (.int 3)) fNil)) (fC (.int 0))))) (fVar 14) (ST sc xs [v (famD F), c3, c4, c5, c6, c7, c8, c9, c10, v (famD S0)]) = some (lotsD S, ST sc ys [v (famD F), c3, c4, c5, c6, c7, c8, c9, c10, v (famD S0)]) ∧ S.Sublist F ∧ (∀ l ∈ F, l ∈ S0 → l ∈ S) ∧ DeckOk k ys := by
  obtain ⟨rs, ρ', e1, ⟨ys, e2, e3⟩, e4⟩ := fLc_inv (vs := [14]) (fi := fF oSeq (fVar 2)) (ga := gaN 14) (ft := fOrT (asB (fBin oIn (fVar 14) (fVarB 11))) (asB (fBin oEq (fCallM m__law_draw 1 (fCons (fC (.int 3)) fNil)) (fC (.int 0))))) (fe := fVar 14) (ρ := ST sc xs [v (famD F), c3, c4, c5, c6, c7, c8, c9, c10, v (famD S0)]) (ρ1 := ST sc xs [v (famD F), c3, c4, c5, c6, c7, c8, c9, c10, v (famD S0)]) lotD F (fun n ρ => ∃ ys, ρ = ST sc ys [v (famD F), c3, c4, c5, c6, c7, c8, c9, c10, v (famD S0)] ∧ DeckOk (k + n) ys) (fun a r => (r = none ∧ ¬ a ∈ S0) ∨ r = some (lotD a)) (y_f (x_fVar rfl) rfl) (big (by omega)) ⟨xs, rfl, h⟩ (by
    rintro a ha n ρ ⟨ys, rfl, hd⟩
    have t1 : asB (fBin oIn (fVar 14) (fVarB 11)) (ST sc ys [v (famD F), c3, c4, c5, c6, c7, c8, c9, c10, v (famD S0), none, none, v (lotD a)]) = some (decide (a ∈ S0), ST sc ys [v (famD F), c3, c4, c5, c6, c7, c8, c9, c10, v (famD S0), none, none, v (lotD a)]) := y_asB (y_bin (x_fVar rfl) (x_fVarB rfl) (oIn_fam a S0))
    by_cases hS : a ∈ S0
    · refine ⟨some (lotD a), _, x_turn (ρ1 := ST sc ys [v (famD F), c3, c4, c5, c6, c7, c8, c9, c10, v (famD S0), none, none, v (lotD a)]) (ρ2 := ST sc ys [v (famD F), c3, c4, c5, c6, c7, c8, c9, c10, v (famD S0), none, none, v (lotD a)]) rfl ?_ (x_fVar rfl), .inr rfl, ys, rfl, hd.less (by omega)⟩
      rw [x_fOrT, t1, decide_eq_true hS]
      rfl
    · obtain ⟨b, zs, q1, q2⟩ := draw_is (k := k + n) (sc := sc) (xs := ys) (l := [v (famD F), c3, c4, c5, c6, c7, c8, c9, c10, v (famD S0), none, none, v (lotD a)]) (m := 3) hd (by decide) (by decide)
      have t2 : fOrT (asB (fBin oIn (fVar 14) (fVarB 11))) (asB (fBin oEq (fCallM m__law_draw 1 (fCons (fC (.int 3)) fNil)) (fC (.int 0)))) (ST sc ys [v (famD F), c3, c4, c5, c6, c7, c8, c9, c10, v (famD S0), none, none, v (lotD a)]) = some (b, ST sc zs [v (famD F), c3, c4, c5, c6, c7, c8, c9, c10, v (famD S0), none, none, v (lotD a)]) := by
        rw [x_fOrT, t1, decide_eq_false hS]
        exact q1
      cases b with
      | false => exact ⟨none, _, x_turnN (ρ1 := ST sc ys [v (famD F), c3, c4, c5, c6, c7, c8, c9, c10, v (famD S0), none, none, v (lotD a)]) rfl t2, .inl ⟨rfl, hS⟩, zs, rfl, q2⟩
      | true => exact ⟨some (lotD a), _, x_turn (ρ1 := ST sc ys [v (famD F), c3, c4, c5, c6, c7, c8, c9, c10, v (famD S0), none, none, v (lotD a)]) rfl t2 (x_fVar rfl), .inr rfl, zs, rfl, q2⟩)
  obtain ⟨bs, h1, h2, h3⟩ := kept e4
  rw [e2, h1] at e1
  exact ⟨bs, ys, e1, h2, h3, e3⟩
end K32
set_option Elab.async false
set_option linter.all false
set_option maxRecDepth 100000
set_option maxHeartbeats 2000000
namespace K32
open PySem PySem.Spec PyProof.Rows L2 PF
theorem bent_ok {k : Nat} {sc : D} {xs : List D} {F own : List Lot} {c3 c4 c5 c6 c7 c8 c10 c11 c12 : Option Cel} (h : DeckOk (k + 1) xs) (hl : F.length < 1000) (ho : own.Sublist F) :
    ∃ (B : List Lot) (ys : List D) (c14 : Option Cel), sIf (asB (fBin oNe (fVar 2) (fTup fNil))) (sSeq (sAsg (fCallM m__law_pick 1 (fCons (fVar 2) fNil)) (gaN 14))
    (sSeq (sAsg (fUn oTuple (fList (fLc (([("one", 20)] : List (Str × Nat)).map (·.2)) (fF oSeq (fVar 2)) (gaN 20) (asB (fBin oNe (fBin oIn (fVar 20) (fVarB 9)) (fBin oEq (fVar 20) (fVarB 14)))) (fVar 20)))) (gaN 13))
    sNx)) sNx (ST sc xs [v (famD F), c3, c4, c5, c6, c7, c8, v (famD own), c10, c11, c12, v (famD own)]) = some (.nx, ST sc ys [v (famD F), c3, c4, c5, c6, c7, c8, v (famD own), c10, c11, c12, v (famD B), c14]) ∧ B.Sublist F ∧ DeckOk k ys := by
  by_cases hF : F = []
  · refine ⟨own, xs, none, (y_ifF (ρ1 := ST sc xs [v (famD F), c3, c4, c5, c6, c7, c8, v (famD own), c10, c11, c12, v (famD own)]) ((y_asB (y_bin (x_fVar rfl) (y_tup y_nil) (oNe_fam F []))).trans (by rw [decide_eq_false (by simp [hF])]))).trans rfl, ho, h.less (by omega)⟩
  · obtain ⟨d, hd, ys, e1, h2⟩ := pick_is (i := 2) (sc := sc) (l := [v (famD F), c3, c4, c5, c6, c7, c8, v (famD own), c10, c11, c12, v (famD own)]) h (.inr rfl) (show lotsD F ≠ [] by simpa [lotsD] using hF) (by rw [lotsD, List.length_map]; omega) rfl
    obtain ⟨l0, hl0, rfl⟩ := List.mem_map.mp hd
    have hc : fLc [20] (fF oSeq (fVar 2)) (gaN 20) (asB (fBin oNe (fBin oIn (fVar 20) (fVarB 9)) (fBin oEq (fVar 20) (fVarB 14)))) (fVar 20) (ST sc ys [v (famD F), c3, c4, c5, c6, c7, c8, v (famD own), c10, c11, c12, v (famD own), v (lotD l0)]) = some (lotsD (F.filter fun l => decide (l ∈ own) != decide (l = l0)), ST sc ys [v (famD F), c3, c4, c5, c6, c7, c8, v (famD own), c10, c11, c12, v (famD own), v (lotD l0)]) :=
      lc_filter (as := F) lotD lotD (fun l => decide (l ∈ own) != decide (l = l0)) (fun l => ST sc ys [v (famD F), c3, c4, c5, c6, c7, c8, v (famD own), c10, c11, c12, v (famD own), v (lotD l0), none, none, none, none, none, v (lotD l)]) (y_f (x_fVar rfl) rfl) (by omega) (fun _ _ => rfl) (fun l _ => y_asB (y_bin (y_bin (x_fVar rfl) (x_fVarB rfl) (oIn_fam l own)) (y_bin (x_fVar rfl) (x_fVarB rfl) (oEq_lot l l0)) (oNe_bool _ _))) (fun l _ _ => x_fVar rfl) (fun _ _ => rfl)
    refine ⟨F.filter fun l => decide (l ∈ own) != decide (l = l0), ys, v (lotD l0), (y_ifT (ρ1 := ST sc xs [v (famD F), c3, c4, c5, c6, c7, c8, v (famD own), c10, c11, c12, v (famD own)]) ((y_asB (y_bin (x_fVar rfl) (y_tup y_nil) (oNe_fam F []))).trans (by rw [decide_eq_true (by simp [hF])]))).trans ?_, List.filter_sublist, h2⟩
    refine (x_sSeq (ρ1 := ST sc ys [v (famD F), c3, c4, c5, c6, c7, c8, v (famD own), c10, c11, c12, v (famD own), v (lotD l0)]) (y_asg e1 rfl)).trans ?_
    refine (x_sSeq (ρ1 := ST sc ys [v (famD F), c3, c4, c5, c6, c7, c8, v (famD own), c10, c11, c12, v (famD (F.filter fun l => decide (l ∈ own) != decide (l = l0))), v (lotD l0)]) (y_asg (y_un (e := famD (F.filter fun l => decide (l ∈ own) != decide (l = l0))) (y_list hc) rfl) ?_)).trans ?_
    · rfl
    · rfl
end K32
set_option Elab.async false
set_option linter.all false
set_option maxRecDepth 100000
set_option maxHeartbeats 2000000
namespace K32
open PySem PySem.Spec PyProof.Rows L2 PF
/-- the body of the loop over the rows of struck lots -/
theorem struck_ok {sc : D} {xs : List D} {F S : List Lot} {kind : Str} {order t : Lot} {Fs : List (List Lot)} {c5 c7 c8 c9 c10 c11 c12 c13 c14 c16 c17 : Option Cel} (hF : Fam F) (hk : kind ∈ kinds) (fk : FK F kind order) (ho : order.length ≤ 6) (ht : LotOk 6 t) (hS : S.Sublist F) (hFs : S ∈ Fs ↔ S = marksL F (closingL F S)) :
    ∃ c16' c17' : Option Cel, (sSeq (sAsg (fCall m__law_closing (fCons (fVar 2) (fCons (fVar 16) fNil))) (gaN 17))
    (sSeq (sIf (fOrT (fNotT (fTru (fCall (m__law_alike 5) (fCons (fCall m_closing (fCons (fVar 2) (fCons (fVar 16) fNil))) (fCons (fVar 17) fNil))))) (fNotT (fTru (fCall (m__law_alike 5) (fCons (fCall m_consonant (fCons (fVar 2) (fCons (fVar 16) fNil))) (fCons (fBin oInN (fVar 16) (fVarB 15)) fNil)))))) (sSeq (sRet (fC (.bool false)))
    sNx) sNx)
    (sSeq (sIf (fNotT (fTru (fCall (m__law_alike 5) (fCons (fCall m_closing (fCons (fVar 2) (fCons (fCall m_marks (fCons (fVar 2) (fCons (fVar 17) fNil))) fNil))) (fCons (fVar 17) fNil))))) (sSeq (sRet (fC (.bool false)))
    sNx) sNx)
    (sSeq (sIf (fNotT (fTru (fCall m__law_by_formula (fCons (fVar 2) (fCons (fVar 3) (fCons (fVar 4) (fCons (fVar 16) (fCons (fVar 6) fNil)))))))) (sSeq (sRet (fC (.bool false)))
    sNx) sNx)
    sNx)))) (ST sc xs [v (famD F), v (.str kind), v (.list (intsD order)), c5, v (lotD t), c7, c8, c9, c10, c11, c12, c13, c14, v (dicD (Fs.map famD)), v (famD S), c17]) = some (.nx, ST sc xs [v (famD F), v (.str kind), v (.list (intsD order)), c5, v (lotD t), c7, c8, c9, c10, c11, c12, c13, c14, v (dicD (Fs.map famD)), c16', c17']) := by
  have hFl := hF.len
  have h64 : (ddI F.flatten).length < 64 := Nat.lt_of_le_of_lt hF.flat (by decide)
  have hcl := lotOk_len (hF.closing S)
  refine ⟨v (famD S), v (lotD (closingL F S)), ?_⟩
  refine (x_sSeq (ρ1 := ST sc xs [v (famD F), v (.str kind), v (.list (intsD order)), c5, v (lotD t), c7, c8, c9, c10, c11, c12, c13, c14, v (dicD (Fs.map famD)), v (famD S), v (lotD (closingL F S))]) (y_asg (y_call (y_cons (x_fVar rfl) (y_cons (x_fVar rfl) y_nil)) (lawClosing_eq F S (by omega) (fun l hl => hF.nd hl) h64)) rfl)).trans ?_
  have a1 : m__law_alike 5 [lotD (closingL F S), lotD (closingL F S)] = some (.bool true) := lot_alike (by omega)
  generalize hρ : ST sc xs [v (famD F), v (.str kind), v (.list (intsD order)), c5, v (lotD t), c7, c8, c9, c10, c11, c12, c13, c14, v (dicD (Fs.map famD)), v (famD S), v (lotD (closingL F S))] = ρ
  have g2 : ρ[(2 : Nat)]? = some (v (famD F)) := by rw [← hρ]; rfl
  have g3 : ρ[(3 : Nat)]? = some (v (.str kind)) := by rw [← hρ]; rfl
  have g4 : ρ[(4 : Nat)]? = some (v (.list (intsD order))) := by rw [← hρ]; rfl
  have g6 : ρ[(6 : Nat)]? = some (v (lotD t)) := by rw [← hρ]; rfl
  have g15 : ρ[(15 : Nat)]? = some (v (dicD (Fs.map famD))) := by rw [← hρ]; rfl
  have g16 : ρ[(16 : Nat)]? = some (v (famD S)) := by rw [← hρ]; rfl
  have g17 : ρ[(17 : Nat)]? = some (v (lotD (closingL F S))) := by rw [← hρ]; rfl
  have hin : decide (S = marksL F (closingL F S)) = decide (S ∈ Fs) := decide_eq_decide.mpr hFs.symm
  have t1 : fOrT (fNotT (fTru (fCall (m__law_alike 5) (fCons (fCall m_closing (fCons (fVar 2) (fCons (fVar 16) fNil))) (fCons (fVar 17) fNil))))) (fNotT (fTru (fCall (m__law_alike 5) (fCons (fCall m_consonant (fCons (fVar 2) (fCons (fVar 16) fNil))) (fCons (fBin oInN (fVar 16) (fVarB 15)) fNil))))) ρ = some (false, ρ) :=
    y_or (b := false) (c := false) (y_not (b := true) (y_tru (y_call (y_cons (y_call (y_cons (x_fVar g2) (y_cons (x_fVar g16) y_nil)) (closing_eq F S (by omega) h64)) (y_cons (x_fVar g17) y_nil)) a1) rfl))
      (y_not (b := true) (y_tru (y_call (y_cons (y_call (y_cons (x_fVar g2) (y_cons (x_fVar g16) y_nil)) (consonant_eq F S (by omega) h64)) (y_cons (y_bin (x_fVar g16) (x_fVarB g15) (oInN_fams S Fs)) y_nil)) (by rw [hin]; exact alike_refl 5 _ (.bool _))) rfl))
  have t2 : fNotT (fTru (fCall (m__law_alike 5) (fCons (fCall m_closing (fCons (fVar 2) (fCons (fCall m_marks (fCons (fVar 2) (fCons (fVar 17) fNil))) fNil))) (fCons (fVar 17) fNil)))) ρ = some (false, ρ) :=
    y_not (b := true) (y_tru (y_call (y_cons (y_call (y_cons (x_fVar g2) (y_cons (y_call (y_cons (x_fVar g2) (y_cons (x_fVar g17) y_nil)) (marks_eq F _ (by omega))) y_nil)) (closing_eq F _ (by omega) h64)) (y_cons (x_fVar g17) y_nil)) (by rw [gal2]; exact a1)) rfl)
  have t3 : fNotT (fTru (fCall m__law_by_formula (fCons (fVar 2) (fCons (fVar 3) (fCons (fVar 4) (fCons (fVar 16) (fCons (fVar 6) fNil))))))) ρ = some (false, ρ) :=
    y_not (b := true) (y_tru (y_call (y_cons (x_fVar g2) (y_cons (x_fVar g3) (y_cons (x_fVar g4) (y_cons (x_fVar g16) (y_cons (x_fVar g6) y_nil))))) (formula_ok hF hk fk ho hS ht)) rfl)
  rw [x_sSeq ((y_ifF t1).trans x_sNx), x_sSeq ((y_ifF t2).trans x_sNx), x_sSeq ((y_ifF t3).trans x_sNx)]
  rfl
end K32
set_option Elab.async false
set_option linter.all false
set_option maxRecDepth 100000
set_option maxHeartbeats 2000000
namespace K32
open PySem PySem.Spec PyProof.Rows L2 PF
/-- the body of the loop over the pairs of rows -/
theorem pair_ok {sc : D} {xs : List D} {F S S' : List Lot} {c3 c4 c5 c6 c7 c8 c9 c10 c11 c12 c13 c14 c15 c16 c17 c20 c21 : Option Cel} (hF : Fam F) (hSS : ∀ l ∈ S, l ∈ S') :
    ∃ c20' c21' : Option Cel, (sSeq (sAsg (fTup (fCons (fCall m_closing (fCons (fVar 2) (fCons (fVar 18) fNil))) (fCons (fCall (fun ds => m_closing (po_closing_1 [] ds)) (fCons (fVar 19) (fCons (fVar 2) fNil))) fNil))) (gaTup 2 (gaCons (gaN 20) (gaCons (gaN 21) gaNil))))
    (sSeq (sIf (asB (fBin oNe (fList (fLc (([("claim", 23)] : List (Str × Nat)).map (·.2)) (fF oSeq (fVar 20)) (gaN 23) (asB (fBin oNotIn (fVar 23) (fVarB 21))) (fVar 23))) (fList fNil))) (sSeq (sRet (fC (.bool false)))
    sNx) sNx)
    sNx)) (ST sc xs [v (famD F), c3, c4, c5, c6, c7, c8, c9, c10, c11, c12, c13, c14, c15, c16, c17, v (famD S), v (famD S'), c20, c21]) = some (.nx, ST sc xs [v (famD F), c3, c4, c5, c6, c7, c8, c9, c10, c11, c12, c13, c14, c15, c16, c17, v (famD S), v (famD S'), c20', c21']) := by
  have hFl := hF.len
  have h64 : (ddI F.flatten).length < 64 := Nat.lt_of_le_of_lt hF.flat (by decide)
  have hcl := lotOk_len (hF.closing S)
  have c2 : (fun ds => m_closing (po_closing_1 [] ds)) [famD S', famD F] = some (lotD (closingL F S')) := closing_eq F S' (by omega) h64
  refine ⟨v (lotD (closingL F S)), v (lotD (closingL F S')), ?_⟩
  refine (x_sSeq (ρ1 := ST sc xs [v (famD F), c3, c4, c5, c6, c7, c8, c9, c10, c11, c12, c13, c14, c15, c16, c17, v (famD S), v (famD S'), v (lotD (closingL F S)), v (lotD (closingL F S'))]) (y_asg (y_tup (y_cons (y_call (y_cons (x_fVar rfl) (y_cons (x_fVar rfl) y_nil)) (closing_eq F S (by omega) h64)) (y_cons (y_call (y_cons (x_fVar (d := famD S') rfl) (y_cons (x_fVar (d := famD F) rfl) y_nil)) c2) y_nil))) ?_)).trans ?_
  · rfl
  have hc : fLc [23] (fF oSeq (fVar 20)) (gaN 23) (asB (fBin oNotIn (fVar 23) (fVarB 21))) (fVar 23) (ST sc xs [v (famD F), c3, c4, c5, c6, c7, c8, c9, c10, c11, c12, c13, c14, c15, c16, c17, v (famD S), v (famD S'), v (lotD (closingL F S)), v (lotD (closingL F S'))]) = some (intsD ((closingL F S).filter fun c => decide (c ∉ closingL F S')), ST sc xs [v (famD F), c3, c4, c5, c6, c7, c8, c9, c10, c11, c12, c13, c14, c15, c16, c17, v (famD S), v (famD S'), v (lotD (closingL F S)), v (lotD (closingL F S'))]) :=
    lc_filter (as := closingL F S) PyData.int PyData.int (fun c => decide (c ∉ closingL F S')) (fun c => ST sc xs [v (famD F), c3, c4, c5, c6, c7, c8, c9, c10, c11, c12, c13, c14, c15, c16, c17, v (famD S), v (famD S'), v (lotD (closingL F S)), v (lotD (closingL F S')), none, v (.int c)]) (y_f (x_fVar rfl) rfl) (by omega) (fun _ _ => rfl) (fun c _ => y_asB (y_bin (x_fVar rfl) (x_fVarB rfl) (oNotIn_lot c _))) (fun c _ _ => x_fVar rfl) (fun _ _ => rfl)
  rw [less_nil hSS] at hc
  have t1 := y_asB (y_bin (y_list hc) (y_list y_nil) (oNe_intsL [] []))
  exact (x_sSeq ((y_ifF (t1.trans rfl)).trans x_sNx)).trans rfl
end K32
set_option Elab.async false
set_option linter.all false
set_option maxRecDepth 100000
set_option maxHeartbeats 2000000
namespace K32
open PySem PySem.Spec PyProof.Rows L2 PF
theorem r0 {sc : D} {xs : List D} {F S1 S2 S3 TT : List Lot} {kind : Str} {order t u jo : Lot} {c14 : Option Cel} (hF : Fam F) (hk : kind ∈ kinds) (fk : FK F kind order) (ho : order.length ≤ 6) (hT : ∀ t, t ∈ TT ↔ LotOk 6 t) (hTl : TT.length = 64) (ht : LotOk 6 t) (hu : LotOk 6 u) (hjj : sdI (t ++ u) = jo) (hS1 : S1.Sublist F) (hS2 : S2.Sublist F) (hS3 : S3.Sublist F) (h12 : ∀ l ∈ F, l ∈ S1 → l ∈ S2) : (sIf (fNotT (fTru (fCall (m__law_alike 5) (fCons (fTup (fCons (fCall m_marks (fCons (fVar 2) (fCons (fVar 6) fNil))) (fCons (fCall (fun ds => m_marks (po_marks_2 [] ds)) (fCons (fVar 8) (fCons (fVar 2) fNil))) fNil))) (fCons (fTup (fCons (fVar 9) (fCons (fVar 10) fNil))) fNil))))) (sSeq (sRet (fC (.bool false)))
    sNx) sNx) (ST sc xs [v (famD F), v (.str kind), v (.list (intsD order)), v (.list (lotsD TT)), v (lotD t), v (lotD u), v (lotD jo), v (famD (marksL F t)), v (famD (marksL F jo)), v (famD S1), v (famD S2), v (famD S3), c14]) = some (.nx, ST sc xs [v (famD F), v (.str kind), v (.list (intsD order)), v (.list (lotsD TT)), v (lotD t), v (lotD u), v (lotD jo), v (famD (marksL F t)), v (famD (marksL F jo)), v (famD S1), v (famD S2), v (famD S3), c14]) := by
  have hFl := hF.len
  have h64 : (ddI F.flatten).length < 64 := Nat.lt_of_le_of_lt hF.flat (by decide)
  have h32 : (ddI F.flatten).length < 32 := Nat.lt_of_le_of_lt hF.flat (by decide)
  have hll : ∀ l ∈ F, l.length < 1000 := fun l hl => by have := lotOk_len (hF.ok l hl); omega
  have hml : ∀ s, (marksL F s).length ≤ 64 := fun s => Nat.le_trans (List.length_filter_le _ _) hFl
  have htl := lotOk_len ht
  have hul := lotOk_len hu
  have m2 : (fun ds => m_marks (po_marks_2 [] ds)) [lotD jo, famD F] = some (famD (marksL F jo)) := marks_eq F jo (by omega)
  have al : m__law_alike 5 [.tuple [famD (marksL F t), famD (marksL F jo)], .tuple [famD (marksL F t), famD (marksL F jo)]] = some (.bool true) := alike_refl 5 _ (.tuple (fun d hd => by
    have aa : ∀ s, Al 4 (famD (marksL F s)) := fun s => al_fam (j := 1) _ (by have := hml s; omega) fun l hl => hll l (List.mem_filter.mp hl).1
    rcases List.mem_cons.mp hd with rfl | hd
    · exact aa t
    · rw [List.mem_singleton.mp hd]
      exact aa jo) (by simp))
  exact (y_ifF (y_not (b := true) (y_tru (y_call (y_cons (y_tup (y_cons (y_call (y_cons (x_fVar rfl) (y_cons (x_fVar rfl) y_nil)) (marks_eq F t (by omega))) (y_cons (y_call (y_cons (x_fVar (d := lotD jo) rfl) (y_cons (x_fVar (d := famD F) rfl) y_nil)) m2) y_nil))) (y_cons (y_tup (y_cons (x_fVar rfl) (y_cons (x_fVar rfl) y_nil))) y_nil)) al) rfl))).trans x_sNx
theorem r1 {sc : D} {xs : List D} {F S1 S2 S3 TT : List Lot} {kind : Str} {order t u jo : Lot} {c14 : Option Cel} (hF : Fam F) (hk : kind ∈ kinds) (fk : FK F kind order) (ho : order.length ≤ 6) (hT : ∀ t, t ∈ TT ↔ LotOk 6 t) (hTl : TT.length = 64) (ht : LotOk 6 t) (hu : LotOk 6 u) (hjj : sdI (t ++ u) = jo) (hS1 : S1.Sublist F) (hS2 : S2.Sublist F) (hS3 : S3.Sublist F) (h12 : ∀ l ∈ F, l ∈ S1 → l ∈ S2) : (sIf (asB (fBin oNe (fUn oTuple (fList (fF oSortN (fUn oDicN (fList (fLc (([("lot", 14)] : List (Str × Nat)).map (·.2)) (fF oSeq (fBin oAdd (fVar 9) (fCall m__law_marks (fCons (fVar 2) (fCons (fVar 7) fNil))))) (gaN 14) (pr true) (fTup (fCons (fVar 14) (fCons (fC (.int 1)) fNil))))))))) (fVarB 10))) (sSeq (sRet (fC (.bool false)))
    sNx) sNx) (ST sc xs [v (famD F), v (.str kind), v (.list (intsD order)), v (.list (lotsD TT)), v (lotD t), v (lotD u), v (lotD jo), v (famD (marksL F t)), v (famD (marksL F jo)), v (famD S1), v (famD S2), v (famD S3), c14]) = some (.nx, ST sc xs [v (famD F), v (.str kind), v (.list (intsD order)), v (.list (lotsD TT)), v (lotD t), v (lotD u), v (lotD jo), v (famD (marksL F t)), v (famD (marksL F jo)), v (famD S1), v (famD S2), v (famD S3)]) := by
  have hFl := hF.len
  have h64 : (ddI F.flatten).length < 64 := Nat.lt_of_le_of_lt hF.flat (by decide)
  have h32 : (ddI F.flatten).length < 32 := Nat.lt_of_le_of_lt hF.flat (by decide)
  have hll : ∀ l ∈ F, l.length < 1000 := fun l hl => by have := lotOk_len (hF.ok l hl); omega
  have hml : ∀ s, (marksL F s).length ≤ 64 := fun s => Nat.le_trans (List.length_filter_le _ _) hFl
  have htl := lotOk_len ht
  have hul := lotOk_len hu
  have hc : fLc [14] (fF oSeq (fBin oAdd (fVar 9) (fCall m__law_marks (fCons (fVar 2) (fCons (fVar 7) fNil))))) (gaN 14) (pr true) (fTup (fCons (fVar 14) (fCons (fC (.int 1)) fNil))) (ST sc xs [v (famD F), v (.str kind), v (.list (intsD order)), v (.list (lotsD TT)), v (lotD t), v (lotD u), v (lotD jo), v (famD (marksL F t)), v (famD (marksL F jo)), v (famD S1), v (famD S2), v (famD S3), c14]) = some ((marksL F t ++ marksL F u).map (fun l => .tuple [lotD l, .int 1]), ST sc xs [v (famD F), v (.str kind), v (.list (intsD order)), v (.list (lotsD TT)), v (lotD t), v (lotD u), v (lotD jo), v (famD (marksL F t)), v (famD (marksL F jo)), v (famD S1), v (famD S2), v (famD S3)]) :=
    lc_map (as := marksL F t ++ marksL F u) lotD (fun l => .tuple [lotD l, .int 1]) (fun l => ST sc xs [v (famD F), v (.str kind), v (.list (intsD order)), v (.list (lotsD TT)), v (lotD t), v (lotD u), v (lotD jo), v (famD (marksL F t)), v (famD (marksL F jo)), v (famD S1), v (famD S2), v (famD S3), v (lotD l)]) (y_f (y_bin (x_fVar rfl) (y_call (y_cons (x_fVar rfl) (y_cons (x_fVar rfl) y_nil)) (lawMarks_eq F u (by omega) hll)) (oAdd_fam _ _ (by have := hml t; have := hml u; omega))) rfl) (by rw [List.length_append]; have := hml t; have := hml u; omega) (fun _ _ => rfl) (fun l _ => y_tup (y_cons (x_fVar rfl) (y_cons y_c y_nil))) (fun _ _ => rfl)
  have hne : ∀ l ∈ ddG (marksL F t ++ marksL F u), l ≠ [] := fun l hl => by
    rw [ddG_mem, List.mem_append] at hl
    rcases hl with hl | hl
    · exact hF.ne l (List.mem_filter.mp hl).1
    · exact hF.ne l (List.mem_filter.mp hl).1
  have hs := oSortN_lots hne (Nat.le_trans (ddG_len _) (by rw [List.length_append]; have := hml t; have := hml u; omega))
  rw [both_eq hF, hjj] at hs
  exact (y_ifF ((y_asB (y_bin (y_un (e := famD (marksL F jo)) (y_list (y_f (y_un (y_list hc) (oDic_lots _ _)) hs)) rfl) (x_fVarB rfl) (oNe_fam (marksL F jo) (marksL F jo)))).trans (by rw [decide_eq_false (by simp)]))).trans x_sNx
theorem r2 {sc : D} {xs : List D} {F S1 S2 S3 TT : List Lot} {kind : Str} {order t u jo : Lot} {c14 : Option Cel} (hF : Fam F) (hk : kind ∈ kinds) (fk : FK F kind order) (ho : order.length ≤ 6) (hT : ∀ t, t ∈ TT ↔ LotOk 6 t) (hTl : TT.length = 64) (ht : LotOk 6 t) (hu : LotOk 6 u) (hjj : sdI (t ++ u) = jo) (hS1 : S1.Sublist F) (hS2 : S2.Sublist F) (hS3 : S3.Sublist F) (h12 : ∀ l ∈ F, l ∈ S1 → l ∈ S2) : (sAsg (fUn oDicN (fList (fLc (([("some", 22)] : List (Str × Nat)).map (·.2)) (fF oSeq (fVar 5)) (gaN 22) (pr true) (fTup (fCons (fCall m__law_marks (fCons (fVar 2) (fCons (fVar 22) fNil))) (fCons (fC (.bool true)) fNil)))))) (gaN 15)) (ST sc xs [v (famD F), v (.str kind), v (.list (intsD order)), v (.list (lotsD TT)), v (lotD t), v (lotD u), v (lotD jo), v (famD (marksL F t)), v (famD (marksL F jo)), v (famD S1), v (famD S2), v (famD S3)]) = some (.nx, ST sc xs [v (famD F), v (.str kind), v (.list (intsD order)), v (.list (lotsD TT)), v (lotD t), v (lotD u), v (lotD jo), v (famD (marksL F t)), v (famD (marksL F jo)), v (famD S1), v (famD S2), v (famD S3), none, v (dicD ((ddG (TT.map (marksL F))).map famD))]) := by
  have hFl := hF.len
  have h64 : (ddI F.flatten).length < 64 := Nat.lt_of_le_of_lt hF.flat (by decide)
  have h32 : (ddI F.flatten).length < 32 := Nat.lt_of_le_of_lt hF.flat (by decide)
  have hll : ∀ l ∈ F, l.length < 1000 := fun l hl => by have := lotOk_len (hF.ok l hl); omega
  have hml : ∀ s, (marksL F s).length ≤ 64 := fun s => Nat.le_trans (List.length_filter_le _ _) hFl
  have htl := lotOk_len ht
  have hul := lotOk_len hu
  have hc : fLc [22] (fF oSeq (fVar 5)) (gaN 22) (pr true) (fTup (fCons (fCall m__law_marks (fCons (fVar 2) (fCons (fVar 22) fNil))) (fCons (fC (.bool true)) fNil))) (ST sc xs [v (famD F), v (.str kind), v (.list (intsD order)), v (.list (lotsD TT)), v (lotD t), v (lotD u), v (lotD jo), v (famD (marksL F t)), v (famD (marksL F jo)), v (famD S1), v (famD S2), v (famD S3)]) = some (TT.map (fun s => .tuple [famD (marksL F s), .bool true]), ST sc xs [v (famD F), v (.str kind), v (.list (intsD order)), v (.list (lotsD TT)), v (lotD t), v (lotD u), v (lotD jo), v (famD (marksL F t)), v (famD (marksL F jo)), v (famD S1), v (famD S2), v (famD S3)]) :=
    lc_map (as := TT) lotD (fun s => .tuple [famD (marksL F s), .bool true]) (fun s => ST sc xs [v (famD F), v (.str kind), v (.list (intsD order)), v (.list (lotsD TT)), v (lotD t), v (lotD u), v (lotD jo), v (famD (marksL F t)), v (famD (marksL F jo)), v (famD S1), v (famD S2), v (famD S3), none, none, none, none, none, none, none, none, v (lotD s)]) (y_f (x_fVar rfl) rfl) (by omega) (fun _ _ => rfl) (fun s hs => y_tup (y_cons (y_call (y_cons (x_fVar rfl) (y_cons (x_fVar rfl) y_nil)) (lawMarks_eq F s (by omega) hll)) (y_cons y_c y_nil))) (fun _ _ => rfl)
  have hd := oDic_fams (TT.map (marksL F)) (.bool true)
  rw [List.map_map] at hd
  exact y_asg (y_un (y_list hc) hd) rfl
theorem r3 {sc : D} {xs : List D} {F S1 S2 S3 TT : List Lot} {kind : Str} {order t u jo : Lot} {c14 : Option Cel} (hF : Fam F) (hk : kind ∈ kinds) (fk : FK F kind order) (ho : order.length ≤ 6) (hT : ∀ t, t ∈ TT ↔ LotOk 6 t) (hTl : TT.length = 64) (ht : LotOk 6 t) (hu : LotOk 6 u) (hjj : sdI (t ++ u) = jo) (hS1 : S1.Sublist F) (hS2 : S2.Sublist F) (hS3 : S3.Sublist F) (h12 : ∀ l ∈ F, l ∈ S1 → l ∈ S2) : ∃ c16 c17 : Option Cel, (sFor (fF oSeq (fList (fCons (fTup fNil) (fCons (fVar 2) (fCons (fVar 11) (fCons (fVar 12) (fCons (fVar 9) (fCons (fVar 10) (fCons (fVar 13) fNil))))))))) (gaN 16) (sSeq (sAsg (fCall m__law_closing (fCons (fVar 2) (fCons (fVar 16) fNil))) (gaN 17))
    (sSeq (sIf (fOrT (fNotT (fTru (fCall (m__law_alike 5) (fCons (fCall m_closing (fCons (fVar 2) (fCons (fVar 16) fNil))) (fCons (fVar 17) fNil))))) (fNotT (fTru (fCall (m__law_alike 5) (fCons (fCall m_consonant (fCons (fVar 2) (fCons (fVar 16) fNil))) (fCons (fBin oInN (fVar 16) (fVarB 15)) fNil)))))) (sSeq (sRet (fC (.bool false)))
    sNx) sNx)
    (sSeq (sIf (fNotT (fTru (fCall (m__law_alike 5) (fCons (fCall m_closing (fCons (fVar 2) (fCons (fCall m_marks (fCons (fVar 2) (fCons (fVar 17) fNil))) fNil))) (fCons (fVar 17) fNil))))) (sSeq (sRet (fC (.bool false)))
    sNx) sNx)
    (sSeq (sIf (fNotT (fTru (fCall m__law_by_formula (fCons (fVar 2) (fCons (fVar 3) (fCons (fVar 4) (fCons (fVar 16) (fCons (fVar 6) fNil)))))))) (sSeq (sRet (fC (.bool false)))
    sNx) sNx)
    sNx))))) (ST sc xs [v (famD F), v (.str kind), v (.list (intsD order)), v (.list (lotsD TT)), v (lotD t), v (lotD u), v (lotD jo), v (famD (marksL F t)), v (famD (marksL F jo)), v (famD S1), v (famD S2), v (famD S3), none, v (dicD ((ddG (TT.map (marksL F))).map famD))]) = some (.nx, ST sc xs [v (famD F), v (.str kind), v (.list (intsD order)), v (.list (lotsD TT)), v (lotD t), v (lotD u), v (lotD jo), v (famD (marksL F t)), v (famD (marksL F jo)), v (famD S1), v (famD S2), v (famD S3), none, v (dicD ((ddG (TT.map (marksL F))).map famD)), c16, c17]) := by
  have hFl := hF.len
  have h64 : (ddI F.flatten).length < 64 := Nat.lt_of_le_of_lt hF.flat (by decide)
  have h32 : (ddI F.flatten).length < 32 := Nat.lt_of_le_of_lt hF.flat (by decide)
  have hll : ∀ l ∈ F, l.length < 1000 := fun l hl => by have := lotOk_len (hF.ok l hl); omega
  have hml : ∀ s, (marksL F s).length ≤ 64 := fun s => Nat.le_trans (List.length_filter_le _ _) hFl
  have htl := lotOk_len ht
  have hul := lotOk_len hu
  have hFs : ∀ S, S ∈ ddG (TT.map (marksL F)) ↔ S = marksL F (closingL F S) := fun S => by
    rw [ddG_mem, consonant_iff hF, List.mem_map]
    exact ⟨fun ⟨s, hs, e⟩ => ⟨s, (hT s).mp hs, e.symm⟩, fun ⟨s, hs, e⟩ => ⟨s, (hT s).mpr hs, e.symm⟩⟩
  obtain ⟨ρ', e1, c16, c17, e2⟩ := runFor_inv (ga := gaN 16) (gb := (sSeq (sAsg (fCall m__law_closing (fCons (fVar 2) (fCons (fVar 16) fNil))) (gaN 17))
    (sSeq (sIf (fOrT (fNotT (fTru (fCall (m__law_alike 5) (fCons (fCall m_closing (fCons (fVar 2) (fCons (fVar 16) fNil))) (fCons (fVar 17) fNil))))) (fNotT (fTru (fCall (m__law_alike 5) (fCons (fCall m_consonant (fCons (fVar 2) (fCons (fVar 16) fNil))) (fCons (fBin oInN (fVar 16) (fVarB 15)) fNil)))))) (sSeq (sRet (fC (.bool false)))
    sNx) sNx)
    (sSeq (sIf (fNotT (fTru (fCall (m__law_alike 5) (fCons (fCall m_closing (fCons (fVar 2) (fCons (fCall m_marks (fCons (fVar 2) (fCons (fVar 17) fNil))) fNil))) (fCons (fVar 17) fNil))))) (sSeq (sRet (fC (.bool false)))
    sNx) sNx)
    (sSeq (sIf (fNotT (fTru (fCall m__law_by_formula (fCons (fVar 2) (fCons (fVar 3) (fCons (fVar 4) (fCons (fVar 16) (fCons (fVar 6) fNil)))))))) (sSeq (sRet (fC (.bool false)))
    sNx) sNx)
    sNx))))) famD (fun _ ρ => ∃ c16 c17 : Option Cel, ρ = ST sc xs [v (famD F), v (.str kind), v (.list (intsD order)), v (.list (lotsD TT)), v (lotD t), v (lotD u), v (lotD jo), v (famD (marksL F t)), v (famD (marksL F jo)), v (famD S1), v (famD S2), v (famD S3), none, v (dicD ((ddG (TT.map (marksL F))).map famD)), c16, c17]) [[], F, S1, S2, marksL F t, marksL F jo, S3] (ST sc xs [v (famD F), v (.str kind), v (.list (intsD order)), v (.list (lotsD TT)), v (lotD t), v (lotD u), v (lotD jo), v (famD (marksL F t)), v (famD (marksL F jo)), v (famD S1), v (famD S2), v (famD S3), none, v (dicD ((ddG (TT.map (marksL F))).map famD))]) ⟨none, none, rfl⟩ (by
    rintro S rest ρ hS ⟨c16, c17, rfl⟩
    have hsub : S.Sublist F := by
      simp only [List.mem_cons, List.not_mem_nil, or_false] at hS
      rcases hS with rfl | rfl | rfl | rfl | rfl | rfl | rfl
      · exact List.nil_sublist _
      · exact List.Sublist.refl _
      · exact hS1
      · exact hS2
      · exact List.filter_sublist
      · exact List.filter_sublist
      · exact hS3
    obtain ⟨c16', c17', e⟩ := struck_ok (sc := sc) (xs := xs) (Fs := ddG (TT.map (marksL F))) (c5 := v (.list (lotsD TT))) (c7 := v (lotD u)) (c8 := v (lotD jo)) (c9 := v (famD (marksL F t))) (c10 := v (famD (marksL F jo))) (c11 := v (famD S1)) (c12 := v (famD S2)) (c13 := v (famD S3)) (c14 := none) (c16 := c16) (c17 := c17) hF hk fk ho ht hsub (hFs S)
    exact ⟨ST sc xs [v (famD F), v (.str kind), v (.list (intsD order)), v (.list (lotsD TT)), v (lotD t), v (lotD u), v (lotD jo), v (famD (marksL F t)), v (famD (marksL F jo)), v (famD S1), v (famD S2), v (famD S3), none, v (dicD ((ddG (TT.map (marksL F))).map famD)), v (famD S), c17], _, .nx, rfl, e, .inl rfl, c16', c17', rfl⟩)
  rw [e2] at e1
  refine ⟨c16, c17, ?_⟩
  have hi : fF oSeq (fList (fCons (fTup fNil) (fCons (fVar 2) (fCons (fVar 11) (fCons (fVar 12) (fCons (fVar 9) (fCons (fVar 10) (fCons (fVar 13) fNil)))))))) (ST sc xs [v (famD F), v (.str kind), v (.list (intsD order)), v (.list (lotsD TT)), v (lotD t), v (lotD u), v (lotD jo), v (famD (marksL F t)), v (famD (marksL F jo)), v (famD S1), v (famD S2), v (famD S3), none, v (dicD ((ddG (TT.map (marksL F))).map famD))]) = some ([[], F, S1, S2, marksL F t, marksL F jo, S3].map famD, ST sc xs [v (famD F), v (.str kind), v (.list (intsD order)), v (.list (lotsD TT)), v (lotD t), v (lotD u), v (lotD jo), v (famD (marksL F t)), v (famD (marksL F jo)), v (famD S1), v (famD S2), v (famD S3), none, v (dicD ((ddG (TT.map (marksL F))).map famD))]) :=
    y_f (y_list (y_cons (y_tup y_nil) (y_cons (x_fVar rfl) (y_cons (x_fVar rfl) (y_cons (x_fVar rfl) (y_cons (x_fVar rfl) (y_cons (x_fVar rfl) (y_cons (x_fVar rfl) y_nil)))))))) rfl
  rw [x_sFor, hi]
  exact e1
theorem r4 {sc : D} {xs : List D} {F S1 S2 S3 TT : List Lot} {kind : Str} {order t u jo : Lot} {c14 : Option Cel} (hF : Fam F) (hk : kind ∈ kinds) (fk : FK F kind order) (ho : order.length ≤ 6) (hT : ∀ t, t ∈ TT ↔ LotOk 6 t) (hTl : TT.length = 64) (ht : LotOk 6 t) (hu : LotOk 6 u) (hjj : sdI (t ++ u) = jo) (hS1 : S1.Sublist F) (hS2 : S2.Sublist F) (hS3 : S3.Sublist F) (h12 : ∀ l ∈ F, l ∈ S1 → l ∈ S2) {c16 c17 : Option Cel} : ∃ c18 c19 c20 c21 : Option Cel, (sFor (fF oSeq (fList (fCons (fTup (fCons (fTup fNil) (fCons (fVar 11) fNil))) (fCons (fTup (fCons (fVar 11) (fCons (fVar 12) fNil))) (fCons (fTup (fCons (fVar 12) (fCons (fVar 2) fNil))) (fCons (fTup (fCons (fVar 9) (fCons (fVar 10) fNil))) fNil)))))) (gaTup 2 (gaCons (gaN 18) (gaCons (gaN 19) gaNil))) (sSeq (sAsg (fTup (fCons (fCall m_closing (fCons (fVar 2) (fCons (fVar 18) fNil))) (fCons (fCall (fun ds => m_closing (po_closing_1 [] ds)) (fCons (fVar 19) (fCons (fVar 2) fNil))) fNil))) (gaTup 2 (gaCons (gaN 20) (gaCons (gaN 21) gaNil))))
    (sSeq (sIf (asB (fBin oNe (fList (fLc (([("claim", 23)] : List (Str × Nat)).map (·.2)) (fF oSeq (fVar 20)) (gaN 23) (asB (fBin oNotIn (fVar 23) (fVarB 21))) (fVar 23))) (fList fNil))) (sSeq (sRet (fC (.bool false)))
    sNx) sNx)
    sNx))) (ST sc xs [v (famD F), v (.str kind), v (.list (intsD order)), v (.list (lotsD TT)), v (lotD t), v (lotD u), v (lotD jo), v (famD (marksL F t)), v (famD (marksL F jo)), v (famD S1), v (famD S2), v (famD S3), none, v (dicD ((ddG (TT.map (marksL F))).map famD)), c16, c17]) = some (.nx, ST sc xs [v (famD F), v (.str kind), v (.list (intsD order)), v (.list (lotsD TT)), v (lotD t), v (lotD u), v (lotD jo), v (famD (marksL F t)), v (famD (marksL F jo)), v (famD S1), v (famD S2), v (famD S3), none, v (dicD ((ddG (TT.map (marksL F))).map famD)), c16, c17, c18, c19, c20, c21]) := by
  have hFl := hF.len
  have h64 : (ddI F.flatten).length < 64 := Nat.lt_of_le_of_lt hF.flat (by decide)
  have h32 : (ddI F.flatten).length < 32 := Nat.lt_of_le_of_lt hF.flat (by decide)
  have hll : ∀ l ∈ F, l.length < 1000 := fun l hl => by have := lotOk_len (hF.ok l hl); omega
  have hml : ∀ s, (marksL F s).length ≤ 64 := fun s => Nat.le_trans (List.length_filter_le _ _) hFl
  have htl := lotOk_len ht
  have hul := lotOk_len hu
  obtain ⟨ρ', e1, c18, c19, c20, c21, e2⟩ := runFor_inv (ga := gaTup 2 (gaCons (gaN 18) (gaCons (gaN 19) gaNil))) (gb := (sSeq (sAsg (fTup (fCons (fCall m_closing (fCons (fVar 2) (fCons (fVar 18) fNil))) (fCons (fCall (fun ds => m_closing (po_closing_1 [] ds)) (fCons (fVar 19) (fCons (fVar 2) fNil))) fNil))) (gaTup 2 (gaCons (gaN 20) (gaCons (gaN 21) gaNil))))
    (sSeq (sIf (asB (fBin oNe (fList (fLc (([("claim", 23)] : List (Str × Nat)).map (·.2)) (fF oSeq (fVar 20)) (gaN 23) (asB (fBin oNotIn (fVar 23) (fVarB 21))) (fVar 23))) (fList fNil))) (sSeq (sRet (fC (.bool false)))
    sNx) sNx)
    sNx))) (fun p : List Lot × List Lot => .tuple [famD p.1, famD p.2]) (fun _ ρ => ∃ c18 c19 c20 c21 : Option Cel, ρ = ST sc xs [v (famD F), v (.str kind), v (.list (intsD order)), v (.list (lotsD TT)), v (lotD t), v (lotD u), v (lotD jo), v (famD (marksL F t)), v (famD (marksL F jo)), v (famD S1), v (famD S2), v (famD S3), none, v (dicD ((ddG (TT.map (marksL F))).map famD)), c16, c17, c18, c19, c20, c21]) [([], S1), (S1, S2), (S2, F), (marksL F t, marksL F jo)] (ST sc xs [v (famD F), v (.str kind), v (.list (intsD order)), v (.list (lotsD TT)), v (lotD t), v (lotD u), v (lotD jo), v (famD (marksL F t)), v (famD (marksL F jo)), v (famD S1), v (famD S2), v (famD S3), none, v (dicD ((ddG (TT.map (marksL F))).map famD)), c16, c17]) ⟨none, none, none, none, rfl⟩ (by
    rintro ⟨S, S'⟩ rest ρ hS ⟨c18, c19, c20, c21, rfl⟩
    have hsub : ∀ l ∈ S, l ∈ S' := by
      simp only [List.mem_cons, List.not_mem_nil, or_false, Prod.mk.injEq] at hS
      rcases hS with ⟨rfl, rfl⟩ | ⟨rfl, rfl⟩ | ⟨rfl, rfl⟩ | ⟨rfl, rfl⟩
      · exact fun l hl => by cases hl
      · exact fun l hl => h12 l (hS1.subset hl) hl
      · exact fun l hl => hS2.subset hl
      · exact fun l hl => by rw [← hjj, marks_joint]; exact .inl hl
    obtain ⟨c20', c21', e⟩ := pair_ok (sc := sc) (xs := xs) (F := F) (c3 := v (.str kind)) (c4 := v (.list (intsD order))) (c5 := v (.list (lotsD TT))) (c6 := v (lotD t)) (c7 := v (lotD u)) (c8 := v (lotD jo)) (c9 := v (famD (marksL F t))) (c10 := v (famD (marksL F jo))) (c11 := v (famD S1)) (c12 := v (famD S2)) (c13 := v (famD S3)) (c14 := none) (c15 := v (dicD ((ddG (TT.map (marksL F))).map famD))) (c16 := c16) (c17 := c17) (c20 := c20) (c21 := c21) hF hsub
    exact ⟨ST sc xs [v (famD F), v (.str kind), v (.list (intsD order)), v (.list (lotsD TT)), v (lotD t), v (lotD u), v (lotD jo), v (famD (marksL F t)), v (famD (marksL F jo)), v (famD S1), v (famD S2), v (famD S3), none, v (dicD ((ddG (TT.map (marksL F))).map famD)), c16, c17, v (famD S), v (famD S'), c20, c21], _, .nx, rfl, e, .inl rfl, _, _, c20', c21', rfl⟩)
  rw [e2] at e1
  refine ⟨c18, c19, c20, c21, ?_⟩
  rw [x_sFor]
  exact e1
theorem r5 {sc : D} {xs : List D} {F S1 S2 S3 TT : List Lot} {kind : Str} {order t u jo : Lot} {c14 : Option Cel} (hF : Fam F) (hk : kind ∈ kinds) (fk : FK F kind order) (ho : order.length ≤ 6) (hT : ∀ t, t ∈ TT ↔ LotOk 6 t) (hTl : TT.length = 64) (ht : LotOk 6 t) (hu : LotOk 6 u) (hjj : sdI (t ++ u) = jo) (hS1 : S1.Sublist F) (hS2 : S2.Sublist F) (hS3 : S3.Sublist F) (h12 : ∀ l ∈ F, l ∈ S1 → l ∈ S2) {c16 c17 c18 c19 c20 c21 : Option Cel} : (sAsg (fCall m__law_joint (fCons (fCall m__law_closing (fCons (fVar 2) (fCons (fVar 9) fNil))) (fCons (fVar 6) fNil))) (gaN 17)) (ST sc xs [v (famD F), v (.str kind), v (.list (intsD order)), v (.list (lotsD TT)), v (lotD t), v (lotD u), v (lotD jo), v (famD (marksL F t)), v (famD (marksL F jo)), v (famD S1), v (famD S2), v (famD S3), none, v (dicD ((ddG (TT.map (marksL F))).map famD)), c16, c17, c18, c19, c20, c21]) = some (.nx, ST sc xs [v (famD F), v (.str kind), v (.list (intsD order)), v (.list (lotsD TT)), v (lotD t), v (lotD u), v (lotD jo), v (famD (marksL F t)), v (famD (marksL F jo)), v (famD S1), v (famD S2), v (famD S3), none, v (dicD ((ddG (TT.map (marksL F))).map famD)), c16, v (lotD (sdI (closingL F (marksL F t) ++ t))), c18, c19, c20, c21]) := by
  have hFl := hF.len
  have h64 : (ddI F.flatten).length < 64 := Nat.lt_of_le_of_lt hF.flat (by decide)
  have h32 : (ddI F.flatten).length < 32 := Nat.lt_of_le_of_lt hF.flat (by decide)
  have hll : ∀ l ∈ F, l.length < 1000 := fun l hl => by have := lotOk_len (hF.ok l hl); omega
  have hml : ∀ s, (marksL F s).length ≤ 64 := fun s => Nat.le_trans (List.length_filter_le _ _) hFl
  have htl := lotOk_len ht
  have hul := lotOk_len hu
  have hcl := lotOk_len (hF.closing (marksL F t))
  exact y_asg (y_call (y_cons (y_call (y_cons (x_fVar rfl) (y_cons (x_fVar rfl) y_nil)) (lawClosing_eq F (marksL F t) (by omega) (fun l hl => hF.nd hl) h64)) (y_cons (x_fVar rfl) y_nil)) (joint_eq _ t (by omega))) rfl
theorem r6 {sc : D} {xs : List D} {F S1 S2 S3 TT : List Lot} {kind : Str} {order t u jo : Lot} {c14 : Option Cel} (hF : Fam F) (hk : kind ∈ kinds) (fk : FK F kind order) (ho : order.length ≤ 6) (hT : ∀ t, t ∈ TT ↔ LotOk 6 t) (hTl : TT.length = 64) (ht : LotOk 6 t) (hu : LotOk 6 u) (hjj : sdI (t ++ u) = jo) (hS1 : S1.Sublist F) (hS2 : S2.Sublist F) (hS3 : S3.Sublist F) (h12 : ∀ l ∈ F, l ∈ S1 → l ∈ S2) {c16 c17 c18 c19 c20 c21 : Option Cel} : (sRet (fAnd (fCall (m__law_alike 5) (fCons (fCall m_wider (fCons (fVar 2) (fCons (fVar 6) fNil))) (fCons (fVar 17) fNil))) (fCall (m__law_alike 5) (fCons (fCall (fun ds => m_wider (po_wider_0 [] ds)) (fCons (fVar 17) (fCons (fVar 2) fNil))) (fCons (fVar 17) fNil))))) (ST sc xs [v (famD F), v (.str kind), v (.list (intsD order)), v (.list (lotsD TT)), v (lotD t), v (lotD u), v (lotD jo), v (famD (marksL F t)), v (famD (marksL F jo)), v (famD S1), v (famD S2), v (famD S3), none, v (dicD ((ddG (TT.map (marksL F))).map famD)), c16, v (lotD (sdI (closingL F (marksL F t) ++ t))), c18, c19, c20, c21]) = some (.rt (.bool true), ST sc xs [v (famD F), v (.str kind), v (.list (intsD order)), v (.list (lotsD TT)), v (lotD t), v (lotD u), v (lotD jo), v (famD (marksL F t)), v (famD (marksL F jo)), v (famD S1), v (famD S2), v (famD S3), none, v (dicD ((ddG (TT.map (marksL F))).map famD)), c16, v (lotD (sdI (closingL F (marksL F t) ++ t))), c18, c19, c20, c21]) := by
  have hFl := hF.len
  have h64 : (ddI F.flatten).length < 64 := Nat.lt_of_le_of_lt hF.flat (by decide)
  have h32 : (ddI F.flatten).length < 32 := Nat.lt_of_le_of_lt hF.flat (by decide)
  have hll : ∀ l ∈ F, l.length < 1000 := fun l hl => by have := lotOk_len (hF.ok l hl); omega
  have hml : ∀ s, (marksL F s).length ≤ 64 := fun s => Nat.le_trans (List.length_filter_le _ _) hFl
  have htl := lotOk_len ht
  have hul := lotOk_len hu
  have hd := lotOk_len (lotOk_joint (hF.closing (marksL F t)) ht)
  have w1 := wider_eq F t (by omega) h32 (by omega)
  have w2 : (fun ds => m_wider (po_wider_0 [] ds)) [lotD (sdI (closingL F (marksL F t) ++ t)), famD F] = some (lotD (sdI (closingL F (marksL F t) ++ t))) := by
    have := wider_eq F (sdI (closingL F (marksL F t) ++ t)) (by omega) h32 (by omega)
    rw [wider_fix] at this
    exact this
  have a1 : m__law_alike 5 [lotD (sdI (closingL F (marksL F t) ++ t)), lotD (sdI (closingL F (marksL F t) ++ t))] = some (.bool true) := lot_alike (by omega)
  exact y_ret (y_and (y_call (y_cons (y_call (y_cons (x_fVar rfl) (y_cons (x_fVar rfl) y_nil)) w1) (y_cons (x_fVar rfl) y_nil)) a1) (y_call (y_cons (y_call (y_cons (x_fVar (d := lotD (sdI (closingL F (marksL F t) ++ t))) rfl) (y_cons (x_fVar (d := famD F) rfl) y_nil)) w2) (y_cons (x_fVar rfl) y_nil)) a1))
end K32
set_option Elab.async false
set_option linter.all false
set_option maxRecDepth 100000
set_option maxHeartbeats 2000000
namespace K32
open PySem PySem.Spec PyProof.Rows L2 PF
theorem math (ns : List Int) (h : ns.length ≤ 63) : m_law [frnD ns] = some (.bool true) := by
  obtain ⟨xs0, e0, d0⟩ := deck_ok ns h
  obtain ⟨F, kind, order, xs1, e1, d1, hF, fk, hk, ho⟩ := family_ok (k := 999900) d0
  have hFl := hF.len
  have h64 : (ddI F.flatten).length < 64 := Nat.lt_of_le_of_lt hF.flat (by decide)
  have hll : ∀ l ∈ F, l.length ≤ 6 := fun l hl => lotOk_len (hF.ok l hl)
  have hT : ∀ t, t ∈ sortL (rawL 6) ↔ LotOk 6 t := fun t => by rw [(sortL_perm _).mem_iff, rawL_mem]
  have hTl : (sortL (rawL 6)).length = 64 := by rw [(sortL_perm _).length_eq, rawL_len]
  have hTne : lotsD (sortL (rawL 6)) ≠ [] := fun e => by
    have := congrArg List.length e
    rw [lotsD, List.length_map, hTl] at this
    cases this
  have hTl2 : (lotsD (sortL (rawL 6))).length < 100000 := by rw [lotsD, List.length_map, hTl]; decide
  have eT := lots_eq 6 (by decide)
  generalize hTT : sortL (rawL 6) = TT at *
  obtain ⟨dt, hdt, xs2, e2, d2⟩ := pick_is (k := 999899) (i := 5) (sc := frnD ns) (l := [v (famD F), v (.str kind), v (.list (intsD order)), v (.list (lotsD TT))]) d1 (.inl rfl) hTne hTl2 rfl
  obtain ⟨t, ht, rfl⟩ := List.mem_map.mp hdt
  obtain ⟨du, hdu, xs3, e3, d3⟩ := pick_is (k := 999898) (i := 5) (sc := frnD ns) (l := [v (famD F), v (.str kind), v (.list (intsD order)), v (.list (lotsD TT))]) d2 (.inl rfl) hTne hTl2 rfl
  obtain ⟨u, hu, rfl⟩ := List.mem_map.mp hdu
  have ht := (hT t).mp ht
  have hu := (hT u).mp hu
  have htl := lotOk_len ht
  have hul := lotOk_len hu
  have hj := lotOk_joint ht hu
  have hjl := lotOk_len hj
  generalize hjj : sdI (t ++ u) = jo at hj hjl
  have hml : ∀ s, (marksL F s).length ≤ 64 := fun s => Nat.le_trans (List.length_filter_le _ _) hFl
  obtain ⟨S1, xs4, e4, hS1, d4⟩ := drawn_ok (k := 999898 - F.length) (sc := frnD ns) (xs := xs3) (F := F) (c3 := v (.str kind)) (c4 := v (.list (intsD order))) (c5 := v (.list (lotsD TT))) (c6 := v (lotD t)) (c7 := v (lotD u)) (c8 := v (lotD jo)) (c9 := v (famD (marksL F t))) (c10 := v (famD (marksL F jo))) (d3.less (by omega)) (by omega)
  obtain ⟨S2, xs5, e5, hS2, h12, d5⟩ := wide_ok (k := 999898 - F.length - F.length) (sc := frnD ns) (xs := xs4) (F := F) (S0 := S1) (c3 := v (.str kind)) (c4 := v (.list (intsD order))) (c5 := v (.list (lotsD TT))) (c6 := v (lotD t)) (c7 := v (lotD u)) (c8 := v (lotD jo)) (c9 := v (famD (marksL F t))) (c10 := v (famD (marksL F jo))) (d4.less (by omega)) (by omega)
  obtain ⟨S3, xs6, c14, e6, hS3, d6⟩ := bent_ok (k := 1) (sc := frnD ns) (xs := xs5) (F := F) (own := marksL F t) (c3 := v (.str kind)) (c4 := v (.list (intsD order))) (c5 := v (.list (lotsD TT))) (c6 := v (lotD t)) (c7 := v (lotD u)) (c8 := v (lotD jo)) (c10 := v (famD (marksL F jo))) (c11 := v (famD S1)) (c12 := v (famD S2)) (d5.less (by omega)) (by omega) List.filter_sublist
  suffices H : ∃ ρ', g_law [v (frnD ns), none, none, none, none, none, none, none, none, none, none, none, none, none, none, none, none, none, none, none, none, none, none, none] = some (.rt (.bool true), ρ') by
    obtain ⟨ρ', e⟩ := H
    exact runP_of e
  have s0 : sOwn 1 (fCallF m__law_deck (fCons (fVar 0) fNil)) [v (frnD ns), none, none, none, none, none, none, none, none, none, none, none, none, none, none, none, none, none, none, none, none, none, none, none] = some (.nx, ST (frnD ns) xs0 []) :=
    x_sOwn (y_callF (y_cons (x_fVar rfl) y_nil) e0) (by simp) (by decide)
  have s1 : sAsg (fCallM m__law_family 1 fNil) (gaTup 3 (gaCons (gaN 2) (gaCons (gaN 3) (gaCons (gaN 4) gaNil)))) (ST (frnD ns) xs0 []) = some (.nx, ST (frnD ns) xs1 [v (famD F), v (.str kind), v (.list (intsD order))]) :=
    y_asg (ρ1 := ST (frnD ns) xs1 []) (x_fCallM (ρ1 := ST (frnD ns) xs0 []) rfl y_nil rfl e1) rfl
  have s2 : sAsg (fCall m__law_lots (fCons (fC (.int 6)) fNil)) (gaN 5) (ST (frnD ns) xs1 [v (famD F), v (.str kind), v (.list (intsD order))]) = some (.nx, ST (frnD ns) xs1 [v (famD F), v (.str kind), v (.list (intsD order)), v (.list (lotsD TT))]) :=
    y_asg (y_call (y_cons y_c y_nil) eT) rfl
  have s3 : sPar 6 7 (fCons (fCallM m__law_pick 1 (fCons (fVar 5) fNil)) (fCons (fCallM m__law_pick 1 (fCons (fVar 5) fNil)) fNil)) (ST (frnD ns) xs1 [v (famD F), v (.str kind), v (.list (intsD order)), v (.list (lotsD TT))]) = some (.nx, ST (frnD ns) xs3 [v (famD F), v (.str kind), v (.list (intsD order)), v (.list (lotsD TT)), v (lotD t), v (lotD u)]) :=
    y_par (ρ2 := ST (frnD ns) xs3 [v (famD F), v (.str kind), v (.list (intsD order)), v (.list (lotsD TT)), v (lotD t)]) (y_cons e2 (y_cons e3 y_nil)) rfl rfl
  have s4 : sAsg (fCall m__law_joint (fCons (fVar 6) (fCons (fVar 7) fNil))) (gaN 8) (ST (frnD ns) xs3 [v (famD F), v (.str kind), v (.list (intsD order)), v (.list (lotsD TT)), v (lotD t), v (lotD u)]) = some (.nx, ST (frnD ns) xs3 [v (famD F), v (.str kind), v (.list (intsD order)), v (.list (lotsD TT)), v (lotD t), v (lotD u), v (lotD jo)]) :=
    y_asg (y_call (y_cons (x_fVar rfl) (y_cons (x_fVar rfl) y_nil)) ((joint_eq t u (by omega)).trans (by rw [hjj]))) rfl
  have s5 : sAsg (fTup (fCons (fCall m__law_marks (fCons (fVar 2) (fCons (fVar 6) fNil))) (fCons (fCall m__law_marks (fCons (fVar 2) (fCons (fVar 8) fNil))) fNil))) (gaTup 2 (gaCons (gaN 9) (gaCons (gaN 10) gaNil))) (ST (frnD ns) xs3 [v (famD F), v (.str kind), v (.list (intsD order)), v (.list (lotsD TT)), v (lotD t), v (lotD u), v (lotD jo)]) = some (.nx, ST (frnD ns) xs3 [v (famD F), v (.str kind), v (.list (intsD order)), v (.list (lotsD TT)), v (lotD t), v (lotD u), v (lotD jo), v (famD (marksL F t)), v (famD (marksL F jo))]) :=
    y_asg (y_tup (y_cons (y_call (y_cons (x_fVar rfl) (y_cons (x_fVar rfl) y_nil)) (lawMarks_eq F t (by omega) fun l hl => by have := hll l hl; omega)) (y_cons (y_call (y_cons (x_fVar rfl) (y_cons (x_fVar rfl) y_nil)) (lawMarks_eq F jo (by omega) fun l hl => by have := hll l hl; omega)) y_nil))) rfl
  have s6 : sAsg (fUn oTuple (fList (fLc (([("lot", 14)] : List (Str × Nat)).map (·.2)) (fF oSeq (fVar 2)) (gaN 14) (asB (fBin oEq (fCallM m__law_draw 1 (fCons (fC (.int 2)) fNil)) (fC (.int 0)))) (fVar 14)))) (gaN 11) (ST (frnD ns) xs3 [v (famD F), v (.str kind), v (.list (intsD order)), v (.list (lotsD TT)), v (lotD t), v (lotD u), v (lotD jo), v (famD (marksL F t)), v (famD (marksL F jo))]) = some (.nx, ST (frnD ns) xs4 [v (famD F), v (.str kind), v (.list (intsD order)), v (.list (lotsD TT)), v (lotD t), v (lotD u), v (lotD jo), v (famD (marksL F t)), v (famD (marksL F jo)), v (famD S1)]) :=
    y_asg (y_un (e := famD S1) (y_list e4) rfl) rfl
  have s7 : sAsg (fUn oTuple (fList (fLc (([("lot", 14)] : List (Str × Nat)).map (·.2)) (fF oSeq (fVar 2)) (gaN 14) (fOrT (asB (fBin oIn (fVar 14) (fVarB 11))) (asB (fBin oEq (fCallM m__law_draw 1 (fCons (fC (.int 3)) fNil)) (fC (.int 0))))) (fVar 14)))) (gaN 12) (ST (frnD ns) xs4 [v (famD F), v (.str kind), v (.list (intsD order)), v (.list (lotsD TT)), v (lotD t), v (lotD u), v (lotD jo), v (famD (marksL F t)), v (famD (marksL F jo)), v (famD S1)]) = some (.nx, ST (frnD ns) xs5 [v (famD F), v (.str kind), v (.list (intsD order)), v (.list (lotsD TT)), v (lotD t), v (lotD u), v (lotD jo), v (famD (marksL F t)), v (famD (marksL F jo)), v (famD S1), v (famD S2)]) :=
    y_asg (y_un (e := famD S2) (y_list e5) rfl) rfl
  have s8 : sAsg (fVar 9) (gaN 13) (ST (frnD ns) xs5 [v (famD F), v (.str kind), v (.list (intsD order)), v (.list (lotsD TT)), v (lotD t), v (lotD u), v (lotD jo), v (famD (marksL F t)), v (famD (marksL F jo)), v (famD S1), v (famD S2)]) = some (.nx, ST (frnD ns) xs5 [v (famD F), v (.str kind), v (.list (intsD order)), v (.list (lotsD TT)), v (lotD t), v (lotD u), v (lotD jo), v (famD (marksL F t)), v (famD (marksL F jo)), v (famD S1), v (famD S2), v (famD (marksL F t))]) :=
    y_asg (x_fVar rfl) rfl
  unfold g_law
  rw [x_sSeq s0, x_sSeq s1, x_sSeq s2, x_sSeq s3, x_sSeq s4, x_sSeq s5, x_sSeq s6, x_sSeq s7, x_sSeq s8, x_sSeq e6]
  clear s0 s1 s2 s3 s4 s5 s6 s7 s8 e6 e5 e4 e3 e2 e1 e0
  obtain ⟨a16, a17, z3⟩ := r3 (sc := frnD ns) (xs := xs6) (c14 := c14) hF hk fk ho hT hTl ht hu hjj hS1 hS2 hS3 h12
  obtain ⟨c18, c19, c20, c21, z4⟩ := r4 (sc := frnD ns) (xs := xs6) (c14 := c14) (c16 := a16) (c17 := a17) hF hk fk ho hT hTl ht hu hjj hS1 hS2 hS3 h12
  rw [x_sSeq (r0 hF hk fk ho hT hTl ht hu hjj hS1 hS2 hS3 h12), x_sSeq (r1 (c14 := c14) hF hk fk ho hT hTl ht hu hjj hS1 hS2 hS3 h12), x_sSeq (r2 (c14 := c14) hF hk fk ho hT hTl ht hu hjj hS1 hS2 hS3 h12), x_sSeq z3, x_sSeq z4, x_sSeq (r5 (c14 := c14) hF hk fk ho hT hTl ht hu hjj hS1 hS2 hS3 h12)]
  exact ⟨_, x_sSeqR (r6 (c14 := c14) (c17 := a17) hF hk fk ho hT hTl ht hu hjj hS1 hS2 hS3 h12)⟩
end K32
set_option Elab.async false
set_option linter.all false
set_option maxRecDepth 100000
set_option maxHeartbeats 0
namespace K32
open PySem PySem.Spec PyProof.Rows L2 PF

def d_closing : He.DefD := ⟨("closing", none), "closing", "closing", defArgs s_closing, defBody s_closing, defScope s_closing, [], []⟩
def d_marks : He.DefD := ⟨("marks", none), "marks", "marks", defArgs s_marks, defBody s_marks, defScope s_marks, [], []⟩
def d_wider : He.DefD := ⟨("wider", none), "wider", "wider", defArgs s_wider, defBody s_wider, defScope s_wider, [], []⟩
def d_consonant : He.DefD := ⟨("consonant", none), "consonant", "consonant", defArgs s_consonant, defBody s_consonant, defScope s_consonant, [], []⟩
def d__law_deck : He.DefD := ⟨("_law_deck", none), "_law_deck", "_law_deck", defArgs s__law_deck, defBody s__law_deck, defScope s__law_deck, [], []⟩
def d__law_draw : He.DefD := ⟨("_law_draw", none), "_law_draw", "_law_draw", defArgs s__law_draw, defBody s__law_draw, defScope s__law_draw, [], []⟩
def d__law_pick : He.DefD := ⟨("_law_pick", none), "_law_pick", "_law_pick", defArgs s__law_pick, defBody s__law_pick, defScope s__law_pick, [], []⟩
def d__law_shuffled : He.DefD := ⟨("_law_shuffled", none), "_law_shuffled", "_law_shuffled", defArgs s__law_shuffled, defBody s__law_shuffled, defScope s__law_shuffled, [], []⟩
def d__law_alike : He.DefD := ⟨("_law_alike", none), "_law_alike", "_law_alike", defArgs s__law_alike, defBody s__law_alike, defScope s__law_alike, [], []⟩
def d__law_joint : He.DefD := ⟨("_law_joint", none), "_law_joint", "_law_joint", defArgs s__law_joint, defBody s__law_joint, defScope s__law_joint, [], []⟩
def d__law_met : He.DefD := ⟨("_law_met", none), "_law_met", "_law_met", defArgs s__law_met, defBody s__law_met, defScope s__law_met, [], []⟩
def d__law_marks : He.DefD := ⟨("_law_marks", none), "_law_marks", "_law_marks", defArgs s__law_marks, defBody s__law_marks, defScope s__law_marks, [], []⟩
def d__law_closing : He.DefD := ⟨("_law_closing", none), "_law_closing", "_law_closing", defArgs s__law_closing, defBody s__law_closing, defScope s__law_closing, [], []⟩
def d__law_lots : He.DefD := ⟨("_law_lots", none), "_law_lots", "_law_lots", defArgs s__law_lots, defBody s__law_lots, defScope s__law_lots, [], []⟩
def d__law_family : He.DefD := ⟨("_law_family", none), "_law_family", "_law_family", defArgs s__law_family, defBody s__law_family, defScope s__law_family, [], []⟩
def d__law_by_formula : He.DefD := ⟨("_law_by_formula", none), "_law_by_formula", "_law_by_formula", defArgs s__law_by_formula, defBody s__law_by_formula, defScope s__law_by_formula, [], []⟩
def d_law : He.DefD := ⟨("law", none), "law", "law", defArgs s_law, defBody s_law, defScope s_law, [], []⟩
def fn : List He.DefD := [d_closing, d_marks, d_wider, d_consonant, d__law_deck, d__law_draw, d__law_pick, d__law_shuffled, d__law_alike, d__law_joint, d__law_met, d__law_marks, d__law_closing, d__law_lots, d__law_family, d__law_by_formula, d_law]
def fa : List He.Fa := [.glo "closing", .glo "marks", .glo "wider", .glo "consonant", .glo "_law_deck", .glo "_law_draw", .glo "_law_pick", .glo "_law_shuffled", .glo "_law_alike", .glo "_law_joint", .glo "_law_met", .glo "_law_marks", .glo "_law_closing", .glo "_law_lots", .glo "_law_family", .glo "_law_by_formula", .glo "law", .free "all", .free "any", .free "bool", .free "dict", .free "int", .free "isinstance", .free "len", .free "list", .free "max", .free "range", .free "set", .free "sorted", .free "str", .free "tuple"]
def tf : List He.Defn := [("closing", none), ("marks", none)]
abbrev R : PySem.W.OpenRow := PySem.W.OpenLaw.row PySem.Challenge.rw_seldomfalse_k32_closing_laws
abbrev hk : PySem.W.Hook := He.hookX 4 fa fn [] tf (fun _ => true)
def ob (s : PySem.W.SharedT) : He.AlX := He.obsX 4 fa fn [] tf (fun _ => true) (HandSHeadRun.getT s)
theorem ob_eq (s : PySem.W.SharedT) : ob s = hk.obs s.abs := He.obsX_eq (HandSHeadRun.getT_eq s)
abbrev loose : List Str := ["closing", "marks", "wider", "consonant", "_law_deck", "_law_draw", "_law_pick", "_law_shuffled", "_law_alike", "_law_joint", "_law_met", "_law_marks", "_law_closing", "_law_lots", "_law_family", "_law_by_formula"]
theorem run (w : World) : HandSHeadRun.RunEq R (PySem.W.view R.prog [18]) hk ob 900 loose w := by
  intro os
  kernel_rfl
/-- where a def stands, by the head -/
theorem at_of {K : PySem.W.Frag} {mg : Str → Option Value} {x : Str} {st : Stmt} {fd : FuncData} (F : FunD K x x (defArgs st) (defBody st) (defScope st) [] [] (He.fAd K (x, none)) fd) (hm : mg x = some (.ref (He.ga K x))) (C : Value → Prop) (hC : C fd.code) : At K mg st x C := ⟨_, _, hm, F, hC⟩
theorem code_of {K : PySem.W.Frag} {x : Str} {st : Stmt} {fd : FuncData} (F : FunD K x x (defArgs st) (defBody st) (defScope st) [] [] (He.fAd K (x, none)) fd) : fd.code = .ref (He.cT K (x, none)).1 := by
  obtain ⟨oc, od, dV, kV, doc, pm, an, cdv, ct, osl, rfl, lk, hcd, _, _⟩ := F.ex
  obtain ⟨c, rfl⟩ := He.codeIn_ref hcd
  show Value.ref c = _
  rw [show (He.cT K (x, none)).1 = He.codeOf K (x, none) from rfl, He.codeOf_eq lk rfl]

theorem facts {P : Program} {w : World} {K : PySem.W.Frag} {mg : Str → Option Value} {h : Heap} (T : AS) (KX : K.In h) (GG : h.Ns mainGlobals mg) (c : He.SaysD fa fn K) :
    At K mg s_law "law" (fun _ => True) ∧ ∀ base : Heap, (∀ p ∈ tf, GxR.TabB base mg (He.cT K p).1 (He.cT K p).2) → (∀ p ∈ tf, T (He.cT K p).2) → Cal P w K mg base s_law "law" 8 ["script"] (spP K T 1 m_law) := by
  obtain ⟨fd_closing, F_closing⟩ := c.def_ 0 (d := d_closing) rfl
  obtain ⟨fd_marks, F_marks⟩ := c.def_ 1 (d := d_marks) rfl
  obtain ⟨fd_wider, F_wider⟩ := c.def_ 2 (d := d_wider) rfl
  obtain ⟨fd_consonant, F_consonant⟩ := c.def_ 3 (d := d_consonant) rfl
  obtain ⟨fd__law_deck, F__law_deck⟩ := c.def_ 4 (d := d__law_deck) rfl
  obtain ⟨fd__law_draw, F__law_draw⟩ := c.def_ 5 (d := d__law_draw) rfl
  obtain ⟨fd__law_pick, F__law_pick⟩ := c.def_ 6 (d := d__law_pick) rfl
  obtain ⟨fd__law_shuffled, F__law_shuffled⟩ := c.def_ 7 (d := d__law_shuffled) rfl
  obtain ⟨fd__law_alike, F__law_alike⟩ := c.def_ 8 (d := d__law_alike) rfl
  obtain ⟨fd__law_joint, F__law_joint⟩ := c.def_ 9 (d := d__law_joint) rfl
  obtain ⟨fd__law_met, F__law_met⟩ := c.def_ 10 (d := d__law_met) rfl
  obtain ⟨fd__law_marks, F__law_marks⟩ := c.def_ 11 (d := d__law_marks) rfl
  obtain ⟨fd__law_closing, F__law_closing⟩ := c.def_ 12 (d := d__law_closing) rfl
  obtain ⟨fd__law_lots, F__law_lots⟩ := c.def_ 13 (d := d__law_lots) rfl
  obtain ⟨fd__law_family, F__law_family⟩ := c.def_ 14 (d := d__law_family) rfl
  obtain ⟨fd__law_by_formula, F__law_by_formula⟩ := c.def_ 15 (d := d__law_by_formula) rfl
  obtain ⟨fd_law, F_law⟩ := c.def_ 16 (d := d_law) rfl
  have G : GF mg := ⟨He.free_ok KX GG (c.fact 17 (f := .free "all") rfl), He.free_ok KX GG (c.fact 18 (f := .free "any") rfl), He.free_ok KX GG (c.fact 19 (f := .free "bool") rfl), He.free_ok KX GG (c.fact 20 (f := .free "dict") rfl), He.free_ok KX GG (c.fact 21 (f := .free "int") rfl), He.free_ok KX GG (c.fact 22 (f := .free "isinstance") rfl), He.free_ok KX GG (c.fact 23 (f := .free "len") rfl), He.free_ok KX GG (c.fact 24 (f := .free "list") rfl), He.free_ok KX GG (c.fact 25 (f := .free "max") rfl), He.free_ok KX GG (c.fact 26 (f := .free "range") rfl), He.free_ok KX GG (c.fact 27 (f := .free "set") rfl), He.free_ok KX GG (c.fact 28 (f := .free "sorted") rfl), He.free_ok KX GG (c.fact 29 (f := .free "str") rfl), He.free_ok KX GG (c.fact 30 (f := .free "tuple") rfl)⟩
  have a_closing := at_of (st := s_closing) F_closing (He.glo_ok KX GG (c.fact 0 (f := .glo "closing") rfl)) (fun v => v = .ref (He.cT K ("closing", none)).1) (code_of (st := s_closing) F_closing)
  have a_marks := at_of (st := s_marks) F_marks (He.glo_ok KX GG (c.fact 1 (f := .glo "marks") rfl)) (fun v => v = .ref (He.cT K ("marks", none)).1) (code_of (st := s_marks) F_marks)
  have a_wider := at_of (st := s_wider) F_wider (He.glo_ok KX GG (c.fact 2 (f := .glo "wider") rfl)) (fun _ => True) trivial
  have a_consonant := at_of (st := s_consonant) F_consonant (He.glo_ok KX GG (c.fact 3 (f := .glo "consonant") rfl)) (fun _ => True) trivial
  have a__law_deck := at_of (st := s__law_deck) F__law_deck (He.glo_ok KX GG (c.fact 4 (f := .glo "_law_deck") rfl)) (fun _ => True) trivial
  have a__law_draw := at_of (st := s__law_draw) F__law_draw (He.glo_ok KX GG (c.fact 5 (f := .glo "_law_draw") rfl)) (fun _ => True) trivial
  have a__law_pick := at_of (st := s__law_pick) F__law_pick (He.glo_ok KX GG (c.fact 6 (f := .glo "_law_pick") rfl)) (fun _ => True) trivial
  have a__law_shuffled := at_of (st := s__law_shuffled) F__law_shuffled (He.glo_ok KX GG (c.fact 7 (f := .glo "_law_shuffled") rfl)) (fun _ => True) trivial
  have a__law_alike := at_of (st := s__law_alike) F__law_alike (He.glo_ok KX GG (c.fact 8 (f := .glo "_law_alike") rfl)) (fun _ => True) trivial
  have a__law_joint := at_of (st := s__law_joint) F__law_joint (He.glo_ok KX GG (c.fact 9 (f := .glo "_law_joint") rfl)) (fun _ => True) trivial
  have a__law_met := at_of (st := s__law_met) F__law_met (He.glo_ok KX GG (c.fact 10 (f := .glo "_law_met") rfl)) (fun _ => True) trivial
  have a__law_marks := at_of (st := s__law_marks) F__law_marks (He.glo_ok KX GG (c.fact 11 (f := .glo "_law_marks") rfl)) (fun _ => True) trivial
  have a__law_closing := at_of (st := s__law_closing) F__law_closing (He.glo_ok KX GG (c.fact 12 (f := .glo "_law_closing") rfl)) (fun _ => True) trivial
  have a__law_lots := at_of (st := s__law_lots) F__law_lots (He.glo_ok KX GG (c.fact 13 (f := .glo "_law_lots") rfl)) (fun _ => True) trivial
  have a__law_family := at_of (st := s__law_family) F__law_family (He.glo_ok KX GG (c.fact 14 (f := .glo "_law_family") rfl)) (fun _ => True) trivial
  have a__law_by_formula := at_of (st := s__law_by_formula) F__law_by_formula (He.glo_ok KX GG (c.fact 15 (f := .glo "_law_by_formula") rfl)) (fun _ => True) trivial
  have a_law := at_of (st := s_law) F_law (He.glo_ok KX GG (c.fact 16 (f := .glo "law") rfl)) (fun _ => True) trivial
  refine ⟨a_law, fun base TB hTT => ?_⟩
  have c_closing := ok_closing (P := P) (w := w) (base := base) (T := T) G (TB ("closing", none) (by decide)) (hTT ("closing", none) (by decide))  a_closing
  have c_marks := ok_marks (P := P) (w := w) (base := base) (T := T) G (TB ("marks", none) (by decide)) (hTT ("marks", none) (by decide))  a_marks
  have c_wider := ok_wider (P := P) (w := w) (base := base) (T := T) G  c_closing c_marks a_wider
  have c_consonant := ok_consonant (P := P) (w := w) (base := base) (T := T) G  c_marks c_closing a_consonant
  have c__law_deck := ok__law_deck (P := P) (w := w) (base := base) (T := T) G   a__law_deck
  have c__law_draw := ok__law_draw (P := P) (w := w) (base := base) (T := T) G   a__law_draw
  have c__law_pick := ok__law_pick (P := P) (w := w) (base := base) (T := T) G  c__law_draw a__law_pick
  have c__law_shuffled := ok__law_shuffled (P := P) (w := w) (base := base) (T := T) G  c__law_draw a__law_shuffled
  have c__law_alike := ok__law_alike (P := P) (w := w) (base := base) (T := T) G   a__law_alike 5
  have c__law_joint := ok__law_joint (P := P) (w := w) (base := base) (T := T) G   a__law_joint
  have c__law_met := ok__law_met (P := P) (w := w) (base := base) (T := T) G   a__law_met
  have c__law_marks := ok__law_marks (P := P) (w := w) (base := base) (T := T) G  c__law_met a__law_marks
  have c__law_closing := ok__law_closing (P := P) (w := w) (base := base) (T := T) G   a__law_closing
  have c__law_lots := ok__law_lots (P := P) (w := w) (base := base) (T := T) G   a__law_lots
  have c__law_family := ok__law_family (P := P) (w := w) (base := base) (T := T) G  c__law_pick c__law_shuffled c__law_draw c__law_lots a__law_family
  have c__law_by_formula := ok__law_by_formula (P := P) (w := w) (base := base) (T := T) G  c__law_alike c_closing c_marks a__law_by_formula
  have c_law := ok_law (P := P) (w := w) (base := base) (T := T) G  c__law_deck c__law_family c__law_lots c__law_joint c__law_pick c__law_marks c__law_alike c__law_closing c__law_by_formula c_closing c_wider c_marks c__law_draw c_consonant a_law
  exact c_law

theorem law_at (w : World) (mg : Str → Option Value) (fa' : Addr) (h : Heap) (K : PySem.W.Frag) (KX : K.In h) (c : He.SaysX fa fn [] tf (fun _ => true) w h K) (GG : h.Ns mainGlobals mg) (hmg : mg ("law" : Str) = some (.ref fa')) :
    LamX.LawAtS PySem.Challenge.rw_seldomfalse_k32_closing_laws w K CX0 8 63 "script" mg fa' h := by
  obtain ⟨aL, hF⟩ := facts (P := (PySem.Challenge.rw_seldomfalse_k32_closing_laws).prog) (w := w) (fun a => ∃ p ∈ tf, a = (He.cT K p).2) KX GG c.t.d
  obtain ⟨f, fd, hm, F, _⟩ := aL.ex
  rw [hmg] at hm
  cases hm
  have b := FunD.bindsA (ps := ["script"]) F fun _ _ _ _ _ _ us hl => match us, hl with | [_], _ => rfl
  refine ⟨fd, tf.map (He.cT K), spP K (fun a => ∃ p ∈ tf, a = (He.cT K p).2) 1 m_law, fun p hp => ?_, fun p hp => ?_, fun p hp => ?_, fun s v => b s [v] rfl, fun H a ns hl _ hH hS => ?_, fun base Kb Gb TB => ?_⟩
  · obtain ⟨q, hq, rfl⟩ := List.mem_map.mp hp
    exact c.empty q hq
  · obtain ⟨q, hq, rfl⟩ := List.mem_map.mp hp
    exact c.out q hq
  · obtain ⟨q, hq, rfl⟩ := List.mem_map.mp hp
    exact PySem.W.codeHd_of_K KX (c.hd q hq)
  · have hT : ∀ b, (∃ p ∈ tf, b = (He.cT K p).2) → H b = some (.tbl #[]) := fun b ⟨p, hp, e⟩ => by
      rw [e]
      exact hH _ (List.mem_map.mpr ⟨p, hp, rfl⟩)
    have hB : LB K (fun a => ∃ p ∈ tf, a = (He.cT K p).2) H a (ns.map V.int) := by
      rcases hS with hr | hk
      · refine .inl ⟨fun z => ?_, hr⟩
        have := hT a z
        rcases hr with q | ⟨o, q⟩ <;> (rw [this] at q; cases q)
      · exact .inr (.inr hk)
    refine ⟨rfl, _, [frnD ns], .bool true, fun _ z => z, fun b z => ⟨#[], hT b z, trivial⟩, fun b z => ⟨_, hT b z⟩, .cons (.frn ns hB) .nil, math ns hl, fun v H' _ _ hv => ?_⟩
    cases hv
    rfl
  · have C := hF base (fun p hp => let t := TB _ (List.mem_map.mpr ⟨p, hp, rfl⟩); ⟨t.code, t.bm, t.gP⟩) (fun p hp => ⟨p, hp, rfl⟩)
    obtain ⟨f2, fd2, hm2, F2, _, ok⟩ := C.ex
    rw [hmg] at hm2
    cases hm2
    have e : fd2 = fd := by
      obtain ⟨_, _, _, _, _, _, _, _, _, _, _, lk1, _⟩ := F.ex
      obtain ⟨_, _, _, _, _, _, _, _, _, _, _, lk2, _⟩ := F2.ex
      rw [lk1] at lk2
      cases lk2
      rfl
    rw [← e]
    exact ok
end K32
open PySem PySem.W PySem.Calls PyProof.Rows
theorem PySem.Challenge.cw_seldomfalse_k32_closing_laws_holds : PySem.Challenge.rw_seldomfalse_k32_closing_laws.Holds := by
  w_on; o_law
  refine HandSHeadRun.head_any (r := OpenLaw.row PySem.Challenge.rw_seldomfalse_k32_closing_laws) (q := view (OpenLaw.row PySem.Challenge.rw_seldomfalse_k32_closing_laws).prog [18]) (H := K32.hk) (ob := K32.ob) (M := 900) (loose := K32.loose) (d := HandSHeadRun.topDef (OpenLaw.row PySem.Challenge.rw_seldomfalse_k32_closing_laws).prog 18) (kwd := []) K32.ob_eq
    (by kernel_rfl) (fun s => by kernel_rfl) K32.run (by kernel_rfl) (by kernel_rfl) (by kernel_rfl) (by rfl) (by first | assumption | decide +kernel) (by decide +kernel) ⟨rfl, rfl, rfl, rfl, rfl, by decide +kernel⟩ ?hw ?hc
  case hw => w_witness2
  case hc =>
    refine LamX.walk_ofTsE (l := PySem.Challenge.rw_seldomfalse_k32_closing_laws) (n := 63) (k := 8) (x := "script") (CX := fun _ => L2.CX0) rfl (by decide) (by kernel_rfl) ⟨rfl, by decide, by decide⟩ ?F (fun _ _ _ _ _ z => z)
    intro w mg fa h Y G hmg0
    obtain ⟨K, KX, c⟩ := Y
    have hmg : mg ("law" : PySem.Str) = some (.ref fa) := by
      have e : (HandSHeadRun.topDef (OpenLaw.row PySem.Challenge.rw_seldomfalse_k32_closing_laws).prog 18).name = ("law" : PySem.Str) := by kernel_rfl
      rw [← e]
      exact hmg0
    exact ⟨K, KX, K32.law_at w mg fa h K KX c G hmg⟩
