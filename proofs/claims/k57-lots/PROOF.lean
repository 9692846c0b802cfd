import PyProof.Rows.All
import HandS.ForMost
import HandS.ForExc
import HandS.TupAny
import HandS.Wide
import HandS.Zip
import HandS.Walk
import HandS.Lambda
import KE.KNestM
import KE.DataCmp
import HandS.TupMul
import HandS.Style
import HandS.Deep
import HandS.Gcd
import HandS.IsInst
import KE.DataMinMax
import KE.GoesEnum
import KE.KExcSuper
import KE.KSuper
import HandS.ExcInit
import HandS.WordsExc
import HandS.WideMore
import KE.SortData
import HandS.Conv
import HandS.More
import HandS.Dict
import KE.KLam
import HandS.EndTab
import PySem.Challenge.RW_marketguild_k57_whole_lots
set_option Elab.async false
set_option linter.all false
set_option maxRecDepth 100000
set_option maxHeartbeats 2000000
/-! Ev1: values as data, slots, the state; what relates them to the layer's slots and heap -/
namespace Ev
open PySem PySem.Spec PyProof.Rows L2

abbrev D := PyData

/-- what a slot holds: a value that stays; a list of this def's own, still to be changed; the cursor of the drawn script -/
inductive SV where
  | val (d : D)
  | own (ds : List D)
  | cur
  | cel (n : Nat)
/-- what stands in a cell: data, or another cell -/
inductive AV where
  | d (d : D)
  | c (n : Nat)
/-- a thing that may be changed, known by its number -/
inductive Cell where
  | lst (xs : List AV)
  | dct (kvs : List (Key × AV))
  | dcT (kvs : List (List Key × AV))
  | ins (x : Str) (fs : List (Str × AV))
  | gone
structure Cur where
  items : List Int
  pos : Nat
  cur : Int
  seed : Int
  h1 : 0 ≤ cur
  h2 : 0 ≤ seed
  h3 : seed < 2147483647
/-- the cursor of the script, the cells -/
structure Ext where
  cu : Option Cur
  ce : List Cell
abbrev T0 : Ext := ⟨none, []⟩
structure ES where
  σ : List (Option SV)
  T : Ext
/-- an evaluated expression: a value, or what a slot holds -/
inductive Ref where
  | d (d : D)
  | slot (i : Nat)
  | cel (n : Nat)
inductive Rs (α : Type) where
  | ok (a : α) (s : ES)
  | err (c : Str) (T : Ext)
  | stuck
abbrev Mo (α : Type) := ES → Rs α
/-- a statement's end -/
inductive SR where
  | nx (s : ES)
  | rt (d : D) (T : Ext)
  | rc (n : Nat) (T : Ext)
  | bk (s : ES)
  | ct (s : ES)
  | err (c : Str) (T : Ext)
  | stuck
/-- a def's answer -/
inductive Res where
  | ok (d : D)
  | err (c : Str)
  | stuck

/-- not a table of code objects -/
def NT (o : HO) : Prop := ∀ ps, o ≠ HO.tbl ps
theorem nt_lst {xs : List V} : NT (.lst xs) := fun _ h => by cases h
theorem nt_tup {xs : List V} : NT (.tup xs) := fun _ h => by cases h
theorem nt_xd {fs : List (Str × V)} : NT (.xd fs) := fun _ h => by cases h
/-- a thing that may be changed -/
def MutO : HO → Prop
  | .lst _ => True
  | .dK _ => True
  | .dT _ => True
  | .ins _ _ _ => True
  | _ => False
theorem MutO.nt {o : HO} (h : MutO o) : NT o := fun ps e => by rw [e] at h; exact h
/-- the tables of the defs that make functions without names -/
def lamTabs (K : PySem.W.Frag) : List (Addr × Str) := [("_law_wrong" : Str), "meeting"].filterMap fun x => (PySem.W.tabIn K x).map fun cp => (cp.2, x ++ ".<locals>." ++ "<lambda>")
def TabOk (K : PySem.W.Frag) (H : Hp) : Prop := LamX.Tabs (lamTabs K) H
theorem TabOk.ext {K : PySem.W.Frag} {H H' : Hp} (t : TabOk K H) (e : ∀ b o, H b = some o → H' b = some o) : TabOk K H' := LamX.Tabs.ext t e
theorem TabOk.updM {K : PySem.W.Frag} {H : Hp} {a : Addr} {o0 o : HO} (t : TabOk K H) (h : H a = some o0) (m : MutO o0) : TabOk K (upd H a o) := fun p hp => by
  obtain ⟨ps, h1, h2, h3⟩ := t p hp
  refine ⟨ps, by rw [upd_ne (fun z => by rw [z, h] at h1; cases h1; exact m)]; exact h1, h2, fun pos cv hc => ?_⟩
  obtain ⟨c, e1, e2⟩ := h3 pos cv hc
  exact ⟨c, e1, by rw [upd_ne (fun z => by rw [z, h] at e2; cases e2; exact m)]; exact e2⟩
theorem TabOk.upd {K : PySem.W.Frag} {H : Hp} {a : Addr} {xs : List V} {o : HO} (t : TabOk K H) (h : H a = some (.lst xs)) : TabOk K (upd H a o) := t.updM h True.intro
/-! ### data in the heap; B: what is not to be relied on -/
def TupAt (K : PySem.W.Frag) (B : Addr → Prop) (H : Hp) (a : Addr) (xs : List V) : Prop :=
  (H a = some (.tup xs) ∧ ¬ B a) ∨
    ∃ (o : Obj) (its : Array Value) (n : Nat), K.lookup a = some o ∧ o.cls = .type "tuple" ∧ o.data = .seq its n ∧ its.size ≤ sizeLine ∧ Vals xs its.toList
mutual
inductive DV (K : PySem.W.Frag) (B : Addr → Prop) (H : Hp) : V → D → Prop
  | non : DV K B H .non .none
  | bl (b : Bool) : DV K B H (.bl b) (.bool b)
  | int (i : Int) : DV K B H (.int i) (.int i)
  | str (x : Str) : DV K B H (.str x) (.str x)
  | lst {a : Addr} {xs : List V} {ds : List D} : H a = some (.lst xs) → ¬ B a → DVs K B H xs ds → DV K B H (.ref a) (.list ds)
  | tup {a : Addr} {xs : List V} {ds : List D} : TupAt K B H a xs → DVs K B H xs ds → DV K B H (.ref a) (.tuple ds)
inductive DVs (K : PySem.W.Frag) (B : Addr → Prop) (H : Hp) : List V → List D → Prop
  | nil : DVs K B H [] []
  | cons {v : V} {vs : List V} {d : D} {ds : List D} : DV K B H v d → DVs K B H vs ds → DVs K B H (v :: vs) (d :: ds)
end
section
variable {K : PySem.W.Frag} {B B' : Addr → Prop} {H H' : Hp}
theorem TupAt.mono (h : ∀ a o, H a = some o → NT o → ¬ B a → H' a = some o ∧ ¬ B' a) {a : Addr} {xs : List V} (t : TupAt K B H a xs) : TupAt K B' H' a xs := by
  rcases t with ⟨t1, t2⟩ | t
  · exact .inl (h _ _ t1 nt_tup t2)
  · exact .inr t
mutual
theorem DV.mono (h : ∀ a o, H a = some o → NT o → ¬ B a → H' a = some o ∧ ¬ B' a) : ∀ (d : D) (v : V), DV K B H v d → DV K B' H' v d
  | .none, _, x => by cases x; exact .non
  | .bool b, _, x => by cases x; exact .bl b
  | .int i, _, x => by cases x; exact .int i
  | .str s, _, x => by cases x; exact .str s
  | .list ds, _, x => by
    cases x with
    | lst h1 h2 h3 => exact .lst (h _ _ h1 nt_lst h2).1 (h _ _ h1 nt_lst h2).2 (DVs.mono h ds _ h3)
  | .tuple ds, _, x => by
    cases x with
    | tup h1 h3 => exact .tup (h1.mono h) (DVs.mono h ds _ h3)
  | .dict _, _, x => by cases x
theorem DVs.mono (h : ∀ a o, H a = some o → NT o → ¬ B a → H' a = some o ∧ ¬ B' a) : ∀ (ds : List D) (vs : List V), DVs K B H vs ds → DVs K B' H' vs ds
  | [], _, x => by cases x; exact .nil
  | d :: ds, _, x => by
    cases x with
    | cons h1 h2 => exact .cons (DV.mono h d _ h1) (DVs.mono h ds _ h2)
end
theorem DVs.len : ∀ {vs : List V} {ds : List D}, DVs K B H vs ds → vs.length = ds.length
  | _, _, .nil => rfl
  | _, _, .cons _ t => by simp [DVs.len t]
theorem DVs.get : ∀ {vs : List V} {ds : List D} {i : Nat} {d : D}, DVs K B H vs ds → ds[i]? = some d → ∃ v, vs[i]? = some v ∧ DV K B H v d
  | _, _, _, _, .nil, e => by simp at e
  | _, _, 0, _, .cons r _, e => by simp at e; subst e; exact ⟨_, rfl, r⟩
  | _, _, i + 1, d, .cons _ t, e => by
    obtain ⟨u, h1, h2⟩ := DVs.get (i := i) (d := d) t (by simpa using e)
    exact ⟨u, by simpa using h1, h2⟩
theorem DVs.getV : ∀ {vs : List V} {ds : List D} {i : Nat} {v : V}, DVs K B H vs ds → vs[i]? = some v → ∃ d, ds[i]? = some d ∧ DV K B H v d
  | _, _, _, _, .nil, e => by simp at e
  | _, _, 0, _, .cons r _, e => by simp at e; subst e; exact ⟨_, rfl, r⟩
  | _, _, i + 1, d, .cons _ t, e => by
    obtain ⟨u, h1, h2⟩ := DVs.getV (i := i) (v := d) t (by simpa using e)
    exact ⟨u, by simpa using h1, h2⟩
theorem DVs.append : ∀ {vs ws : List V} {ds es : List D}, DVs K B H vs ds → DVs K B H ws es → DVs K B H (vs ++ ws) (ds ++ es)
  | _, _, _, _, .nil, s => s
  | _, _, _, _, .cons r t, s => .cons r (DVs.append t s)
theorem DVs.take : ∀ {vs : List V} {ds : List D} (n : Nat), DVs K B H vs ds → DVs K B H (vs.take n) (ds.take n)
  | _, _, 0, _ => by simpa using DVs.nil
  | _, _, _ + 1, .nil => .nil
  | _, _, n + 1, .cons r t => .cons r (DVs.take n t)
theorem DVs.drop : ∀ {vs : List V} {ds : List D} (n : Nat), DVs K B H vs ds → DVs K B H (vs.drop n) (ds.drop n)
  | _, _, 0, r => r
  | _, _, _ + 1, .nil => .nil
  | _, _, n + 1, .cons _ t => DVs.drop n t
theorem DVs.set {v : V} {d : D} (r : DV K B H v d) : ∀ {vs : List V} {ds : List D} (i : Nat), DVs K B H vs ds → DVs K B H (vs.set i v) (ds.set i d)
  | _, _, _, .nil => .nil
  | _, _, 0, .cons _ t => .cons r t
  | _, _, i + 1, .cons q t => .cons q (DVs.set r i t)
theorem DVs.eraseIdx : ∀ {vs : List V} {ds : List D} (i : Nat), DVs K B H vs ds → DVs K B H (vs.eraseIdx i) (ds.eraseIdx i)
  | _, _, _, .nil => .nil
  | _, _, 0, .cons _ t => t
  | _, _, i + 1, .cons q t => .cons q (DVs.eraseIdx i t)
theorem DVs.dropLast {vs : List V} {ds : List D} (h : DVs K B H vs ds) : DVs K B H vs.dropLast ds.dropLast := by
  rw [List.dropLast_eq_take, List.dropLast_eq_take, h.len]
  exact h.take _
theorem DVs.rep {v : V} {d : D} (r : DV K B H v d) : ∀ n : Nat, DVs K B H (List.replicate n v) (List.replicate n d)
  | 0 => .nil
  | n + 1 => by rw [List.replicate_succ, List.replicate_succ]; exact .cons r (DVs.rep r n)
theorem DVs.repL {vs : List V} {ds : List D} (r : DVs K B H vs ds) : ∀ n : Nat, DVs K B H (List.replicate n vs).flatten (List.replicate n ds).flatten
  | 0 => by simpa using DVs.nil
  | n + 1 => by rw [List.replicate_succ, List.replicate_succ, List.flatten_cons, List.flatten_cons]; exact r.append (DVs.repL r n)
theorem TupAt.seq {a : Addr} {xs : List V} (t : TupAt K B H a xs) : SqT K H a xs := by
  rcases t with ⟨t1, _⟩ | t
  · exact .inl (.inl t1)
  · exact .inr t
mutual
theorem DV.dp : ∀ (d : D) (v : V), DV K B H v d → Dp K H v d
  | .none, _, x => by cases x; exact .non
  | .bool b, _, x => by cases x; exact .bl b
  | .int i, _, x => by cases x; exact .int i
  | .str s, _, x => by cases x; exact .str s
  | .list ds, _, x => by
    cases x with
    | lst h1 h2 h3 => exact .lst (SqL.of h1) (DVs.dp ds _ h3)
  | .tuple ds, _, x => by
    cases x with
    | tup h1 h3 => exact .tup h1.seq (DVs.dp ds _ h3)
  | .dict _, _, x => by cases x
theorem DVs.dp : ∀ (ds : List D) (vs : List V), DVs K B H vs ds → DpAll K H vs ds
  | [], _, x => by cases x; exact .nil
  | d :: ds, _, x => by
    cases x with
    | cons h1 h2 => exact .cons (DV.dp d _ h1) (DVs.dp ds _ h2)
end
theorem DVs.snoc {vs : List V} {ds : List D} {v : V} {d : D} (h : DVs K B H vs ds) (r : DV K B H v d) : DVs K B H (vs ++ [v]) (ds ++ [d]) := h.append (.cons r .nil)
end

/-- readable now: a value that stays, or a list of one's own -/
def TV (K : PySem.W.Frag) (B : Addr → Prop) (H : Hp) (v : V) (d : D) : Prop :=
  DV K B H v d ∨ ∃ a xs ds, v = .ref a ∧ d = .list ds ∧ H a = some (.lst xs) ∧ DVs K B H xs ds
theorem TV.lst {K : PySem.W.Frag} {B : Addr → Prop} {H : Hp} {v : V} {ds : List D} (t : TV K B H v (.list ds)) : ∃ a xs, v = .ref a ∧ H a = some (.lst xs) ∧ DVs K B H xs ds := by
  rcases t with t | ⟨a, xs, es, h1, h2, h3, h4⟩
  · cases t with
    | lst h1 h2 h3 => exact ⟨_, _, rfl, h1, h3⟩
  · cases h2; exact ⟨a, xs, h1, h3, h4⟩
theorem TV.tup {K : PySem.W.Frag} {B : Addr → Prop} {H : Hp} {v : V} {ds : List D} (t : TV K B H v (.tuple ds)) : ∃ a xs, v = .ref a ∧ TupAt K B H a xs ∧ DVs K B H xs ds := by
  rcases t with t | ⟨a, xs, es, h1, h2, h3, h4⟩
  · cases t with
    | tup h1 h3 => exact ⟨_, _, rfl, h1, h3⟩
  · cases h2
theorem TV.int {K : PySem.W.Frag} {B : Addr → Prop} {H : Hp} {v : V} {i : Int} (t : TV K B H v (.int i)) : v = .int i := by
  rcases t with t | ⟨a, xs, es, h1, h2, h3, h4⟩
  · cases t; rfl
  · cases h2
theorem TV.str {K : PySem.W.Frag} {B : Addr → Prop} {H : Hp} {v : V} {i : Str} (t : TV K B H v (.str i)) : v = .str i := by
  rcases t with t | ⟨a, xs, es, h1, h2, h3, h4⟩
  · cases t; rfl
  · cases h2
theorem TV.bool {K : PySem.W.Frag} {B : Addr → Prop} {H : Hp} {v : V} {i : Bool} (t : TV K B H v (.bool i)) : v = .bl i := by
  rcases t with t | ⟨a, xs, es, h1, h2, h3, h4⟩
  · cases t; rfl
  · cases h2
theorem TV.none {K : PySem.W.Frag} {B : Addr → Prop} {H : Hp} {v : V} (t : TV K B H v .none) : v = .non := by
  rcases t with t | ⟨a, xs, es, h1, h2, h3, h4⟩
  · cases t; rfl
  · cases h2
theorem TV.dp {K : PySem.W.Frag} {B : Addr → Prop} {H : Hp} {v : V} {d : D} (t : TV K B H v d) : Dp K H v d := by
  rcases t with t | ⟨a, xs, es, rfl, rfl, h3, h4⟩
  · exact DV.dp _ _ t
  · exact .lst (SqL.of h3) (DVs.dp _ _ h4)

/-! ### the state -/
abbrev Sl := L2.St
/-- whose addresses they are; the number of the cells -/
structure Own where
  f : Nat → Option Addr
  L : Nat
instance : CoeFun Own (fun _ => Nat → Option Addr) := ⟨Own.f⟩
/-- where the cells' addresses stand -/
abbrev cB : Nat := 1000000
abbrev cix (n : Nat) : Nat := cB + n
def blk (Z : Addr → Prop) (W : Own) : Addr → Prop := fun a => Z a ∨ ∃ i, W i = some a
def SlotOk (K : PySem.W.Frag) (c : Option (Addr × Addr)) (Z : Addr → Prop) (W : Own) (H : Hp) (σ : Sl) (i : Nat) : SV → Prop
  | .val d => ∃ v, σ[i]? = some (some v) ∧ DV K (blk Z W) H v d
  | .own ds => ∃ a xs, W i = some a ∧ σ[i]? = some (some (V.ref a)) ∧ H a = some (.lst xs) ∧ DVs K (blk Z W) H xs ds
  | .cur => ∃ a l, c = some (a, l) ∧ σ[i]? = some (some (V.ref a))
  | .cel n => n < W.L ∧ ∃ v, σ[i]? = some (some v) ∧ ∀ a, W (cix n) = some a → v = V.ref a
/-- an item of a cell -/
def AVok (K : PySem.W.Frag) (B : Addr → Prop) (W : Own) (H : Hp) (v : V) : AV → Prop
  | .d d => DV K B H v d
  | .c m => m < W.L ∧ ∀ a, W (cix m) = some a → v = V.ref a
abbrev AVs (K : PySem.W.Frag) (B : Addr → Prop) (W : Own) (H : Hp) : List V → List AV → Prop := Paired (fun v x => AVok K B W H v x)
abbrev KAs {κ : Type} (K : PySem.W.Frag) (B : Addr → Prop) (W : Own) (H : Hp) : List (κ × V) → List (κ × AV) → Prop := Paired (fun p q => p.1 = q.1 ∧ AVok K B W H p.2 q.2)
def CellOk (K : PySem.W.Frag) (B : Addr → Prop) (W : Own) (H : Hp) (n : Nat) : Cell → Prop
  | .lst xs => ∃ a vs, W (cix n) = some a ∧ H a = some (.lst vs) ∧ AVs K B W H vs xs
  | .dct kvs => ∃ a vs, W (cix n) = some a ∧ H a = some (.dK vs) ∧ KAs K B W H vs kvs
  | .dcT kvs => ∃ a vs, W (cix n) = some a ∧ H a = some (.dT vs) ∧ KAs K B W H vs kvs
  | .ins x fs => ∃ a C dx vs, W (cix n) = some a ∧ PySem.W.nsIn K mainGlobals x = some (some (.ref C)) ∧ H a = some (.ins C dx vs) ∧ KAs K B W H vs fs
  | .gone => True
def CelOk (K : PySem.W.Frag) (Z : Addr → Prop) (W : Own) (H : Hp) (ce : List Cell) : Prop := ∀ n x, ce[n]? = some x → CellOk K (blk Z W) W H n x
def isC (c : Option (Addr × Addr)) (b : Addr) : Prop := ∃ l, c = some (b, l)
def CurOk (c : Option (Addr × Addr)) (H : Hp) : Option Cur → Prop
  | none => c = none
  | some cu => ∃ a l, c = some (a, l) ∧ a ≠ l ∧ H a = some (.lst [V.ref l, V.int cu.pos, V.int cu.cur, V.int cu.seed]) ∧ H l = some (.lst (cu.items.map V.int))
structure Rel (K : PySem.W.Frag) (c : Option (Addr × Addr)) (Z : Addr → Prop) (W : Own) (s : ES) (σ : Sl) (H : Hp) : Prop where
  len : s.σ.length = σ.length
  slot : ∀ i sv, s.σ[i]? = some (some sv) → SlotOk K c Z W H σ i sv
  inj : ∀ i j a, W i = some a → W j = some a → i = j
  wo : ∀ i a, W i = some a → ¬ Z a ∧ ∃ o, H a = some o ∧ MutO o
  zt : ∀ a, Z a → ∃ o, H a = some o
  cz : ∀ a l, c = some (a, l) → Z a ∧ Z l
  T : CurOk c H s.T.cu
  tb : TabOk K H
  len1 : s.σ.length ≤ cB
  cL : s.T.ce.length = W.L
  cel : CelOk K Z W H s.T.ce
structure Stp (c : Option (Addr × Addr)) (W : Own) (H : Hp) (W' : Own) (H' : Hp) : Prop where
  keep : ∀ b o, H b = some o → NT o → (∀ i, W i ≠ some b) → ¬ isC c b → H' b = some o
  dom : ∀ b o, H b = some o → ∃ o', H' b = some o'
  new : ∀ i a, W' i = some a → (∃ j, W j = some a) ∨ H a = none
  lc : W.L ≤ W'.L
  cw : ∀ m a, m < W.L → W' (cix m) = some a → W (cix m) = some a

section
variable {K : PySem.W.Frag} {c : Option (Addr × Addr)} {Z Z' : Addr → Prop} {W W' W2 : Own} {s s' : ES} {σ σ' : Sl} {H H' H2 : Hp}
theorem Stp.refl : Stp c W H W H := ⟨fun _ _ h _ _ _ => h, fun _ o h => ⟨o, h⟩, fun i a h => .inl ⟨i, h⟩, Nat.le_refl _, fun _ _ _ e => e⟩
theorem Stp.trans (x : Stp c W H W' H') (y : Stp c W' H' W2 H2) : Stp c W H W2 H2 := by
  refine ⟨fun b o h1 nt h2 h3 => y.keep b o (x.keep b o h1 nt h2 h3) nt (fun i e => ?_) h3, fun b o h => ?_, fun i a e => ?_, Nat.le_trans x.lc y.lc, fun m a hm e => x.cw m a hm (y.cw m a (Nat.lt_of_lt_of_le hm x.lc) e)⟩
  · rcases x.new i b e with ⟨j, e'⟩ | e'
    · exact h2 j e'
    · rw [h1] at e'; cases e'
  · obtain ⟨o', h'⟩ := x.dom b o h
    exact y.dom b o' h'
  · rcases y.new i a e with ⟨j, e'⟩ | e'
    · exact x.new j a e'
    · cases hh : H a with
      | none => exact .inr rfl
      | some o =>
        obtain ⟨o', h'⟩ := x.dom a o hh
        rw [e'] at h'; cases h'
/-- the heap grows alone -/
def Grow (H H' : Hp) : Prop := ∀ b o, H b = some o → H' b = some o
theorem Grow.refl : Grow H H := fun _ _ h => h
theorem Grow.trans (x : Grow H H') (y : Grow H' H2) : Grow H H2 := fun b o h => y b o (x b o h)
theorem Grow.upd {a : Addr} {o : HO} (h : H a = none) : Grow H (upd H a o) := fun b u e => by
  rw [upd_ne (ne_of_none e h)]; exact e
theorem Grow.stp (g : Grow H H') : Stp c W H W H' := ⟨fun b o h _ _ _ => g b o h, fun b o h => ⟨o, g b o h⟩, fun i a h => .inl ⟨i, h⟩, Nat.le_refl _, fun _ _ _ e => e⟩
theorem Rel.blkT (r : Rel K c Z W s σ H) {a : Addr} (h : blk Z W a) : ∃ o, H a = some o := by
  rcases h with h | ⟨i, h⟩
  · exact r.zt a h
  · obtain ⟨_, o, e, _⟩ := r.wo i a h
    exact ⟨_, e⟩
section
variable {B B' : Addr → Prop} {ce : List Cell}
theorem AVok.mono (k : ∀ a o, H a = some o → NT o → ¬ B a → H' a = some o ∧ ¬ B' a) (hw : ∀ m a, m < W.L → W' (cix m) = some a → W (cix m) = some a) (hL : W.L ≤ W'.L) {v : V} : ∀ {x : AV}, AVok K B W H v x → AVok K B' W' H' v x
  | .d d, h => DV.mono k d v h
  | .c m, h => ⟨Nat.lt_of_lt_of_le h.1 hL, fun a e => h.2 a (hw m a h.1 e)⟩
theorem AVs.mono (k : ∀ a o, H a = some o → NT o → ¬ B a → H' a = some o ∧ ¬ B' a) (hw : ∀ m a, m < W.L → W' (cix m) = some a → W (cix m) = some a) (hL : W.L ≤ W'.L) : ∀ {vs : List V} {xs : List AV}, AVs K B W H vs xs → AVs K B' W' H' vs xs
  | _, _, .nil => .nil
  | _, _, .cons h t => .cons (h.mono k hw hL) (AVs.mono k hw hL t)
theorem KAs.mono {κ : Type} (k : ∀ a o, H a = some o → NT o → ¬ B a → H' a = some o ∧ ¬ B' a) (hw : ∀ m a, m < W.L → W' (cix m) = some a → W (cix m) = some a) (hL : W.L ≤ W'.L) : ∀ {vs : List (κ × V)} {xs : List (κ × AV)}, KAs K B W H vs xs → KAs K B' W' H' vs xs
  | _, _, .nil => .nil
  | _, _, .cons h t => .cons ⟨h.1, h.2.mono k hw hL⟩ (KAs.mono k hw hL t)
theorem CellOk.mono (k : ∀ a o, H a = some o → NT o → ¬ B a → H' a = some o ∧ ¬ B' a) (hw : ∀ m a, m < W.L → W' (cix m) = some a → W (cix m) = some a) (hL : W.L ≤ W'.L) {n : Nat} (hs : ∀ a o, W (cix n) = some a → H a = some o → W' (cix n) = some a ∧ H' a = some o) : ∀ {x : Cell}, CellOk K B W H n x → CellOk K B' W' H' n x
  | .lst xs, ⟨a, vs, h1, h2, h3⟩ => ⟨a, vs, (hs _ _ h1 h2).1, (hs _ _ h1 h2).2, h3.mono k hw hL⟩
  | .dct xs, ⟨a, vs, h1, h2, h3⟩ => ⟨a, vs, (hs _ _ h1 h2).1, (hs _ _ h1 h2).2, h3.mono k hw hL⟩
  | .dcT xs, ⟨a, vs, h1, h2, h3⟩ => ⟨a, vs, (hs _ _ h1 h2).1, (hs _ _ h1 h2).2, h3.mono k hw hL⟩
  | .ins x xs, ⟨a, C, dx, vs, h1, hC, h2, h3⟩ => ⟨a, C, dx, vs, (hs _ _ h1 h2).1, hC, (hs _ _ h1 h2).2, h3.mono k hw hL⟩
  | .gone, _ => True.intro
/-- the cells stand as they were -/
theorem CelOk.same (k : ∀ a o, H a = some o → NT o → ¬ blk Z W a → H' a = some o ∧ ¬ blk Z' W' a) (hw : ∀ m, W' (cix m) = W (cix m)) (hL : W'.L = W.L) (hs : ∀ m a o, W (cix m) = some a → H a = some o → H' a = some o) (h : CelOk K Z W H ce) : CelOk K Z' W' H' ce :=
  fun n x e => (h n x e).mono k (fun m a _ q => by rw [← hw]; exact q) (Nat.le_of_eq hL.symm) fun a o q1 q2 => ⟨by rw [hw]; exact q1, hs n a o q1 q2⟩
end
theorem CelOk.sameM {ce : List Cell} (r : Rel K c Z W s σ H) (k : ∀ a o, H a = some o → NT o → ¬ blk Z W a → H' a = some o ∧ ¬ blk Z' W' a) (hw : ∀ m, W' (cix m) = W (cix m)) (hL : W'.L = W.L) (hs : ∀ m a o, W (cix m) = some a → H a = some o → MutO o → H' a = some o) (h : CelOk K Z W H ce) : CelOk K Z' W' H' ce :=
  h.same k hw hL fun m a o e q => hs m a o e q (by obtain ⟨_, o', q', mo⟩ := r.wo _ a e; rw [q] at q'; cases q'; exact mo)
theorem cix_ne {i n : Nat} (h : i < cB) : cix n ≠ i := by unfold cix; omega
theorem Rel.curB (r : Rel K c Z W s σ H) {a : Addr} (h : isC c a) : blk Z W a := h.elim fun l e => .inl (r.cz a l e).1
/-- what stays over a step -/
theorem Rel.over (r : Rel K c Z W s σ H) (x : Stp c W H W' H') : ∀ a o, H a = some o → NT o → ¬ blk Z W a → H' a = some o ∧ ¬ blk Z W' a := fun a o h nt nb => by
  refine ⟨x.keep a o h nt (fun i e => nb (.inr ⟨i, e⟩)) (fun e => nb (r.curB e)), ?_⟩
  rintro (z | ⟨i, e⟩)
  · exact nb (.inl z)
  · rcases x.new i a e with ⟨j, e'⟩ | e'
    · exact nb (.inr ⟨j, e'⟩)
    · rw [h] at e'; cases e'
theorem DV.step (r : Rel K c Z W s σ H) (x : Stp c W H W' H') {v : V} {d : D} (h : DV K (blk Z W) H v d) : DV K (blk Z W') H' v d := DV.mono (r.over x) d v h
theorem DVs.step (r : Rel K c Z W s σ H) (x : Stp c W H W' H') {v : List V} {d : List D} (h : DVs K (blk Z W) H v d) : DVs K (blk Z W') H' v d := DVs.mono (r.over x) d v h
/-- growth alone -/
theorem DV.grow {B : Addr → Prop} (g : Grow H H') {v : V} {d : D} (h : DV K B H v d) : DV K B H' v d := DV.mono (fun a o e _ n => ⟨g a o e, n⟩) d v h
theorem DVs.grow {B : Addr → Prop} (g : Grow H H') {v : List V} {d : List D} (h : DVs K B H v d) : DVs K B H' v d := DVs.mono (fun a o e _ n => ⟨g a o e, n⟩) d v h
theorem CurOk.grow {T : Option Cur} (g : Grow H H') (h : CurOk c H T) : CurOk c H' T := by
  cases T with
  | none => exact h
  | some cu => obtain ⟨a, l, h1, h3, h4, h5⟩ := h; exact ⟨a, l, h1, h3, g _ _ h4, g _ _ h5⟩
theorem SlotOk.grow (g : Grow H H') {i : Nat} : ∀ {sv : SV}, SlotOk K c Z W H σ i sv → SlotOk K c Z W H' σ i sv
  | .val _, ⟨v, h1, h2⟩ => ⟨v, h1, h2.grow g⟩
  | .own _, ⟨a, xs, h1, h2, h3, h4⟩ => ⟨a, xs, h1, h2, g _ _ h3, h4.grow g⟩
  | .cur, h => h
  | .cel _, h => h
theorem Grow.k {Z : Addr → Prop} (g : Grow H H') : ∀ a o, H a = some o → NT o → ¬ blk Z W a → H' a = some o ∧ ¬ blk Z W a := fun a o e _ n => ⟨g a o e, n⟩
theorem Rel.grow (r : Rel K c Z W s σ H) (g : Grow H H') : Rel K c Z W s σ H' :=
  ⟨r.len, fun i sv h => (r.slot i sv h).grow g, r.inj, fun i a h => ⟨(r.wo i a h).1, (r.wo i a h).2.elim fun o e => ⟨o, g _ _ e.1, e.2⟩⟩, fun a h => (r.zt a h).elim fun o e => ⟨o, g _ _ e⟩, r.cz, r.T.grow g, r.tb.ext g,
    r.len1, r.cL, r.cel.same g.k (fun _ => rfl) rfl fun _ a o _ e => g a o e⟩

/-- what an evaluated expression is in the layer -/
def RV (K : PySem.W.Frag) (Z : Addr → Prop) (W : Own) (H : Hp) (σ : Sl) (v : V) : Ref → Prop
  | .d d => DV K (blk Z W) H v d
  | .slot i => σ[i]? = some (some v)
  | .cel n => n < W.L ∧ ∀ a, W (cix n) = some a → v = V.ref a
theorem RV.step (r : Rel K c Z W s σ H) (x : Stp c W H W' H') {v : V} : ∀ {q : Ref}, RV K Z W H σ v q → RV K Z W' H' σ v q
  | .d _, h => DV.step r x h
  | .slot _, h => h
  | .cel n, h => ⟨Nat.lt_of_lt_of_le h.1 x.lc, fun a e => h.2 a (x.cw n a h.1 e)⟩
inductive RVs (K : PySem.W.Frag) (Z : Addr → Prop) (W : Own) (H : Hp) (σ : Sl) : List V → List Ref → Prop
  | nil : RVs K Z W H σ [] []
  | cons {v : V} {vs : List V} {q : Ref} {qs : List Ref} : RV K Z W H σ v q → RVs K Z W H σ vs qs → RVs K Z W H σ (v :: vs) (q :: qs)
theorem RVs.step (r : Rel K c Z W s σ H) (x : Stp c W H W' H') : ∀ {vs : List V} {qs : List Ref}, RVs K Z W H σ vs qs → RVs K Z W' H' σ vs qs
  | _, _, .nil => .nil
  | _, _, .cons h t => .cons (h.step r x) (RVs.step r x t)

/-! ### reading a value; making it stay -/
def avD : List AV → Option (List D)
  | [] => some []
  | .d d :: r => match avD r with
    | some ds => some (d :: ds)
    | none => none
  | .c _ :: _ => none
def fzL (f : Nat → List Cell → Option (D × List Cell)) : List AV → List Cell → Option (List D × List Cell)
  | [], ce => some ([], ce)
  | .d d :: r, ce => match fzL f r ce with
    | some (ds, ce') => some (d :: ds, ce')
    | none => none
  | .c m :: r, ce => match f m ce with
    | some (d, ce1) => match fzL f r ce1 with
      | some (ds, ce') => some (d :: ds, ce')
      | none => none
    | none => none
/-- a cell is changed no more: what it is -/
def fz : Nat → Nat → List Cell → Option (D × List Cell)
  | 0 => fun _ _ => none
  | k + 1 => fun n ce => match ce[n]? with
    | some (.lst xs) => match fzL (fz k) xs (ce.set n .gone) with
      | some (ds, ce') => some (.list ds, ce')
      | none => none
    | _ => none
def withC (s : ES) (ce : List Cell) : ES := { s with T := { s.T with ce := ce } }
def rd (q : Ref) : Mo D := fun s => match q with
  | .d d => .ok d s
  | .slot i => match s.σ[i]? with
    | some (some (.val d)) => .ok d s
    | some (some (.own ds)) => .ok (.list ds) s
    | _ => .stuck
  | .cel n => match s.T.ce[n]? with
    | some (.lst xs) => match avD xs with
      | some ds => .ok (.list ds) s
      | none => .stuck
    | _ => .stuck
def dur (q : Ref) : Mo D := fun s => match q with
  | .d d => .ok d s
  | .slot i => match s.σ[i]? with
    | some (some (.val d)) => .ok d s
    | some (some (.own ds)) => .ok (.list ds) { s with σ := s.σ.set i (some (.val (.list ds))) }
    | _ => .stuck
  | .cel n => match fz 8 n s.T.ce with
    | some (d, ce) => .ok d (withC s ce)
    | none => .stuck
theorem avD_ok {B : Addr → Prop} : ∀ {xs : List AV} {ds : List D} {vs : List V}, avD xs = some ds → AVs K B W H vs xs → DVs K B H vs ds
  | [], _, _, e, h => by cases e; cases h; exact .nil
  | .d d :: r, ds, _, e, h => by
    cases h with
    | cons h1 h2 =>
      unfold avD at e
      split at e
      · rename_i es e1
        cases e
        exact .cons h1 (avD_ok e1 h2)
      · cases e
  | .c _ :: _, _, _, e, _ => by cases e
theorem RV.rd (r : Rel K c Z W s σ H) {v : V} {q : Ref} (h : RV K Z W H σ v q) {d : D} {s1 : ES} (e : rd q s = .ok d s1) : s1 = s ∧ TV K (blk Z W) H v d := by
  cases q with
  | d d' =>
    have e' : Rs.ok d' s = Rs.ok d s1 := e
    cases e'
    exact ⟨rfl, .inl h⟩
  | slot i =>
    have h : σ[i]? = some (some v) := h
    unfold Ev.rd at e
    dsimp only at e
    split at e
    · rename_i d' hs
      cases e
      obtain ⟨v', h1, h2⟩ := r.slot i _ hs
      rw [h] at h1; cases h1
      exact ⟨rfl, .inl h2⟩
    · rename_i ds hs
      cases e
      obtain ⟨a, xs, h1, h2, h3, h4⟩ := r.slot i _ hs
      rw [h] at h2; cases h2
      exact ⟨rfl, .inr ⟨a, xs, ds, rfl, rfl, h3, h4⟩⟩
    · cases e
  | cel n =>
    unfold Ev.rd at e
    dsimp only at e
    split at e
    · rename_i xs hs
      split at e
      · rename_i ds hd
        cases e
        obtain ⟨a, vs, h1, h2, h3⟩ := r.cel n _ hs
        have hv := h.2 a h1
        subst hv
        exact ⟨rfl, .inr ⟨a, vs, ds, rfl, rfl, h2, avD_ok hd h3⟩⟩
      · cases e
    · cases e
/-- slot i's list is no more its own -/
def unown (W : Own) (i : Nat) : Own := ⟨fun j => if j = i ∧ j < cB then none else W j, W.L⟩
/-- cell n is no more owned -/
def ungo (W : Own) (n : Nat) : Own := ⟨fun j => if j = cix n then none else W j, W.L⟩
theorem unown_some {i j : Nat} {a : Addr} (h : unown W i j = some a) : ¬ (j = i ∧ j < cB) ∧ W j = some a := by
  dsimp only [Ev.unown] at h
  split at h
  · cases h
  · exact ⟨by assumption, h⟩
theorem unown_ne {i j : Nat} (h : j ≠ i) : unown W i j = W j := by
  dsimp only [Ev.unown]; rw [if_neg fun z => h z.1]
theorem unown_cix {i m : Nat} : unown W i (cix m) = W (cix m) := by
  dsimp only [Ev.unown]; rw [if_neg fun z => by have := z.2; unfold cix at this; omega]
theorem ungo_some {n j : Nat} {a : Addr} (h : ungo W n j = some a) : j ≠ cix n ∧ W j = some a := by
  dsimp only [Ev.ungo] at h
  split at h
  · cases h
  · exact ⟨by assumption, h⟩
theorem ungo_ne {n j : Nat} (h : j ≠ cix n) : ungo W n j = W j := by
  dsimp only [Ev.ungo]; rw [if_neg h]
theorem blk_unown {i : Nat} {a : Addr} (h : blk Z (unown W i) a) : blk Z W a := by
  rcases h with h | ⟨j, h⟩
  · exact .inl h
  · exact .inr ⟨j, (unown_some h).2⟩
theorem blk_ungo {i : Nat} {a : Addr} (h : blk Z (ungo W i) a) : blk Z W a := by
  rcases h with h | ⟨j, h⟩
  · exact .inl h
  · exact .inr ⟨j, (ungo_some h).2⟩
theorem Stp.unown (i : Nat) : Stp c W H (unown W i) H := ⟨fun _ _ h _ _ _ => h, fun _ o h => ⟨o, h⟩, fun j a h => .inl ⟨j, (unown_some h).2⟩, Nat.le_refl _, fun m a _ e => (unown_some e).2⟩
theorem Stp.ungo (i : Nat) : Stp c W H (ungo W i) H := ⟨fun _ _ h _ _ _ => h, fun _ o h => ⟨o, h⟩, fun j a h => .inl ⟨j, (ungo_some h).2⟩, Nat.le_refl _, fun m a _ e => (ungo_some e).2⟩
theorem SlotOk.stay {i j : Nat} (hj : j ≠ i) (g : ∀ a o, H a = some o → ¬ blk Z W a → ¬ blk Z (Ev.unown W i) a) : ∀ {sv : SV}, SlotOk K c Z W H σ j sv → SlotOk K c Z (Ev.unown W i) H σ j sv
  | .val _, ⟨v, h1, h2⟩ => ⟨v, h1, DV.mono (fun a o e _ n => ⟨e, g a o e n⟩) _ _ h2⟩
  | .own _, ⟨a, xs, h1, h2, h3, h4⟩ => ⟨a, xs, by rw [unown_ne hj]; exact h1, h2, h3, DVs.mono (fun a o e _ n => ⟨e, g a o e n⟩) _ _ h4⟩
  | .cur, h => h
  | .cel n, ⟨h0, v, h1, h2⟩ => ⟨h0, v, h1, fun a e => h2 a (unown_some e).2⟩
/-- slot i's list is changed no more -/
theorem Rel.freeze (r : Rel K c Z W s σ H) {i : Nat} {ds : List D} (h : s.σ[i]? = some (some (.own ds))) :
    Rel K c Z (Ev.unown W i) { s with σ := s.σ.set i (some (.val (.list ds))) } σ H ∧ ∃ v, σ[i]? = some (some v) ∧ DV K (blk Z (Ev.unown W i)) H v (.list ds) := by
  obtain ⟨a, xs, h1, h2, h3, h4⟩ := r.slot i _ h
  have hi : i < s.σ.length := (List.getElem?_eq_some_iff.mp h).1
  have g : ∀ a o, H a = some o → ¬ blk Z W a → ¬ blk Z (Ev.unown W i) a := fun a o _ n q => n (blk_unown q)
  have hB : i < cB := Nat.lt_of_lt_of_le hi r.len1
  have na : ¬ blk Z (Ev.unown W i) a := by
    rintro (z | ⟨j, e⟩)
    · exact (r.wo i a h1).1 z
    · obtain ⟨q1, q2⟩ := unown_some e
      have := r.inj _ _ _ q2 h1
      exact q1 ⟨this, by omega⟩
  have hd : DV K (blk Z (Ev.unown W i)) H (V.ref a) (.list ds) := .lst h3 na (DVs.mono (fun a o e _ n => ⟨e, g a o e n⟩) _ _ h4)
  refine ⟨⟨by simpa using r.len, fun j sv e => ?_, fun j k b e1 e2 => r.inj _ _ _ (unown_some e1).2 (unown_some e2).2, fun j b e => r.wo j b (unown_some e).2, r.zt, r.cz, r.T, r.tb, by simpa using r.len1, r.cL, r.cel.same (fun a o e _ n => ⟨e, g a o e n⟩) (fun m => unown_cix) rfl fun _ _ _ _ e => e⟩, _, h2, hd⟩
  · by_cases hj : j = i
    · subst hj
      rw [List.getElem?_set_self hi] at e
      cases e
      exact ⟨_, h2, hd⟩
    · rw [List.getElem?_set_ne (Ne.symm hj)] at e
      exact (r.slot j sv e).stay hj g
/-- cell n is changed no more -/
theorem SlotOk.stayC {i n : Nat} (hj : i < cB) (g : ∀ a o, H a = some o → ¬ blk Z W a → ¬ blk Z (Ev.ungo W n) a) : ∀ {sv : SV}, SlotOk K c Z W H σ i sv → SlotOk K c Z (Ev.ungo W n) H σ i sv
  | .val _, ⟨v, h1, h2⟩ => ⟨v, h1, DV.mono (fun a o e _ n => ⟨e, g a o e n⟩) _ _ h2⟩
  | .own _, ⟨a, xs, h1, h2, h3, h4⟩ => ⟨a, xs, by rw [ungo_ne (fun z => by unfold cix at z; omega)]; exact h1, h2, h3, DVs.mono (fun a o e _ n => ⟨e, g a o e n⟩) _ _ h4⟩
  | .cur, h => h
  | .cel n, ⟨h0, v, h1, h2⟩ => ⟨h0, v, h1, fun a e => h2 a (ungo_some e).2⟩
theorem Rel.gone (r : Rel K c Z W s σ H) {n : Nat} : Rel K c Z (Ev.ungo W n) (withC s (s.T.ce.set n .gone)) σ H := by
  have g : ∀ a o, H a = some o → NT o → ¬ blk Z W a → H a = some o ∧ ¬ blk Z (Ev.ungo W n) a := fun a o e _ n => ⟨e, fun q => n (blk_ungo q)⟩
  refine ⟨r.len, fun j sv e => ?_, fun j k b e1 e2 => r.inj _ _ _ (ungo_some e1).2 (ungo_some e2).2, fun j b e => r.wo j b (ungo_some e).2, r.zt, r.cz, r.T, r.tb, r.len1, ?_, fun m x e => ?_⟩
  · have e : s.σ[j]? = some (some sv) := e
    have hj : j < s.σ.length := (List.getElem?_eq_some_iff.mp e).1
    exact (r.slot j sv e).stayC (Nat.lt_of_lt_of_le hj r.len1) fun a o e n q => n (blk_ungo q)
  · show (s.T.ce.set n .gone).length = _
    rw [List.length_set]; exact r.cL
  · have e : (s.T.ce.set n .gone)[m]? = some x := e
    by_cases hm : n = m
    · subst hm
      rw [List.getElem?_set_self (by simpa using (List.getElem?_eq_some_iff.mp e).1)] at e
      cases e
      exact True.intro
    · rw [List.getElem?_set_ne hm] at e
      exact (r.cel m x e).mono g (fun m a _ q => (ungo_some q).2) (Nat.le_refl _) fun a o q1 q2 => ⟨by rw [ungo_ne (by unfold cix; omega)]; exact q1, q2⟩
theorem AVs.step (r : Rel K c Z W s σ H) (x : Stp c W H W' H') {vs : List V} {xs : List AV} (h : AVs K (blk Z W) W H vs xs) : AVs K (blk Z W') W' H' vs xs := h.mono (r.over x) x.cw x.lc
theorem fzL_ok {f : Nat → List Cell → Option (D × List Cell)} (hf : ∀ (n : Nat) (W : Own) (s : ES) (d : D) (ce : List Cell), Rel K c Z W s σ H → f n s.T.ce = some (d, ce) → ∃ W1, Stp c W H W1 H ∧ Rel K c Z W1 (withC s ce) σ H ∧ ∃ a, W (cix n) = some a ∧ DV K (blk Z W1) H (V.ref a) d) :
    ∀ (xs : List AV) (W : Own) (s : ES) (vs : List V) (ds : List D) (ce : List Cell), Rel K c Z W s σ H → AVs K (blk Z W) W H vs xs → fzL f xs s.T.ce = some (ds, ce) → ∃ W1, Stp c W H W1 H ∧ Rel K c Z W1 (withC s ce) σ H ∧ DVs K (blk Z W1) H vs ds
  | [], W, s, _, ds, ce, r, .nil, e => by
    unfold fzL at e
    cases e
    exact ⟨W, .refl, r, .nil⟩
  | .d d :: xs, W, s, _, ds, ce, r, .cons h t, e => by
    unfold fzL at e
    split at e
    · rename_i es ce' e1
      cases e
      obtain ⟨W1, x1, r1, dvs⟩ := fzL_ok hf xs W s _ es ce r t e1
      exact ⟨W1, x1, r1, .cons (DV.step r x1 h) dvs⟩
    · cases e
  | .c m :: xs, W, s, _, ds, ce, r, .cons h t, e => by
    unfold fzL at e
    split at e
    · rename_i d1 ce1 e1
      split at e
      · rename_i es ce' e2
        cases e
        obtain ⟨W1, x1, r1, a, ha, dv⟩ := hf m W s d1 ce1 r e1
        obtain ⟨W2, x2, r2, dvs⟩ := fzL_ok hf xs W1 (withC s ce1) _ es ce r1 (AVs.step r x1 t) e2
        have hv := h.2 a ha
        subst hv
        exact ⟨W2, x1.trans x2, r2, .cons (DV.step r1 x2 dv) dvs⟩
      · cases e
    · cases e
theorem fz_ok : ∀ (k n : Nat) (W : Own) (s : ES) (d : D) (ce : List Cell), Rel K c Z W s σ H → fz k n s.T.ce = some (d, ce) → ∃ W1, Stp c W H W1 H ∧ Rel K c Z W1 (withC s ce) σ H ∧ ∃ a, W (cix n) = some a ∧ DV K (blk Z W1) H (V.ref a) d
  | 0, _, _, _, _, _, _, e => by
    have e : (none : Option (D × List Cell)) = _ := e
    cases e
  | k + 1, n, W, s, d, ce, r, e => by
    unfold fz at e
    split at e
    · rename_i xs hs
      split at e
      · rename_i ds ce' e1
        cases e
        obtain ⟨a, vs, h1, h2, h3⟩ := r.cel n _ hs
        have x1 : Stp c W H (Ev.ungo W n) H := .ungo _
        obtain ⟨W2, x2, r2, dvs⟩ := fzL_ok (fz_ok k) xs _ (withC s (s.T.ce.set n .gone)) vs ds ce r.gone (AVs.step r x1 h3) e1
        refine ⟨W2, x1.trans x2, r2, a, h1, .lst h2 ?_ dvs⟩
        have na : ¬ blk Z (Ev.ungo W n) a := by
          rintro (z | ⟨j, e⟩)
          · exact (r.wo _ a h1).1 z
          · obtain ⟨q1, q2⟩ := ungo_some e
            exact q1 (r.inj _ _ _ q2 h1)
        exact (r.gone.over x2 a _ h2 nt_lst na).2
      · cases e
    · cases e
theorem RV.dur (r : Rel K c Z W s σ H) {v : V} {q : Ref} (h : RV K Z W H σ v q) {d : D} {s1 : ES} (e : dur q s = .ok d s1) :
    ∃ W1, Stp c W H W1 H ∧ Rel K c Z W1 s1 σ H ∧ DV K (blk Z W1) H v d := by
  cases q with
  | d d' =>
    have e' : Rs.ok d' s = Rs.ok d s1 := e
    cases e'
    exact ⟨W, .refl, r, h⟩
  | slot i =>
    have h : σ[i]? = some (some v) := h
    unfold Ev.dur at e
    dsimp only at e
    split at e
    · rename_i d' hs
      cases e
      obtain ⟨v', h1, h2⟩ := r.slot i _ hs
      rw [h] at h1; cases h1
      exact ⟨W, .refl, r, h2⟩
    · rename_i ds hs
      cases e
      obtain ⟨r1, v1, h1, h2⟩ := r.freeze hs
      rw [h] at h1; cases h1
      exact ⟨_, .unown i, r1, h2⟩
    · cases e
  | cel n =>
    unfold Ev.dur at e
    dsimp only at e
    split at e
    · rename_i d' ce' hz
      cases e
      obtain ⟨W1, x1, r1, a, ha, dv⟩ := fz_ok 8 n W s d ce' r hz
      have hv := h.2 a ha
      subst hv
      exact ⟨W1, x1, r1, dv⟩
    · cases e
end
end Ev
set_option Elab.async false
set_option linter.all false
set_option maxRecDepth 100000
set_option maxHeartbeats 2000000
/-! Ev2: the judgements; expressions -/
namespace Ev
open PySem PySem.Spec PyProof.Rows L2

abbrev XPt := Str → Addr → Hp → Prop
abbrev codeF (code : Str) : HO := .xd [(("code" : Str), V.str code)]
def ErrOk (K : PySem.W.Frag) (XP : XPt) (c : Option (Addr × Addr)) (W : Own) (H : Hp) (code : Str) (T : Ext) : Prop :=
  ∀ d W' H', Stp c W H W' H' → CurOk c H' T.cu → TabOk K H' → H' d = some (codeF code) → XP code d H'
def Run {α : Type} (K : PySem.W.Frag) (XP : XPt) (c : Option (Addr × Addr)) (Z : Addr → Prop) (W : Own) (σ : Sl) (H : Hp) (res : Rs α) (Q : α → ES → Own → Hp → Prop) : Prop :=
  match res with
  | .ok a s' => ∀ W' H', Stp c W H W' H' → Rel K c Z W' s' σ H' → Q a s' W' H'
  | .err code T => ErrOk K XP c W H code T
  | .stuck => False
def bnd {α β : Type} (m : Mo α) (k : α → Mo β) : Mo β := fun s => match m s with
  | .ok a s' => k a s'
  | .err c T => .err c T
  | .stuck => .stuck
section
variable {α β : Type} {K : PySem.W.Frag} {XP : XPt} {c : Option (Addr × Addr)} {Z : Addr → Prop} {W W1 : Own} {σ : Sl} {H H1 : Hp} {s : ES}
theorem ErrOk.step {code : Str} {T : Ext} (x : Stp c W H W1 H1) (h : ErrOk K XP c W H code T) : ErrOk K XP c W1 H1 code T := fun d W' H' y => h d W' H' (x.trans y)
theorem Run.step {res : Rs α} {Q : α → ES → Own → Hp → Prop} (x : Stp c W H W1 H1) (h : Run K XP c Z W σ H res Q) : Run K XP c Z W1 σ H1 res Q := by
  cases res with
  | ok a s' => exact fun W' H' y r => h W' H' (x.trans y) r
  | err code T => exact ErrOk.step x h
  | stuck => exact h
theorem Run.imp {res : Rs α} {Q Q' : α → ES → Own → Hp → Prop} (h : Run K XP c Z W σ H res Q)
    (f : ∀ a s' W' H', Stp c W H W' H' → Rel K c Z W' s' σ H' → Q a s' W' H' → Q' a s' W' H') : Run K XP c Z W σ H res Q' := by
  cases res with
  | ok a s' => exact fun W' H' y r => f a s' W' H' y r (h W' H' y r)
  | err code T => exact h
  | stuck => exact h
theorem Run.bind {m : Mo α} {k : α → Mo β} {Q : β → ES → Own → Hp → Prop} (h : Run K XP c Z W σ H (bnd m k s) Q) :
    Run K XP c Z W σ H (m s) fun a s1 W1 H1 => Run K XP c Z W1 σ H1 (k a s1) Q := by
  unfold bnd at h
  cases e : m s with
  | ok a s1 => rw [e] at h; exact fun W' H' y r => Run.step y h
  | err code T => rw [e] at h; exact h
  | stuck => rw [e] at h; exact h
/-- where the first part is known -/
theorem Run.bindE {m : Mo α} {k : α → Mo β} {Q : β → ES → Own → Hp → Prop} {a : α} {s1 : ES} (e : m s = .ok a s1) (h : Run K XP c Z W σ H (bnd m k s) Q) : Run K XP c Z W σ H (k a s1) Q := by
  unfold bnd at h; rw [e] at h; exact h
theorem Run.ne {res : Rs α} {Q : α → ES → Own → Hp → Prop} (h : Run K XP c Z W σ H res Q) : res ≠ .stuck := fun e => by rw [e] at h; exact h
theorem rd_get {q : Ref} {k : D → Mo β} {v : V} (r : Rel K c Z W s σ H) (rv : RV K Z W H σ v q) (h : bnd (Ev.rd q) k s ≠ .stuck) : ∃ d, TV K (blk Z W) H v d ∧ bnd (Ev.rd q) k s = k d s := by
  cases e : Ev.rd q s with
  | ok d s1 =>
    obtain ⟨rfl, t⟩ := rv.rd r e
    exact ⟨d, t, by unfold bnd; rw [e]⟩
  | err code T =>
    exfalso
    cases q with
    | d d => cases e
    | slot i => unfold Ev.rd at e; dsimp only at e; split at e <;> cases e
    | cel n => unfold Ev.rd at e; dsimp only at e; split at e <;> first | cases e | (split at e <;> cases e)
  | stuck => exact absurd (by unfold bnd; rw [e]) h
theorem dur_get {q : Ref} {k : D → Mo β} {v : V} (r : Rel K c Z W s σ H) (rv : RV K Z W H σ v q) (h : bnd (Ev.dur q) k s ≠ .stuck) :
    ∃ d s1 W1, Stp c W H W1 H ∧ Rel K c Z W1 s1 σ H ∧ DV K (blk Z W1) H v d ∧ bnd (Ev.dur q) k s = k d s1 := by
  cases e : Ev.dur q s with
  | ok d s1 =>
    obtain ⟨W1, x, r1, dv⟩ := rv.dur r e
    exact ⟨d, s1, W1, x, r1, dv, by unfold bnd; rw [e]⟩
  | err code T =>
    exfalso
    cases q with
    | d d => cases e
    | slot i => unfold Ev.dur at e; dsimp only at e; split at e <;> cases e
    | cel n => unfold Ev.dur at e; dsimp only at e; split at e <;> cases e
  | stuck => exact absurd (by unfold bnd; rw [e]) h
theorem Run.rd {q : Ref} {k : D → Mo β} {Q : β → ES → Own → Hp → Prop} {v : V} (r : Rel K c Z W s σ H) (rv : RV K Z W H σ v q) (h : Run K XP c Z W σ H (bnd (Ev.rd q) k s) Q) :
    ∃ d, TV K (blk Z W) H v d ∧ Run K XP c Z W σ H (k d s) Q := by
  obtain ⟨d, t, e⟩ := rd_get r rv h.ne
  exact ⟨d, t, e ▸ h⟩
theorem Run.dur {q : Ref} {k : D → Mo β} {Q : β → ES → Own → Hp → Prop} {v : V} (r : Rel K c Z W s σ H) (rv : RV K Z W H σ v q) (h : Run K XP c Z W σ H (bnd (Ev.dur q) k s) Q) :
    ∃ d s1 W1, Stp c W H W1 H ∧ Rel K c Z W1 s1 σ H ∧ DV K (blk Z W1) H v d ∧ Run K XP c Z W1 σ H (k d s1) Q := by
  obtain ⟨d, s1, W1, x, r1, dv, e⟩ := dur_get r rv h.ne
  exact ⟨d, s1, W1, x, r1, dv, Run.step x (e ▸ h)⟩
end
def lift (o : Option D) : Mo Ref := fun s => match o with
  | some d => .ok (.d d) s
  | none => .stuck
theorem Run.lift {K : PySem.W.Frag} {XP : XPt} {c : Option (Addr × Addr)} {Z : Addr → Prop} {W : Own} {σ : Sl} {H : Hp} {s : ES} {o : Option D} {Q : Ref → ES → Own → Hp → Prop} (h : Run K XP c Z W σ H (Ev.lift o s) Q) :
    ∃ d, o = some d ∧ Run K XP c Z W σ H (.ok (.d d) s) Q := by
  cases o with
  | none => exact h.elim
  | some d => exact ⟨d, rfl, h⟩

/-! ### the judgements -/
def tE (K : PySem.W.Frag) (XP : XPt) (f : Mo Ref) : TE := fun σ H Q => ∃ c Z W s, Rel K c Z W s σ H ∧ Run K XP c Z W σ H (f s) fun q _ W' H' => ∀ v, RV K Z W' H' σ v q → Q v H'
def tT (K : PySem.W.Frag) (XP : XPt) (f : Mo Bool) : TT := fun σ H Q => ∃ c Z W s, Rel K c Z W s σ H ∧ Run K XP c Z W σ H (f s) fun b _ _ H' => Q b H'
def tA (K : PySem.W.Frag) (XP : XPt) (f : Mo (List Ref)) : TA := fun σ H Q => ∃ c Z W s, Rel K c Z W s σ H ∧ Run K XP c Z W σ H (f s) fun qs _ W' H' => ∀ vs, RVs K Z W' H' σ vs qs → Q vs H'
def QE (X : Cx) (XP : XPt) (e : Expr) (f : Mo Ref) : Prop := PE X e (tE X.K XP f)
def QT (X : Cx) (XP : XPt) (e : Expr) (f : Mo Bool) : Prop := PT X e (tT X.K XP f)
def QW (X : Cx) (XP : XPt) (e : Expr) (f : Mo Bool) : Prop := PW X e (tT X.K XP f)
def QA (X : Cx) (XP : XPt) (es : List Expr) (f : Mo (List Ref)) : Prop := PA X es (tA X.K XP f)
theorem PE.imp {X : Cx} {e : Expr} {t t' : TE} (h : PE X e t) (i : ∀ σ H Q, t' σ H Q → t σ H Q) : PE X e t' := ⟨fun pins s σ H Q I q => h.run pins s σ H Q I (i σ H Q q)⟩
theorem PT.imp {X : Cx} {e : Expr} {t t' : TT} (h : PT X e t) (i : ∀ σ H Q, t' σ H Q → t σ H Q) : PT X e t' := ⟨fun pins s σ H Q I q => h.run pins s σ H Q I (i σ H Q q)⟩
theorem PW.imp {X : Cx} {e : Expr} {t t' : TT} (h : PW X e t) (i : ∀ σ H Q, t' σ H Q → t σ H Q) : PW X e t' := ⟨fun w pins s σ H Q I q => h.run w pins s σ H Q I (i σ H Q q)⟩
theorem PA.imp {X : Cx} {e : List Expr} {t t' : TA} (h : PA X e t) (i : ∀ σ H Q, t' σ H Q → t σ H Q) : PA X e t' := ⟨fun p pins s σ H Q I q => h.run p pins s σ H Q I (i σ H Q q)⟩
theorem PS.imp {X : Cx} {e : Stmt} {t t' : TS} (h : PS X e t) (i : ∀ D σ H, t' D σ H → t D σ H) : PS X e t' := ⟨fun pins s σ H D I q => h.run pins s σ H D I (i D σ H q)⟩
theorem PSs.imp {X : Cx} {e : List Stmt} {t t' : TS} (h : PSs X e t) (i : ∀ D σ H, t' D σ H → t D σ H) : PSs X e t' := ⟨fun pins s σ H D I q => h.run pins s σ H D I (i D σ H q)⟩
theorem PI.imp {X : Cx} {tg e : Expr} {t t' : TI} (h : PI X tg e t) (i : ∀ σ H Q, t' σ H Q → t σ H Q) : PI X tg e t' := ⟨fun pins s σ H Q I q => h.run pins s σ H Q I (i σ H Q q)⟩
theorem PG.imp {X : Cx} {tg : Expr} {t t' : TG} (h : PG X tg t) (i : ∀ v σ H Q, t' v σ H Q → t v σ H Q) : PG X tg t' := ⟨fun pins s σ H v u Q I r q => h.run pins s σ H v u Q I r (i v σ H Q q)⟩

/-! ### names and constants -/
def eVar (i : Nat) : Mo Ref := fun s => match s.σ[i]? with
  | some (some (.val d)) => .ok (.d d) s
  | some (some (.cel n)) => .ok (.cel n) s
  | some (some _) => .ok (.slot i) s
  | _ => .stuck
def eC (d : D) : Mo Ref := fun s => .ok (.d d) s
section
variable {X : Cx} {XP : XPt} {pos : Pos}
theorem qe_var (i : Nat) {x : Str} (hN : X.N[i]? = some x := by rfl) (hv : Vis X.env.scope x := by first | exact Or.inl rfl | exact Or.inr (Or.inl rfl) | exact Or.inr (Or.inr rfl)) (hd : (x == ("__debug__" : Str)) = false := by decide)
    (hcd : (x == ("__classdict__" : Str)) = false := by decide) : QE X XP (.Name x pos) (eVar i) := PE.imp (pe_var (i := i) hN hv hd hcd) fun σ H Q h => by
  obtain ⟨c, Z, W, s, r, h⟩ := h
  unfold eVar at h
  split at h
  · rename_i d hs
    obtain ⟨v, h1, h2⟩ := r.slot i _ hs
    exact ⟨v, h1, h W H .refl r v h2⟩
  · rename_i n hs
    obtain ⟨h0, v, h1, h2⟩ := r.slot i _ hs
    exact ⟨v, h1, h W H .refl r v ⟨h0, h2⟩⟩
  · rename_i sv n1 n2 hs
    obtain ⟨v, h1⟩ : ∃ v, σ[i]? = some (some v) := by
      have q := r.slot i _ hs
      cases sv with
      | val d => obtain ⟨v, h1, _⟩ := q; exact ⟨v, h1⟩
      | own ds => obtain ⟨a, xs, _, h1, _⟩ := q; exact ⟨_, h1⟩
      | cur => obtain ⟨a, l, _, h1⟩ := q; exact ⟨_, h1⟩
      | cel n => obtain ⟨_, v, h1, _⟩ := q; exact ⟨v, h1⟩
    exact ⟨v, h1, h W H .refl r v h1⟩
  · exact h.elim
theorem qe_c {e : Expr} {v : V} {d : D} (he : PE X e (tC v)) (hd : ∀ B H, DV X.K B H v d) : QE X XP e (eC d) := PE.imp he fun σ H Q h => by
  obtain ⟨c, Z, W, s, r, h⟩ := h
  exact h W H .refl r v (hd _ _)
theorem qe_int {i : Int} {j} : QE X XP (.Constant (.int i) j pos) (eC (.int i)) := qe_c pe_int fun _ _ => .int i
theorem qe_bl {b : Bool} {j} : QE X XP (.Constant (.bool b) j pos) (eC (.bool b)) := qe_c pe_bl fun _ _ => .bl b
theorem qe_non {j} : QE X XP (.Constant .none j pos) (eC .none) := qe_c pe_non fun _ _ => .non
theorem qe_str {x : Str} {j} : QE X XP (.Constant (.str x) j pos) (eC (.str x)) := qe_c pe_str fun _ _ => .str x
/-- a module's constant -/
structure GC (K : PySem.W.Frag) (mg : Str → Option Value) (x : Str) (d : D) : Prop where
  ex : ∃ v u, mg x = some u ∧ RelV v u ∧ ∀ B H, DV K B H v d
theorem qe_glob {x : Str} {d : D} (g : GC X.K X.mg x d) (hg : Gl X x) (hd : (x == ("__debug__" : Str)) = false := by decide) : QE X XP (.Name x pos) (eC d) := by
  obtain ⟨v, u, h1, h2, h3⟩ := g.ex
  exact qe_c (pe_glob hg h1 h2 hd) h3
end

/-! ### operators, by values -/
def rOp (K : PySem.W.Frag) (p : D → D → Option D) : R2 := fun x y H Q => ∃ B dx dy d, (∀ a, B a → ∃ o, H a = some o) ∧ TV K B H x dx ∧ TV K B H y dy ∧ p dx dy = some d ∧ ∀ v H', Grow H H' → DV K B H' v d → Q v H'
def rUn (K : PySem.W.Frag) (p : D → Option D) : V → Hp → VK → Prop := fun x H Q => ∃ B dx d, (∀ a, B a → ∃ o, H a = some o) ∧ TV K B H x dx ∧ p dx = some d ∧ ∀ v H', Grow H H' → DV K B H' v d → Q v H'
def eBin (p : D → D → Option D) (f g : Mo Ref) : Mo Ref := bnd f fun a => bnd g fun b => bnd (rd a) fun x => bnd (rd b) fun y => lift (p x y)
def eUn (p : D → Option D) (f : Mo Ref) : Mo Ref := bnd f fun a => bnd (rd a) fun x => lift (p x)
section
variable {X : Cx} {XP : XPt} {pos : Pos} {a b : Expr} {f g : Mo Ref}
theorem two_of {p : D → D → Option D} {σ : Sl} {H : Hp} {Q : VK} (h : tE X.K XP (eBin p f g) σ H Q) : tE X.K XP f σ H fun x H1 => tE X.K XP g σ H1 fun y H2 => rOp X.K p x y H2 Q := by
  obtain ⟨c, Z, W, s, r, h⟩ := h
  refine ⟨c, Z, W, s, r, h.bind.imp fun q1 s1 W1 H1 x1 r1 h1 v rv => ⟨c, Z, W1, s1, r1, h1.bind.imp fun q2 s2 W2 H2 x2 r2 h2 u ru => ?_⟩⟩
  obtain ⟨dx, tx, h3⟩ := h2.rd r2 (rv.step r1 x2)
  obtain ⟨dy, ty, h4⟩ := h3.rd r2 ru
  obtain ⟨d, hd, h5⟩ := h4.lift
  exact ⟨blk Z W2, dx, dy, d, fun a ha => r2.blkT ha, tx, ty, hd, fun v H' gr dv => h5 W2 H' gr.stp (r2.grow gr) v dv⟩
theorem qe_bin {op : Operator} {p : D → D → Option D} (ho : OpR X (binaryOp op) (rOp X.K p)) (ha : QE X XP a f) (hb : QE X XP b g) : QE X XP (.BinOp a op b pos) (eBin p f g) :=
  PE.imp (pe_op ho ha hb) fun σ H Q h => two_of h
theorem qe_un {op : UnaryOp} {p : D → Option D} (ho : UnR X (unaryOp op) (rUn X.K p)) (ha : QE X XP a f) : QE X XP (.UnaryOp op a pos) (eUn p f) := PE.imp (pe_un ho ha) fun σ H Q h => by
  obtain ⟨c, Z, W, s, r, h⟩ := h
  refine ⟨c, Z, W, s, r, h.bind.imp fun q1 s1 W1 H1 x1 r1 h1 v rv => ?_⟩
  obtain ⟨dx, tx, h3⟩ := h1.rd r1 rv
  obtain ⟨d, hd, h5⟩ := h3.lift
  exact ⟨blk Z W1, dx, d, fun a ha => r1.blkT ha, tx, hd, fun v H' gr dv => h5 W1 H' gr.stp (r1.grow gr) v dv⟩
/-- a comparison as a value -/
theorem qe_cmp {op : CmpOp} {p : D → D → Option D} (ho : OpR X (compareOp op) (rOp X.K p)) (ha : QE X XP a f) (hb : QE X XP b g) (hm : behindInMarks op b = false) : QE X XP (.Compare a [op] [b] pos) (eBin p f g) :=
  PE.imp (pe_cmpR ho ha hb hm) fun σ H Q h => two_of h
end

/-! ### tests -/
/-- the truth of data -/
def dTru : D → Option Bool
  | .none => some false
  | .bool b => some b
  | .int i => some (i != 0)
  | .str x => if x.length ≤ sizeLine then some (x.length != 0) else none
  | .list ds => some (!ds.isEmpty)
  | .tuple ds => some (!ds.isEmpty)
  | .dict _ => none
def fTru (f : Mo Ref) : Mo Bool := bnd f fun q => bnd (rd q) fun d s => match dTru d with
  | some b => .ok b s
  | none => .stuck
/-- the answer of a comparison, that it is True or False -/
def fCmp (p : D → D → Option D) (f g : Mo Ref) : Mo Bool := bnd f fun a => bnd g fun b => bnd (rd a) fun x => bnd (rd b) fun y s => match p x y with
  | some (.bool k) => .ok k s
  | _ => .stuck
def fAnd (f g : Mo Bool) : Mo Bool := bnd f fun b => if b then g else fun s => .ok false s
def fOr (f g : Mo Bool) : Mo Bool := bnd f fun b => if b then fun s => .ok true s else g
def fNot (f : Mo Bool) : Mo Bool := bnd f fun b s => .ok (!b) s
section
variable {X : Cx} {XP : XPt} {pos : Pos} {a b : Expr} {f g : Mo Ref}
theorem isEmpty_dvs {K : PySem.W.Frag} {B : Addr → Prop} {H : Hp} : ∀ {vs : List V} {ds : List D}, DVs K B H vs ds → vs.isEmpty = ds.isEmpty
  | _, _, .nil => rfl
  | _, _, .cons _ _ => rfl
theorem tru_of {K : PySem.W.Frag} {B : Addr → Prop} {H : Hp} {v : V} {d : D} {k : Bool} (t : TV K B H v d) (h : dTru d = some k) : TruV K v H k := by
  cases d with
  | none => cases t.none; cases h; rfl
  | bool b => cases t.bool; cases h; rfl
  | int i => cases t.int; cases h; rfl
  | str x =>
    cases t.str
    have h : (if x.length ≤ sizeLine then some (x.length != 0) else Option.none) = some k := h
    split at h
    · cases h; exact ⟨by assumption, by rw [Bool.eq_iff_iff]; simp only [bne_iff_ne, ne_eq]; omega⟩
    · cases h
  | list ds =>
    obtain ⟨a, xs, rfl, h1, h2⟩ := t.lst
    cases h
    exact .inl ⟨xs, SqL.of h1, by rw [isEmpty_dvs h2]⟩
  | tuple ds =>
    obtain ⟨a, xs, rfl, h1, h2⟩ := t.tup
    cases h
    exact .inr (.inl ⟨xs, h1.seq, by rw [isEmpty_dvs h2]⟩)
  | dict _ => cases h
theorem qt_tru (ha : QE X XP a f) (he : ∀ whole, isTrue a X.env whole = (do let v ← whole; standAt a.pos; holding [v] (truthy v)) := by intro _; rfl) : QT X XP a (fTru f) := PT.imp (pt_truth ha he) fun σ H Q h => by
  obtain ⟨c, Z, W, s, r, h⟩ := h
  refine ⟨c, Z, W, s, r, h.bind.imp fun q1 s1 W1 H1 x1 r1 h1 v rv => ?_⟩
  obtain ⟨dx, tx, h3⟩ := h1.rd r1 rv
  cases e : dTru dx with
  | none => rw [e] at h3; exact h3.elim
  | some k => rw [e] at h3; exact ⟨k, tru_of tx e, h3 W1 H1 .refl r1⟩
theorem qt_cmp {op : CmpOp} {p : D → D → Option D} (ho : OpR X (compareOp op) (rOp X.K p)) (ha : QE X XP a f) (hb : QE X XP b g) (hm : behindInMarks op b = false) : QT X XP (.Compare a [op] [b] pos) (fCmp p f g) :=
  PT.imp (pt_cmpR ho ha hb hm) fun σ H Q h => by
  obtain ⟨c, Z, W, s, r, h⟩ := h
  refine ⟨c, Z, W, s, r, h.bind.imp fun q1 s1 W1 H1 x1 r1 h1 v rv => ⟨c, Z, W1, s1, r1, h1.bind.imp fun q2 s2 W2 H2 x2 r2 h2 u ru => ?_⟩⟩
  obtain ⟨dx, tx, h3⟩ := h2.rd r2 (rv.step r1 x2)
  obtain ⟨dy, ty, h4⟩ := h3.rd r2 ru
  cases e : p dx dy with
  | none => rw [e] at h4; exact h4.elim
  | some d =>
    rw [e] at h4
    cases d with
    | bool k => exact ⟨blk Z W2, dx, dy, _, fun a ha => r2.blkT ha, tx, ty, e, fun v H' gr dv => by cases dv; exact ⟨k, rfl, h4 W2 H' gr.stp (r2.grow gr)⟩⟩
    | none => exact h4.elim
    | int i => exact h4.elim
    | str i => exact h4.elim
    | list i => exact h4.elim
    | tuple i => exact h4.elim
    | dict i => exact h4.elim
variable {ft gt : Mo Bool} {rest : List Expr}
theorem qw_and1 (h : QT X XP a ft) : QW X XP (.BoolOp .And [a] pos) ft := pw_and1 h
theorem qw_or1 (h : QT X XP a ft) : QW X XP (.BoolOp .Or [a] pos) ft := pw_or1 h
theorem qw_and (ha : QT X XP a ft) (hb : QW X XP (.BoolOp .And (b :: rest) pos) gt) : QW X XP (.BoolOp .And (a :: b :: rest) pos) (fAnd ft gt) := PW.imp (pw_and ha hb) fun σ H Q h => by
  obtain ⟨c, Z, W, s, r, h⟩ := h
  refine ⟨c, Z, W, s, r, h.bind.imp fun k s1 W1 H1 x1 r1 h1 => ?_⟩
  cases k with
  | true => exact iteT ⟨c, Z, W1, s1, r1, h1⟩
  | false => exact iteF (h1 W1 H1 .refl r1)
theorem qw_or (ha : QT X XP a ft) (hb : QW X XP (.BoolOp .Or (b :: rest) pos) gt) : QW X XP (.BoolOp .Or (a :: b :: rest) pos) (fOr ft gt) := PW.imp (pw_or ha hb) fun σ H Q h => by
  obtain ⟨c, Z, W, s, r, h⟩ := h
  refine ⟨c, Z, W, s, r, h.bind.imp fun k s1 W1 H1 x1 r1 h1 => ?_⟩
  cases k with
  | true => exact iteT (h1 W1 H1 .refl r1)
  | false => exact iteF ⟨c, Z, W1, s1, r1, h1⟩
theorem qt_w (h : QW X XP a ft) : QT X XP a ft := PW.pt h
theorem qt_not (ha : QT X XP a ft) : QT X XP (.UnaryOp .Not a pos) (fNot ft) := PT.imp (pt_not ha) fun σ H Q h => by
  obtain ⟨c, Z, W, s, r, h⟩ := h
  exact ⟨c, Z, W, s, r, h.bind.imp fun k s1 W1 H1 x1 r1 h1 => h1 W1 H1 .refl r1⟩
end
def eIf (t : Mo Bool) (f g : Mo Ref) : Mo Ref := bnd t fun b => if b then f else g
theorem qe_if {X : Cx} {XP : XPt} {pos : Pos} {t a b : Expr} {ft : Mo Bool} {f g : Mo Ref} (ht : QT X XP t ft) (ha : QE X XP a f) (hb : QE X XP b g) : QE X XP (.IfExp t a b pos) (eIf ft f g) := PE.imp (pe_ifExp ht ha hb) fun σ H Q h => by
  obtain ⟨c, Z, W, s, r, h⟩ := h
  refine ⟨c, Z, W, s, r, h.bind.imp fun k s1 W1 H1 x1 r1 h1 => ?_⟩
  cases k with
  | true => exact iteT ⟨c, Z, W1, s1, r1, h1⟩
  | false => exact iteF ⟨c, Z, W1, s1, r1, h1⟩

/-! ### argument lists, displays -/
def aNil : Mo (List Ref) := fun s => .ok [] s
def aCons (f : Mo Ref) (fs : Mo (List Ref)) : Mo (List Ref) := bnd f fun q => bnd fs fun qs s => .ok (q :: qs) s
def durs : List Ref → Mo (List D)
  | [] => fun s => .ok [] s
  | q :: qs => bnd (dur q) fun d => bnd (durs qs) fun ds s => .ok (d :: ds) s
section
variable {X : Cx} {XP : XPt} {pos : Pos} {e : Expr} {es : List Expr} {f : Mo Ref} {fs : Mo (List Ref)}
theorem qa_nil : QA X XP [] aNil := PA.imp pa_nil fun σ H Q h => by
  obtain ⟨c, Z, W, s, r, h⟩ := h
  exact h W H .refl r [] .nil
theorem qa_cons (he : QE X XP e f) (hr : QA X XP es fs) (hs : starEach (e :: es) X.env = (false, eval e X.env) :: starEach es X.env := by rfl) : QA X XP (e :: es) (aCons f fs) := PA.imp (pa_cons he hr hs) fun σ H Q h => by
  obtain ⟨c, Z, W, s, r, h⟩ := h
  refine ⟨c, Z, W, s, r, h.bind.imp fun q1 s1 W1 H1 x1 r1 h1 v rv => ⟨c, Z, W1, s1, r1, h1.bind.imp fun q2 s2 W2 H2 x2 r2 h2 vs rvs => ?_⟩⟩
  exact h2 W2 H2 .refl r2 (v :: vs) (.cons (rv.step r1 x2) rvs)
end
theorem durs_get {β : Type} {K : PySem.W.Frag} {c : Option (Addr × Addr)} {Z : Addr → Prop} {σ : Sl} {H : Hp} : ∀ {qs : List Ref} {W : Own} {s : ES} {k : List D → Mo β} {vs : List V} (r : Rel K c Z W s σ H) (rv : RVs K Z W H σ vs qs) (h : bnd (Ev.durs qs) k s ≠ .stuck),
    ∃ ds s1 W1, Stp c W H W1 H ∧ Rel K c Z W1 s1 σ H ∧ DVs K (blk Z W1) H vs ds ∧ bnd (Ev.durs qs) k s = k ds s1
  | [], W, s, k, _, r, .nil, h => ⟨[], s, W, .refl, r, .nil, rfl⟩
  | q :: qs, W, s, k, _, r, .cons rv rvs, h => by
    have e : bnd (Ev.durs (q :: qs)) k s = bnd (Ev.dur q) (fun d => bnd (Ev.durs qs) fun ds => k (d :: ds)) s := by
      show bnd (bnd (Ev.dur q) fun d => bnd (Ev.durs qs) fun ds s => .ok (d :: ds) s) k s = _
      unfold bnd
      cases Ev.dur q s with
      | ok d s1 =>
        dsimp only
        cases Ev.durs qs s1 <;> rfl
      | err c T => rfl
      | stuck => rfl
    rw [e] at h ⊢
    obtain ⟨d, s1, W1, x1, r1, dv, e1⟩ := dur_get r rv h
    rw [e1] at h ⊢
    obtain ⟨ds, s2, W2, x2, r2, dvs, e2⟩ := durs_get r1 (rvs.step r x1) h
    exact ⟨d :: ds, s2, W2, x1.trans x2, r2, .cons (dv.step r1 x2) dvs, e2⟩
theorem Run.durs {β : Type} {K : PySem.W.Frag} {XP : XPt} {c : Option (Addr × Addr)} {Z : Addr → Prop} {σ : Sl} {H : Hp} {qs : List Ref} {W : Own} {s : ES} {k : List D → Mo β} {Q : β → ES → Own → Hp → Prop} {vs : List V} (r : Rel K c Z W s σ H) (rv : RVs K Z W H σ vs qs) (h : Run K XP c Z W σ H (bnd (Ev.durs qs) k s) Q) :
    ∃ ds s1 W1, Stp c W H W1 H ∧ Rel K c Z W1 s1 σ H ∧ DVs K (blk Z W1) H vs ds ∧ Run K XP c Z W1 σ H (k ds s1) Q := by
  obtain ⟨ds, s1, W1, x, r1, dv, e⟩ := durs_get r rv h.ne
  exact ⟨ds, s1, W1, x, r1, dv, Run.step x (e ▸ h)⟩
def small (ds : List D) : Bool := decide (ds.length ≤ sizeLine)
def eTup (fs : Mo (List Ref)) : Mo Ref := bnd fs fun qs => bnd (durs qs) fun ds => lift (if small ds then some (.tuple ds) else none)
theorem small_of {ds : List D} (h : small ds = true) : ds.length ≤ sizeLine := of_decide_eq_true h
section
variable {X : Cx} {XP : XPt} {pos : Pos} {es : List Expr} {fs : Mo (List Ref)}
theorem qe_tup {k} (h : QA X XP es fs) : QE X XP (.Tuple es k pos) (eTup fs) := PE.imp (pe_tup h) fun σ H Q h => by
  obtain ⟨c, Z, W, s, r, h⟩ := h
  refine ⟨c, Z, W, s, r, h.bind.imp fun q1 s1 W1 H1 x1 r1 h1 vs rvs => ?_⟩
  obtain ⟨ds, s2, W2, x2, r2, dvs, h2⟩ := h1.durs r1 rvs
  obtain ⟨d, hd, h3⟩ := h2.lift
  split at hd
  · rename_i hs
    cases hd
    refine ⟨by rw [dvs.len]; exact small_of hs, fun p hp => ?_⟩
    have g := Grow.upd (o := HO.tup vs) hp
    have np : ¬ blk Z W2 p := fun b => by obtain ⟨o, e⟩ := r2.blkT b; rw [hp] at e; cases e
    exact h3 W2 _ g.stp (r2.grow g) (V.ref p) (.tup (.inl ⟨upd_same, np⟩) (dvs.grow g))
  · cases hd
end

/-! ### lists that are made here -/
def zP (Z : Addr → Prop) (p : Addr) : Addr → Prop := fun a => Z a ∨ a = p
def RunM (K : PySem.W.Frag) (XP : XPt) (c : Option (Addr × Addr)) (Z : Addr → Prop) (W : Own) (σ : Sl) (H : Hp) (res : Rs (List D)) (Q : VK) : Prop :=
  match res with
  | .ok ds s' => ∀ p xs W' H', Stp c W H W' H' → H p = none → Rel K c (zP Z p) W' s' σ H' → H' p = some (.lst xs) → DVs K (blk (zP Z p) W') H' xs ds → Q (V.ref p) H'
  | .err code T => ErrOk K XP c W H code T
  | .stuck => False
def tMk (K : PySem.W.Frag) (XP : XPt) (f : Mo (List D)) : TE := fun σ H Q => ∃ c Z W s, Rel K c Z W s σ H ∧ RunM K XP c Z W σ H (f s) Q
def QM (X : Cx) (XP : XPt) (e : Expr) (f : Mo (List D)) : Prop := PE X e (tMk X.K XP f)
def eM (f : Mo (List D)) : Mo Ref := bnd f fun ds s => .ok (.d (.list ds)) s
section
variable {K : PySem.W.Frag} {XP : XPt} {c : Option (Addr × Addr)} {Z Z' : Addr → Prop} {W W' W1 : Own} {s s1 : ES} {σ : Sl} {H H1 : Hp} {Q : VK}
theorem RunM.ne {res : Rs (List D)} (h : RunM K XP c Z W σ H res Q) : res ≠ .stuck := fun e => by rw [e] at h; exact h
theorem RunM.step {res : Rs (List D)} (x : Stp c W H W1 H1) (h : RunM K XP c Z W σ H res Q) : RunM K XP c Z W1 σ H1 res Q := by
  cases res with
  | ok ds s' =>
    intro p xs W' H' y hp
    refine h p xs W' H' (x.trans y) ?_
    cases e : H p with
    | none => rfl
    | some o => obtain ⟨o', e'⟩ := x.dom p o e; rw [hp] at e'; cases e'
  | err code T => exact ErrOk.step x h
  | stuck => exact h
theorem RunM.bind {α : Type} {m : Mo α} {k : α → Mo (List D)} (h : RunM K XP c Z W σ H (bnd m k s) Q) : Run K XP c Z W σ H (m s) fun a s1 W1 H1 => RunM K XP c Z W1 σ H1 (k a s1) Q := by
  unfold bnd at h
  cases e : m s with
  | ok a s1 => rw [e] at h; exact fun W' H' y r => RunM.step y h
  | err code T => rw [e] at h; exact h
  | stuck => rw [e] at h; exact h
theorem RunM.rd {q : Ref} {k : D → Mo (List D)} {v : V} (r : Rel K c Z W s σ H) (rv : RV K Z W H σ v q) (h : RunM K XP c Z W σ H (bnd (Ev.rd q) k s) Q) :
    ∃ d, TV K (blk Z W) H v d ∧ RunM K XP c Z W σ H (k d s) Q := by
  obtain ⟨d, t, e⟩ := rd_get r rv h.ne
  exact ⟨d, t, e ▸ h⟩
theorem RunM.durs {qs : List Ref} {k : List D → Mo (List D)} {vs : List V} (r : Rel K c Z W s σ H) (rv : RVs K Z W H σ vs qs) (h : RunM K XP c Z W σ H (bnd (Ev.durs qs) k s) Q) :
    ∃ ds s1 W1, Stp c W H W1 H ∧ Rel K c Z W1 s1 σ H ∧ DVs K (blk Z W1) H vs ds ∧ RunM K XP c Z W1 σ H (k ds s1) Q := by
  obtain ⟨ds, s1, W1, x, r1, dv, e⟩ := durs_get r rv h.ne
  exact ⟨ds, s1, W1, x, r1, dv, RunM.step x (e ▸ h)⟩
theorem Rel.shrink (r : Rel K c Z' W s σ H) (h : ∀ a, Z a → Z' a) (hc : ∀ a l, c = some (a, l) → Z a ∧ Z l) : Rel K c Z W s σ H := by
  have g : ∀ a o, H a = some o → NT o → ¬ blk Z' W a → H a = some o ∧ ¬ blk Z W a := fun a o e _ n => ⟨e, fun q => n (q.elim (fun z => .inl (h a z)) .inr)⟩
  refine ⟨r.len, fun i sv e => ?_, r.inj, fun i a e => ⟨fun z => (r.wo i a e).1 (h a z), (r.wo i a e).2⟩, fun a z => r.zt a (h a z), hc, r.T, r.tb, r.len1, r.cL, r.cel.same g (fun _ => rfl) rfl fun _ _ _ _ e => e⟩
  have q := r.slot i sv e
  cases sv with
  | val d => obtain ⟨v, h1, h2⟩ := q; exact ⟨v, h1, DV.mono g _ _ h2⟩
  | own ds => obtain ⟨a, xs, h1, h2, h3, h4⟩ := q; exact ⟨a, xs, h1, h2, h3, DVs.mono g _ _ h4⟩
  | cur => exact q
  | cel n => exact q
theorem zP_blk {p a : Addr} (h : blk Z W a) : blk (zP Z p) W a := h.elim (fun z => .inl (.inl z)) .inr
theorem DVs.unP {p : Addr} {vs : List V} {ds : List D} (h : DVs K (blk (zP Z p) W) H vs ds) : DVs K (blk Z W) H vs ds := DVs.mono (fun a o e _ n => ⟨e, fun q => n (zP_blk q)⟩) _ _ h
/-- what a rule gives of a new list -/
theorem RunM.new {ds : List D} {vs : List V} {p : Addr} (h : RunM K XP c Z W σ H (.ok ds s) Q) (r : Rel K c Z W s σ H) (hp : H p = none) (dvs : DVs K (blk Z W) H vs ds) : Q (V.ref p) (upd H p (.lst vs)) := by
  have g := Grow.upd (o := HO.lst vs) hp
  have k : ∀ a o, H a = some o → NT o → ¬ blk Z W a → upd H p (.lst vs) a = some o ∧ ¬ blk (zP Z p) W a := fun a o e _ n => ⟨g a o e, by
    rintro ((z | rfl) | z)
    · exact n (.inl z)
    · rw [hp] at e; cases e
    · exact n (.inr z)⟩
  refine h p vs W _ g.stp hp ⟨r.len, fun i sv e => ?_, r.inj, fun i a e => ⟨?_, (r.wo i a e).2.elim fun o q => ⟨o, g _ _ q.1, q.2⟩⟩, fun a z => ?_, fun a l e => ⟨.inl (r.cz a l e).1, .inl (r.cz a l e).2⟩, r.T.grow g, r.tb.ext g, r.len1, r.cL, r.cel.same k (fun _ => rfl) rfl fun _ a o _ e => g a o e⟩ upd_same (DVs.mono k _ _ dvs)
  · have q := r.slot i sv e
    cases sv with
    | val d => obtain ⟨v, h1, h2⟩ := q; exact ⟨v, h1, DV.mono k _ _ h2⟩
    | own ds => obtain ⟨a, xs, h1, h2, h3, h4⟩ := q; exact ⟨a, xs, h1, h2, g _ _ h3, DVs.mono k _ _ h4⟩
    | cur => exact q
    | cel n => exact q
  · rintro (z | rfl)
    · exact (r.wo i a e).1 z
    · obtain ⟨_, o, q, _⟩ := r.wo i _ e
      rw [hp] at q; cases q
  · rcases z with z | rfl
    · exact (r.zt a z).elim fun o q => ⟨o, g _ _ q⟩
    · exact ⟨_, upd_same⟩
end
section
variable {X : Cx} {XP : XPt} {pos : Pos} {e : Expr} {es : List Expr} {f : Mo (List D)} {fs : Mo (List Ref)}
/-- a made list as a value that stays -/
theorem QM.qe (h : QM X XP e f) : QE X XP e (eM f) := PE.imp h fun σ H Q h => by
  obtain ⟨c, Z, W, s, r, h⟩ := h
  refine ⟨c, Z, W, s, r, ?_⟩
  unfold eM bnd at h
  cases e : f s with
  | ok ds s' =>
    rw [e] at h
    intro p xs W' H' x hp r' hH dvs
    have r2 := r'.shrink (fun a z => .inl z) r.cz
    have np : ¬ blk Z W' p := by
      rintro (z | ⟨i, z⟩)
      · obtain ⟨o, e⟩ := r.zt p z
        rw [hp] at e; cases e
      · exact (r'.wo i p z).1 (.inr rfl)
    exact h W' H' x r2 (V.ref p) (.lst hH np dvs.unP)
  | err code T => rw [e] at h; exact h
  | stuck => rw [e] at h; exact h
def guard (b : Bool) (ds : List D) : Mo (List D) := fun s => if b then .ok ds s else .stuck
theorem RunM.guard {K : PySem.W.Frag} {c : Option (Addr × Addr)} {Z : Addr → Prop} {W : Own} {s : ES} {σ : Sl} {H : Hp} {Q : VK} {b : Bool} {ds : List D} (h : RunM K XP c Z W σ H (Ev.guard b ds s) Q) : b = true ∧ RunM K XP c Z W σ H (.ok ds s) Q := by
  cases b with
  | true => exact ⟨rfl, h⟩
  | false => exact h.elim
/-- [a, b] -/
def mLst (fs : Mo (List Ref)) : Mo (List D) := bnd fs fun qs => bnd (durs qs) fun ds => guard (small ds) ds
theorem qm_lst (h : QA X XP es fs) : QM X XP (.List es pos) (mLst fs) := PE.imp (pe_lst h) fun σ H Q h => by
  obtain ⟨c, Z, W, s, r, h⟩ := h
  refine ⟨c, Z, W, s, r, h.bind.imp fun qs s1 W1 H1 x1 r1 h1 vs rvs => ?_⟩
  obtain ⟨ds, s2, W2, x2, r2, dvs, h2⟩ := h1.durs r1 rvs
  obtain ⟨hs, h3⟩ := h2.guard
  exact ⟨by rw [dvs.len]; exact small_of hs, fun p hp => h3.new r2 hp dvs⟩
end
end Ev
set_option Elab.async false
set_option linter.all false
set_option maxRecDepth 100000
set_option maxHeartbeats 2000000
/-! Ev3: statements, targets, loops, comprehensions -/
namespace Ev
open PySem PySem.Spec PyProof.Rows L2

def RunS (K : PySem.W.Frag) (XP : XPt) (c : Option (Addr × Addr)) (Z : Addr → Prop) (W : Own) (H : Hp) (res : SR) (D : Ends) : Prop :=
  match res with
  | .nx s' => ∀ σ' W' H', Stp c W H W' H' → Rel K c Z W' s' σ' H' → D.nx σ' H'
  | .bk s' => ∀ σ' W' H', Stp c W H W' H' → Rel K c Z W' s' σ' H' → D.bk σ' H'
  | .ct s' => ∀ σ' W' H', Stp c W H W' H' → Rel K c Z W' s' σ' H' → D.ct σ' H'
  | .rt d T => ∀ v W' H', Stp c W H W' H' → CurOk c H' T.cu → T.ce.length = W'.L → CelOk K Z W' H' T.ce → TabOk K H' → DV K Z H' v d → D.rt v H'
  | .rc n T => ∀ v W' H', Stp c W H W' H' → CurOk c H' T.cu → T.ce.length = W'.L → CelOk K Z W' H' T.ce → TabOk K H' → n < W'.L → (∀ a, W' (cix n) = some a → v = V.ref a) → D.rt v H'
  | .err code T => ErrOk K XP c W H code T
  | .stuck => False
def sE {α : Type} (m : Mo α) (k : α → ES → SR) : ES → SR := fun s => match m s with
  | .ok a s' => k a s'
  | .err c T => .err c T
  | .stuck => .stuck
def sSeq (g h : ES → SR) : ES → SR := fun s => match g s with
  | .nx s1 => h s1
  | .rt d T => .rt d T
  | .rc n T => .rc n T
  | .bk s1 => .bk s1
  | .ct s1 => .ct s1
  | .err c T => .err c T
  | .stuck => .stuck
def tS (K : PySem.W.Frag) (XP : XPt) (g : ES → SR) : TS := fun D σ H => ∃ c Z W s, Rel K c Z W s σ H ∧ RunS K XP c Z W H (g s) D
def QS (X : Cx) (XP : XPt) (st : Stmt) (g : ES → SR) : Prop := PS X st (tS X.K XP g)
def QSs (X : Cx) (XP : XPt) (st : List Stmt) (g : ES → SR) : Prop := PSs X st (tS X.K XP g)
section
variable {K : PySem.W.Frag} {XP : XPt} {c : Option (Addr × Addr)} {Z : Addr → Prop} {W W1 : Own} {σ : Sl} {H H1 : Hp} {s : ES} {E : Ends}
theorem RunS.step {res : SR} (x : Stp c W H W1 H1) (h : RunS K XP c Z W H res E) : RunS K XP c Z W1 H1 res E := by
  cases res with
  | nx s' => exact fun σ' W' H' y r => h σ' W' H' (x.trans y) r
  | bk s' => exact fun σ' W' H' y r => h σ' W' H' (x.trans y) r
  | ct s' => exact fun σ' W' H' y r => h σ' W' H' (x.trans y) r
  | rt d T => exact fun v W' H' y q h1 h2 tb dv => h v W' H' (x.trans y) q h1 h2 tb dv
  | rc n T => exact fun v W' H' y q h1 h2 tb h3 h4 => h v W' H' (x.trans y) q h1 h2 tb h3 h4
  | err code T => exact ErrOk.step x h
  | stuck => exact h
theorem RunS.ne {res : SR} (h : RunS K XP c Z W H res E) : res ≠ .stuck := fun e => by rw [e] at h; exact h
theorem RunS.bind {α : Type} {m : Mo α} {k : α → ES → SR} (h : RunS K XP c Z W H (sE m k s) E) : Run K XP c Z W σ H (m s) fun a s1 W1 H1 => RunS K XP c Z W1 H1 (k a s1) E := by
  unfold sE at h
  cases e : m s with
  | ok a s1 => rw [e] at h; exact fun W' H' y r => RunS.step y h
  | err code T => rw [e] at h; exact h
  | stuck => rw [e] at h; exact h
theorem RunS.seq {g k : ES → SR} (h : RunS K XP c Z W H (sSeq g k s) E) : RunS K XP c Z W H (g s) { E with nx := tS K XP k E } := by
  unfold sSeq at h
  cases e : g s with
  | nx s1 => rw [e] at h; exact fun σ' W' H' y r => ⟨c, Z, W', s1, r, RunS.step y h⟩
  | bk s' => rw [e] at h; exact h
  | ct s' => rw [e] at h; exact h
  | rt d T => rw [e] at h; exact h
  | rc n T => rw [e] at h; exact h
  | err code T => rw [e] at h; exact h
  | stuck => rw [e] at h; exact h
end
def sNx : ES → SR := fun s => .nx s
def sBk : ES → SR := fun s => .bk s
def sCt : ES → SR := fun s => .ct s
def put (i : Nat) (sv : SV) (s : ES) : ES := { s with σ := s.σ.set i (some sv) }
def sSet (i : Nat) (f : Mo Ref) : ES → SR := sE (bnd f dur) fun d s => .nx (put i (.val d) s)
def sOwn (i : Nat) (f : Mo (List D)) : ES → SR := sE f fun ds s => .nx (put i (.own ds) s)
def sRet (f : Mo Ref) : ES → SR := sE (bnd f dur) fun d s => .rt d s.T
/-- return a cell -/
def sRetC (f : Mo Ref) : ES → SR := sE f fun q s => match q with
  | .cel n => .rc n s.T
  | _ => .stuck
def sRetN : ES → SR := fun s => .rt .none s.T
def sExpr (f : Mo Ref) : ES → SR := sE f fun _ s => .nx s
def sIf (t : Mo Bool) (g h : ES → SR) : ES → SR := sE t fun b => if b then g else h
section
variable {K : PySem.W.Frag} {c : Option (Addr × Addr)} {Z : Addr → Prop} {W : Own} {σ : Sl} {H : Hp} {s : ES}
theorem Rel.put (r : Rel K c Z W s σ H) {i : Nat} {v : V} {d : D} (h : DV K (blk Z W) H v d) : Rel K c Z (unown W i) (put i (.val d) s) (σ.set i (some v)) H := by
  have g : ∀ a o, H a = some o → ¬ blk Z W a → ¬ blk Z (unown W i) a := fun a o _ n q => n (blk_unown q)
  refine ⟨by simpa [Ev.put] using r.len, fun j sv e => ?_, fun j k b e1 e2 => r.inj _ _ _ (unown_some e1).2 (unown_some e2).2, fun j b e => r.wo j b (unown_some e).2, r.zt, r.cz, r.T, r.tb, by simpa [Ev.put] using r.len1, r.cL, r.cel.same (fun a o e _ n => ⟨e, g a o e n⟩) (fun m => unown_cix) rfl fun _ _ _ _ e => e⟩
  · have e : (s.σ.set i (some (.val d)))[j]? = some (some sv) := e
    by_cases hj : j = i
    · subst hj
      have hi : j < s.σ.length := by
        have := (List.getElem?_eq_some_iff.mp e).1
        simpa using this
      rw [List.getElem?_set_self hi] at e
      cases e
      exact ⟨v, by rw [List.getElem?_set_self (by rw [← r.len]; exact hi)], DV.mono (fun a o e _ n => ⟨e, g a o e n⟩) _ _ h⟩
    · rw [List.getElem?_set_ne (Ne.symm hj)] at e
      have q := (r.slot j sv e).stay hj g
      have es : (σ.set i (some v))[j]? = σ[j]? := List.getElem?_set_ne (Ne.symm hj)
      cases sv with
      | val d => obtain ⟨v', h1, h2⟩ := q; exact ⟨v', es.trans h1, h2⟩
      | own ds => obtain ⟨a, xs, h1, h2, h3⟩ := q; exact ⟨a, xs, h1, es.trans h2, h3⟩
      | cur => obtain ⟨a, l, h1, h2⟩ := q; exact ⟨a, l, h1, es.trans h2⟩
      | cel n => obtain ⟨h0, v', h1, h2⟩ := q; exact ⟨h0, v', es.trans h1, h2⟩
def ownAt (W : Own) (i : Nat) (p : Addr) : Own := ⟨fun j => if j = i ∧ j < cB then some p else W j, W.L⟩
theorem ownAt_cases {i j : Nat} {p a : Addr} (h : ownAt W i p j = some a) : (j = i ∧ j < cB ∧ a = p) ∨ (¬ (j = i ∧ j < cB) ∧ W j = some a) := by
  dsimp only [ownAt] at h
  split at h
  · rename_i q; cases h; exact .inl ⟨q.1, q.2, rfl⟩
  · exact .inr ⟨by assumption, h⟩
theorem ownAt_self {i : Nat} {p : Addr} (h : i < cB) : ownAt W i p i = some p := by dsimp only [ownAt]; rw [if_pos ⟨rfl, h⟩]
theorem ownAt_ne {i j : Nat} {p : Addr} (h : j ≠ i) : ownAt W i p j = W j := by dsimp only [ownAt]; rw [if_neg fun z => h z.1]
theorem ownAt_cix {i m : Nat} {p : Addr} : ownAt W i p (cix m) = W (cix m) := by dsimp only [ownAt]; rw [if_neg fun z => by have := z.2; unfold cix at this; omega]
theorem blk_ownAt {i : Nat} {p a : Addr} (h : blk Z (ownAt W i p) a) : blk (zP Z p) W a := by
  rcases h with h | ⟨j, h⟩
  · exact .inl (.inl h)
  · rcases ownAt_cases h with ⟨_, _, rfl⟩ | ⟨_, h⟩
    · exact .inl (.inr rfl)
    · exact .inr ⟨j, h⟩
theorem Rel.putOwn {p : Addr} (r : Rel K c (zP Z p) W s σ H) (hz : ¬ Z p) (hc : ∀ a l, c = some (a, l) → Z a ∧ Z l) {i : Nat} {xs : List V} {ds : List D} (hp : H p = some (.lst xs)) (h : DVs K (blk (zP Z p) W) H xs ds) :
    Rel K c Z (ownAt W i p) (Ev.put i (.own ds) s) (σ.set i (some (V.ref p))) H := by
  have g : ∀ a o, H a = some o → NT o → ¬ blk (zP Z p) W a → H a = some o ∧ ¬ blk Z (ownAt W i p) a := fun a o e _ n => ⟨e, fun q => n (blk_ownAt q)⟩
  refine ⟨by simpa [Ev.put] using r.len, fun j sv e => ?_, fun j k b e1 e2 => ?_, fun j b e => ?_, fun a z => r.zt a (.inl z), hc, r.T, r.tb, by simpa [Ev.put] using r.len1, r.cL, r.cel.same g (fun m => ownAt_cix) rfl fun _ _ _ _ e => e⟩
  · have e : (s.σ.set i (some (.own ds)))[j]? = some (some sv) := e
    by_cases hj : j = i
    · subst hj
      have hi : j < s.σ.length := by
        have := (List.getElem?_eq_some_iff.mp e).1
        simpa using this
      rw [List.getElem?_set_self hi] at e
      cases e
      exact ⟨p, xs, ownAt_self (Nat.lt_of_lt_of_le hi r.len1), by rw [List.getElem?_set_self (by rw [← r.len]; exact hi)], hp, DVs.mono g _ _ h⟩
    · rw [List.getElem?_set_ne (Ne.symm hj)] at e
      have q := r.slot j sv e
      have es : (σ.set i (some (V.ref p)))[j]? = σ[j]? := List.getElem?_set_ne (Ne.symm hj)
      cases sv with
      | val d => obtain ⟨v', h1, h2⟩ := q; exact ⟨v', es.trans h1, DV.mono g _ _ h2⟩
      | own ds => obtain ⟨a, xs, h1, h2, h3, h4⟩ := q; exact ⟨a, xs, by rw [ownAt_ne hj]; exact h1, es.trans h2, h3, DVs.mono g _ _ h4⟩
      | cur => obtain ⟨a, l, h1, h2⟩ := q; exact ⟨a, l, h1, es.trans h2⟩
      | cel n => obtain ⟨h0, v', h1, h2⟩ := q; exact ⟨h0, v', es.trans h1, fun a q => h2 a (by rw [ownAt_cix] at q; exact q)⟩
  · rcases ownAt_cases e1 with ⟨h1, h2, rfl⟩ | ⟨h1, h2⟩
    · rcases ownAt_cases e2 with ⟨h3, h4, _⟩ | ⟨h3, h4⟩
      · rw [h1, h3]
      · exact ((r.wo k _ h4).1 (.inr rfl)).elim
    · rcases ownAt_cases e2 with ⟨h3, h4, rfl⟩ | ⟨h3, h4⟩
      · exact ((r.wo j _ h2).1 (.inr rfl)).elim
      · exact r.inj _ _ _ h2 h4
  · rcases ownAt_cases e with ⟨h1, h2, rfl⟩ | ⟨h1, h2⟩
    · exact ⟨hz, _, hp, True.intro⟩
    · exact ⟨fun z => (r.wo j b h2).1 (.inl z), (r.wo j b h2).2⟩
theorem Stp.ownAt {p : Addr} {H0 : Hp} {W0 : Own} (x : Stp c W0 H0 W H) (hp : H0 p = none) (i : Nat) : Stp c W0 H0 (ownAt W i p) H := ⟨x.keep, x.dom, fun j a e => by
  rcases ownAt_cases e with ⟨h1, h2, rfl⟩ | ⟨h1, h2⟩
  · exact .inr hp
  · exact x.new j a h2, x.lc, fun m a hm e => by rw [ownAt_cix] at e; exact x.cw m a hm e⟩
/-- all but Z's are free at the end of a def -/
theorem DV.free {v : V} {d : D} (h : DV K (blk Z W) H v d) : DV K Z H v d := DV.mono (fun a o e _ n => ⟨e, fun z => n (.inl z)⟩) _ _ h
end
section
variable {X : Cx} {XP : XPt} {pos : Pos} {e : Expr} {f : Mo Ref} {st : Stmt} {rest : List Stmt} {g h : ES → SR}
theorem qs_nil : QSs X XP [] sNx := PSs.imp pss_nil fun D σ H ⟨c, Z, W, s, r, h⟩ => h σ W H .refl r
theorem qs_cons (h1 : QS X XP st g) (h2 : QSs X XP rest h) : QSs X XP (st :: rest) (sSeq g h) := PSs.imp (pss_cons h1 h2) fun D σ H ⟨c, Z, W, s, r, h⟩ => ⟨c, Z, W, s, r, h.seq⟩
theorem qs_one (h1 : QS X XP st g) : QSs X XP [st] g := pss_one h1
theorem qs_pass : QS X XP (.Pass pos) sNx := PS.imp ps_pass fun D σ H ⟨c, Z, W, s, r, h⟩ => h σ W H .refl r
theorem qs_break : QS X XP (.Break pos) sBk := PS.imp ps_break fun D σ H ⟨c, Z, W, s, r, h⟩ => h σ W H .refl r
theorem qs_continue : QS X XP (.Continue pos) sCt := PS.imp ps_continue fun D σ H ⟨c, Z, W, s, r, h⟩ => h σ W H .refl r
theorem qs_retN : QS X XP (.Return none pos) sRetN := PS.imp ps_retN fun D σ H ⟨c, Z, W, s, r, h⟩ => h V.non W H .refl r.T r.cL r.cel r.tb .non
theorem qs_expr (he : QE X XP e f) (hs : swapsWith e none pos.line X.env = pure false := by rfl) : QS X XP (.Expr e pos) (sExpr f) := PS.imp (ps_expr he hs) fun D σ H ⟨c, Z, W, s, r, h⟩ =>
  ⟨c, Z, W, s, r, h.bind.imp fun q s1 W1 H1 x1 r1 h1 v rv => h1 σ W1 H1 .refl r1⟩
theorem qs_ret (he : QE X XP e f) : QS X XP (.Return (some e) pos) (sRet f) := PS.imp (ps_ret he) fun D σ H ⟨c, Z, W, s, r, h⟩ =>
  ⟨c, Z, W, s, r, (h.bind (σ := σ)).bind.imp fun q s1 W1 H1 x1 r1 h1 v rv => by
    have h1' : Run X.K XP c Z W1 σ H1 (bnd (dur q) (fun d s => Rs.ok d s) s1) fun d s2 W2 H2 => RunS X.K XP c Z W2 H2 (.rt d s2.T) D := by
      have e : bnd (dur q) (fun d s => Rs.ok d s) s1 = dur q s1 := by unfold bnd; cases dur q s1 <;> rfl
      rw [e]; exact h1
    obtain ⟨d, s2, W2, x2, r2, dv, h2⟩ := h1'.dur r1 rv
    exact h2 W2 H1 .refl r2 v W2 H1 .refl r2.T r2.cL r2.cel r2.tb dv.free⟩
theorem qs_retC (he : QE X XP e f) : QS X XP (.Return (some e) pos) (sRetC f) := PS.imp (ps_ret he) fun D σ H ⟨c, Z, W, s, r, h⟩ =>
  ⟨c, Z, W, s, r, (h.bind (σ := σ)).imp fun q s1 W1 H1 x1 r1 h1 v rv => by
    cases q with
    | cel n => exact h1 v W1 H1 .refl r1.T r1.cL r1.cel r1.tb rv.1 rv.2
    | d d => exact h1.elim
    | slot i => exact h1.elim⟩
theorem qs_if {t : Expr} {a b : List Stmt} {ft : Mo Bool} (ht : QT X XP t ft) (ha : QSs X XP a g) (hb : QSs X XP b h) : QS X XP (.If t a b pos) (sIf ft g h) := PS.imp (ps_if ht ha hb) fun D σ H ⟨c, Z, W, s, r, h⟩ =>
  ⟨c, Z, W, s, r, h.bind.imp fun k s1 W1 H1 x1 r1 h1 => by
    cases k with
    | true => exact iteT ⟨c, Z, W1, s1, r1, h1⟩
    | false => exact iteF ⟨c, Z, W1, s1, r1, h1⟩⟩
/-- name = value, by the rule that stores it -/
theorem set_val {i : Nat} {t : TE} (hp : PS X st (tAsg t (gName i))) (imp : ∀ σ H Q, tE X.K XP f σ H Q → t σ H Q) : QS X XP st (sSet i f) := PS.imp hp fun D σ H ⟨c, Z, W, s, r, h⟩ => imp σ H _
  ⟨c, Z, W, s, r, (h.bind (σ := σ)).bind.imp fun q s1 W1 H1 x1 r1 h1 v rv => by
    have h1' : Run X.K XP c Z W1 σ H1 (bnd (dur q) (fun d s => Rs.ok d s) s1) fun d s2 W2 H2 => RunS X.K XP c Z W2 H2 (.nx (put i (.val d) s2)) D := by
      have e : bnd (dur q) (fun d s => Rs.ok d s) s1 = dur q s1 := by unfold bnd; cases dur q s1 <;> rfl
      rw [e]; exact h1
    obtain ⟨d, s2, W2, x2, r2, dv, h2⟩ := h1'.dur r1 rv
    exact h2 W2 H1 .refl r2 _ _ H1 (.unown i) (r2.put dv)⟩
theorem set_own {i : Nat} {t : TE} {f : Mo (List PyData)} (hp : PS X st (tAsg t (gName i))) (imp : ∀ σ H Q, tMk X.K XP f σ H Q → t σ H Q) : QS X XP st (sOwn i f) := PS.imp hp fun E σ H ⟨c, Z, W, s, r, h⟩ => imp σ H _ (by
  refine ⟨c, Z, W, s, r, ?_⟩
  unfold sOwn sE at h
  cases e : f s with
  | ok ds s' =>
    rw [e] at h
    intro p xs W' H' x hp r' hH dvs
    have hz : ¬ Z p := fun z => by obtain ⟨o, e⟩ := r.zt p z; rw [hp] at e; cases e
    exact h _ _ H' (x.ownAt hp i) (r'.putOwn hz r.cz hH dvs)
  | err code T => rw [e] at h; exact h
  | stuck => rw [e] at h; exact h)
theorem qs_set (i : Nat) {x : Str} {pos' : Pos} (hN : X.N.Nodup) (he : QE X XP e f) (hi : X.N[i]? = some x := by rfl) (hx : Loc X.env.scope x := by first | exact Or.inl rfl | exact Or.inr rfl) (hs : swapsWith e (some (.Name x pos')) pos.line X.env = pure false := by rfl)
    (hf : X.fn x = true ∨ X.env.scope.names.lookup x = some .local := by first | exact .inl rfl | exact .inr rfl | assumption) : QS X XP (.Assign [.Name x pos'] e pos) (sSet i f) := set_val (ps_set hN hi hx he hs hf) fun _ _ _ h => h
theorem qs_own (i : Nat) {x : Str} {pos' : Pos} {f : Mo (List PyData)} (hN : X.N.Nodup) (he : QM X XP e f) (hi : X.N[i]? = some x := by rfl) (hx : Loc X.env.scope x := by first | exact Or.inl rfl | exact Or.inr rfl) (hs : swapsWith e (some (.Name x pos')) pos.line X.env = pure false := by rfl)
    (hf : X.fn x = true ∨ X.env.scope.names.lookup x = some .local := by first | exact .inl rfl | exact .inr rfl | assumption) : QS X XP (.Assign [.Name x pos'] e pos) (sOwn i f) := set_own (ps_set hN hi hx he hs hf) fun _ _ _ h => h
end

/-! ### targets -/
/-- the slots but vs are as they were -/
def Agree (vs : List Nat) (σ σ' : Sl) : Prop := σ'.length = σ.length ∧ ∀ i, i ∉ vs → σ'[i]? = σ[i]?
abbrev Pat := D → ES → Option ES
def tGt (K : PySem.W.Frag) (vs : List Nat) (pt : Pat) : TG := fun v σ H Q => ∃ c Z W s d s', Rel K c Z W s σ H ∧ DV K (blk Z W) H v d ∧ pt d s = some s' ∧ ∀ σ' W', Stp c W H W' H → Rel K c Z W' s' σ' H → Agree vs σ σ' → Q σ' H
def tGs (K : PySem.W.Frag) (vs : List Nat) (pt : List D → ES → Option ES) : TGs := fun xs σ H Q => ∃ c Z W s ds s', Rel K c Z W s σ H ∧ DVs K (blk Z W) H xs ds ∧ pt ds s = some s' ∧ ∀ σ' W', Stp c W H W' H → Rel K c Z W' s' σ' H → Agree vs σ σ' → Q σ' H
def QG (X : Cx) (tg : Expr) (vs : List Nat) (pt : Pat) : Prop := PG X tg (tGt X.K vs pt)
def QGs (X : Cx) (tgs : List Expr) (vs : List Nat) (pt : List D → ES → Option ES) : Prop := PGs X tgs (tGs X.K vs pt)
def pName (i : Nat) : Pat := fun d s => some (put i (.val d) s)
def psNil : List D → ES → Option ES := fun ds s => match ds with
  | [] => some s
  | _ => none
def psCons (p : Pat) (ps : List D → ES → Option ES) : List D → ES → Option ES := fun ds s => match ds with
  | d :: r => match p d s with
    | some s1 => ps r s1
    | none => none
  | _ => none
def pTup (n : Nat) (ps : List D → ES → Option ES) : Pat := fun d s => match d with
  | .tuple ds => if ds.length = n then ps ds s else none
  | _ => none
section
variable {X : Cx} {pos : Pos} {vs us : List Nat}
theorem Agree.refl {σ : Sl} : Agree vs σ σ := ⟨rfl, fun _ _ => rfl⟩
theorem Agree.trans {σ σ1 σ2 : Sl} (a : Agree vs σ σ1) (b : Agree us σ1 σ2) : Agree (vs ++ us) σ σ2 := ⟨b.1.trans a.1, fun i hi => by
  rw [List.mem_append, not_or] at hi
  exact (b.2 i hi.2).trans (a.2 i hi.1)⟩
theorem qg_name (i : Nat) {x : Str} (hN : X.N.Nodup) (hi : X.N[i]? = some x := by rfl) (hx : Loc X.env.scope x := by first | exact Or.inl rfl | exact Or.inr rfl) (hf : X.fn x = true ∨ X.env.scope.names.lookup x = some .local := by first | exact .inl rfl | exact .inr rfl | assumption) :
    QG X (.Name x pos) [i] (pName i) := PG.imp (pg_name hN hi hx hf) fun v σ H Q ⟨c, Z, W, s, d, s', r, dv, hp, h⟩ => by
  cases hp
  refine h _ _ (.unown i) (r.put dv) ⟨by simp, fun j hj => ?_⟩
  rw [List.getElem?_set_ne (fun e => hj (by simp [e]))]
theorem qgs_nil : QGs X [] [] psNil := by
  refine ⟨fun pins s σ H vs us Q I r h => pgs_nil.run pins s σ H vs us Q I r ?_⟩
  obtain ⟨c, Z, W, s, ds, s', rl, dvs, hp, h⟩ := h
  cases dvs with
  | nil => cases hp; exact ⟨rfl, h σ W .refl rl .refl⟩
  | cons _ _ => cases hp
theorem qgs_cons {e : Expr} {es : List Expr} {p : Pat} {ps : List PyData → ES → Option ES} (h1 : QG X e vs p) (h2 : QGs X es us ps)
    (hs : (assignEach (e :: es) X.env).map (·.2) = assign e X.env :: (assignEach es X.env).map (·.2) := by rfl) : QGs X (e :: es) (vs ++ us) (psCons p ps) := by
  refine ⟨fun pins s σ H xs vals Q I r h => (pgs_cons h1 h2 hs).run pins s σ H xs vals Q I r ?_⟩
  obtain ⟨c, Z, W, s, ds, s', rl, dvs, hp, h⟩ := h
  cases dvs with
  | nil => cases hp
  | cons dv dvs =>
    rename_i v vr d dr
    unfold psCons at hp
    dsimp only at hp
    cases e1 : p d s with
    | none => rw [e1] at hp; cases hp
    | some s1 =>
      rw [e1] at hp
      refine ⟨v, vr, rfl, c, Z, W, s, d, s1, rl, dv, e1, fun σ1 W1 x1 r1 a1 => ⟨c, Z, W1, s1, dr, s', r1, dvs.step rl x1, hp, fun σ2 W2 x2 r2 a2 => h σ2 W2 (x1.trans x2) r2 (a1.trans a2)⟩⟩
theorem qg_tup {es : List Expr} {k : Nat} {ps : List PyData → ES → Option ES} (n : Nat) (hc : X.calm = true) (h : QGs X es vs ps) (hn : (assignEach es X.env).length = n := by rfl) (hst : (assignEach es X.env).findIdx? (·.1) = none := by rfl) :
    QG X (.Tuple es k pos) vs (pTup n ps) := PG.imp (pg_tup (n := n) hc h hn hst) fun v σ H Q ⟨c, Z, W, s, d, s', r, dv, hp, h⟩ => by
  unfold pTup at hp
  cases d with
  | tuple ds =>
    dsimp only at hp
    split at hp
    · rename_i hl
      cases dv with
      | tup ht dvs => exact ⟨_, _, rfl, ht.seq, by rw [dvs.len]; exact hl, c, Z, W, s, ds, s', r, dvs, hp, h⟩
    · cases hp
  | none => cases hp
  | bool _ => cases hp
  | int _ => cases hp
  | str _ => cases hp
  | list _ => cases hp
  | dict _ => cases hp
end
def sAsg (f : Mo Ref) (pt : Pat) : ES → SR := sE (bnd f dur) fun d s => match pt d s with
  | some s' => .nx s'
  | none => .stuck
theorem qs_asg {X : Cx} {XP : XPt} {pos : Pos} {tg e : Expr} {vs : List Nat} {f : Mo Ref} {pt : Pat} (he : QE X XP e f) (hg : QG X tg vs pt) (hs : swapsWithSole [tg] e pos.line X.env = pure false := by rfl) (hw : swappedStores [tg] e X.env = pure none := by rfl)
    (h1 : (assignEach [tg] X.env).map (·.2) = [assign tg X.env] := by rfl) : QS X XP (.Assign [tg] e pos) (sAsg f pt) := PS.imp (ps_asg he hg hs hw h1) fun D σ H ⟨c, Z, W, s, r, h⟩ =>
  ⟨c, Z, W, s, r, (h.bind (σ := σ)).bind.imp fun q s1 W1 H1 x1 r1 h1 v rv => by
    have h1' : Run X.K XP c Z W1 σ H1 (bnd (dur q) (fun d s => Rs.ok d s) s1) fun d s2 W2 H2 => RunS X.K XP c Z W2 H2 (match pt d s2 with
        | some s' => .nx s'
        | none => .stuck) D := by
      have e : bnd (dur q) (fun d s => Rs.ok d s) s1 = dur q s1 := by unfold bnd; cases dur q s1 <;> rfl
      rw [e]; exact h1
    obtain ⟨d, s2, W2, x2, r2, dv, h2⟩ := h1'.dur r1 rv
    have h3 := h2 W2 H1 .refl r2
    dsimp only at h3
    cases e : pt d s2 with
    | none => rw [e] at h3; exact h3.elim
    | some s' =>
      rw [e] at h3
      exact ⟨c, Z, W2, s2, d, s', r2, dv, e, fun σ' W' x' r' _ => h3 σ' W' H1 x' r'⟩⟩
end Ev
set_option Elab.async false
set_option linter.all false
set_option maxRecDepth 100000
set_option maxHeartbeats 2000000
/-! Ev4: what is walked; for, while; comprehensions -/
namespace Ev
open PySem PySem.Spec PyProof.Rows L2

structure ItOk (K : PySem.W.Frag) (J : It) (B : Addr → Prop) (H0 : Hp) (ds : List D) : Prop where
  stop : ∀ H, (∀ b o, H0 b = some o → NT o → ¬ B b → H b = some o) → J.stop ds.length H
  go : ∀ i d H, (∀ b o, H0 b = some o → NT o → ¬ B b → H b = some o) → ds[i]? = some d → J.go i H
  yld : ∀ i d H x H', (∀ b o, H0 b = some o → NT o → ¬ B b → H b = some o) → ds[i]? = some d → J.yld i H x H' → Grow H H' ∧ ∀ B', (∀ a, B' a → ∃ o, H a = some o) → (∀ a, B' a → B a ∨ H0 a = none) → DV K B' H' x d
def tI (K : PySem.W.Frag) (XP : XPt) (f : Mo (List D)) : TI := fun σ H R => ∃ c Z W s, Rel K c Z W s σ H ∧ Run K XP c Z W σ H (f s) fun ds _ W' H' => ∀ J, ItOk K J (blk Z W') H' ds → R J H'
def QI (X : Cx) (XP : XPt) (tg iter : Expr) (f : Mo (List D)) : Prop := PI X tg iter (tI X.K XP f)
section
variable {K : PySem.W.Frag} {B : Addr → Prop} {H0 : Hp} {a : Addr} {xs : List V} {ds : List D}
theorem it_mono {B' : Addr → Prop} {H : Hp} (k : ∀ b o, H0 b = some o → NT o → ¬ B b → H b = some o) (h : ∀ a, B' a → B a ∨ H0 a = none) : ∀ a o, H0 a = some o → NT o → ¬ B a → H a = some o ∧ ¬ B' a := fun a o e t n => ⟨k a o e t n, fun q => by
  rcases h a q with z | z
  · exact n z
  · rw [e] at z; cases z⟩
theorem it_list (h : H0 a = some (.lst xs)) (n : ¬ B a) (dvs : DVs K B H0 xs ds) : ItOk K (Itl K a) B H0 ds where
  stop := fun H k => ⟨xs, SqL.of (k _ _ h nt_lst n), by rw [dvs.len]; exact Nat.le_refl _⟩
  go := fun i d H k e => by obtain ⟨v, e', _⟩ := dvs.get e; exact ⟨xs, v, SqL.of (k _ _ h nt_lst n), e'⟩
  yld := fun i d H x H' k e y => by
    obtain ⟨rfl, y⟩ := y
    have y' := y xs (SqL.of (k _ _ h nt_lst n))
    obtain ⟨v, e', dv⟩ := dvs.get e
    rw [e'] at y'; cases y'
    exact ⟨.refl, fun B' hb hn => DV.mono (it_mono k hn) _ _ dv⟩
theorem it_tup (h : TupAt K B H0 a xs) (dvs : DVs K B H0 xs ds) : ItOk K (Itt K a) B H0 ds := by
  have sq : ∀ H, (∀ b o, H0 b = some o → NT o → ¬ B b → H b = some o) → SqT K H a xs := fun H k => by
    rcases h with ⟨h, n⟩ | h
    · exact SqT.of (k _ _ h nt_tup n)
    · exact .inr h
  refine ⟨fun H k => ⟨xs, sq H k, by rw [dvs.len]; exact Nat.le_refl _⟩, fun i d H k e => ?_, fun i d H x H' k e y => ?_⟩
  · obtain ⟨v, e', _⟩ := dvs.get e; exact ⟨xs, v, sq H k, e'⟩
  · obtain ⟨rfl, y⟩ := y
    have y' := y xs (sq _ k)
    obtain ⟨v, e', dv⟩ := dvs.get e
    rw [e'] at y'; cases y'
    exact ⟨.refl, fun B' hb hn => DV.mono (it_mono k hn) _ _ dv⟩
theorem it_rng {lo : Int} {n : Nat} : ItOk K (Itr lo n) B H0 ((List.range n).map fun i => .int (lo + (i : Nat))) := by
  refine ⟨fun H k => ?_, fun i d H k e => ?_, fun i d H x H' k e y => ?_⟩
  · show n ≤ _
    rw [List.length_map, List.length_range]; exact Nat.le_refl _
  · have := (List.getElem?_eq_some_iff.mp e).1
    rw [List.length_map, List.length_range] at this
    exact this
  · obtain ⟨rfl, rfl⟩ := y
    have hi := (List.getElem?_eq_some_iff.mp e).1
    rw [List.length_map, List.length_range] at hi
    rw [List.getElem?_map, List.getElem?_range hi] at e
    cases e
    exact ⟨.refl, fun B' hb hn => .int _⟩
end

/-- a list or a tuple that stays as it is -/
def iSq (K : PySem.W.Frag) (tl : TE) : TI := fun σ H R => tl σ H fun x H1 => ∃ a, x = V.ref a ∧ ((∃ xs, SqL K H1 a xs ∧ R (Itl K a) H1) ∨ ∃ xs, SqT K H1 a xs ∧ R (Itt K a) H1)
section
variable {X : Cx} {XP : XPt} {tg : Expr}
theorem pi_seq {l : Expr} {tl : TE} (hl : PE X l tl) : PI X tg l (iSq X.K tl) := by
  refine ⟨fun pins s σ H R I h => ?_⟩
  refine thn (hl.run pins s σ H _ I h) fun v s1 ⟨x, H1, I1, r1, q1⟩ => ?_
  obtain ⟨a, e, q⟩ := q1
  subst e
  cases r1
  rcases q with ⟨xs, hq, q⟩ | ⟨xs, hq, q⟩
  · obtain ⟨its, rv, p, hz⟩ := I1.list hq
    refine wpAny_pyIter_list p.isList ?_
    refine ⟨s1.heap.objs.size, [s1.heap.objs.size], _, _, H1, rfl, I1.kept (t' := s1.toks) fun b o e => Heap.get?_push_of_some _ e, turn_list a _, ⟨_, Heap.get?_push_size _ rfl, rfl, rfl⟩, fun b hb => ?_, q⟩
    have e : b = s1.heap.objs.size := by simpa using hb
    subst e
    exact I1.fpOk (Nat.le_refl _) (I1.hok.fresh (Nat.le_refl _))
  · obtain ⟨its, rv, p, hz⟩ := I1.tuple hq
    refine wpAny_pyIter_tuple (show s1.heap.IsTuple a its.toArray from p) ?_
    refine ⟨s1.heap.objs.size, [s1.heap.objs.size], _, _, H1, rfl, I1.kept (t' := s1.toks) fun b o e => Heap.get?_push_of_some _ e, turn_tuple a _, ⟨_, Heap.get?_push_size _ rfl, rfl, rfl⟩, fun b hb => ?_, q⟩
    have e : b = s1.heap.objs.size := by simpa using hb
    subst e
    exact I1.fpOk (Nat.le_refl _) (I1.hok.fresh (Nat.le_refl _))
def seqOf : D → Option (List D)
  | .list ds => some ds
  | .tuple ds => some ds
  | _ => none
def liftL (o : Option (List D)) : Mo (List D) := fun s => match o with
  | some d => .ok d s
  | none => .stuck
def iSeq (f : Mo Ref) : Mo (List D) := bnd f fun q => bnd (dur q) fun d => liftL (seqOf d)
theorem qi_seq {l : Expr} {f : Mo Ref} (hl : QE X XP l f) : QI X XP tg l (iSeq f) := PI.imp (pi_seq hl) fun σ H R ⟨c, Z, W, s, r, h⟩ =>
  ⟨c, Z, W, s, r, h.bind.imp fun q s1 W1 H1 x1 r1 h1 v rv => by
    obtain ⟨d, s2, W2, x2, r2, dv, h2⟩ := h1.dur r1 rv
    cases dv with
    | lst ha n dvs => exact ⟨_, rfl, .inl ⟨_, SqL.of ha, h2 W2 H1 .refl r2 _ (it_list ha n dvs)⟩⟩
    | tup ha dvs => exact ⟨_, rfl, .inr ⟨_, ha.seq, h2 W2 H1 .refl r2 _ (it_tup ha dvs)⟩⟩
    | non => exact h2.elim
    | bl _ => exact h2.elim
    | int _ => exact h2.elim
    | str _ => exact h2.elim⟩
def rngL (lo hi : Int) : List D := (List.range (hi - lo).toNat).map fun i => .int (lo + (i : Nat))
def inLine (i : Int) : Bool := decide (-(2 ^ 62) ≤ i) && decide (i < 2 ^ 62)
theorem inLine_of {i : Int} (h : inLine i = true) : -(2 ^ 62) ≤ i ∧ i < 2 ^ 62 := by
  unfold inLine at h
  rw [Bool.and_eq_true, decide_eq_true_eq, decide_eq_true_eq] at h
  exact h
def dRng1 : D → Option (List D)
  | .int j => if inLine j then some (rngL 0 j) else none
  | _ => none
def dRng2 : D → D → Option (List D)
  | .int i, .int j => if inLine i && inLine j then some (rngL i j) else none
  | _, _ => none
def rds : List Ref → Mo (List D)
  | [] => fun s => .ok [] s
  | q :: qs => bnd (rd q) fun d => bnd (rds qs) fun ds s => .ok (d :: ds) s
inductive TVs (K : PySem.W.Frag) (B : Addr → Prop) (H : Hp) : List V → List D → Prop
  | nil : TVs K B H [] []
  | cons {v : V} {vs : List V} {d : D} {ds : List D} : TV K B H v d → TVs K B H vs ds → TVs K B H (v :: vs) (d :: ds)
theorem rds_get {β : Type} {K : PySem.W.Frag} {c : Option (Addr × Addr)} {Z : Addr → Prop} {σ : Sl} {H : Hp} {W : Own} {s : ES} : ∀ {qs : List Ref} {k : List D → Mo β} {vs : List V} (r : Rel K c Z W s σ H) (rv : RVs K Z W H σ vs qs) (h : bnd (Ev.rds qs) k s ≠ .stuck),
    ∃ ds, TVs K (blk Z W) H vs ds ∧ bnd (Ev.rds qs) k s = k ds s
  | [], k, _, r, .nil, h => ⟨[], .nil, rfl⟩
  | q :: qs, k, _, r, .cons rv rvs, h => by
    have e : bnd (Ev.rds (q :: qs)) k s = bnd (Ev.rd q) (fun d => bnd (Ev.rds qs) fun ds => k (d :: ds)) s := by
      show bnd (bnd (Ev.rd q) fun d => bnd (Ev.rds qs) fun ds s => .ok (d :: ds) s) k s = _
      unfold bnd
      cases Ev.rd q s with
      | ok d s1 =>
        dsimp only
        cases Ev.rds qs s1 <;> rfl
      | err c T => rfl
      | stuck => rfl
    rw [e] at h ⊢
    obtain ⟨d, t, e1⟩ := rd_get r rv h
    rw [e1] at h ⊢
    obtain ⟨ds, ts, e2⟩ := rds_get r rvs h
    exact ⟨d :: ds, .cons t ts, e2⟩
theorem Run.rds {β : Type} {K : PySem.W.Frag} {XP : XPt} {c : Option (Addr × Addr)} {Z : Addr → Prop} {σ : Sl} {H : Hp} {qs : List Ref} {W : Own} {s : ES} {k : List D → Mo β} {Q : β → ES → Own → Hp → Prop} {vs : List V} (r : Rel K c Z W s σ H) (rv : RVs K Z W H σ vs qs) (h : Run K XP c Z W σ H (bnd (Ev.rds qs) k s) Q) :
    ∃ ds, TVs K (blk Z W) H vs ds ∧ Run K XP c Z W σ H (k ds s) Q := by
  obtain ⟨ds, t, e⟩ := rds_get r rv h.ne
  exact ⟨ds, t, e ▸ h⟩
theorem RunM.rds {K : PySem.W.Frag} {XP : XPt} {c : Option (Addr × Addr)} {Z : Addr → Prop} {σ : Sl} {H : Hp} {qs : List Ref} {W : Own} {s : ES} {k : List D → Mo (List D)} {Q : VK} {vs : List V} (r : Rel K c Z W s σ H) (rv : RVs K Z W H σ vs qs) (h : RunM K XP c Z W σ H (bnd (Ev.rds qs) k s) Q) :
    ∃ ds, TVs K (blk Z W) H vs ds ∧ RunM K XP c Z W σ H (k ds s) Q := by
  obtain ⟨ds, t, e⟩ := rds_get r rv h.ne
  exact ⟨ds, t, e ▸ h⟩
theorem Run.liftL {K : PySem.W.Frag} {XP : XPt} {c : Option (Addr × Addr)} {Z : Addr → Prop} {W : Own} {σ : Sl} {H : Hp} {s : ES} {o : Option (List D)} {Q : List D → ES → Own → Hp → Prop} (h : Run K XP c Z W σ H (Ev.liftL o s) Q) :
    ∃ d, o = some d ∧ Run K XP c Z W σ H (.ok d s) Q := by
  cases o with
  | none => exact h.elim
  | some d => exact ⟨d, rfl, h⟩
def iR1 (f : Mo Ref) : Mo (List D) := bnd f fun q => bnd (rd q) fun d => liftL (dRng1 d)
def iR2 (f g : Mo Ref) : Mo (List D) := bnd f fun q => bnd g fun q2 => bnd (rd q) fun d => bnd (rd q2) fun d2 => liftL (dRng2 d d2)
theorem it_rngL {K : PySem.W.Frag} {B : Addr → Prop} {H0 : Hp} {lo hi : Int} {n : Nat} (e : (hi - lo).toNat = n) : ItOk K (Itr lo n) B H0 (rngL lo hi) := by
  unfold rngL; rw [e]; exact it_rng
theorem qi_rng1 {a : Expr} {f : Mo Ref} {p pos : Pos} (hm : X.mg "range" = none) (ha : QE X XP a f) (hg : Gl X "range" := by rfl) (hs : starEach [a] X.env = [(false, eval a X.env)] := by rfl) : QI X XP tg (.Call (.Name "range" p) [a] [] pos) (iR1 f) :=
  PI.imp (pi_range1 hg hm (pa_cons ha pa_nil hs) hs) fun σ H R ⟨c, Z, W, s, r, h⟩ => ⟨c, Z, W, s, r, h.bind.imp fun q s1 W1 H1 x1 r1 h1 v rv => by
    obtain ⟨d, t, h2⟩ := h1.rd r1 rv
    obtain ⟨es, he, h3⟩ := h2.liftL
    cases d with
    | int j =>
      cases t.int
      have he : (if inLine j then some (rngL 0 j) else none) = some es := he
      split at he
      · rename_i hj
        cases he
        exact ⟨j, rfl, (inLine_of hj).1, (inLine_of hj).2, h3 W1 H1 .refl r1 _ (it_rngL (by simp))⟩
      · cases he
    | none => cases he
    | bool _ => cases he
    | str _ => cases he
    | list _ => cases he
    | tuple _ => cases he
    | dict _ => cases he⟩
theorem qi_rng2 {a b : Expr} {f g : Mo Ref} {p pos : Pos} (hm : X.mg "range" = none) (ha : QE X XP a f) (hb : QE X XP b g) (hg : Gl X "range" := by rfl) (hs : starEach [a, b] X.env = [(false, eval a X.env), (false, eval b X.env)] := by rfl) (hs2 : starEach [b] X.env = [(false, eval b X.env)] := by rfl) :
    QI X XP tg (.Call (.Name "range" p) [a, b] [] pos) (iR2 f g) :=
  PI.imp (pi_range2 hg hm (pa_cons ha (pa_cons hb pa_nil hs2) (by rw [hs, hs2])) hs hs2) fun σ H R ⟨c, Z, W, s, r, h⟩ => ⟨c, Z, W, s, r, h.bind.imp fun q s1 W1 H1 x1 r1 h1 v rv => ⟨c, Z, W1, s1, r1, h1.bind.imp fun q2 s2 W2 H2 x2 r2 h2 v2 rv2 => by
    obtain ⟨d, t, h3⟩ := h2.rd r2 (rv.step r1 x2)
    obtain ⟨d2, t2, h4⟩ := h3.rd r2 rv2
    obtain ⟨es, he, h5⟩ := h4.liftL
    unfold dRng2 at he
    split at he
    · rename_i i j
      cases t.int
      cases t2.int
      split at he
      · rename_i hj
        rw [Bool.and_eq_true] at hj
        cases he
        obtain ⟨a1, a2⟩ := inLine_of hj.1
        obtain ⟨a3, a4⟩ := inLine_of hj.2
        exact ⟨i, j, rfl, ⟨a1, a2, a3, a4⟩, h5 W2 H2 .refl r2 _ (it_rngL rfl)⟩
      · cases he
    · cases he⟩⟩
end

/-! ### for -/
def forL (pt : Pat) (body : ES → SR) : List D → ES → SR
  | [], s => .nx s
  | d :: r, s => match pt d s with
    | none => .stuck
    | some s1 => match body s1 with
      | .nx s2 => forL pt body r s2
      | .ct s2 => forL pt body r s2
      | .bk s2 => .nx s2
      | .rt d T => .rt d T
      | .rc n T => .rc n T
      | .err c T => .err c T
      | .stuck => .stuck
def sFor (fi : Mo (List D)) (pt : Pat) (body : ES → SR) : ES → SR := sE fi fun ds s => forL pt body ds s
theorem qs_for {X : Cx} {XP : XPt} {pos : Pos} {tg iter : Expr} {body : List Stmt} {fi : Mo (List D)} {vs : List Nat} {pt : Pat} {g : ES → SR} (hp : PassesOwn (model X.prog X.w) X.A X.env X.xe) (hc : X.calm = true) (hi : QI X XP tg iter fi) (hg : QG X tg vs pt) (hb : QSs X XP body g)
    (hs : ∀ x, foldedSetIterable iter X.env x = pure x := by intro _; rfl) : QS X XP (.For tg iter body [] pos) (sFor fi pt g) := PS.imp (ps_for hp hc hi hg hb hs) fun E σ H ⟨c, Z, W, s, r, h⟩ => by
  refine ⟨c, Z, W, s, r, h.bind.imp fun ds s1 W1 H1 x1 r1 h1 J ij => ?_⟩
  refine ⟨fun i m σ' H' => m = ds.length - i ∧ i ≤ ds.length ∧ ∃ Wk sk, Stp c W1 H1 Wk H' ∧ Rel X.K c Z Wk sk σ' H' ∧ RunS X.K XP c Z Wk H' (forL pt g (ds.drop i) sk) E,
    ⟨_, rfl, Nat.zero_le _, W1, s1, .refl, r1, h1⟩, ?_⟩
  rintro i m σ2 H2 ⟨rfl, hil, Wk, sk, xk, rk, hk⟩
  have kp : ∀ b o, H1 b = some o → NT o → ¬ blk Z W1 b → H2 b = some o := fun b o e t n => (r1.over xk b o e t n).1
  by_cases hlt : i < ds.length
  · have ed : ds[i]? = some ds[i] := List.getElem?_eq_getElem hlt
    have edr : ds.drop i = ds[i] :: ds.drop (i + 1) := List.drop_eq_getElem_cons hlt
    rw [edr] at hk
    refine .inr ⟨ij.go i _ _ kp ed, fun σ' H' => ∃ m', m' < ds.length - i ∧ (m' = ds.length - (i + 1) ∧ i + 1 ≤ ds.length ∧ ∃ Wk sk, Stp c W1 H1 Wk H' ∧ Rel X.K c Z Wk sk σ' H' ∧ RunS X.K XP c Z Wk H' (forL pt g (ds.drop (i + 1)) sk) E), fun σ' H' h => h, fun x H3 y => ?_⟩
    obtain ⟨gr, dvB⟩ := ij.yld i _ _ _ _ kp ed y
    have dv : DV X.K (blk Z Wk) H3 x ds[i] := dvB (blk Z Wk) (fun a b => rk.blkT b) fun a b => by
      rcases b with z | ⟨j, z⟩
      · exact .inl (.inl z)
      · rcases xk.new j a z with ⟨j', z'⟩ | z'
        · exact .inl (.inr ⟨j', z'⟩)
        · exact .inr z'
    have rk3 := rk.grow gr
    unfold forL at hk
    cases e1 : pt ds[i] sk with
    | none => rw [e1] at hk; exact hk.elim
    | some s4 =>
      rw [e1] at hk
      dsimp only at hk
      refine ⟨c, Z, Wk, sk, _, s4, rk3, dv, e1, fun σ4 W4 x4 r4 _ => ⟨c, Z, W4, s4, r4, ?_⟩⟩
      have x5 : Stp c W1 H1 W4 H3 := xk.trans (gr.stp.trans x4)
      have hk4 := RunS.step (gr.stp.trans x4) hk
      cases e2 : g s4 with
      | nx s6 =>
        rw [e2] at hk4
        exact fun σ6 W6 H6 x6 r6 => ⟨_, by omega, rfl, hlt, W6, s6, x5.trans x6, r6, RunS.step x6 hk4⟩
      | ct s6 =>
        rw [e2] at hk4
        exact fun σ6 W6 H6 x6 r6 => ⟨_, by omega, rfl, hlt, W6, s6, x5.trans x6, r6, RunS.step x6 hk4⟩
      | bk s6 =>
        rw [e2] at hk4
        exact hk4
      | rt d T => rw [e2] at hk4; exact hk4
      | rc n T => rw [e2] at hk4; exact hk4
      | err cd T => rw [e2] at hk4; exact hk4
      | stuck => rw [e2] at hk4; exact hk4
  · have ei : i = ds.length := by omega
    subst ei
    rw [List.drop_length] at hk
    exact .inl ⟨ij.stop _ kp, hk _ Wk _ .refl rk⟩

/-! ### while -/
def whileF (t : Mo Bool) (g : ES → SR) : Nat → ES → SR
  | 0, _ => .stuck
  | n + 1, s => sE t (fun b => if b then (fun s1 => match g s1 with
      | .nx s2 => whileF t g n s2
      | .ct s2 => whileF t g n s2
      | .bk s2 => .nx s2
      | .rt d T => .rt d T
      | .rc n T => .rc n T
      | .err c T => .err c T
      | .stuck => .stuck) else fun s1 => .nx s1) s
def sWhile (fuel : Nat) (t : Mo Bool) (g : ES → SR) : ES → SR := whileF t g fuel
theorem qs_while {X : Cx} {XP : XPt} {pos : Pos} {t : Expr} {body : List Stmt} {ft : Mo Bool} {g : ES → SR} (fuel : Nat) (hp : PassesOwn (model X.prog X.w) X.A X.env X.xe) (ht : QT X XP t ft) (hb : QSs X XP body g) : QS X XP (.While t body [] pos) (sWhile fuel ft g) :=
  PS.imp (ps_while hp ht hb) fun E σ H ⟨c, Z, W, s, r, h⟩ => by
  refine ⟨fun m σ' H' => ∃ Wk sk, Rel X.K c Z Wk sk σ' H' ∧ RunS X.K XP c Z Wk H' (whileF ft g m sk) E, ⟨fuel, W, s, r, h⟩, ?_⟩
  rintro m σ1 H1 ⟨W1, s1, r1, h1⟩
  cases m with
  | zero => exact h1.elim
  | succ m =>
    have h1 : RunS X.K XP c Z W1 H1 (sE ft _ s1) E := h1
    refine ⟨c, Z, W1, s1, r1, h1.bind.imp fun b s2 W2 H2 x2 r2 h2 => ?_⟩
    cases b with
    | true =>
      refine iteT ⟨fun σ' H' => ∃ m', m' < m + 1 ∧ ∃ Wk sk, Rel X.K c Z Wk sk σ' H' ∧ RunS X.K XP c Z Wk H' (whileF ft g m' sk) E, fun _ _ h => h, c, Z, W2, s2, r2, ?_⟩
      have h2 : RunS X.K XP c Z W2 H2 (match g s2 with
        | .nx s2 => whileF ft g m s2
        | .ct s2 => whileF ft g m s2
        | .bk s2 => .nx s2
        | .rt d T => .rt d T
        | .rc n T => .rc n T
        | .err c T => .err c T
        | .stuck => .stuck) E := h2
      cases e2 : g s2 with
      | nx s6 =>
        rw [e2] at h2
        exact fun σ6 W6 H6 x6 r6 => ⟨m, by omega, W6, s6, r6, RunS.step x6 h2⟩
      | ct s6 =>
        rw [e2] at h2
        exact fun σ6 W6 H6 x6 r6 => ⟨m, by omega, W6, s6, r6, RunS.step x6 h2⟩
      | bk s6 => rw [e2] at h2; exact h2
      | rt d T => rw [e2] at h2; exact h2
      | rc n T => rw [e2] at h2; exact h2
      | err cd T => rw [e2] at h2; exact h2
      | stuck => rw [e2] at h2; exact h2
    | false => exact iteF (h2 _ W2 H2 .refl r2)
end Ev
set_option Elab.async false
set_option linter.all false
set_option maxRecDepth 100000
set_option maxHeartbeats 2000000
/-! Ev5: comprehensions; defs and calls -/
namespace Ev
open PySem PySem.Spec PyProof.Rows L2

def wipeS : List (Option SV) → List Nat → List (Option SV)
  | σ, [] => σ
  | σ, v :: vs => (wipeS σ vs).set v none
def wipeE (vs : List Nat) (s : ES) : ES := { s with σ := wipeS s.σ vs }
/-- what an outer name of a block's own name holds behind it -/
def backV : Option (Option SV) → Option SV
  | some (some (.val d)) => some (.val d)
  | some (some .cur) => some .cur
  | _ => none
def backS (σ0 : List (Option SV)) : List (Option SV) → List Nat → List (Option SV)
  | σ, [] => σ
  | σ, v :: vs => (backS σ0 σ vs).set v (backV σ0[v]?)
def backE (vs : List Nat) (s0 s : ES) : ES := { s with σ := backS s0.σ s.σ vs }
section
theorem wipeS_len : ∀ (vs : List Nat) (σ : List (Option SV)), (wipeS σ vs).length = σ.length
  | [], σ => rfl
  | v :: vs, σ => by unfold wipeS; rw [List.length_set, wipeS_len vs]
theorem wipeS_some {σ : List (Option SV)} {i : Nat} {x : SV} : ∀ {vs : List Nat}, (wipeS σ vs)[i]? = some (some x) → σ[i]? = some (some x) ∧ i ∉ vs
  | [], h => ⟨h, by simp⟩
  | v :: vs, h => by
    unfold wipeS at h
    by_cases hi : v = i
    · subst hi
      by_cases hv : v < (wipeS σ vs).length
      · rw [List.getElem?_set_self hv] at h; cases h
      · rw [List.getElem?_eq_none (by simpa using hv)] at h; cases h
    · rw [List.getElem?_set_ne hi] at h
      obtain ⟨h1, h2⟩ := wipeS_some h
      exact ⟨h1, by simp only [List.mem_cons, not_or]; exact ⟨fun e => hi e.symm, h2⟩⟩
theorem backS_len {σ0 : List (Option SV)} : ∀ (vs : List Nat) (σ : List (Option SV)), (backS σ0 σ vs).length = σ.length
  | [], σ => rfl
  | v :: vs, σ => by unfold backS; rw [List.length_set, backS_len vs]
theorem backS_some {σ0 σ : List (Option SV)} {i : Nat} {x : SV} : ∀ {vs : List Nat}, (backS σ0 σ vs)[i]? = some (some x) → (i ∉ vs ∧ σ[i]? = some (some x)) ∨ (i ∈ vs ∧ backV σ0[i]? = some x)
  | [], h => .inl ⟨by simp, h⟩
  | v :: vs, h => by
    unfold backS at h
    by_cases hi : v = i
    · subst hi
      by_cases hv : v < (backS σ0 σ vs).length
      · rw [List.getElem?_set_self hv] at h; exact .inr ⟨by simp, Option.some.inj h⟩
      · rw [List.getElem?_eq_none (by simpa using hv)] at h; cases h
    · rw [List.getElem?_set_ne hi] at h
      rcases backS_some h with ⟨h1, h2⟩ | ⟨h1, h2⟩
      · exact .inl ⟨by simp only [List.mem_cons, not_or]; exact ⟨fun e => hi e.symm, h1⟩, h2⟩
      · exact .inr ⟨by simp [h1], h2⟩
theorem wipe_out' {σ : Sl} {i : Nat} : ∀ {vs : List Nat}, i ∉ vs → (wipe σ vs)[i]? = σ[i]?
  | [], _ => rfl
  | v :: vs, h => by
    rw [List.mem_cons, not_or] at h
    unfold wipe
    rw [List.getElem?_set_ne (Ne.symm h.1)]
    exact wipe_out' h.2
theorem wipe_in {σ : Sl} {i : Nat} : ∀ {vs : List Nat}, i ∈ vs → (wipe σ vs)[i]? = if i < σ.length then some none else none
  | v :: vs, h => by
    unfold wipe
    by_cases hi : v = i
    · subst hi
      by_cases hv : v < σ.length
      · rw [List.getElem?_set_self (by rw [wipe_length]; exact hv), if_pos hv]
      · rw [List.getElem?_eq_none (by rw [List.length_set, wipe_length]; omega), if_neg hv]
    · rw [List.getElem?_set_ne hi]
      exact wipe_in (by simpa [Ne.symm hi] using h)
theorem wipe_agree {σ σ' : Sl} {vs us : List Nat} (a : Agree us (wipe σ vs) σ') (h : ∀ i ∈ us, i ∈ vs) : wipe σ' vs = wipe σ vs := by
  apply List.ext_getElem?
  intro i
  have hl : σ'.length = σ.length := by rw [a.1, wipe_length]
  by_cases hi : i ∈ vs
  · rw [wipe_in hi, wipe_in hi, hl]
  · rw [wipe_out' hi, wipe_out' hi, a.2 i (fun z => hi (h i z)), wipe_out' hi]
variable {K : PySem.W.Frag} {c : Option (Addr × Addr)} {Z : Addr → Prop} {W W0 : Own} {σ : Sl} {H H0 : Hp} {s s0 : ES}
theorem Rel.wipe (r : Rel K c Z W s σ H) (vs : List Nat) : Rel K c Z W (wipeE vs s) (wipe σ vs) H := by
  refine ⟨by show (wipeS s.σ vs).length = _; rw [wipeS_len, wipe_length, r.len], fun i sv e => ?_, r.inj, r.wo, r.zt, r.cz, r.T, r.tb, by show (wipeS s.σ vs).length ≤ _; rw [wipeS_len]; exact r.len1, r.cL, r.cel⟩
  obtain ⟨e1, n⟩ := wipeS_some e
  have q := r.slot i sv e1
  have es := wipe_out' (σ := σ) n
  cases sv with
  | val d => obtain ⟨v', h1, h2⟩ := q; exact ⟨v', es.trans h1, h2⟩
  | own ds => obtain ⟨a, xs, h1, h2, h3⟩ := q; exact ⟨a, xs, h1, es.trans h2, h3⟩
  | cur => obtain ⟨a, l, h1, h2⟩ := q; exact ⟨a, l, h1, es.trans h2⟩
  | cel n => obtain ⟨h0, v', h1, h2⟩ := q; exact ⟨h0, v', es.trans h1, h2⟩
/-- from the wiped slots to others that agree -/
theorem Rel.rewipe {σ2 : Sl} (r : Rel K c Z W s σ2 H) {vs : List Nat} (h : L2.wipe σ2 vs = L2.wipe σ vs) : Rel K c Z W (wipeE vs s) (L2.wipe σ vs) H := by
  have := r.wipe vs
  rwa [h] at this
theorem Rel.back {Z' : Addr → Prop} (r0 : Rel K c Z W0 s0 σ H0) (x : Stp c W0 H0 W H) (r : Rel K c (Z') W s (L2.wipe σ vs) H) (hz : ∀ a, Z a → Z' a) (hz' : ∀ a, Z' a → Z a ∨ H0 a = none) : Rel K c Z' W (backE vs s0 s) σ H := by
  refine ⟨by show (backS s0.σ s.σ vs).length = _; rw [backS_len, r.len, wipe_length], fun i sv e => ?_, r.inj, r.wo, r.zt, r.cz, r.T, r.tb, by show (backS s0.σ s.σ vs).length ≤ _; rw [backS_len]; exact r.len1, r.cL, r.cel⟩
  rcases backS_some e with ⟨n, e1⟩ | ⟨n, e1⟩
  · have q := r.slot i sv e1
    have es := wipe_out' (σ := σ) n
    cases sv with
    | val d => obtain ⟨v', h1, h2⟩ := q; exact ⟨v', es.symm.trans h1, h2⟩
    | own ds => obtain ⟨a, xs, h1, h2, h3⟩ := q; exact ⟨a, xs, h1, es.symm.trans h2, h3⟩
    | cur => obtain ⟨a, l, h1, h2⟩ := q; exact ⟨a, l, h1, es.symm.trans h2⟩
    | cel n => obtain ⟨h0, v', h1, h2⟩ := q; exact ⟨h0, v', es.symm.trans h1, h2⟩
  · unfold backV at e1
    split at e1
    · rename_i d hs
      cases e1
      obtain ⟨v, h1, h2⟩ := r0.slot i _ hs
      refine ⟨v, h1, DV.mono (fun a o e t n => ⟨(r0.over x a o e t n).1, ?_⟩) _ _ h2⟩
      rintro (z | ⟨j, z⟩)
      · rcases hz' a z with z | z
        · exact n (.inl z)
        · rw [e] at z; cases z
      · exact (r0.over x a o e t n).2 (.inr ⟨j, z⟩)
    · rename_i hs
      cases e1
      exact r0.slot i _ hs
    · cases e1
/-- a new list is laid at p, which nothing relies on -/
theorem Rel.addP {p : Addr} {vs : List V} (r : Rel K c Z W s σ H) (hp : H p = none) : Rel K c (zP Z p) W s σ (upd H p (.lst vs)) := by
  have g := Grow.upd (o := HO.lst vs) hp
  have k : ∀ a o, H a = some o → NT o → ¬ blk Z W a → upd H p (.lst vs) a = some o ∧ ¬ blk (zP Z p) W a := fun a o e _ n => ⟨g a o e, by
    rintro ((z | rfl) | z)
    · exact n (.inl z)
    · rw [hp] at e; cases e
    · exact n (.inr z)⟩
  refine ⟨r.len, fun i sv e => ?_, r.inj, fun i a e => ⟨?_, (r.wo i a e).2.elim fun o q => ⟨o, g _ _ q.1, q.2⟩⟩, fun a z => ?_, fun a l e => ⟨.inl (r.cz a l e).1, .inl (r.cz a l e).2⟩, r.T.grow g, r.tb.ext g, r.len1, r.cL, r.cel.same k (fun _ => rfl) rfl fun _ a o _ e => g a o e⟩
  · have q := r.slot i sv e
    cases sv with
    | val d => obtain ⟨v, h1, h2⟩ := q; exact ⟨v, h1, DV.mono k _ _ h2⟩
    | own ds => obtain ⟨a, xs, h1, h2, h3, h4⟩ := q; exact ⟨a, xs, h1, h2, g _ _ h3, DVs.mono k _ _ h4⟩
    | cur => exact q
    | cel n => exact q
  · rintro (z | rfl)
    · exact (r.wo i a e).1 z
    · obtain ⟨_, o, q, _⟩ := r.wo i _ e
      rw [hp] at q; cases q
  · rcases z with z | rfl
    · exact (r.zt a z).elim fun o q => ⟨o, g _ _ q⟩
    · exact ⟨_, upd_same⟩
/-- Z's list at p is written -/
theorem Rel.setZ {p : Addr} {o : HO} (r : Rel K c Z W s σ H) {xs0 : List V} (hp : H p = some (.lst xs0)) (hz : Z p) (hc : ∀ a l, c = some (a, l) → p ≠ a ∧ p ≠ l) : Rel K c Z W s σ (upd H p o) := by
  have k : ∀ a u, H a = some u → NT u → ¬ blk Z W a → upd H p o a = some u ∧ ¬ blk Z W a := fun a u e _ n => ⟨by rw [upd_ne (fun z => n (.inl (by rw [z]; exact hz)))]; exact e, n⟩
  have nw : ∀ i a, W i = some a → a ≠ p := fun i a e z => (r.wo i a e).1 (by rw [z]; exact hz)
  refine ⟨r.len, fun i sv e => ?_, r.inj, fun i a e => ⟨(r.wo i a e).1, (r.wo i a e).2.elim fun u q => ⟨u, by rw [upd_ne (nw i a e)]; exact q⟩⟩, fun a z => ?_, r.cz, ?_, r.tb.upd hp, r.len1, r.cL, r.cel.same k (fun _ => rfl) rfl fun m a u q e => by rw [upd_ne (nw _ a q)]; exact e⟩
  · have q := r.slot i sv e
    cases sv with
    | val d => obtain ⟨v, h1, h2⟩ := q; exact ⟨v, h1, DV.mono k _ _ h2⟩
    | own ds => obtain ⟨a, xs, h1, h2, h3, h4⟩ := q; exact ⟨a, xs, h1, h2, by rw [upd_ne (nw i a h1)]; exact h3, DVs.mono k _ _ h4⟩
    | cur => exact q
    | cel n => exact q
  · by_cases ha : a = p
    · exact ⟨o, by rw [ha]; exact upd_same⟩
    · rw [upd_ne ha]; exact r.zt a z
  · have q := r.T
    cases hT : s.T.cu with
    | none => rw [hT] at q; exact q
    | some cu =>
      rw [hT] at q
      obtain ⟨a, l, h1, h3, h4, h5⟩ := q
      obtain ⟨n1, n2⟩ := hc a l h1
      exact ⟨a, l, h1, h3, by rw [upd_ne (Ne.symm n1)]; exact h4, by rw [upd_ne (Ne.symm n2)]; exact h5⟩
theorem Stp.updP {p : Addr} {o : HO} (x : Stp c W0 H0 W H) (hp : H0 p = none) : Stp c W0 H0 W (upd H p o) := ⟨fun b u e nt h1 h2 => by
    rw [upd_ne (ne_of_none e hp)]; exact x.keep b u e nt h1 h2, fun b u e => by rw [upd_ne (ne_of_none e hp)]; exact x.dom b u e, x.new, x.lc, x.cw⟩
end

/-! ### comprehensions of one clause -/
def compL (vs : List Nat) (pt : Pat) (tst : Mo Bool) (elt : Mo Ref) : List D → Mo (List D)
  | [] => fun s => .ok [] s
  | d :: r => fun s => match pt d s with
    | none => .stuck
    | some s1 => bnd tst (fun b => if b then bnd elt fun q => bnd (dur q) fun y => fun s2 => bnd (compL vs pt tst elt r) (fun ys s3 => .ok (y :: ys) s3) (wipeE vs s2)
        else fun s2 => compL vs pt tst elt r (wipeE vs s2)) s1
def mComp (vs : List Nat) (fi : Mo (List D)) (pt : Pat) (tst : Mo Bool) (elt : Mo Ref) : Mo (List D) := bnd fi fun ds s => match compL vs pt tst elt ds (wipeE vs s) with
  | .ok ys s' => if small ys then .ok ys (backE vs s s') else .stuck
  | _ => .stuck
abbrev XPF : XPt := fun _ _ _ => False
def tTs (K : PySem.W.Frag) (XP : XPt) (f : Mo Bool) : TT := tT K XP f
def QTs (X : Cx) (XP : XPt) (es : List Expr) (f : Mo Bool) : Prop := PTs X es (tT X.K XP f)
def fYes : Mo Bool := fun s => .ok true s
theorem PTs.imp {X : Cx} {e : List Expr} {t t' : TT} (h : PTs X e t) (i : ∀ σ H Q, t' σ H Q → t σ H Q) : PTs X e t' := ⟨fun pins s σ H Q I q => h.run pins s σ H Q I (i σ H Q q)⟩
theorem qts_nil {X : Cx} {XP : XPt} : QTs X XP [] fYes := PTs.imp pts_nil fun σ H Q ⟨c, Z, W, s, r, h⟩ => h W H .refl r
theorem qts_one {X : Cx} {XP : XPt} {e : Expr} {f : Mo Bool} (h : QT X XP e f) : QTs X XP [e] f := pts_one h
section
variable {X : Cx} {XP : XPt} {pos : Pos} {elt tg iter : Expr} {ifs : List Expr} {fi : Mo (List D)} {pt : Pat} {ft : Mo Bool} {fe : Mo Ref} {us : List Nat}
theorem comp_imp {K : PySem.W.Frag} (vs : List Nat) (hu : ∀ i ∈ us, i ∈ vs) (σ : Sl) (H : Hp) (Q : VK) (h : tMk K XP (mComp vs fi pt ft fe) σ H Q) : tLc (tI K XP fi) (tGt K us pt) (tT K XPF ft) (tE K XPF fe) vs σ H Q := by
  obtain ⟨c, Z, W, s, r, h⟩ := h
  refine ⟨c, Z, W, s, r, h.bind.imp fun ds s1 W1 H1 x1 r1 h1 J ij D hD => ?_⟩
  -- the whole run of the loop is known
  cases ec : compL vs pt ft fe ds (wipeE vs s1) with
  | err cd T => rw [ec] at h1; exact h1.elim
  | stuck => rw [ec] at h1; exact h1.elim
  | ok ysF sF =>
  rw [ec] at h1
  dsimp only at h1
  have hsm : small ysF = true := by
    cases hh : small ysF with
    | true => rfl
    | false => rw [hh] at h1; exact h1.elim
  rw [if_pos hsm] at h1
  have hsz := small_of hsm
  have hnc : ∀ a l, c = some (a, l) → D ≠ a ∧ D ≠ l := fun a l e => by
    obtain ⟨z1, z2⟩ := r1.cz a l e
    constructor
    · rintro rfl; obtain ⟨o, q⟩ := r1.zt _ z1; rw [hD] at q; cases q
    · rintro rfl; obtain ⟨o, q⟩ := r1.zt _ z2; rw [hD] at q; cases q
  have hnC : ¬ isC c D := fun ⟨l, e⟩ => (hnc D l e).1 rfl
  refine ⟨fun i m H' => m = ds.length - i ∧ i ≤ ds.length ∧ ∃ Wk sk acc ys xs, Stp c W1 H1 Wk H' ∧ Rel K c (zP Z D) Wk sk (wipe σ vs) H' ∧ compL vs pt ft fe (ds.drop i) sk = .ok ys sF ∧ acc ++ ys = ysF ∧ H' D = some (.lst xs) ∧ DVs K (blk (zP Z D) Wk) H' xs acc,
    ⟨_, rfl, Nat.zero_le _, W1, wipeE vs s1, [], ysF, [], (Grow.upd hD).stp, (r1.addP hD).wipe vs, ec, rfl, upd_same, .nil⟩, ?_⟩
  rintro i m H2 ⟨rfl, hil, Wk, sk, acc, ys, xs, xk, rk, hk, hacc, hxs, dvs⟩
  have kp : ∀ b o, H1 b = some o → NT o → ¬ blk Z W1 b → H2 b = some o := fun b o e t n => (r1.over xk b o e t n).1
  by_cases hlt : ¬ i < ds.length
  · have ei : i = ds.length := by omega
    subst ei
    rw [List.drop_length] at hk
    have hk' : Rs.ok ([] : List PyData) sk = Rs.ok ys sF := hk
    cases hk'
    rw [List.append_nil] at hacc
    subst hacc
    exact .inl ⟨ij.stop _ kp, h1 D xs Wk H2 xk hD (Rel.back r1 xk rk (fun a z => .inl z) fun a z => z.elim .inl fun e => .inr (e ▸ hD)) hxs dvs⟩
  have hlt := Classical.not_not.mp hlt
  have ed : ds[i]? = some ds[i] := List.getElem?_eq_getElem hlt
  rw [List.drop_eq_getElem_cons hlt] at hk
  refine .inr ⟨ij.go i _ _ kp ed, fun H' => ∃ m', m' < ds.length - i ∧ (m' = ds.length - (i + 1) ∧ i + 1 ≤ ds.length ∧ ∃ Wk sk acc ys xs, Stp c W1 H1 Wk H' ∧ Rel K c (zP Z D) Wk sk (wipe σ vs) H' ∧ compL vs pt ft fe (ds.drop (i + 1)) sk = .ok ys sF ∧ acc ++ ys = ysF ∧ H' D = some (.lst xs) ∧ DVs K (blk (zP Z D) Wk) H' xs acc), fun H' h => h, fun x H3 y => ?_⟩
  obtain ⟨gr, dvB⟩ := ij.yld i _ _ _ _ kp ed y
  have dv : DV K (blk (zP Z D) Wk) H3 x ds[i] := dvB _ (fun a b => rk.blkT b) fun a b => by
    rcases b with (z | rfl) | ⟨j, z⟩
    · exact .inl (.inl z)
    · exact .inr hD
    · rcases xk.new j a z with ⟨j', z'⟩ | z'
      · exact .inl (.inr ⟨j', z'⟩)
      · exact .inr z'
  have rk3 := rk.grow gr
  have hk : (match pt ds[i] sk with
    | none => Rs.stuck
    | some s1 => bnd ft (fun b => if b then bnd fe fun q => bnd (dur q) fun y => fun s2 => bnd (compL vs pt ft fe (ds.drop (i + 1))) (fun ys s3 => .ok (y :: ys) s3) (wipeE vs s2)
        else fun s2 => compL vs pt ft fe (ds.drop (i + 1)) (wipeE vs s2)) s1) = Rs.ok ys sF := hk
  cases e1 : pt ds[i] sk with
  | none => rw [e1] at hk; cases hk
  | some s4 =>
  rw [e1] at hk
  dsimp only at hk
  refine ⟨c, zP Z D, Wk, sk, _, s4, rk3, dv, e1, fun σ4 W4 x4 r4 ag => ⟨wipe_agree ag hu, c, zP Z D, W4, s4, r4, ?_⟩⟩
  have hw := wipe_agree ag hu
  have x5 : Stp c W1 H1 W4 H3 := xk.trans (gr.stp.trans x4)
  have dvs4 : DVs K (blk (zP Z D) W4) H3 xs acc := (dvs.grow gr).step rk3 x4
  have hxs4 : H3 D = some (.lst xs) := gr _ _ hxs
  have nD : ∀ {W' : Own} {s' : ES} {σ' : Sl} {H' : Hp}, Rel K c (zP Z D) W' s' σ' H' → ∀ i, W' i ≠ some D := fun r i e => (r.wo i D e).1 (.inr rfl)
  unfold bnd at hk
  cases e2 : ft s4 with
  | err cd T => rw [e2] at hk; cases hk
  | stuck => rw [e2] at hk; cases hk
  | ok b s5 =>
  rw [e2] at hk
  dsimp only at hk
  intro W5 H5 x6 r5
  have x7 := x5.trans x6
  have hxs5 : H5 D = some (.lst xs) := x6.keep _ _ hxs4 nt_lst (nD r4) hnC
  have dvs5 := dvs4.step r4 x6
  cases b with
  | false =>
    refine iteF ⟨_, by omega, rfl, hlt, W5, _, acc, ys, xs, x7, r5.rewipe hw, ?_, hacc, hxs5, dvs5⟩
    simpa using hk
  | true =>
    refine iteT ⟨c, zP Z D, W5, s5, r5, ?_⟩
    simp only [if_true] at hk
    cases e3 : fe s5 with
    | err cd T => rw [e3] at hk; cases hk
    | stuck => rw [e3] at hk; cases hk
    | ok q s6 =>
    rw [e3] at hk
    dsimp only at hk
    intro W6 H6 x8 r6 v rv
    have x9 := x7.trans x8
    have hxs6 : H6 D = some (.lst xs) := x8.keep _ _ hxs5 nt_lst (nD r5) hnC
    have dvs6 := dvs5.step r5 x8
    have hk' : bnd (dur q) (fun y => fun s2 => bnd (compL vs pt ft fe (ds.drop (i + 1))) (fun ys s3 => .ok (y :: ys) s3) (wipeE vs s2)) s6 = Rs.ok ys sF := hk
    obtain ⟨yv, s7, W7, x10, r7, dvy, e4⟩ := dur_get r6 rv (by rw [hk']; intro z; cases z)
    rw [e4] at hk'
    unfold bnd at hk'
    cases e5 : compL vs pt ft fe (ds.drop (i + 1)) (wipeE vs s7) with
    | err cd T => rw [e5] at hk'; cases hk'
    | stuck => rw [e5] at hk'; cases hk'
    | ok ys' s8 =>
    rw [e5] at hk'
    cases hk'
    have dvs7 := dvs6.step r6 x10
    have hlen : xs.length = acc.length := dvs7.len
    refine ⟨xs, hxs6, ?_, _, by omega, rfl, hlt, W7, _, acc ++ [yv], ys', xs ++ [v], (x9.trans x10).updP hD, ((r7.rewipe hw).setZ hxs6 (.inr rfl) hnc), e5, by rw [List.append_assoc]; exact hacc, upd_same, ?_⟩
    · rw [hlen]
      have : acc.length + (ys'.length + 1) = ysF.length := by rw [← hacc]; simp
      omega
    · have kk : ∀ a u, H6 a = some u → NT u → ¬ blk (zP Z D) W7 a → upd H6 D (.lst (xs ++ [v])) a = some u ∧ ¬ blk (zP Z D) W7 a := fun a u e _ n => ⟨by rw [upd_ne (fun z => n (.inl (.inr z)))]; exact e, n⟩
      exact DVs.mono kk _ _ (dvs7.snoc dvy)
theorem qm_comp {scope : Scope} (own : List (Str × Nat)) (hc : X.calm = true) (hN : X.N.Nodup) (hi : QI X XP tg iter fi) (ok : BlkOk X.N X.env.scope scope own) (hu : ∀ i ∈ us, i ∈ own.map (·.2))
    (hg : ∀ (s : Shared) (H : Hp) (C : Addr) (cl : List (Str × Addr)) (fp : List Addr), QG (X.blk s H scope (compEnvC scope cl C X.env) fp) tg us pt)
    (ht : ∀ (s : Shared) (H : Hp) (C : Addr) (cl : List (Str × Addr)) (fp : List Addr), QTs (X.blk s H scope (compEnvC scope cl C X.env) fp) XPF ifs ft)
    (he : ∀ (s : Shared) (H : Hp) (C : Addr) (cl : List (Str × Addr)) (fp : List Addr), QE (X.blk s H scope (compEnvC scope cl C X.env) fp) XPF elt fe)
    (hs : ∀ x, foldedSetIterable iter X.env x = pure x := by intro _; rfl) : QM X XP (.ListComp elt [⟨tg, iter, ifs, 0⟩] scope pos) (mComp (own.map (·.2)) fi pt ft fe) :=
  PE.imp (pe_lc (g := tGt X.K us pt) (tt := tT X.K XPF ft) (te := tE X.K XPF fe) hc hN hi ok hg ht he hs) fun σ H Q h => comp_imp _ hu σ H Q h
theorem ps_comp {i : Nat} {y : Str} {py spos : Pos} {scope : Scope} (own : List (Str × Nat)) (hc : X.calm = true) (hN : X.N.Nodup) (hy : X.N[i]? = some y) (hyl : X.env.scope.names.lookup y = some .local)
    (hsw : swapsWith (.ListComp elt [⟨tg, iter, ifs, 0⟩] scope pos) (some (.Name y py)) spos.line X.env = pure true) (hi : QI X XP tg iter fi) (ok : BlkOk X.N X.env.scope scope own) (hu : ∀ i ∈ us, i ∈ own.map (·.2))
    (hg : ∀ (s : Shared) (H : Hp) (C : Addr) (cl : List (Str × Addr)) (fp : List Addr), QG (X.blk s H scope (compEnvC scope cl C X.env) fp) tg us pt)
    (ht : ∀ (s : Shared) (H : Hp) (C : Addr) (cl : List (Str × Addr)) (fp : List Addr), QTs (X.blk s H scope (compEnvC scope cl C X.env) fp) XPF ifs ft)
    (he : ∀ (s : Shared) (H : Hp) (C : Addr) (cl : List (Str × Addr)) (fp : List Addr), QE (X.blk s H scope (compEnvC scope cl C X.env) fp) XPF elt fe)
    (hs : ∀ x, foldedSetIterable iter X.env x = pure x := by intro _; rfl) : PS X (.Assign [.Name y py] (.ListComp elt [⟨tg, iter, ifs, 0⟩] scope pos) spos) (tAsg (tMk X.K XP (mComp (own.map (·.2)) fi pt ft fe)) (gName i)) :=
  PS.imp (ps_setLc (g := tGt X.K us pt) (tt := tT X.K XPF ft) (te := tE X.K XPF fe) hc hN hy hyl hsw hi ok hg ht he hs) fun D σ H h => comp_imp _ hu σ H _ h
/-- name = [..], kept as one's own -/
theorem qs_compO (i : Nat) {y : Str} {py spos : Pos} {scope : Scope} (own : List (Str × Nat)) (hc : X.calm = true) (hN : X.N.Nodup) (hi : QI X XP tg iter fi) (ok : BlkOk X.N X.env.scope scope own) (hu : ∀ i ∈ us, i ∈ own.map (·.2))
    (hg : ∀ (s : Shared) (H : Hp) (C : Addr) (cl : List (Str × Addr)) (fp : List Addr), QG (X.blk s H scope (compEnvC scope cl C X.env) fp) tg us pt)
    (ht : ∀ (s : Shared) (H : Hp) (C : Addr) (cl : List (Str × Addr)) (fp : List Addr), QTs (X.blk s H scope (compEnvC scope cl C X.env) fp) XPF ifs ft)
    (he : ∀ (s : Shared) (H : Hp) (C : Addr) (cl : List (Str × Addr)) (fp : List Addr), QE (X.blk s H scope (compEnvC scope cl C X.env) fp) XPF elt fe)
    (hy : X.N[i]? = some y := by rfl) (hyl : X.env.scope.names.lookup y = some .local := by rfl)
    (hsw : swapsWith (.ListComp elt [⟨tg, iter, ifs, 0⟩] scope pos) (some (.Name y py)) spos.line X.env = pure true := by exact sw_true rfl rfl rfl (by decide +kernel))
    (hs : ∀ x, foldedSetIterable iter X.env x = pure x := by intro _; rfl) : QS X XP (.Assign [.Name y py] (.ListComp elt [⟨tg, iter, ifs, 0⟩] scope pos) spos) (sOwn i (mComp (own.map (·.2)) fi pt ft fe)) :=
  set_own (ps_comp own hc hN hy hyl hsw hi ok hu hg ht he hs) fun _ _ _ h => h
theorem mk_val {K : PySem.W.Frag} {XP : XPt} {f : Mo (List PyData)} {σ : Sl} {H : Hp} {Q : VK} (h : tE K XP (eM f) σ H Q) : tMk K XP f σ H Q := by
  obtain ⟨c, Z, W, s, r, h⟩ := h
  refine ⟨c, Z, W, s, r, ?_⟩
  unfold eM bnd at h
  cases e : f s with
  | ok ds s' =>
    rw [e] at h
    intro p xs W' H' x hp r' hH dvs
    have r2 := r'.shrink (fun a z => .inl z) r.cz
    have np : ¬ blk Z W' p := by
      rintro (z | ⟨i, z⟩)
      · obtain ⟨o, e⟩ := r.zt p z
        rw [hp] at e; cases e
      · exact (r'.wo i p z).1 (.inr rfl)
    exact h W' H' x r2 (V.ref p) (.lst hH np dvs.unP)
  | err code T => rw [e] at h; exact h
  | stuck => rw [e] at h; exact h
/-- name = [..], a value that stays -/
theorem qs_compV (i : Nat) {y : Str} {py spos : Pos} {scope : Scope} (own : List (Str × Nat)) (hc : X.calm = true) (hN : X.N.Nodup) (hi : QI X XP tg iter fi) (ok : BlkOk X.N X.env.scope scope own) (hu : ∀ i ∈ us, i ∈ own.map (·.2))
    (hg : ∀ (s : Shared) (H : Hp) (C : Addr) (cl : List (Str × Addr)) (fp : List Addr), QG (X.blk s H scope (compEnvC scope cl C X.env) fp) tg us pt)
    (ht : ∀ (s : Shared) (H : Hp) (C : Addr) (cl : List (Str × Addr)) (fp : List Addr), QTs (X.blk s H scope (compEnvC scope cl C X.env) fp) XPF ifs ft)
    (he : ∀ (s : Shared) (H : Hp) (C : Addr) (cl : List (Str × Addr)) (fp : List Addr), QE (X.blk s H scope (compEnvC scope cl C X.env) fp) XPF elt fe)
    (hy : X.N[i]? = some y := by rfl) (hyl : X.env.scope.names.lookup y = some .local := by rfl)
    (hsw : swapsWith (.ListComp elt [⟨tg, iter, ifs, 0⟩] scope pos) (some (.Name y py)) spos.line X.env = pure true := by exact sw_true rfl rfl rfl (by decide +kernel))
    (hs : ∀ x, foldedSetIterable iter X.env x = pure x := by intro _; rfl) : QS X XP (.Assign [.Name y py] (.ListComp elt [⟨tg, iter, ifs, 0⟩] scope pos) spos) (sSet i (eM (mComp (own.map (·.2)) fi pt ft fe))) :=
  set_val (ps_comp own hc hN hy hyl hsw hi ok hu hg ht he hs) fun _ _ _ h => mk_val h
end

/-! ### defs -/
abbrev Fn := List D → Res
abbrev W0 : Own := ⟨fun _ => none, 0⟩
def startE (n : Nat) (ds : List D) : ES := { σ := ds.map (fun d => some (.val d)) ++ List.replicate (n - ds.length) none, T := T0 }
/-- a def of m parameters and n slots -/
def mkFn (n m : Nat) (body : ES → SR) : Fn := fun ds => if ds.length = m then match body (startE n ds) with
  | .nx _ => .ok .none
  | .rt d _ => .ok d
  | .err c _ => .err c
  | _ => .stuck else .stuck
/-- the heap grows, but for the tables -/
structure GrowT (H H' : Hp) : Prop where
  keep : ∀ b o, H b = some o → NT o → H' b = some o
  dom : ∀ b o, H b = some o → ∃ o', H' b = some o'
section
variable {K : PySem.W.Frag} {c : Option (Addr × Addr)} {Z : Addr → Prop} {W : Own} {s : ES} {σ : Sl} {H H' : Hp}
theorem GrowT.refl : GrowT H H := ⟨fun _ _ h _ => h, fun _ o h => ⟨o, h⟩⟩
theorem Grow.t (g : Grow H H') : GrowT H H' := ⟨fun b o h _ => g b o h, fun b o h => ⟨o, g b o h⟩⟩
theorem GrowT.stp (g : GrowT H H') : Stp c W H W H' := ⟨fun b o h t _ _ => g.keep b o h t, g.dom, fun i a h => .inl ⟨i, h⟩, Nat.le_refl _, fun _ _ _ e => e⟩
theorem CurOk.growT {T : Option Cur} (g : GrowT H H') (h : CurOk c H T) : CurOk c H' T := by
  cases T with
  | none => exact h
  | some cu => obtain ⟨a, l, h1, h3, h4, h5⟩ := h; exact ⟨a, l, h1, h3, g.keep _ _ h4 nt_lst, g.keep _ _ h5 nt_lst⟩
theorem Rel.growT (r : Rel K c Z W s σ H) (g : GrowT H H') (tb : TabOk K H') : Rel K c Z W s σ H' := by
  have k : ∀ a o, H a = some o → NT o → ¬ blk Z W a → H' a = some o ∧ ¬ blk Z W a := fun a o e t n => ⟨g.keep a o e t, n⟩
  refine ⟨r.len, fun i sv e => ?_, r.inj, fun i a e => ⟨(r.wo i a e).1, (r.wo i a e).2.elim fun o q => ⟨o, g.keep _ _ q.1 q.2.nt, q.2⟩⟩, fun a z => (r.zt a z).elim fun o q => g.dom a o q, r.cz, r.T.growT g, tb, r.len1, r.cL, r.cel.sameM r k (fun _ => rfl) rfl fun m a o _ q1 q2 => g.keep _ _ q1 q2.nt⟩
  have q := r.slot i sv e
  cases sv with
  | val d => obtain ⟨v, h1, h2⟩ := q; exact ⟨v, h1, DV.mono k _ _ h2⟩
  | own ds => obtain ⟨a, xs, h1, h2, h3, h4⟩ := q; exact ⟨a, xs, h1, h2, g.keep _ _ h3 nt_lst, DVs.mono k _ _ h4⟩
  | cur => exact q
  | cel n => exact q
end
def spOf (K : PySem.W.Frag) (CG : Addr) (F : Fn) : Sp := fun vs H Q E => ∃ B ds, (∀ a, B a → ∃ o, H a = some o) ∧ TabOk K H ∧ DVs K B H vs ds ∧ match F ds with
  | .ok d => ∀ v H', GrowT H H' → TabOk K H' → DV K B H' v d → Q v H'
  | .err code => ∀ d H', GrowT H H' → TabOk K H' → H' d = some (codeF code) → E (.ref CG) (some d) H'
  | .stuck => False
def wX (CG : Addr) (XP : XPt) : WX := fun cls dx _ H => ∃ code d, cls = .ref CG ∧ dx = some d ∧ H d = some (codeF code) ∧ XP code d H
abbrev Tk (X : Cx) (CG : Addr) (XP : XPt) : Prop := Takes X (wX CG XP)
theorem tkF {X : Cx} {CG : Addr} : Tk X CG XPF := Takes.imp (W := fun _ _ _ _ => False) L2.takes0 fun c d σ H ⟨_, _, _, _, _, h⟩ => h
def eCall (F : Fn) (fs : Mo (List Ref)) : Mo Ref := bnd fs fun qs => bnd (durs qs) fun ds s => match F ds with
  | .ok d => .ok (.d d) s
  | .err c => .err c s.T
  | .stuck => .stuck
section
variable {P : Program} {w : World} {K : PySem.W.Frag} {mg : Str → Option Value} {base : Heap} {CG : Addr}
theorem rel_start {N ps : List Str} {vs : List V} {ds : List D} {B : Addr → Prop} {H : Hp} (hb : ∀ a, B a → ∃ o, H a = some o) (tb : TabOk K H) (h : DVs K B H vs ds) (hn : ds.length ≤ N.length) (hB : N.length ≤ cB) : Rel K none B W0 (startE N.length ds) (start N vs) H := by
  have bb : ∀ a, blk B W0 a → B a := fun a b => b.elim id fun ⟨_, e⟩ => (nomatch e)
  refine ⟨?_, fun i sv e => ?_, fun i j a e => (nomatch e), fun i a e => (nomatch e), hb, fun a l e => (nomatch e), rfl, tb, by show (ds.map _ ++ List.replicate _ _).length ≤ _; simp; omega, rfl, fun n x e => by cases e⟩
  · show (ds.map _ ++ List.replicate _ _).length = (vs.map _ ++ List.replicate _ _).length
    simp [h.len]
  · have e : (ds.map (fun d => some (SV.val d)) ++ List.replicate (N.length - ds.length) none)[i]? = some (some sv) := e
    by_cases hi : i < ds.length
    · rw [List.getElem?_append_left (by simpa using hi), List.getElem?_map] at e
      cases e1 : ds[i]? with
      | none => rw [e1] at e; cases e
      | some d =>
        rw [e1] at e
        cases e
        obtain ⟨v, h1, h2⟩ := h.get e1
        refine ⟨v, ?_, DV.mono (fun a o e _ n => ⟨e, fun q => n (bb a q)⟩) _ _ h2⟩
        show (vs.map some ++ List.replicate _ _)[i]? = _
        rw [List.getElem?_append_left (by simpa [h.len] using hi), List.getElem?_map, h1]
        rfl
    · rw [List.getElem?_append_right (by simpa using hi), List.getElem?_replicate] at e
      split at e <;> cases e
theorem ok_fn {x : Str} {st : Stmt} {f : Addr} {fd : FuncData} {N ps : List Str} {k : Nat} {n m : Nat} {g : ES → SR} {Fo : Fn} (F : Fun K x x st f fd) (S : FnScope N ps (defScope st)) (hF : Fo = mkFn n m g) (hn : N.length = n) (hm : ps.length = m) (hle : m ≤ n ∧ n ≤ cB)
    (hbody : ∀ (cdv : Value) (A : Around) (outer : List Env) (s : Shared) (H : Hp) (E : XK), Room k (A.deeper (envOfC x (defScope st) s.heap.objs.size f cdv)) →
      ∀ XP, Tk (cxOf (L2.CX P w) P w K mg base N x (defScope st) f cdv A outer s H E) CG XP → QSs (cxOf (L2.CX P w) P w K mg base N x (defScope st) f cdv A outer s H E) XP (defBody st) g) : FnOk P w K mg base (L2.CX P w) (k + 1) f fd ps (spOf K CG Fo) := by
  subst hn hm
  refine F.okX S (fun vs H Q E ⟨B, ds, hb, tb, h, q⟩ => ?_) fun cdv A outer s H vs Q E hr ⟨B, ds, hb, tb, h, q⟩ => ?_
  · rw [hF] at q
    unfold mkFn at q
    by_cases hl : ds.length = ps.length
    · rw [h.len]; exact hl
    · rw [if_neg hl] at q; exact q.elim
  · have tk : Tk (cxOf (L2.CX P w) P w K mg base N x (defScope st) f cdv A outer s H E) CG fun code d H' => E (.ref CG) (some d) H' :=
      Takes.imp (takes_of rfl rfl rfl rfl) fun c d σ H' ⟨code, d', e1, e2, e3, e4⟩ => by subst e1 e2; exact e4
    refine ⟨_, hbody cdv A outer s H E hr _ tk, none, B, W0, startE N.length ds, ?_⟩
    rw [hF] at q
    unfold mkFn at q
    have hl : ds.length = ps.length := by
      by_cases hl : ds.length = ps.length
      · exact hl
      · rw [if_neg hl] at q; exact q.elim
    rw [if_pos hl] at q
    refine ⟨rel_start (ps := ps) hb tb h (by have := hle.1; omega) hle.2, ?_⟩
    have nC : ∀ b, ¬ isC (none : Option (Addr × Addr)) b := fun b ⟨_, e⟩ => (nomatch e)
    have gr : ∀ {W' H'}, Stp (none : Option (Addr × Addr)) W0 H W' H' → GrowT H H' := fun x => ⟨fun b o e t => x.keep b o e t (fun i z => (nomatch z)) (nC b), x.dom⟩
    cases eb : g (startE N.length ds) with
    | nx s' => rw [eb] at q; exact fun σ' W' H' x r => q _ _ (gr x) r.tb .non
    | rt d T => rw [eb] at q; exact fun v W' H' x _ _ _ tb dv => q _ _ (gr x) tb dv
    | rc n T => rw [eb] at q; exact q.elim
    | err cd T => rw [eb] at q; exact fun d W' H' x _ tb hd => q d H' (gr x) tb hd
    | bk s' => rw [eb] at q; exact q.elim
    | ct s' => rw [eb] at q; exact q.elim
    | stuck => rw [eb] at q; exact q.elim
/-- a def of the program that may be called: where it stands, what it answers -/
structure Df (P : Program) (w : World) (K : PySem.W.Frag) (mg : Str → Option Value) (base : Heap) (CG : Addr) (k : Nat) (x : Str) (F : Fn) : Prop where
  ex : ∃ f fd ps, FnOk P w K mg base (L2.CX P w) k f fd ps (spOf K CG F) ∧ mg x = some (.ref f) ∧ PySem.W.keepIn K (.ref f) = true ∧ Binds K fd ps []
end
section
variable {X : Cx} {XP : XPt} {CG : Addr} {k : Nat} {x : Str} {F : Fn} {p pos : Pos} {e : Expr} {es : List Expr} {fs : Mo (List Ref)}
theorem qe_call (G : Df X.prog X.w X.K X.mg X.base CG k x F) (hr : Room k X.A) (tk : Tk X CG XP) (ha : QA X XP (e :: es) fs) (hg : Gl X x := by rfl)
    (hdb : (x == ("__debug__" : Str)) = false := by decide) (he : starEach (e :: es) X.env = (false, eval e X.env) :: starEach es X.env := by rfl) (hpl : (backTo pos (starEach es X.env)).any (·.1) = false := by rfl) : QE X XP (.Call (.Name x p) (e :: es) [] pos) (eCall F fs) := by
  obtain ⟨f, fd, ps, ok, hm, hk, hb⟩ := G.ex
  refine PE.imp (pe_callS ok hr hg hm hk hb (fun σ => passAt tk σ) ha hdb he hpl) fun σ H Q h => ?_
  obtain ⟨c, Z, W, s, r, h⟩ := h
  refine ⟨c, Z, W, s, r, h.bind.imp fun qs s1 W1 H1 x1 r1 h1 vs rvs => ?_⟩
  obtain ⟨ds, s2, W2, x2, r2, dvs, h2⟩ := h1.durs r1 rvs
  refine ⟨blk Z W2, ds, fun a b => r2.blkT b, r2.tb, dvs, ?_⟩
  cases ef : F ds with
  | ok d => rw [ef] at h2; exact fun v H' gr tb dv => h2 W2 H' gr.stp (r2.growT gr tb) v dv
  | err cd => rw [ef] at h2; exact fun d H' gr tb hd => ⟨cd, d, rfl, rfl, hd, h2 d W2 H' gr.stp (r2.T.growT gr) tb hd⟩
  | stuck => rw [ef] at h2; exact h2.elim
def eCall0 (F : Fn) : Mo Ref := fun s => match F [] with
  | .ok d => .ok (.d d) s
  | _ => .stuck
theorem qe_call0 (G : Df X.prog X.w X.K X.mg X.base CG k x F) (hr : Room k X.A) (hg : Gl X x := by rfl) (hdb : (x == ("__debug__" : Str)) = false := by decide) : QE X XP (.Call (.Name x p) [] [] pos) (eCall0 F) := by
  obtain ⟨f, fd, ps, ok, hm, hk, hb⟩ := G.ex
  refine PE.imp (pe_call0 ok hr hg hm hk hb .nil passL hdb) fun σ H Q h => ?_
  obtain ⟨c, Z, W, s, r, h⟩ := h
  refine ⟨blk Z W, [], fun a b => r.blkT b, r.tb, .nil, ?_⟩
  unfold eCall0 at h
  cases ef : F [] with
  | ok d => rw [ef] at h; exact fun v H' gr tb dv => h W H' gr.stp (r.growT gr tb) v dv
  | err cd => rw [ef] at h; exact h.elim
  | stuck => rw [ef] at h; exact h.elim
end
end Ev
set_option Elab.async false
set_option linter.all false
set_option maxRecDepth 100000
set_option maxHeartbeats 2000000
/-! Ev6: operators, subscripts, slices on data -/
namespace Ev
open PySem PySem.Spec PyProof.Rows L2

abbrev szL : Nat := 16777216
theorem szL_eq : sizeLine = szL := sizeLine_eq
/-- a product that the machine may make -/
def mulOk (i j : Int) : Bool := decide (i.natAbs.log2 + j.natAbs.log2 < 1000000)
/-- a divisor -/
def divOk (j : Int) : Bool := decide (0 < j) && decide (j.natAbs.log2 < 9000)
def dAdd : D → D → Option D
  | .int i, .int j => some (.int (i + j))
  | .tuple xs, .tuple ys => if xs.length + ys.length ≤ szL then some (.tuple (xs ++ ys)) else none
  | .list xs, .list ys => if xs.length + ys.length ≤ szL then some (.list (xs ++ ys)) else none
  | .str x, .str y => if x.length + y.length ≤ szL then some (.str (x ++ y)) else none
  | _, _ => none
def dAddM : D → D → Option (List D)
  | .list xs, .list ys => if xs.length + ys.length ≤ szL then some (xs ++ ys) else none
  | _, _ => none
def dSub : D → D → Option D
  | .int i, .int j => some (.int (i - j))
  | _, _ => none
def repOk (n : Nat) (k : Int) : Bool := decide (-(2 ^ 63) ≤ k) && decide (k < 2 ^ 63) && decide (n * k.toNat ≤ szL)
def dMul : D → D → Option D
  | .int i, .int j => if mulOk i j then some (.int (i * j)) else none
  | .tuple xs, .int k => if xs.length ≤ 1000 ∧ 0 < xs.length ∧ 2 ≤ k ∧ k ≤ 1000 then some (.tuple (List.replicate k.toNat xs).flatten)
      else if (xs.isEmpty || k == 1) = true ∧ -(2 ^ 63) ≤ k ∧ k < 2 ^ 63 then some (.tuple xs)
      else if k ≤ 0 ∧ -(2 ^ 63) ≤ k then some (.tuple []) else none
  | .list xs, .int k => if repOk xs.length k then some (.list (List.replicate k.toNat xs).flatten) else none
  | _, _ => none
def dMulM : D → D → Option (List D)
  | .list xs, .int k => if repOk xs.length k then some (List.replicate k.toNat xs).flatten else none
  | _, _ => none
def dDiv : D → D → Option D
  | .int i, .int j => if divOk j then some (.int (i / j)) else none
  | _, _ => none
def dMod : D → D → Option D
  | .int i, .int j => if 0 < j then some (.int (i % j)) else none
  | _, _ => none
def dPow : D → D → Option D
  | .int i, .int j => if 0 ≤ j ∧ j ≤ 1000000 ∧ i.natAbs < 2 ^ 64 then some (.int (i ^ j.toNat)) else none
  | _, _ => none
def dNeg : D → Option D
  | .int i => some (.int (-i))
  | _ => none
/-- what == says of -/
def dEqB (a b : D) : Option Bool := if SeqAt.shaped a && SeqAt.shaped b then some (PyData.eqv a b) else none
def dEq (a b : D) : Option D := (dEqB a b).map .bool
def dNe (a b : D) : Option D := (dEqB a b).map fun k => .bool !k
def isNone : D → Bool
  | .none => true
  | _ => false
/-- < can be asked of these -/
def cmpOk (a b : D) : Bool := PySem.W.alike a b && !isNone a && decide (a.depth ≤ 63)
def dLt : D → D → Option D
  | .int i, .int j => some (.bool (decide (i < j)))
  | a, b => if cmpOk a b then some (.bool (PySem.W.dataLt a b)) else none
def dLe : D → D → Option D
  | .int i, .int j => some (.bool (decide (i ≤ j)))
  | a, b => if cmpOk a b then some (.bool (!PySem.W.dataLt b a)) else none
def dGt : D → D → Option D
  | .int i, .int j => some (.bool (decide (j < i)))
  | a, b => if cmpOk a b then some (.bool (PySem.W.dataLt b a)) else none
def dGe : D → D → Option D
  | .int i, .int j => some (.bool (decide (j ≤ i)))
  | a, b => if cmpOk a b then some (.bool (!PySem.W.dataLt a b)) else none
def dIs (a b : D) : Option D := match b with
  | .none => some (.bool (isNone a))
  | .bool y => match a with
    | .bool x => some (.bool (decide (x = y)))
    | _ => none
  | _ => none
def dIsNot (a b : D) : Option D := match b with
  | .none => some (.bool (!isNone a))
  | .bool y => match a with
    | .bool x => some (.bool (!decide (x = y)))
    | _ => none
  | _ => none
def flatD : D → Bool
  | .none => true
  | .bool _ => true
  | .int _ => true
  | .str _ => true
  | _ => false
/-- in: over flat things, or (a list) over any -/
def dInB (a b : D) : Option Bool := match b with
  | .list ds => if SeqAt.shaped a && SeqAt.shaped b then some (ds.any fun z => PyData.eqv z a) else none
  | .tuple ds => if flatD a && ds.all flatD then some (ds.any fun z => PyData.eqv z a) else none
  | _ => none
def dIn (a b : D) : Option D := (dInB a b).map .bool
def dNotIn (a b : D) : Option D := (dInB a b).map fun k => .bool !k
def dIx : D → D → Option D
  | .tuple ds, .int i => atI ds i
  | .list ds, .int i => atI ds i
  | .str z, .int i => if z.length ≤ szL then (atI z.cps.toList i).map fun c => .str ⟨#[c]⟩ else none
  | _, _ => none
def cutD (xs : List D) (lo hi : Option Int) : List D := (xs.drop (HT.sIx xs.length 0 lo)).take (HT.sIx xs.length xs.length hi - HT.sIx xs.length 0 lo)
def dSl : D → Option Int → Option Int → Option D
  | .tuple ds, lo, hi => some (.tuple (cutD ds lo hi))
  | .list ds, lo, hi => some (.list (cutD ds lo hi))
  | _, _, _ => none
def dSlM : D → Option Int → Option Int → Option (List D)
  | .list ds, lo, hi => some (cutD ds lo hi)
  | _, _, _ => none

section
variable {X : Cx}
/-- a new tuple, told -/
theorem new_tup {K : PySem.W.Frag} {B : Addr → Prop} {H : Hp} {p : Addr} {vs : List V} {ds : List D} (hb : ∀ a, B a → ∃ o, H a = some o) (hp : H p = none) (h : DVs K B H vs ds) : DV K B (upd H p (.tup vs)) (V.ref p) (.tuple ds) :=
  .tup (.inl ⟨upd_same, fun b => by obtain ⟨o, e⟩ := hb p b; rw [hp] at e; cases e⟩) (h.grow (Grow.upd hp))
theorem new_lst {K : PySem.W.Frag} {B : Addr → Prop} {H : Hp} {p : Addr} {vs : List V} {ds : List D} (hb : ∀ a, B a → ∃ o, H a = some o) (hp : H p = none) (h : DVs K B H vs ds) : DV K B (upd H p (.lst vs)) (V.ref p) (.list ds) :=
  .lst upd_same (fun b => by obtain ⟨o, e⟩ := hb p b; rw [hp] at e; cases e) (h.grow (Grow.upd hp))
theorem catV {K : PySem.W.Frag} {B : Addr → Prop} {H : Hp} {v : V} {ds : List D} (t : TV K B H v (.tuple ds)) (ne : ds = []) : True := trivial
/-- a tuple that is read is a value that stays -/
theorem TV.tupV {K : PySem.W.Frag} {B : Addr → Prop} {H : Hp} {v : V} {ds : List D} (t : TV K B H v (.tuple ds)) : DV K B H v (.tuple ds) := by
  rcases t with t | ⟨a, xs, es, h1, h2, h3, h4⟩
  · exact t
  · cases h2
theorem op_dAdd : OpR X (binaryOp .Add) (rOp X.K dAdd) := by
  intro pins s σ H x y v u Q I rx ry h
  obtain ⟨B, dx, dy, d, hb, tx, ty, hd, q⟩ := h
  unfold dAdd at hd
  split at hd
  · cases tx.int
    cases ty.int
    cases hd
    exact op_add pins s σ H _ _ v u Q I rx ry ⟨_, _, rfl, rfl, q _ _ .refl (.int _)⟩
  · rename_i xs ys
    split at hd
    · rename_i hz
      cases hd
      obtain ⟨a, vs, rfl, h1, h2⟩ := tx.tup
      obtain ⟨b, ws, rfl, h3, h4⟩ := ty.tup
      refine op_catA pins s σ H _ _ v u Q I rx ry ⟨a, b, vs, ws, rfl, rfl, h1.seq, h3.seq, by rw [h2.len, h4.len, szL_eq]; exact hz, fun e => ?_, fun e1 e2 => ?_, fun _ _ p hp => ?_⟩
      · subst e
        cases h2
        exact q _ _ .refl ty.tupV
      · subst e2
        cases h4
        exact q _ _ .refl (by simpa using tx.tupV)
      · exact q _ _ (Grow.upd hp) (new_tup hb hp (h2.append h4))
    · cases hd
  · rename_i xs ys
    split at hd
    · rename_i hz
      cases hd
      obtain ⟨a, vs, rfl, h1, h2⟩ := tx.lst
      obtain ⟨b, ws, rfl, h3, h4⟩ := ty.lst
      exact op_cat pins s σ H _ _ v u Q I rx ry ⟨a, b, vs, ws, rfl, rfl, h1, h3, by rw [h2.len, h4.len, szL_eq]; exact hz, fun p hp => q _ _ (Grow.upd hp) (new_lst hb hp (h2.append h4))⟩
    · cases hd
  · split at hd
    · rename_i hz
      cases hd
      cases tx.str
      cases ty.str
      exact op_add_str pins s σ H _ _ v u Q I rx ry ⟨_, _, rfl, rfl, by rw [szL_eq]; exact hz, q _ _ .refl (.str _)⟩
    · cases hd
  · cases hd
theorem op_dSub : OpR X (binaryOp .Sub) (rOp X.K dSub) := by
  intro pins s σ H x y v u Q I rx ry h
  obtain ⟨B, dx, dy, d, hb, tx, ty, hd, q⟩ := h
  unfold dSub at hd
  split at hd
  · cases tx.int
    cases ty.int
    cases hd
    exact op_sub pins s σ H _ _ v u Q I rx ry ⟨_, _, rfl, rfl, q _ _ .refl (.int _)⟩
  · cases hd
theorem tuple_mul_same (l : Addr) (items : Array Value) (n : Nat) (dd : Option Addr) (sl : Array (Option Value)) (x : Int) (u : Tok) (c0 : (decide (x < -(2 ^ 63)) || decide (x ≥ 2 ^ 63)) = false) (c1 : (items.isEmpty || x == 1) = true) :
    Meets (Builtin.«tuple.__mul__» ⟨[.ref l, .int x u], []⟩) (fun _ R s => s.heap.get? l = some { cls := .type "tuple", dict := dd, data := .seq items n, slots := sl } ∧ R (.ok (.ret (Value.ref l))) s) :=
  .of_wp fun prog w A R s h => by
    obtain ⟨hp, g, d, tk, os⟩ := s
    obtain ⟨hl, h⟩ := h
    have f1 := AutoSeq1.idx_int
    wp_walk using wpAny_loadPart' hl
    repeat (first
      | (refine wpAny_ite_false (decide_eq_false (by rw [c0]; exact Bool.false_ne_true)) ?_; wp_walk using wpAny_loadPart' hl)
      | (refine wpAny_ite_true (decide_eq_true (by rw [c1])) ?_; wp_walk using wpAny_loadPart' hl))
    exact ⟨_, rfl, h⟩
theorem tuple_mul_none (l : Addr) (items : Array Value) (n : Nat) (dd : Option Addr) (sl : Array (Option Value)) (x : Int) (u : Tok) (c0 : (decide (x < -(2 ^ 63)) || decide (x ≥ 2 ^ 63)) = false) (c1 : (items.isEmpty || x == 1) = false) (c2 : (decide (x ≤ 0) || items.isEmpty) = true) :
    Meets (Builtin.«tuple.__mul__» ⟨[.ref l, .int x u], []⟩) (fun _ R s => s.heap.get? l = some { cls := .type "tuple", dict := dd, data := .seq items n, slots := sl } ∧
      R (.ok (.ret (Value.ref s.heap.objs.size))) { s with heap := s.heap.push { cls := Value.type "tuple", data := Data.seq #[] }, toks := s.toks }) :=
  .of_wp fun prog w A R s h => by
    obtain ⟨hp, g, d, tk, os⟩ := s
    obtain ⟨hl, h⟩ := h
    have f1 := AutoSeq1.idx_int
    wp_walk using wpAny_loadPart' hl
    repeat (first
      | (refine wpAny_ite_false (decide_eq_false (by rw [c0]; exact Bool.false_ne_true)) ?_; wp_walk using wpAny_loadPart' hl)
      | (refine wpAny_ite_false (decide_eq_false (by rw [c1]; exact Bool.false_ne_true)) ?_; wp_walk using wpAny_loadPart' hl)
      | (refine wpAny_ite_true (decide_eq_true (by rw [c2])) ?_; wp_walk using wpAny_loadPart' hl))
    exact ⟨_, rfl, h⟩
def rRepS (K : PySem.W.Frag) : R2 := fun x y H Q => ∃ l k xs, x = .ref l ∧ y = .int k ∧ SqT K H l xs ∧ -(2 ^ 63) ≤ k ∧ k < 2 ^ 63 ∧ (((xs = [] ∨ k = 1) ∧ Q (.ref l) H) ∨ (xs ≠ [] ∧ k ≤ 0 ∧ ∀ p, H p = none → Q (.ref p) (upd H p (.tup []))))
theorem op_repS : OpR X (binaryOp .Mult) (rRepS X.K) := by
  intro pins s σ H x y v u Q I rx ry h
  obtain ⟨l, k, xs, rfl, rfl, hT, k1, k2, q⟩ := h
  cases rx
  obtain ⟨t, rfl⟩ := ry
  obtain ⟨its, r, ⟨⟨cls, dd, data, sl⟩, ho, hc, n, hd⟩, hs⟩ := I.tuple hT
  simp only at hc hd
  subst hc hd
  have c0 : (decide (k < -(2 ^ 63)) || decide (k ≥ 2 ^ 63)) = false := by rw [decide_eq_false (by omega), decide_eq_false (by omega)] <;> rfl
  have he : its.toArray.isEmpty = decide (xs = []) := by
    cases r with
    | nil => rfl
    | cons _ _ => simp
  have go : ∀ {P : Value → Shared → Prop}, wpAny (model X.prog X.w) X.A (call (.builtin "tuple.__mul__") [.ref l, .int k t]) P X.xe s → wpAny (model X.prog X.w) X.A (binaryOp .Mult (.ref l) (.int k t)) P X.xe s := fun {P} hq =>
    wpAny_binaryOp_repeat_ref (T := "tuple") (U := "int") (by decide) ⟨_, ho, rfl⟩ (fun s' => typeIs_int s' k t) noFill_tuple_mul F.fills_int_mul F.slot_int_rmul repeat_tuple F.slot_int_index.lookup
      (call_meets F.slot_int_rmul (typeIs_int s k t) F.entry_int_rmul (F.args_int_rmul_2 _ _) (int_rmul_tuple k t l its.toArray n dd sl) ⟨ho, rfl, ⟨_, ho, rfl⟩, hq⟩)
  refine go ?_
  rcases q with ⟨c, q⟩ | ⟨c, hk, q⟩
  · refine call_meets F.slot_tuple_mul ⟨_, ho, rfl⟩ F.entry_tuple_mul (F.args_tuple_mul_2 _ _) (tuple_mul_same l its.toArray n dd sl k t c0 ?_) ⟨ho, .ref l, H, I, rfl, q⟩
    rw [he, Bool.or_eq_true]
    rcases c with c | c
    · exact .inl (decide_eq_true c)
    · exact .inr (by rw [c]; rfl)
  · refine call_meets F.slot_tuple_mul ⟨_, ho, rfl⟩ F.entry_tuple_mul (F.args_tuple_mul_2 _ _) (tuple_mul_none l its.toArray n dd sl k t c0 ?_ ?_) ⟨ho, .ref s.heap.objs.size, _, I.laid (t' := s.toks) (o := .tup []) (fun b ob q => Heap.get?_push_of_some _ q) (Nat.le_refl _) ⟨Nat.zero_le _, [], .nil, IsTup.new _ _⟩, rfl, q _ (I.hok.fresh (Nat.le_refl _))⟩
    · rw [he, decide_eq_false c, Bool.false_or]
      exact beq_eq_false_iff_ne.mpr (by omega)
    · rw [decide_eq_true hk]; rfl
theorem op_dMul : OpR X (binaryOp .Mult) (rOp X.K dMul) := by
  intro pins s σ H x y v u Q I rx ry h
  obtain ⟨B, dx, dy, d, hb, tx, ty, hd, q⟩ := h
  unfold dMul at hd
  split at hd
  · split at hd
    · rename_i hm
      cases tx.int
      cases ty.int
      cases hd
      exact op_mulW pins s σ H _ _ v u Q I rx ry ⟨_, _, rfl, rfl, (by unfold mulOk at hm; have z := of_decide_eq_true hm; exact z), q _ _ .refl (.int _)⟩
    · cases hd
  · split at hd
    · rename_i hm
      cases hd
      cases ty.int
      obtain ⟨a, vs, rfl, h1, h2⟩ := tx.tup
      refine op_repT pins s σ H _ _ v u Q I rx ry ⟨a, _, vs, rfl, rfl, h1.seq, ?_, hm.2.2.1, hm.2.2.2, by rw [h2.len]; exact hm.1, fun p hp => q _ _ (Grow.upd hp) (new_tup hb hp (h2.repL _))⟩
      rintro rfl
      cases h2
      exact absurd hm.2.1 (by simp)
    · split at hd
      · rename_i hm2
        cases hd
        cases ty.int
        obtain ⟨a, vs, rfl, h1, h2⟩ := tx.tup
        refine op_repS pins s σ H _ _ v u Q I rx ry ⟨a, _, vs, rfl, rfl, h1.seq, hm2.2.1, hm2.2.2, .inl ⟨?_, q _ _ .refl tx.tupV⟩⟩
        rcases Bool.or_eq_true _ _ ▸ hm2.1 with c | c
        · refine .inl ?_
          have := h2.len
          rw [List.isEmpty_iff.mp c] at this
          exact List.eq_nil_of_length_eq_zero this
        · exact .inr (by simpa using c)
      · rename_i hm2
        split at hd
        · rename_i hm3
          cases hd
          cases ty.int
          obtain ⟨a, vs, rfl, h1, h2⟩ := tx.tup
          refine op_repS pins s σ H _ _ v u Q I rx ry ⟨a, _, vs, rfl, rfl, h1.seq, hm3.2, by omega, .inr ⟨?_, hm3.1, fun p hp => q _ _ (Grow.upd hp) (new_tup hb hp .nil)⟩⟩
          rintro rfl
          cases h2
          exact hm2 ⟨rfl, hm3.2, by omega⟩
        · cases hd
  · split at hd
    · rename_i hm
      unfold repOk at hm
      simp only [Bool.and_eq_true, decide_eq_true_eq] at hm
      cases hd
      cases ty.int
      obtain ⟨a, vs, rfl, h1, h2⟩ := tx.lst
      exact op_rep pins s σ H _ _ v u Q I rx ry ⟨a, _, vs, rfl, rfl, h1, hm.1.1, hm.1.2, by rw [h2.len, szL_eq]; exact hm.2, fun p hp => q _ _ (Grow.upd hp) (new_lst hb hp (h2.repL _))⟩
    · cases hd
  · cases hd
theorem op_dDiv : OpR X (binaryOp .FloorDiv) (rOp X.K dDiv) := by
  intro pins s σ H x y v u Q I rx ry h
  obtain ⟨B, dx, dy, d, hb, tx, ty, hd, q⟩ := h
  unfold dDiv at hd
  split at hd
  · split at hd
    · rename_i hm
      unfold divOk at hm
      rw [Bool.and_eq_true, decide_eq_true_eq, decide_eq_true_eq] at hm
      cases tx.int
      cases ty.int
      cases hd
      exact op_fdivW pins s σ H _ _ v u Q I rx ry ⟨_, _, rfl, rfl, hm, q _ _ .refl (.int _)⟩
    · cases hd
  · cases hd
theorem op_dMod : OpR X (binaryOp .Mod) (rOp X.K dMod) := by
  intro pins s σ H x y v u Q I rx ry h
  obtain ⟨B, dx, dy, d, hb, tx, ty, hd, q⟩ := h
  unfold dMod at hd
  split at hd
  · split at hd
    · rename_i hm
      cases tx.int
      cases ty.int
      cases hd
      exact op_mod pins s σ H _ _ v u Q I rx ry ⟨_, _, rfl, rfl, hm, q _ _ .refl (.int _)⟩
    · cases hd
  · cases hd
theorem op_dPow : OpR X (binaryOp .Pow) (rOp X.K dPow) := by
  intro pins s σ H x y v u Q I rx ry h
  obtain ⟨B, dx, dy, d, hb, tx, ty, hd, q⟩ := h
  unfold dPow at hd
  split at hd
  · split at hd
    · rename_i hm
      cases tx.int
      cases ty.int
      cases hd
      exact op_pow pins s σ H _ _ v u Q I rx ry ⟨_, _, rfl, rfl, hm, q _ _ .refl (.int _)⟩
    · cases hd
  · cases hd
theorem un_dNeg : UnR X (unaryOp .USub) (rUn X.K dNeg) := by
  intro pins s σ H x v Q I rx h
  obtain ⟨B, dx, d, hb, tx, hd, q⟩ := h
  cases dx with
  | int i =>
    cases tx.int
    cases hd
    exact un_neg pins s σ H _ v Q I rx ⟨_, rfl, q _ _ .refl (.int _)⟩
  | none => cases hd
  | bool _ => cases hd
  | str _ => cases hd
  | list _ => cases hd
  | tuple _ => cases hd
  | dict _ => cases hd
theorem op_dEq (hu : X.A.units + 64 < cLine) : OpR X (compareOp .Eq) (rOp X.K dEq) := by
  intro pins s σ H x y v u Q I rx ry h
  obtain ⟨B, dx, dy, d, hb, tx, ty, hd, q⟩ := h
  unfold dEq dEqB at hd
  split at hd
  · rename_i hm
    rw [Bool.and_eq_true] at hm
    cases hd
    exact op_eqD hu pins s σ H _ _ v u Q I rx ry ⟨_, _, tx.dp, ty.dp, hm.1, hm.2, q _ _ .refl (.bl _)⟩
  · cases hd
theorem op_dNe (hu : X.A.units + 64 < cLine) : OpR X (compareOp .NotEq) (rOp X.K dNe) := by
  intro pins s σ H x y v u Q I rx ry h
  obtain ⟨B, dx, dy, d, hb, tx, ty, hd, q⟩ := h
  unfold dNe dEqB at hd
  split at hd
  · rename_i hm
    rw [Bool.and_eq_true] at hm
    cases hd
    exact op_neD hu pins s σ H _ _ v u Q I rx ry ⟨_, _, tx.dp, ty.dp, hm.1, hm.2, q _ _ .refl (.bl _)⟩
  · cases hd
theorem TV.int2 {K : PySem.W.Frag} {B : Addr → Prop} {H : Hp} {v : V} {i : Int} (t : TV K B H v (.int i)) : v = .int i := t.int
theorem cmpD {op : CmpOp} {f : Int → Int → Bool} {g : D → D → Bool} {p : D → D → Option D} (hu : X.A.units + 64 < cLine) (ho : OpR X (compareOp op) (rI0 fun i j => .bl (f i j)))
    (hg : ∀ {A : Around} {E : Value → Shared → Prop} {s : Shared} {a b : Value} {da db : PyData} {as bs : List Addr} {Q : Value → Shared → Prop}, Reads s.heap a da as → Reads s.heap b db bs → PySem.W.alike da db = true → da ≠ .none → A.units + min da.depth db.depth < cLine → Q (.bool (g da db)) s → wpAny (model X.prog X.w) A (compareOp op a b) Q E s)
    (hp : ∀ a b d, p a b = some d → (∃ i j, a = .int i ∧ b = .int j ∧ d = .bool (f i j)) ∨ (cmpOk a b = true ∧ d = .bool (g a b))) : OpR X (compareOp op) (rOp X.K p) := by
  intro pins s σ H x y v u Q I rx ry h
  obtain ⟨B, dx, dy, d, hb, tx, ty, hd, q⟩ := h
  rcases hp _ _ _ hd with ⟨i, j, rfl, rfl, rfl⟩ | ⟨hc, rfl⟩
  · cases tx.int
    cases ty.int
    exact ho pins s σ H _ _ v u Q I rx ry ⟨_, _, rfl, rfl, q _ _ .refl (.bl _)⟩
  · unfold cmpOk at hc
    rw [Bool.and_eq_true, Bool.and_eq_true, decide_eq_true_eq] at hc
    obtain ⟨as, r1⟩ := Dp.reads I dx x v tx.dp rx
    obtain ⟨bs, r2⟩ := Dp.reads I dy y u ty.dp ry
    refine hg r1 r2 hc.1.1 (fun e => ?_) ?_ ⟨.bl _, H, I, rfl, q _ _ .refl (.bl _)⟩
    · have := hc.1.2
      rw [e] at this
      cases this
    · have := Nat.min_le_left dx.depth dy.depth
      omega
theorem op_dLt (hu : X.A.units + 64 < cLine) : OpR X (compareOp .Lt) (rOp X.K dLt) := cmpD (g := fun a b => PySem.W.dataLt a b) hu op_lt (fun r1 r2 h1 h2 h3 h4 => PySem.W.lt_data r1 r2 h1 h2 h3 h4) fun a b d e => by
  unfold dLt at e
  split at e
  · cases e; exact .inl ⟨_, _, rfl, rfl, rfl⟩
  · split at e
    · rename_i hc; cases e; exact .inr ⟨hc, rfl⟩
    · cases e
theorem op_dLe (hu : X.A.units + 64 < cLine) : OpR X (compareOp .LtE) (rOp X.K dLe) := cmpD (g := fun a b => !PySem.W.dataLt b a) hu op_le (fun r1 r2 h1 h2 h3 h4 => PySem.W.le_data r1 r2 h1 h2 h3 h4) fun a b d e => by
  unfold dLe at e
  split at e
  · cases e; exact .inl ⟨_, _, rfl, rfl, rfl⟩
  · split at e
    · rename_i hc; cases e; exact .inr ⟨hc, rfl⟩
    · cases e
theorem op_dGt (hu : X.A.units + 64 < cLine) : OpR X (compareOp .Gt) (rOp X.K dGt) := cmpD (g := fun a b => PySem.W.dataLt b a) hu op_gt (fun r1 r2 h1 h2 h3 h4 => PySem.W.gt_data r1 r2 h1 h2 h3 h4) fun a b d e => by
  unfold dGt at e
  split at e
  · cases e; exact .inl ⟨_, _, rfl, rfl, rfl⟩
  · split at e
    · rename_i hc; cases e; exact .inr ⟨hc, rfl⟩
    · cases e
theorem op_dGe (hu : X.A.units + 64 < cLine) : OpR X (compareOp .GtE) (rOp X.K dGe) := cmpD (g := fun a b => !PySem.W.dataLt a b) hu op_ge (fun r1 r2 h1 h2 h3 h4 => PySem.W.ge_data r1 r2 h1 h2 h3 h4) fun a b d e => by
  unfold dGe at e
  split at e
  · cases e; exact .inl ⟨_, _, rfl, rfl, rfl⟩
  · split at e
    · rename_i hc; cases e; exact .inr ⟨hc, rfl⟩
    · cases e
theorem TV.isNon {K : PySem.W.Frag} {B : Addr → Prop} {H : Hp} {v : V} {d : D} (t : TV K B H v d) : decide (v = V.non) = isNone d := by
  rcases t with t | ⟨a, xs, es, h1, h2, h3, h4⟩
  · cases t <;> rfl
  · subst h1 h2; rfl
theorem op_dIs : OpR X (compareOp .Is) (rOp X.K dIs) := by
  intro pins s σ H x y v u Q I rx ry h
  obtain ⟨B, dx, dy, d, hb, tx, ty, hd, q⟩ := h
  unfold dIs at hd
  split at hd
  · cases ty.none
    cases hd
    exact op_isN pins s σ H _ _ v u Q I rx ry ⟨rfl, by rw [tx.isNon]; exact q _ _ .refl (.bl _)⟩
  · split at hd
    · cases tx.bool
      cases ty.bool
      cases hd
      exact op_isBl pins s σ H _ _ v u Q I rx ry ⟨_, _, rfl, rfl, q _ _ .refl (.bl _)⟩
    · cases hd
  · cases hd
theorem op_dIsNot : OpR X (compareOp .IsNot) (rOp X.K dIsNot) := by
  intro pins s σ H x y v u Q I rx ry h
  obtain ⟨B, dx, dy, d, hb, tx, ty, hd, q⟩ := h
  unfold dIsNot at hd
  split at hd
  · cases ty.none
    cases hd
    exact op_notN pins s σ H _ _ v u Q I rx ry ⟨rfl, by rw [tx.isNon]; exact q _ _ .refl (.bl _)⟩
  · split at hd
    · cases tx.bool
      cases ty.bool
      cases hd
      exact op_notBl pins s σ H _ _ v u Q I rx ry ⟨_, _, rfl, rfl, q _ _ .refl (.bl _)⟩
    · cases hd
  · cases hd
/-! ### in -/
theorem eqV_eqv {K : PySem.W.Frag} {B : Addr → Prop} {H : Hp} {v u : V} {d e : D} (h1 : DV K B H v d) (h2 : DV K B H u e) (f1 : flatD d = true) (f2 : flatD e = true) : eqV v u = PyData.eqv d e ∧ flatV v = true := by
  cases h1 with
  | non => cases h2 <;> first | exact ⟨by simp [eqV, PyData.eqv], rfl⟩ | cases f2
  | bl b => cases h2 <;> first | exact ⟨by simp [eqV, PyData.eqv], rfl⟩ | cases f2
  | int i => cases h2 <;> first | exact ⟨by simp [eqV, PyData.eqv], rfl⟩ | cases f2
  | str x => cases h2 <;> first | exact ⟨by simp [eqV, PyData.eqv], rfl⟩ | cases f2
  | lst _ _ _ => cases f1
  | tup _ _ => cases f1
theorem TV.flat {K : PySem.W.Frag} {B : Addr → Prop} {H : Hp} {v : V} {d : D} (t : TV K B H v d) (f : flatD d = true) : DV K B H v d := by
  rcases t with t | ⟨a, xs, es, h1, h2, h3, h4⟩
  · exact t
  · subst h2; cases f
theorem inV_eqv {K : PySem.W.Frag} {B : Addr → Prop} {H : Hp} {u : V} {e : D} (h2 : DV K B H u e) (f2 : flatD e = true) : ∀ {vs : List V} {ds : List D}, DVs K B H vs ds → ds.all flatD = true → inV u vs = (ds.any fun z => PyData.eqv z e) ∧ vs.all flatV = true
  | _, _, .nil, _ => ⟨rfl, rfl⟩
  | _, _, .cons h t, f => by
    rw [List.all_cons, Bool.and_eq_true] at f
    obtain ⟨a1, a2⟩ := inV_eqv h2 f2 t f.2
    obtain ⟨b1, b2⟩ := eqV_eqv h h2 f.1 f2
    refine ⟨?_, by rw [List.all_cons, b2, a2]; rfl⟩
    unfold inV at a1 ⊢
    rw [List.any_cons, List.any_cons, a1, b1]
theorem op_dIn (hu : X.A.units + 65 < cLine) : OpR X (compareOp .In) (rOp X.K dIn) := by
  intro pins s σ H x y v u Q I rx ry h
  obtain ⟨B, dx, dy, d, hb, tx, ty, hd, q⟩ := h
  unfold dIn dInB at hd
  split at hd
  · split at hd
    · rename_i hm
      rw [Bool.and_eq_true] at hm
      cases hd
      exact op_inD hu pins s σ H _ _ v u Q I rx ry ⟨_, _, tx.dp, ty.dp, hm.1, hm.2, q _ _ .refl (.bl _)⟩
    · cases hd
  · split at hd
    · rename_i hm
      rw [Bool.and_eq_true] at hm
      cases hd
      obtain ⟨a, vs, rfl, h1, h2⟩ := ty.tup
      have fx := tx.flat hm.1
      obtain ⟨e1, e2⟩ := inV_eqv fx hm.1 h2 hm.2
      have e3 : flatV x = true := (eqV_eqv fx fx hm.1 hm.1).2
      refine op_in_seq pins s σ H _ _ v u Q I rx ry ⟨a, vs, rfl, .inr h1.seq, e3, e2, ?_⟩
      rw [if_neg Bool.false_ne_true, e1]
      exact q _ _ .refl (.bl _)
    · cases hd
  · cases hd
theorem op_dNotIn (hu : X.A.units + 65 < cLine) : OpR X (compareOp .NotIn) (rOp X.K dNotIn) := by
  intro pins s σ H x y v u Q I rx ry h
  obtain ⟨B, dx, dy, d, hb, tx, ty, hd, q⟩ := h
  unfold dNotIn dInB at hd
  split at hd
  · split at hd
    · rename_i hm
      rw [Bool.and_eq_true] at hm
      cases hd
      exact op_notInD hu pins s σ H _ _ v u Q I rx ry ⟨_, _, tx.dp, ty.dp, hm.1, hm.2, q _ _ .refl (.bl _)⟩
    · cases hd
  · split at hd
    · rename_i hm
      rw [Bool.and_eq_true] at hm
      cases hd
      obtain ⟨a, vs, rfl, h1, h2⟩ := ty.tup
      have fx := tx.flat hm.1
      obtain ⟨e1, e2⟩ := inV_eqv fx hm.1 h2 hm.2
      have e3 : flatV x = true := (eqV_eqv fx fx hm.1 hm.1).2
      refine op_notIn_seq pins s σ H _ _ v u Q I rx ry ⟨a, vs, rfl, .inr h1.seq, e3, e2, ?_⟩
      rw [if_pos rfl, e1]
      exact q _ _ .refl (.bl _)
    · cases hd
  · cases hd
/-! ### subscripts -/
theorem atI_dvs {K : PySem.W.Frag} {B : Addr → Prop} {H : Hp} {vs : List V} {ds : List D} (h : DVs K B H vs ds) {i : Int} {d : D} (e : atI ds i = some d) : ∃ v, atI vs i = some v ∧ DV K B H v d := by
  unfold atI at e ⊢
  rw [h.len]
  cases e1 : ixN ds.length i with
  | none => rw [e1] at e; cases e
  | some j => rw [e1] at e; exact h.get e
theorem ix_d : IxR X (rOp X.K dIx) := by
  intro value slice pins s σ H x y v u Q I rx ry h hsub
  obtain ⟨B, dx, dy, d, hb, tx, ty, hd, q⟩ := h
  unfold dIx at hd
  split at hd
  · cases ty.int
    obtain ⟨a, vs, rfl, h1, h2⟩ := tx.tup
    obtain ⟨w, e1, e2⟩ := atI_dvs h2 hd
    exact ix_tup value slice pins s σ H _ _ v u Q I rx ry ⟨a, vs, _, w, rfl, rfl, h1.seq, e1, q _ _ .refl e2⟩ hsub
  · cases ty.int
    obtain ⟨a, vs, rfl, h1, h2⟩ := tx.lst
    obtain ⟨w, e1, e2⟩ := atI_dvs h2 hd
    exact ix_list value slice pins s σ H _ _ v u Q I rx ry ⟨a, vs, _, w, rfl, rfl, SqL.of h1, e1, q _ _ .refl e2⟩ hsub
  · split at hd
    · rename_i z i hz
      cases tx.str
      cases ty.int
      cases e1 : atI z.cps.toList i with
      | none => rw [e1] at hd; cases hd
      | some c =>
        rw [e1] at hd
        cases hd
        exact ix_str value slice pins s σ H _ _ v u Q I rx ry ⟨z, i, c, rfl, rfl, by rw [szL_eq]; exact hz, e1, q _ _ .refl (.str _)⟩ hsub
    · cases hd
  · cases hd
end
theorem qe_ix {X : Cx} {XP : XPt} {pos : Pos} {a b : Expr} {f g : Mo Ref} (ha : QE X XP a f) (hb : QE X XP b g) (hs : PlainIx b := by intro _ _; rfl) : QE X XP (.Subscript a b pos) (eBin dIx f g) :=
  PE.imp (pe_ix ix_d ha hb hs) fun σ H Q h => two_of h
/-! ### slices -/
def tO (K : PySem.W.Frag) (XP : XPt) (f : Mo (Option Int)) : TO := fun σ H Q => ∃ c Z W s, Rel K c Z W s σ H ∧ Run K XP c Z W σ H (f s) fun o _ _ H' => Q o H'
def QO (X : Cx) (XP : XPt) (e : Option Expr) (f : Mo (Option Int)) : Prop := PO X e (tO X.K XP f)
theorem PO.imp {X : Cx} {e : Option Expr} {t t' : TO} (h : PO X e t) (i : ∀ σ H Q, t' σ H Q → t σ H Q) : PO X e t' := ⟨fun pins s σ H Q I q => h.run pins s σ H Q I (i σ H Q q)⟩
def oNone : Mo (Option Int) := fun s => .ok none s
def oSome (f : Mo Ref) : Mo (Option Int) := bnd f fun q => bnd (rd q) fun d s => match d with
  | .int i => .ok (some i) s
  | _ => .stuck
section
variable {X : Cx} {XP : XPt} {pos p2 : Pos} {e : Expr} {f : Mo Ref} {lo hi : Option Expr} {fl fh : Mo (Option Int)}
theorem qo_none : QO X XP none oNone := PO.imp po_none fun σ H Q ⟨c, Z, W, s, r, h⟩ => h W H .refl r
theorem qo_some (h : QE X XP e f) : QO X XP (some e) (oSome f) := PO.imp (po_some h) fun σ H Q ⟨c, Z, W, s, r, h⟩ => ⟨c, Z, W, s, r, h.bind.imp fun q s1 W1 H1 x1 r1 h1 v rv => by
  obtain ⟨d, t, h2⟩ := h1.rd r1 rv
  cases d with
  | int i => cases t.int; exact ⟨i, rfl, h2 W1 H1 .refl r1⟩
  | none => exact h2.elim
  | bool _ => exact h2.elim
  | str _ => exact h2.elim
  | list _ => exact h2.elim
  | tuple _ => exact h2.elim
  | dict _ => exact h2.elim⟩
def eSl (f : Mo Ref) (fl fh : Mo (Option Int)) : Mo Ref := bnd f fun q => bnd fl fun l => bnd fh fun h => bnd (rd q) fun d => lift (dSl d l h)
def rSl (K : PySem.W.Frag) (p : D → Option Int → Option Int → Option D) : V → Option Int → Option Int → Hp → VK → Prop := fun x lo hi H Q => ∃ B dx d, (∀ a, B a → ∃ o, H a = some o) ∧ TV K B H x dx ∧ p dx lo hi = some d ∧ ∀ v H', Grow H H' → DV K B H' v d → Q v H'
theorem cut_dvs {K : PySem.W.Frag} {B : Addr → Prop} {H : Hp} {vs : List V} {ds : List D} (h : DVs K B H vs ds) (lo hi : Option Int) : DVs K B H (cutV vs lo hi) (cutD ds lo hi) := by
  unfold cutV cutD
  rw [h.len]
  exact (h.drop _).take _
theorem cut_all {ds : List D} {lo hi : Option Int} (h1 : HT.sIx ds.length 0 lo = 0) (h2 : HT.sIx ds.length ds.length hi = ds.length) : cutD ds lo hi = ds := by
  unfold cutD
  rw [h1, h2]
  simp
theorem sl_d : SlR X (rSl X.K dSl) := by
  intro pins s σ H x v vl vu lo hi sl Q I rx hs pl pu h
  obtain ⟨B, dx, d, hb, tx, hd, q⟩ := h
  unfold dSl at hd
  split at hd
  · cases hd
    obtain ⟨a, vs, rfl, h1, h2⟩ := tx.tup
    refine sl_tupA pins s σ H _ v vl vu _ _ sl Q I rx hs pl pu ⟨a, vs, rfl, h1.seq, fun ⟨e1, e2⟩ => q _ _ .refl ?_, fun _ p hp => q _ _ (Grow.upd hp) (new_tup hb hp (cut_dvs h2 _ _))⟩
    rw [h2.len] at e1 e2
    rw [cut_all e1 e2]
    exact tx.tupV
  · cases hd
    obtain ⟨a, vs, rfl, h1, h2⟩ := tx.lst
    exact sl_list pins s σ H _ v vl vu _ _ sl Q I rx hs pl pu ⟨a, vs, rfl, SqL.of h1, fun p hp => q _ _ (Grow.upd hp) (new_lst hb hp (cut_dvs h2 _ _))⟩
  · cases hd
theorem qe_sl (he : QE X XP e f) (hl : QO X XP lo fl) (hh : QO X XP hi fh) : QE X XP (.Subscript e (.Slice lo hi none p2) pos) (eSl f fl fh) := PE.imp (pe_slice sl_d he hl hh) fun σ H Q ⟨c, Z, W, s, r, h⟩ =>
  ⟨c, Z, W, s, r, h.bind.imp fun q s1 W1 H1 x1 r1 h1 v rv => ⟨c, Z, W1, s1, r1, h1.bind.imp fun l s2 W2 H2 x2 r2 h2 => ⟨c, Z, W2, s2, r2, h2.bind.imp fun u s3 W3 H3 x3 r3 h3 => by
    obtain ⟨d, t, h4⟩ := h3.rd r3 ((rv.step r1 x2).step r2 x3)
    obtain ⟨y, hy, h5⟩ := h4.lift
    exact ⟨blk Z W3, d, y, fun a b => r3.blkT b, t, hy, fun v H' g dv => h5 W3 H' g.stp (r3.grow g) v dv⟩⟩⟩⟩
end
end Ev
set_option Elab.async false
set_option linter.all false
set_option maxRecDepth 100000
set_option maxHeartbeats 2000000
/-! Ev7: built-in functions on data -/
namespace Ev
open PySem PySem.Spec PyProof.Rows L2

/-- f(x), by values -/
def rC1 (K : PySem.W.Frag) (p : D → Option D) : List V → Hp → VK → Prop := fun xs H Q => ∃ x B dx d, xs = [x] ∧ (∀ a, B a → ∃ o, H a = some o) ∧ TV K B H x dx ∧ p dx = some d ∧ ∀ v H', Grow H H' → DV K B H' v d → Q v H'
def rC2 (K : PySem.W.Frag) (p : D → D → Option D) : List V → Hp → VK → Prop := fun xs H Q => ∃ x y B dx dy d, xs = [x, y] ∧ (∀ a, B a → ∃ o, H a = some o) ∧ TV K B H x dx ∧ TV K B H y dy ∧ p dx dy = some d ∧ ∀ v H', Grow H H' → DV K B H' v d → Q v H'
section
variable {X : Cx} {XP : XPt} {p pos : Pos} {a b : Expr} {f g : Mo Ref} {x : Str} {id T : String} {pd : D → Option D} {pd2 : D → D → Option D}
theorem one_of {σ : Sl} {H : Hp} {Q : VK} (h : tE X.K XP (eUn pd f) σ H Q) : tCB (rC1 X.K pd) (tCons (tE X.K XP f) tNil) σ H Q := by
  obtain ⟨c, Z, W, s, r, h⟩ := h
  refine ⟨c, Z, W, s, r, h.bind.imp fun q1 s1 W1 H1 x1 r1 h1 v rv => ?_⟩
  obtain ⟨dx, tx, h3⟩ := h1.rd r1 rv
  obtain ⟨d, hd, h5⟩ := h3.lift
  exact ⟨v, blk Z W1, dx, d, rfl, fun a ha => r1.blkT ha, tx, hd, fun v H' gr dv => h5 W1 H' gr.stp (r1.grow gr) v dv⟩
theorem pair_of {σ : Sl} {H : Hp} {Q : VK} (h : tE X.K XP (eBin pd2 f g) σ H Q) : tCB (rC2 X.K pd2) (tCons (tE X.K XP f) (tCons (tE X.K XP g) tNil)) σ H Q := by
  obtain ⟨c, Z, W, s, r, h⟩ := h
  refine ⟨c, Z, W, s, r, h.bind.imp fun q1 s1 W1 H1 x1 r1 h1 v rv => ⟨c, Z, W1, s1, r1, h1.bind.imp fun q2 s2 W2 H2 x2 r2 h2 u ru => ?_⟩⟩
  obtain ⟨dx, tx, h3⟩ := h2.rd r2 (rv.step r1 x2)
  obtain ⟨dy, ty, h4⟩ := h3.rd r2 ru
  obtain ⟨d, hd, h5⟩ := h4.lift
  exact ⟨v, u, blk Z W2, dx, dy, d, rfl, fun a ha => r2.blkT ha, tx, ty, hd, fun v H' gr dv => h5 W2 H' gr.stp (r2.grow gr) v dv⟩
theorem qe_b1 (hc : CallR X (.builtin id) (rC1 X.K pd)) (hm : X.mg x = none) (hv : bootBuiltins x = some (.builtin id)) (ha : QE X XP a f) (hg : Gl X x := by rfl) (hn : x ≠ "__name__" := by decide) (hdb : (x == ("__debug__" : Str)) = false := by decide)
    (he : starEach [a] X.env = [(false, eval a X.env)] := by rfl) : QE X XP (.Call (.Name x p) [a] [] pos) (eUn pd f) :=
  PE.imp (pe_callB hc hg hm hv (pa_cons ha pa_nil he) hn hdb he rfl) fun σ H Q h => one_of h
theorem qe_t1 (hc : CallR X (.type T) (rC1 X.K pd)) (hm : X.mg x = none) (hv : bootBuiltins x = some (.type T)) (ha : QE X XP a f) (hg : Gl X x := by rfl) (hn : x ≠ "__name__" := by decide) (hdb : (x == ("__debug__" : Str)) = false := by decide)
    (he : starEach [a] X.env = [(false, eval a X.env)] := by rfl) : QE X XP (.Call (.Name x p) [a] [] pos) (eUn pd f) :=
  PE.imp (pe_callTy hc hg hm hv (pa_cons ha pa_nil he) hn hdb he rfl) fun σ H Q h => one_of h
theorem qe_b2 (hc : CallR X (.builtin id) (rC2 X.K pd2)) (hm : X.mg x = none) (hv : bootBuiltins x = some (.builtin id)) (ha : QE X XP a f) (hb : QE X XP b g) (hg : Gl X x := by rfl) (hn : x ≠ "__name__" := by decide) (hdb : (x == ("__debug__" : Str)) = false := by decide)
    (he : starEach [a, b] X.env = (false, eval a X.env) :: starEach [b] X.env := by rfl) (he2 : starEach [b] X.env = [(false, eval b X.env)] := by rfl) : QE X XP (.Call (.Name x p) [a, b] [] pos) (eBin pd2 f g) :=
  PE.imp (pe_callB hc hg hm hv (pa_cons ha (pa_cons hb pa_nil he2) he) hn hdb he (by rw [he2]; rfl)) fun σ H Q h => pair_of h
/-- a function of another module, by its name -/
theorem qe_b2f (hc : CallR X (.builtin id) (rC2 X.K pd2)) (hm : X.mg x = some (.builtin id)) (ha : QE X XP a f) (hb : QE X XP b g) (hg : Gl X x := by rfl) (hdb : (x == ("__debug__" : Str)) = false := by decide)
    (he : starEach [a, b] X.env = (false, eval a X.env) :: starEach [b] X.env := by rfl) (he2 : starEach [b] X.env = [(false, eval b X.env)] := by rfl) : QE X XP (.Call (.Name x p) [a, b] [] pos) (eBin pd2 f g) :=
  PE.imp (pe_callBfun hc hg hm (pa_cons ha (pa_cons hb pa_nil he2) he) hdb he (by rw [he2]; rfl)) fun σ H Q h => pair_of h
end

/-! ### the functions -/
def dLen : D → Option D
  | .list ds => some (.int ds.length)
  | .tuple ds => some (.int ds.length)
  | .str x => if x.length ≤ szL then some (.int x.length) else none
  | _ => none
def dInt : D → Option D
  | .int i => some (.int i)
  | .bool b => some (.int (if b then 1 else 0))
  | _ => none
def dAbs : D → Option D
  | .int i => some (.int (if i < 0 then -i else i))
  | _ => none
def dTup : D → Option D
  | .list ds => some (.tuple ds)
  | .tuple ds => some (.tuple ds)
  | _ => none
def dLst : D → Option D
  | .list ds => some (.list ds)
  | .tuple ds => some (.list ds)
  | _ => none
def dLstM : D → Option (List D)
  | .list ds => some ds
  | .tuple ds => some ds
  | _ => none
def dMax2 : D → D → Option D
  | .int i, .int j => some (.int (if j > i then j else i))
  | _, _ => none
def dMin2 : D → D → Option D
  | .int i, .int j => some (.int (if j < i then j else i))
  | _, _ => none
def dGcd : D → D → Option D
  | .int i, .int j => some (.int (Nat.gcd i.natAbs j.natAbs : Nat))
  | _, _ => none
/-- the ints of a list -/
def intsOf : List D → Option (List Int)
  | [] => some []
  | .int i :: r => (intsOf r).map (i :: ·)
  | _ :: _ => none
def boolsOf : List D → Option (List Bool)
  | [] => some []
  | .bool b :: r => (boolsOf r).map (b :: ·)
  | _ :: _ => none
def dSum (d : D) : Option D := match seqOf d with
  | some ds => (intsOf ds).map fun ns => .int ns.sum
  | none => none
def leastI : List Int → Option Int
  | [] => none
  | a :: r => some (r.foldl (fun m x => if x < m then x else m) a)
def mostI : List Int → Option Int
  | [] => none
  | a :: r => some (r.foldl (fun m x => if m < x then x else m) a)
def dMaxI (d : D) : Option D := match seqOf d with
  | some ds => match intsOf ds with
    | some ns => (mostI ns).map .int
    | none => none
  | none => none
def dAll : D → Option D
  | .list ds => (boolsOf ds).map fun bs => .bool (bs.all id)
  | _ => none
def dAny : D → Option D
  | .list ds => (boolsOf ds).map fun bs => .bool (bs.any id)
  | _ => none
def dIsStr : D → Option D
  | .str _ => some (.bool true)
  | .int _ => some (.bool false)
  | .bool _ => some (.bool false)
  | .none => some (.bool false)
  | .list _ => some (.bool false)
  | .tuple _ => some (.bool false)
  | .dict _ => none
theorem least_spec : ∀ (ns : List Int) (a : Int), (ns.foldl (fun m x => if x < m then x else m) a ∈ a :: ns) ∧ ∀ y ∈ a :: ns, ns.foldl (fun m x => if x < m then x else m) a ≤ y
  | [], a => by simp
  | b :: r, a => by
    rw [List.foldl_cons]
    have h := least_spec r (if b < a then b else a)
    refine ⟨?_, fun y hy => ?_⟩
    · have := h.1
      rw [List.mem_cons] at this
      rcases this with e | e
      · rw [e]
        split <;> simp
      · simp [e]
    · have h1 := h.2 (if b < a then b else a) (by simp)
      simp only [List.mem_cons] at hy
      rcases hy with rfl | rfl | hy
      · refine Int.le_trans h1 ?_
        split <;> omega
      · refine Int.le_trans h1 ?_
        split <;> omega
      · exact h.2 y (by simp [hy])
theorem most_spec : ∀ (ns : List Int) (a : Int), (ns.foldl (fun m x => if m < x then x else m) a ∈ a :: ns) ∧ ∀ y ∈ a :: ns, y ≤ ns.foldl (fun m x => if m < x then x else m) a
  | [], a => by simp
  | b :: r, a => by
    rw [List.foldl_cons]
    have h := most_spec r (if a < b then b else a)
    refine ⟨?_, fun y hy => ?_⟩
    · have := h.1
      rw [List.mem_cons] at this
      rcases this with e | e
      · rw [e]
        split <;> simp
      · simp [e]
    · have h1 := h.2 (if a < b then b else a) (by simp)
      simp only [List.mem_cons] at hy
      rcases hy with rfl | rfl | hy
      · refine Int.le_trans ?_ h1
        split <;> omega
      · refine Int.le_trans ?_ h1
        split <;> omega
      · exact h.2 y (by simp [hy])
theorem least_is {ns : List Int} {m n : Int} (h : leastI ns = some n) (h1 : m ∈ ns) (h2 : ∀ y ∈ ns, m ≤ y) : m = n := by
  cases ns with
  | nil => cases h
  | cons a r =>
    cases h
    have s := least_spec r a
    exact Int.le_antisymm (h2 _ s.1) (s.2 _ h1)
theorem most_is {ns : List Int} {m n : Int} (h : mostI ns = some n) (h1 : m ∈ ns) (h2 : ∀ y ∈ ns, y ≤ m) : m = n := by
  cases ns with
  | nil => cases h
  | cons a r =>
    cases h
    have s := most_spec r a
    exact Int.le_antisymm (s.2 _ h1) (h2 _ s.1)
section
variable {K : PySem.W.Frag} {B : Addr → Prop} {H : Hp}
theorem ints_of : ∀ {ds : List D} {vs : List V} {ns : List Int}, DVs K B H vs ds → intsOf ds = some ns → vs = ns.map V.int
  | [], _, _, .nil, e => by cases e; rfl
  | d :: r, _, ns, .cons h t, e => by
    cases d with
    | int i =>
      have e : (intsOf r).map (i :: ·) = some ns := e
      cases e1 : intsOf r with
      | none => rw [e1] at e; cases e
      | some ms =>
        rw [e1] at e
        cases e
        cases h
        rw [ints_of t e1]; rfl
    | none => cases e
    | bool _ => cases e
    | str _ => cases e
    | list _ => cases e
    | tuple _ => cases e
    | dict _ => cases e
theorem bools_of : ∀ {ds : List D} {vs : List V} {ns : List Bool}, DVs K B H vs ds → boolsOf ds = some ns → vs = ns.map V.bl
  | [], _, _, .nil, e => by cases e; rfl
  | d :: r, _, ns, .cons h t, e => by
    cases d with
    | bool i =>
      have e : (boolsOf r).map (i :: ·) = some ns := e
      cases e1 : boolsOf r with
      | none => rw [e1] at e; cases e
      | some ms =>
        rw [e1] at e
        cases e
        cases h
        rw [bools_of t e1]; rfl
    | none => cases e
    | int _ => cases e
    | str _ => cases e
    | list _ => cases e
    | tuple _ => cases e
    | dict _ => cases e
end
section
variable {X : Cx}
theorem cr_len : CallR X (.builtin "len") (rC1 X.K dLen) := by
  intro pins s σ H xs us Q I r h
  obtain ⟨x, B, dx, d, rfl, hb, tx, hd, q⟩ := h
  unfold dLen at hd
  split at hd
  · cases hd
    obtain ⟨a, vs, rfl, h1, h2⟩ := tx.lst
    exact call_len_seq pins s σ H _ us Q I r ⟨a, vs, rfl, .inl (SqL.of h1), by rw [h2.len]; exact q _ _ .refl (.int _)⟩
  · cases hd
    obtain ⟨a, vs, rfl, h1, h2⟩ := tx.tup
    exact call_len_seq pins s σ H _ us Q I r ⟨a, vs, rfl, .inr h1.seq, by rw [h2.len]; exact q _ _ .refl (.int _)⟩
  · split at hd
    · rename_i hz
      cases hd
      cases tx.str
      exact call_len_str pins s σ H _ us Q I r ⟨_, rfl, by rw [szL_eq]; exact hz, q _ _ .refl (.int _)⟩
    · cases hd
  · cases hd
theorem cr_int : CallR X (.type "int") (rC1 X.K dInt) := by
  intro pins s σ H xs us Q I r h
  obtain ⟨x, B, dx, d, rfl, hb, tx, hd, q⟩ := h
  unfold dInt at hd
  split at hd
  · cases hd
    cases tx.int
    exact call_int1 pins s σ H _ us Q I r (.inl ⟨_, rfl, q _ _ .refl (.int _)⟩)
  · cases hd
    cases tx.bool
    exact call_int1 pins s σ H _ us Q I r (.inr ⟨_, rfl, q _ _ .refl (.int _)⟩)
  · cases hd
theorem cr_abs : CallR X (.builtin "abs") (rC1 X.K dAbs) := by
  intro pins s σ H xs us Q I r h
  obtain ⟨x, B, dx, d, rfl, hb, tx, hd, q⟩ := h
  unfold dAbs at hd
  split at hd
  · cases hd
    cases tx.int
    exact call_abs pins s σ H _ us Q I r ⟨_, rfl, q _ _ .refl (.int _)⟩
  · cases hd
theorem cr_tup : CallR X (.type "tuple") (rC1 X.K dTup) := by
  intro pins s σ H xs us Q I r h
  obtain ⟨x, B, dx, d, rfl, hb, tx, hd, q⟩ := h
  unfold dTup at hd
  split at hd
  · cases hd
    obtain ⟨a, vs, rfl, h1, h2⟩ := tx.lst
    exact call_tuple_of pins s σ H _ us Q I r ⟨a, vs, rfl, .inl ⟨SqL.of h1, fun l hl => q _ _ (Grow.upd hl) (new_tup hb hl h2)⟩⟩
  · cases hd
    have tv := tx.tupV
    obtain ⟨a, vs, rfl, h1, h2⟩ := tx.tup
    exact call_tuple_of pins s σ H _ us Q I r ⟨a, vs, rfl, .inr ⟨h1.seq, q _ _ .refl tv⟩⟩
  · cases hd
theorem cr_lst : CallR X (.type "list") (rC1 X.K dLst) := by
  intro pins s σ H xs us Q I r h
  obtain ⟨x, B, dx, d, rfl, hb, tx, hd, q⟩ := h
  unfold dLst at hd
  split at hd
  · cases hd
    obtain ⟨a, vs, rfl, h1, h2⟩ := tx.lst
    exact call_list_of pins s σ H _ us Q I r ⟨a, vs, rfl, .inl (SqL.of h1), fun l hl => q _ _ (Grow.upd hl) (new_lst hb hl h2)⟩
  · cases hd
    obtain ⟨a, vs, rfl, h1, h2⟩ := tx.tup
    exact call_list_of pins s σ H _ us Q I r ⟨a, vs, rfl, .inr h1.seq, fun l hl => q _ _ (Grow.upd hl) (new_lst hb hl h2)⟩
  · cases hd
theorem cr_max2 (hc : X.calm = true) : CallR X (.builtin "max") (rC2 X.K dMax2) := by
  intro pins s σ H xs us Q I r h
  obtain ⟨x, y, B, dx, dy, d, rfl, hb, tx, ty, hd, q⟩ := h
  unfold dMax2 at hd
  split at hd
  · cases hd
    cases tx.int
    cases ty.int
    exact call_max2 hc pins s σ H _ us Q I r ⟨_, _, rfl, q _ _ .refl (.int _)⟩
  · cases hd
theorem cr_min2 (hc : X.calm = true) : CallR X (.builtin "min") (rC2 X.K dMin2) := by
  intro pins s σ H xs us Q I r h
  obtain ⟨x, y, B, dx, dy, d, rfl, hb, tx, ty, hd, q⟩ := h
  unfold dMin2 at hd
  split at hd
  · cases hd
    cases tx.int
    cases ty.int
    exact call_min2 hc pins s σ H _ us Q I r ⟨_, _, rfl, q _ _ .refl (.int _)⟩
  · cases hd
theorem cr_dgcd : CallR X (.builtin "math.gcd") (rC2 X.K dGcd) := by
  intro pins s σ H xs us Q I r h
  obtain ⟨x, y, B, dx, dy, d, rfl, hb, tx, ty, hd, q⟩ := h
  unfold dGcd at hd
  split at hd
  · cases hd
    cases tx.int
    cases ty.int
    exact cr_gcd pins s σ H _ us Q I r ⟨_, _, rfl, q _ _ .refl (.int _)⟩
  · cases hd
theorem cr_dall (hc : X.calm = true) : CallR X (.builtin "all") (rC1 X.K dAll) := by
  intro pins s σ H xs us Q I r h
  obtain ⟨x, B, dx, d, rfl, hb, tx, hd, q⟩ := h
  unfold dAll at hd
  split at hd
  · rename_i ds
    cases e : boolsOf ds with
    | none => rw [e] at hd; cases hd
    | some bs =>
      rw [e] at hd
      cases hd
      obtain ⟨a, vs, rfl, h1, h2⟩ := tx.lst
      have ev := bools_of h2 e
      subst ev
      exact cr_all hc pins s σ H _ us Q I r ⟨a, bs, rfl, SqL.of h1, q _ _ .refl (.bl _)⟩
  · cases hd
theorem cr_dany (hc : X.calm = true) : CallR X (.builtin "any") (rC1 X.K dAny) := by
  intro pins s σ H xs us Q I r h
  obtain ⟨x, B, dx, d, rfl, hb, tx, hd, q⟩ := h
  unfold dAny at hd
  split at hd
  · rename_i ds
    cases e : boolsOf ds with
    | none => rw [e] at hd; cases hd
    | some bs =>
      rw [e] at hd
      cases hd
      obtain ⟨a, vs, rfl, h1, h2⟩ := tx.lst
      have ev := bools_of h2 e
      subst ev
      exact cr_any hc pins s σ H _ us Q I r ⟨a, bs, rfl, SqL.of h1, q _ _ .refl (.bl _)⟩
  · cases hd
/-- isinstance(x, str) -/
def eIsStr (f : Mo Ref) : Mo Ref := eUn dIsStr f
theorem cr_isi : CallR X (.builtin "isinstance") (fun xs H Q => ∃ x B dx d, xs = [x, V.ty "str"] ∧ (∀ a, B a → ∃ o, H a = some o) ∧ TV X.K B H x dx ∧ dIsStr dx = some d ∧ ∀ v H', Grow H H' → DV X.K B H' v d → Q v H') := by
  intro pins s σ H xs us Q I r h
  obtain ⟨x, B, dx, d, rfl, hb, tx, hd, q⟩ := h
  have go : ∀ (T : String) (b : Bool), TyX X.K H x (.type T) → kitB T "str" = some b → d = .bool b → wpAny (model X.prog X.w) X.A (call (.builtin "isinstance") us) (EP X pins σ Q) X.xe s := fun T b h1 h2 h3 =>
    call_isi pins s σ H _ us Q I r ⟨x, _, _, _, b, rfl, .ty "str", h1, kit_ty h2, by subst h3; exact q _ _ .refl (.bl _)⟩
  have go2 : ∀ {t : Value} {T : String} {b : Bool}, TyX X.K H x t → t = .type T → kitB T "str" = some b → d = .bool b → wpAny (model X.prog X.w) X.A (call (.builtin "isinstance") us) (EP X pins σ Q) X.xe s := fun h1 e h2 h3 => go _ _ (e ▸ h1) h2 h3
  cases dx with
  | none => cases hd; cases tx.none; exact go "NoneType" false (.base (by constructor)) (by decide +kernel) rfl
  | bool b => cases hd; cases tx.bool; exact go "bool" false (.base (by constructor)) (by decide +kernel) rfl
  | int i => cases hd; cases tx.int; exact go "int" false (.base (by constructor)) (by decide +kernel) rfl
  | str z => cases hd; cases tx.str; exact go "str" true (.base (by constructor)) (by decide +kernel) rfl
  | list ds =>
    cases hd
    obtain ⟨a, vs, rfl, h1, h2⟩ := tx.lst
    exact go "list" false (.base (by constructor; exact h1)) (by decide +kernel) rfl
  | tuple ds =>
    cases hd
    obtain ⟨a, vs, rfl, h1, h2⟩ := tx.tup
    rcases h1 with ⟨h1, _⟩ | ⟨o, its, n, hk, hc, _⟩
    · exact go "tuple" false (.base (by constructor; exact h1)) (by decide +kernel) rfl
    · exact go "tuple" false (.kTuple hk hc) (by decide +kernel) rfl
  | dict _ => cases hd
theorem qe_isStr {XP : XPt} {p p2 pos : Pos} {a : Expr} {f : Mo Ref} (hm : X.mg "isinstance" = none) (hm2 : X.mg "str" = none) (ha : QE X XP a f) (hg : Gl X "isinstance" := by rfl) (hg2 : Gl X "str" := by rfl)
    (he : starEach [a, .Name "str" p2] X.env = (false, eval a X.env) :: starEach [.Name "str" p2] X.env := by rfl) (he2 : starEach [.Name "str" p2] X.env = [(false, eval (.Name "str" p2) X.env)] := by rfl) : QE X XP (.Call (.Name "isinstance" p) [a, .Name "str" p2] [] pos) (eIsStr f) :=
  PE.imp (pe_callB cr_isi hg hm (by decide +kernel) (pa_cons ha (pa_cons (pe_bltn (v := .ty "str") (u := .type "str") hg2 hm2 (by decide +kernel) rfl) pa_nil he2) he) (by decide) (by decide) he (by rw [he2]; rfl)) fun σ H Q h => by
  obtain ⟨c, Z, W, s, r, h⟩ := h
  refine ⟨c, Z, W, s, r, h.bind.imp fun q1 s1 W1 H1 x1 r1 h1 v rv => ?_⟩
  obtain ⟨dx, tx, h3⟩ := h1.rd r1 rv
  obtain ⟨d, hd, h5⟩ := h3.lift
  exact ⟨v, blk Z W1, dx, d, rfl, fun a ha => r1.blkT ha, tx, hd, fun v H' gr dv => h5 W1 H' gr.stp (r1.grow gr) v dv⟩
end
end Ev
set_option Elab.async false
set_option linter.all false
set_option maxRecDepth 100000
set_option maxHeartbeats 4000000
/-! Ev8: sum, min, max over lists and tuples -/
namespace Ev
open PySem PySem.Spec PySem.W PyProof.Rows L2

section
variable {prog : Program} {w : World} {A : Around} {E : Value → Shared → Prop} {s : Shared}
/-- what a list or a tuple at l begins to walk -/
structure SeqWalk (prog : Program) (w : World) (A : Around) (s : Shared) (l : Addr) (its : Array Value) : Prop where
  run : ∀ (Q : Value → Shared → Prop) (E : Value → Shared → Prop), (∀ s₂ (fp : List Addr) (St : Nat → Heap → Prop), s₂.os = s.os → (∀ b o, s.heap.get? b = some o → s₂.heap.get? b = some o) → s₂ = { s with heap := s₂.heap } →
      Walks prog w A s.heap.objs.size fp [s.heap.objs.size] its.size (fun i v => its[i]? = some v) St → St 0 s₂.heap → (∀ b ∈ fp, b < s₂.heap.objs.size) → Q (.ref s.heap.objs.size) s₂) →
    wpAny (model prog w) A (pyIter (.ref l)) Q E s
theorem seqWalk_list (hh : A.handled = none) {l : Addr} {its : Array Value} (hl : s.heap.IsList l its) : SeqWalk prog w A s l its := ⟨fun Q E h => by
  have hlt : l < s.heap.objs.size := by obtain ⟨_, e, _⟩ := hl; exact Heap.lt_size e
  refine wpAny_pyIter_list hl (h _ _ _ rfl (fun b o e => Heap.get?_push_of_some _ e) rfl (Walks.list hh _ l (Nat.ne_of_lt hlt) its) ⟨⟨_, Heap.get?_push_size _ rfl, rfl, rfl⟩, hl.push _⟩ fun b hb => ?_)
  show b < (s.heap.push _).objs.size
  rw [Heap.size_push]
  simp only [List.mem_cons, List.not_mem_nil, or_false] at hb
  rcases hb with rfl | rfl
  · exact Nat.lt_succ_self _
  · exact Nat.lt_succ_of_lt hlt⟩
theorem seqWalk_tup (hh : A.handled = none) {l : Addr} {its : Array Value} (hl : s.heap.IsTuple l its) : SeqWalk prog w A s l its := ⟨fun Q E h => by
  have hlt : l < s.heap.objs.size := by obtain ⟨_, e, _⟩ := hl; exact Heap.lt_size e
  refine wpAny_pyIter_tuple hl (h _ _ _ rfl (fun b o e => Heap.get?_push_of_some _ e) rfl (Walks.tuple hh _ l (Nat.ne_of_lt hlt) its) ⟨⟨_, Heap.get?_push_size _ rfl, rfl, rfl⟩, hl.at fun o e => Heap.get?_push_of_some _ e⟩ fun b hb => ?_)
  show b < (s.heap.push _).objs.size
  rw [Heap.size_push]
  simp only [List.mem_cons, List.not_mem_nil, or_false] at hb
  rcases hb with rfl | rfl
  · exact Nat.lt_succ_self _
  · exact Nat.lt_succ_of_lt hlt⟩
theorem kept_size {h : Heap} {h2 h' : Heap} (hk : ∀ b o, b ∉ [h.objs.size] → h2.get? b = some o → h'.get? b = some o) (k : ∀ b o, h.get? b = some o → h2.get? b = some o) : ∀ b o, h.get? b = some o → h'.get? b = some o := fun b o e =>
  hk b o (fun z => by
    have z : b = h.objs.size := by simpa using z
    rw [z] at e
    exact absurd (Heap.lt_size e) (Nat.lt_irrefl _)) (k b o e)
theorem sum_seq {l : Addr} {its : Array Value} {ns : List Int} {Q : Value → Shared → Prop} (W : SeqWalk prog w A.in1 s l its) (hi : IntsAre its.toList ns)
    (h : ∀ h' tk t', (∀ b o, s.heap.get? b = some o → h'.get? b = some o) → Q (.int ns.sum t') { s with heap := h', toks := tk }) : wpAny (model prog w) A (call (.builtin "sum") [.ref l]) Q E s := by
  obtain ⟨xs, e⟩ := hi.allInts.items
  have e : its = intItems xs := by simpa using e
  have hn : numsOf (intItems xs).toList = ns := by rw [← e]; exact hi.numsOf
  rw [nums_intItems] at hn
  subst e
  refine call_sum_walkG (W.run _ _ fun s₂ fp St ho k es W2 st hfp => ?_)
  refine ⟨_, fp, _, _, _, St, numAt xs, rfl, W2, st, hfp, fun _ _ => intItems_at, fun h' tk t' hk => ?_⟩
  have := h h' tk t' (kept_size hk k)
  rw [es]
  rw [preSum_eq, List.take_of_length_le (by simp [intItems]), hn]; exact this
end
/-! ### the functions, by values -/
def allAlike (ds : List D) : Bool := ds.all fun a => ds.all fun b => PySem.W.alike a b
def canLt (ds : List D) : Bool := allAlike ds && (ds.all fun d => !isNone d) && decide (PyData.depthAll ds ≤ 64)
/-- the least, the first of several; the greatest likewise -/
def leastD : List D → Option D
  | [] => none
  | a :: r => some (minD a r)
def mostD : List D → Option D
  | [] => none
  | a :: r => some (maxD a r)
def dMin (d : D) : Option D := match seqOf d with
  | some ds => if canLt ds then leastD ds else none
  | none => none
def dMax (d : D) : Option D := match seqOf d with
  | some ds => if canLt ds then mostD ds else none
  | none => none
theorem canLt_of {ds : List D} (h : canLt ds = true) : AlikeAll ds ∧ PyData.depthAll ds ≤ 64 := by
  unfold canLt allAlike at h
  rw [Bool.and_eq_true, Bool.and_eq_true, decide_eq_true_eq, List.all_eq_true, List.all_eq_true] at h
  obtain ⟨⟨c1, c2⟩, c3⟩ := h
  refine ⟨⟨fun x hx y hy => List.all_eq_true.mp (c1 x hx) y hy, fun x hx z => ?_⟩, c3⟩
  have := c2 x hx
  subst z
  cases this
theorem foldl_in {α : Type} (f : α → α → Bool) : ∀ (r : List α) (a : α), r.foldl (fun m x => if f m x then x else m) a ∈ a :: r
  | [], a => by simp
  | b :: r, a => by
    rw [List.foldl_cons]
    have := foldl_in f r (if f a b then b else a)
    rw [List.mem_cons] at this ⊢
    rcases this with e | e
    · rw [e]
      by_cases hf : f a b = true
      · rw [if_pos hf]; exact .inr (by simp)
      · rw [if_neg hf]; exact .inl rfl
    · exact .inr (by simp [e])
section
variable {X : Cx}
theorem cr_dsum (hc : X.calm = true) : CallR X (.builtin "sum") (rC1 X.K dSum) := by
  intro pins s σ H xs us Q I r h
  obtain ⟨x, B, dx, d, rfl, hb, tx, hd, q⟩ := h
  have hh : X.A.in1.handled = none := I.ok.hd hc
  unfold dSum at hd
  cases dx with
  | list ds =>
    cases e : intsOf ds with
    | none => simp only [seqOf, e] at hd; cases hd
    | some ns =>
      simp only [seqOf, e] at hd
      cases hd
      obtain ⟨a, vs, rfl, h1, h2⟩ := tx.lst
      have ev := ints_of h2 e
      subst ev
      obtain ⟨its, rv, hl, _⟩ := I.list (SqL.of h1)
      rw [Vals.ref1 r]
      exact sum_seq (seqWalk_list hh hl.isList) (by simpa using rv.ints) fun h' tk t' hk => ⟨.int _, H, I.kept hk, ⟨_, rfl⟩, q _ _ .refl (.int _)⟩
  | tuple ds =>
    cases e : intsOf ds with
    | none => simp only [seqOf, e] at hd; cases hd
    | some ns =>
      simp only [seqOf, e] at hd
      cases hd
      obtain ⟨a, vs, rfl, h1, h2⟩ := tx.tup
      have ev := ints_of h2 e
      subst ev
      obtain ⟨its, rv, hl, _⟩ := I.tuple h1.seq
      rw [Vals.ref1 r]
      exact sum_seq (seqWalk_tup hh hl) (by simpa using rv.ints) fun h' tk t' hk => ⟨.int _, H, I.kept hk, ⟨_, rfl⟩, q _ _ .refl (.int _)⟩
  | none => cases hd
  | bool _ => cases hd
  | int _ => cases hd
  | str _ => cases hd
  | dict _ => cases hd
/-- the item that a built-in chose of a sequence that is read -/
theorem chosen {pins : List (Addr × Obj)} {s : Shared} {σ : Sl} {H : Hp} {B : Addr → Prop} {vs : List V} {its : List Value} {ds : List D} {Q : VK} {d : D} (I : Inv X pins σ H s) (rv : Vals vs its) (dvs : DVs X.K B H vs ds) (hal : AlikeAll ds) (hm : d ∈ ds)
    (q : ∀ v H', Grow H H' → DV X.K B H' v d → Q v H') {i : Nat} {v : Value} {h' : Heap} {tk : Nat} {bs : List Addr} (hv : its.toArray[i]? = some v) (hr : Reads h' v d bs) (hk : ∀ b o, s.heap.get? b = some o → h'.get? b = some o) : EP X pins σ Q v { s with heap := h', toks := tk } := by
  have e : its[i]? = some v := by simpa using hv
  have hi : i < vs.length := by rw [rv.length]; exact (List.getElem?_eq_some_iff.mp e).1
  obtain ⟨v2, e2, ry⟩ := rv.get (List.getElem?_eq_getElem hi)
  rw [e] at e2; cases e2
  obtain ⟨dd, e3, dv⟩ := dvs.getV (List.getElem?_eq_getElem hi)
  obtain ⟨as1, rd1⟩ := Dp.reads I dd _ v (DV.dp _ _ dv) ry
  have ed : dd = d := PySem.W.alike_unique dd d v as1 bs (hal.1 dd (List.mem_of_getElem? e3) d hm) (reads_keeps hk rd1) hr
  subst ed
  exact ⟨_, H, I.kept hk, ry, q _ _ .refl dv⟩
theorem minD_in (a : D) (r : List D) : minD a r ∈ a :: r := foldl_in (fun m x => PySem.W.dataLt x m) r a
theorem maxD_in (a : D) (r : List D) : maxD a r ∈ a :: r := foldl_in (fun m x => PySem.W.dataLt m x) r a
theorem cr_dmin (hc : X.calm = true) (hu : X.A.units + 65 < cLine) : CallR X (.builtin "min") (rC1 X.K dMin) := by
  intro pins s σ H xs us Q I r h
  obtain ⟨x, B, dx, d, rfl, hb, tx, hd, q⟩ := h
  have hh : X.A.handled = none := I.ok.hd hc
  unfold dMin at hd
  have go : ∀ {ds : List D}, (if canLt ds then leastD ds else none) = some d → ∃ a r, ds = a :: r ∧ d = minD a r ∧ AlikeAll ds ∧ X.A.units + 1 + PyData.depthAll ds < cLine := fun {ds} e => by
    split at e
    · rename_i hcan
      obtain ⟨c1, c2⟩ := canLt_of hcan
      cases ds with
      | nil => cases e
      | cons a r => cases e; exact ⟨a, r, rfl, rfl, c1, by omega⟩
    · cases e
  cases dx with
  | list ds =>
    obtain ⟨a0, r0, rfl, rfl, c1, c2⟩ := go hd
    obtain ⟨a, vs, rfl, h1, h2⟩ := tx.lst
    obtain ⟨its, rv, hl, _⟩ := I.list (SqL.of h1)
    rw [Vals.ref1 r]
    obtain ⟨as, hr⟩ := Dp.readsAll I _ vs its (DVs.dp _ _ h2) rv
    exact min_list_data hh hl.isList (by simpa using hr) c1 c2 fun i v h' tk bs hv hR hk => chosen I rv h2 c1 (minD_in a0 r0) q hv hR hk
  | tuple ds =>
    obtain ⟨a0, r0, rfl, rfl, c1, c2⟩ := go hd
    obtain ⟨a, vs, rfl, h1, h2⟩ := tx.tup
    obtain ⟨its, rv, hl, _⟩ := I.tuple h1.seq
    rw [Vals.ref1 r]
    obtain ⟨as, hr⟩ := Dp.readsAll I _ vs its (DVs.dp _ _ h2) rv
    exact min_tuple_data hh hl (by simpa using hr) c1 c2 fun i v h' tk bs hv hR hk => chosen I rv h2 c1 (minD_in a0 r0) q hv hR hk
  | none => cases hd
  | bool _ => cases hd
  | int _ => cases hd
  | str _ => cases hd
  | dict _ => cases hd
theorem cr_dmax (hc : X.calm = true) (hu : X.A.units + 65 < cLine) : CallR X (.builtin "max") (rC1 X.K dMax) := by
  intro pins s σ H xs us Q I r h
  obtain ⟨x, B, dx, d, rfl, hb, tx, hd, q⟩ := h
  have hh : X.A.handled = none := I.ok.hd hc
  unfold dMax at hd
  have go : ∀ {ds : List D}, (if canLt ds then mostD ds else none) = some d → ∃ a r, ds = a :: r ∧ d = maxD a r ∧ AlikeAll ds ∧ X.A.units + 1 + PyData.depthAll ds < cLine := fun {ds} e => by
    split at e
    · rename_i hcan
      obtain ⟨c1, c2⟩ := canLt_of hcan
      cases ds with
      | nil => cases e
      | cons a r => cases e; exact ⟨a, r, rfl, rfl, c1, by omega⟩
    · cases e
  cases dx with
  | list ds =>
    obtain ⟨a0, r0, rfl, rfl, c1, c2⟩ := go hd
    obtain ⟨a, vs, rfl, h1, h2⟩ := tx.lst
    obtain ⟨its, rv, hl, _⟩ := I.list (SqL.of h1)
    rw [Vals.ref1 r]
    obtain ⟨as, hr⟩ := Dp.readsAll I _ vs its (DVs.dp _ _ h2) rv
    exact max_list_data hh hl.isList (by simpa using hr) c1 c2 fun i v h' tk bs hv hR hk => chosen I rv h2 c1 (maxD_in a0 r0) q hv hR hk
  | tuple ds =>
    obtain ⟨a0, r0, rfl, rfl, c1, c2⟩ := go hd
    obtain ⟨a, vs, rfl, h1, h2⟩ := tx.tup
    obtain ⟨its, rv, hl, _⟩ := I.tuple h1.seq
    rw [Vals.ref1 r]
    obtain ⟨as, hr⟩ := Dp.readsAll I _ vs its (DVs.dp _ _ h2) rv
    exact max_tuple_data hh hl (by simpa using hr) c1 c2 fun i v h' tk bs hv hR hk => chosen I rv h2 c1 (maxD_in a0 r0) q hv hR hk
  | none => cases hd
  | bool _ => cases hd
  | int _ => cases hd
  | str _ => cases hd
  | dict _ => cases hd
end
end Ev
set_option Elab.async false
set_option linter.all false
set_option maxRecDepth 100000
set_option maxHeartbeats 4000000
/-! Ev9: enumerate and zip over lists and tuples -/
namespace Ev
open PySem PySem.Spec PySem.W PyProof.Rows L2

def SqB (K : PySem.W.Frag) (t : Bool) (H : Hp) (a : Addr) (xs : List V) : Prop := if t then SqT K H a xs else SqL K H a xs
def ItrB (t : Bool) (h : Heap) (it a : Addr) (i : Nat) : Prop := if t then h.IsTupleIter it a i else h.IsListIter it a i
def SeB (t : Bool) (h : Heap) (a : Addr) (its : Array Value) : Prop := if t then h.IsTuple a its else h.IsList a its
def obB (t : Bool) (a : Addr) : Obj := if t then { cls := .type "tuple_iterator", data := .fields #[.ref a, .int 0 0] } else { cls := .type "list_iterator", data := .fields #[.ref a, .int 0 0] }
theorem ItrB.at {t : Bool} {h h' : Heap} {it a : Addr} {i : Nat} (x : ItrB t h it a i) (k : ∀ o, h.get? it = some o → h'.get? it = some o) : ItrB t h' it a i := by
  cases t with
  | true => exact Heap.IsTupleIter.at x k
  | false => exact Heap.IsListIter.at x k
theorem ItrB.obj {t : Bool} {h : Heap} {it a : Addr} {i : Nat} (x : ItrB t h it a i) : ∃ o, h.get? it = some o ∧ ∀ v, o.data ≠ .cell v := by
  cases t with
  | true =>
    obtain ⟨o, ho, hc, hd⟩ := (show h.IsTupleIter it a i from x)
    exact ⟨o, ho, fun v q => by rw [hd] at q; cases q⟩
  | false =>
    obtain ⟨o, ho, hc, hd⟩ := (show h.IsListIter it a i from x)
    exact ⟨o, ho, fun v q => by rw [hd] at q; cases q⟩
theorem ItrB.of {t : Bool} {h : Heap} {it a : Addr} (x : h.get? it = some (obB t a)) : ItrB t h it a 0 := by
  cases t with
  | true => exact ⟨_, x, rfl, rfl⟩
  | false => exact ⟨_, x, rfl, rfl⟩
theorem seB {X : Cx} {pins : List (Addr × Obj)} {σ : Sl} {H : Hp} {s : Shared} (I : Inv X pins σ H s) {t : Bool} {a : Addr} {xs : List V} (h : SqB X.K t H a xs) : ∃ its, Vals xs its ∧ SeB t s.heap a its.toArray ∧ a < s.heap.objs.size := by
  cases t with
  | true =>
    obtain ⟨its, rv, p, _⟩ := I.tuple h
    have p' : s.heap.IsTuple a its.toArray := p
    exact ⟨its, rv, p', by obtain ⟨_, e, _⟩ := p'; exact Heap.lt_size e⟩
  | false =>
    obtain ⟨its, rv, p, _⟩ := I.list h
    exact ⟨its, rv, p.isList, p.lt⟩
theorem sqB_inj {X : Cx} {pins : List (Addr × Obj)} {σ : Sl} {H : Hp} {s : Shared} (I : Inv X pins σ H s) {t : Bool} {a : Addr} {xs ys : List V} (h : SqB X.K t H a xs) (h' : SqB X.K t H a ys) : xs = ys := by
  cases t with
  | true => exact I.tuple_inj h h'
  | false => exact I.list_inj h h'
theorem drawsB {prog : Program} {w : World} {A : Around} (hh : A.handled = none) (it a : Addr) (hne : a ≠ it) (its : Array Value) : ∀ t, Draws prog w A it [it, a] its.size (fun i v => its[i]? = some v) (fun i h => ItrB t h it a i ∧ SeB t h a its)
  | true => .tuple hh it a hne its
  | false => .list hh it a hne its
theorem beginsB (a : Addr) (its : Array Value) : ∀ t, Begins (.ref a) (obB t a) (fun h => SeB t h a its)
  | true => begins_tuple a its
  | false => begins_list a its

set_option maxHeartbeats 1000000 in
theorem meets_enumerate_new1 {v : Value} {o : Obj} {H : Heap → Prop} (B : Begins v o H) :
    Meets (Builtin.«enumerate.__new__» ⟨[.type "enumerate", v], []⟩) (fun _ R s => H s.heap ∧
      R (.ok (.ret (.ref (s.heap.push o).objs.size))) { s with heap := (s.heap.push o).push { cls := .type "enumerate", data := .fields #[.none, .bool false, .ref s.heap.objs.size, rawInt 0, .none, .none] } }) :=
  .of_wp fun prog w A R s h => by
    obtain ⟨hp, g, d, tk, os⟩ := s; obtain ⟨h1, h⟩ := h
    have hsub := sub_enumerate
    have q1 : ∀ {A' : Around} {E : Value → Shared → Prop} {Q : Value → Shared → Prop}, Q (.ref hp.objs.size) ⟨hp.push o, g, d, tk, os⟩ → wpAny (model prog w) A' (pyIter v) Q E ⟨hp, g, d, tk, os⟩ :=
      fun q => B.iter prog w _ _ ⟨hp, g, d, tk, os⟩ _ h1 q
    wp_walk using q1
    refine wpAny_stack_any fun st => wpAny_pure ?_
    split
    · rename_i c _ _ _ _ _
      cases (c == Value.type "enumerate")
      · wp_walk using q1
        exact ⟨_, rfl, h⟩
      · wp_walk using q1
        exact ⟨_, rfl, h⟩
    · wp_walk using q1
      exact ⟨_, rfl, h⟩
section
variable {prog : Program} {w : World} {A : Around} {E : Value → Shared → Prop} {s : Shared}
/-- enumerate(v): its two new cells -/
theorem enum_begins1 {v : Value} {o : Obj} {H : Heap → Prop} {Q : Value → Shared → Prop} (B : Begins v o H) (h1 : H s.heap)
    (h : ∀ h', IsEnum h' (s.heap.objs.size + 1) s.heap.objs.size 0 .none → h'.get? s.heap.objs.size = some o → h'.objs.size = s.heap.objs.size + 2 →
      (∀ b o, s.heap.get? b = some o → h'.get? b = some o) → Q (.ref (s.heap.objs.size + 1)) { s with heap := h' }) :
    wpAny (model prog w) A (call (.type "enumerate") [v]) Q E s := by
  refine callType_new F.called_enumerate (by decide) (F.typeCall_enumerate_1 _) (F.newCall_enumerate_1 _) (fun obj => F.args_object_init_2 obj _) F.entry_enumerate_new
    (meets_enumerate_new1 B) ⟨h1, ?_⟩
  have hz : (s.heap.push o).objs.size = s.heap.objs.size + 1 := Heap.size_push ..
  show _ ∧ _
  rw [hz]
  have he : IsEnum ((s.heap.push o).push { cls := .type "enumerate", data := .fields #[.none, .bool false, .ref s.heap.objs.size, rawInt 0, .none, .none] }) (s.heap.objs.size + 1) s.heap.objs.size 0 .none := by
    have := Heap.get?_push_size (s.heap.push o) (o := { cls := .type "enumerate", data := .fields #[.none, .bool false, .ref s.heap.objs.size, rawInt 0, .none, .none] }) rfl
    rw [hz] at this; exact this
  refine ⟨⟨_, he, rfl⟩, h _ he (Heap.get?_push_of_some _ (Heap.get?_push_size _ B.free)) (by rw [Heap.size_push, hz]) fun b o x => Heap.get?_push_of_some _ (Heap.get?_push_of_some _ x)⟩
end
def ItE (K : PySem.W.Frag) (t : Bool) (a : Addr) : It :=
  ⟨fun i H => ∃ (xs : List V) (x : V), SqB K t H a xs ∧ xs[i]? = some x, fun i H v H' => ∃ T x, v = .ref T ∧ H T = none ∧ H' = upd H T (.tup [.int (i : Nat), x]) ∧ ∀ xs, SqB K t H a xs → xs[i]? = some x, fun i H => ∃ xs : List V, SqB K t H a xs ∧ xs.length = i⟩
theorem turn_enumE {P : Program} {w : World} {K : PySem.W.Frag} {elts : List Expr} {kk : Nat} {tpos : Pos} (t : Bool) (a e it : Addr) :
    Turn P w K (.Tuple elts kk tpos) (ItE K t a) [e, it] e (fun i h => (∃ old, IsEnum h e it ((i : Nat) : Int) old) ∧ ItrB t h it a i ∧ e ≠ it ∧ a ≠ it ∧ e ≠ a) where
  mem := by simp
  obj := fun i h st b hb => by
    obtain ⟨⟨old, he⟩, hi, _⟩ := st
    have e' : b = e ∨ b = it := by simpa using hb
    rcases e' with z | z
    · rw [z]; exact ⟨_, he, fun v q => nomatch q⟩
    · rw [z]; exact hi.obj
  keep := fun i h h' st k => let ⟨⟨old, he⟩, hi, hne⟩ := st; ⟨⟨old, k e (by simp) _ he⟩, hi.at fun o q => k it (by simp) o q, hne⟩
  item := by
    intro X hP hw hK hc i pins s σ H E I hf st hg
    subst hP hw hK
    obtain ⟨⟨old, he⟩, hit, hne, hna, hea⟩ := st
    obtain ⟨xs, x, hq, hx⟩ := hg
    obtain ⟨its, rv, p, hal⟩ := seB I hq
    obtain ⟨u, hu, ru⟩ := rv.get hx
    have hel : e < s.heap.objs.size := Heap.lt_size he
    have hil : it < s.heap.objs.size := by obtain ⟨_, q, _⟩ := hit.obj; exact Heap.lt_size q
    have hlt : i < its.toArray.size := by simpa using (List.getElem?_eq_some_iff.mp hu).1
    refine wpAny_pyNext_enum_itemD (drawsB (show X.A.in1.handled = none from I.ok.hd hc) it a hna its.toArray t) he ⟨hit, p⟩ hlt hne (by simp [hne, hea]) fun x' h' tk px ho hit' hT hsz hk => ?_
    have ex : u = x' := by
      have px : its.toArray[i]? = some x' := px
      have hu' : its.toArray[i]? = some u := by simpa using hu
      rw [hu'] at px; cases px; rfl
    subst ex
    refine ⟨_, rfl, wpAny_letOwnedTupleGo_enum (s := { s with heap := h', toks := tk + 1 }) ho fun h'' he' sb => ?_⟩
    have hT2 : h''.get? s.heap.objs.size = some { cls := .type "tuple", data := .seq #[.int i tk, u] } := (sb.2 _ (Nat.ne_of_gt hel)).trans hT
    have new : ObjOk X.prog X.w (upd H s.heap.objs.size (.tup [.int (i : Nat), x])) h'' s.heap.objs.size (.tup [.int (i : Nat), x]) :=
      ⟨by show 2 ≤ sizeLine; decide, [.int i tk, u], .cons ⟨_, rfl⟩ (.cons ru .nil), ⟨_, hT2, rfl, _, rfl⟩⟩
    have I1 : Inv X pins σ (upd H s.heap.objs.size (.tup [.int (i : Nat), x])) { s with heap := h'', toks := tk + 1 } :=
      I.turnedNew (ch := [e, it]) (fun b ob hb q => (sb.2 b (fun z => hb (by simp [z]))).trans (hk b ob (fun z => hb (by simp [z])) (fun z => hb (by simp [z])) q)) hf (Nat.le_refl _) new
    refine ⟨.ref s.heap.objs.size, _, I1, rfl, ⟨_, x, rfl, I.hok.fresh (Nat.le_refl _), rfl, fun l hl => by rw [sqB_inj I hl hq]; exact hx⟩, ⟨⟨u, ?_⟩, hit'.1.at fun o q => (sb.2 it (Ne.symm hne)).trans q, hne, hna, hea⟩, fun b hb => ?_⟩
    · have e1 : ((i + 1 : Nat) : Int) = (i : Int) + 1 := by omega
      rw [e1]; exact he'
    · have hb' : b < s.heap.objs.size := by
        have e' : b = e ∨ b = it := by simpa using hb
        rcases e' with z | z
        · rw [z]; exact hel
        · rw [z]; exact hil
      rw [upd_ne (Nat.ne_of_lt hb')]
      exact (hf b hb).1
  done := by
    intro X hP hw hK hc i pins s σ H E I hf st hg
    subst hP hw hK
    obtain ⟨⟨old, he⟩, hit, hne, hna, hea⟩ := st
    obtain ⟨xs, hq, hx⟩ := hg
    obtain ⟨its, rv, p, hal⟩ := seB I hq
    obtain ⟨f0, f1, f2, f3, f4, f5⟩ := hf it (by simp)
    have hl := rv.length
    have hn : i = its.toArray.size := by simp; omega
    have st' : ItrB t s.heap it a its.toArray.size ∧ SeB t s.heap a its.toArray := ⟨hn ▸ hit, p⟩
    exact wpAny_pyNext_enum_endD (drawsB (show X.A.in1.handled = none from I.ok.hd hc) it a hna its.toArray t) he st' fun h' eb => ⟨rfl, I.turned (t' := s.toks) (fun b o hb q => eb b o hb q) f0 f1 f3 f4 f5⟩
  self := fun A i s Q E st h => let ⟨⟨_, he⟩, _⟩ := st; wpAny_pyIter_enum he h
def iEnB (K : PySem.W.Frag) (ta : TA) : TI := fun σ H R => ta σ H fun vs H1 => ∃ t a xs, vs = [.ref a] ∧ SqB K t H1 a xs ∧ R (ItE K t a) H1
theorem pi_enumB {X : Cx} {e : Expr} {ta : TA} {p pos tpos : Pos} {elts : List Expr} {kk : Nat} (hg : Gl X "enumerate") (hm : X.mg "enumerate" = none) (ha : PA X [e] ta) (hs : starEach [e] X.env = [(false, eval e X.env)] := by rfl) :
    PI X (.Tuple elts kk tpos) (.Call (.Name "enumerate" p) [e] [] pos) (iEnB X.K ta) := by
  refine ⟨fun pins s σ H R I h => ?_⟩
  refine Call_ (ld_blt I hg hm boot_enumerate (PyProof.Rows.callWith_type1 (thn (ha.run pos pins s σ H _ I h) fun us s1 ⟨vs, H1, I1, r1, q1⟩ => ?_) hs rfl))
  obtain ⟨t, a, xs, ex, hq, q⟩ := q1
  subst ex
  cases r1 with
  | cons r rr =>
    cases rr
    cases r
    obtain ⟨its, rv, p', hal⟩ := seB I1 hq
    refine enum_begins1 (beginsB a its.toArray t) p' fun h' he hit hsz hk => wpAny_pyIter_enum he ?_
    have I2 : Inv X pins σ H1 { s1 with heap := h' } := I1.kept (t' := s1.toks) hk
    refine ⟨s1.heap.objs.size + 1, [s1.heap.objs.size + 1, s1.heap.objs.size], _, _, H1, rfl, I2, turn_enumE t a (s1.heap.objs.size + 1) s1.heap.objs.size, ⟨⟨.none, he⟩, .of hit, Nat.succ_ne_self _, Nat.ne_of_lt hal, Nat.ne_of_gt (Nat.lt_succ_of_lt hal)⟩, fun b hb => ?_, q⟩
    have e' : b = s1.heap.objs.size + 1 ∨ b = s1.heap.objs.size := by simpa using hb
    have hle : s1.heap.objs.size ≤ b := by
      rcases e' with z | z
      · rw [z]; exact Nat.le_add_right _ _
      · rw [z]; exact Nat.le_refl _
    exact I1.fpOk hle (I1.hok.fresh hle)
/-! ### zip -/
def ItZ (K : PySem.W.Frag) (t1 t2 : Bool) (a b : Addr) : It :=
  ⟨fun i H => ∃ (xs ys : List V) (x y : V), SqB K t1 H a xs ∧ SqB K t2 H b ys ∧ xs[i]? = some x ∧ ys[i]? = some y,
    fun i H v H' => ∃ T x y, v = .ref T ∧ H T = none ∧ H' = upd H T (.tup [x, y]) ∧ (∀ xs, SqB K t1 H a xs → xs[i]? = some x) ∧ ∀ ys, SqB K t2 H b ys → ys[i]? = some y,
    fun i H => ∃ xs ys : List V, SqB K t1 H a xs ∧ SqB K t2 H b ys ∧ i ≤ xs.length ∧ i ≤ ys.length ∧ (i = xs.length ∨ i = ys.length)⟩
theorem turn_zipB {P : Program} {w : World} {K : PySem.W.Frag} {elts : List Expr} {kk : Nat} {tpos : Pos} (t1 t2 : Bool) {a b z TI TO i1 i2 : Addr} (S : ZipSep2 z TI TO i1 i2 [i1, a] [i2, b]) (ha : a ≠ i1) (hb : b ≠ i2) :
    Turn P w K (.Tuple elts kk tpos) (ItZ K t1 t2 a b) [z, TI, TO, i1, i2] z (fun i h => IsZip h z TI TO .none ∧ IsTupOf2 h TI (.ref i1) (.ref i2) ∧ (∃ x y, IsTupOf2 h TO x y) ∧ ItrB t1 h i1 a i ∧ ItrB t2 h i2 b i) where
  mem := by simp
  obj := fun i h st c hc => by
    obtain ⟨hz, hTI, ⟨x, y, hTO⟩, h1, h2⟩ := st
    have e' : c = z ∨ c = TI ∨ c = TO ∨ c = i1 ∨ c = i2 := by simpa using hc
    rcases e' with q | q | q | q | q
    · rw [q]; exact ⟨_, hz, fun v q => nomatch q⟩
    · rw [q]; exact ⟨_, hTI, fun v q => nomatch q⟩
    · rw [q]; exact ⟨_, hTO, fun v q => nomatch q⟩
    · rw [q]; exact h1.obj
    · rw [q]; exact h2.obj
  keep := fun i h h' st k => by
    obtain ⟨hz, hTI, ⟨x, y, hTO⟩, h1, h2⟩ := st
    exact ⟨k z (by simp) _ hz, k TI (by simp) _ hTI, ⟨x, y, k TO (by simp) _ hTO⟩, h1.at fun o q => k i1 (by simp) o q, h2.at fun o q => k i2 (by simp) o q⟩
  item := by
    intro X hP hw hK hc i pins s σ H E I hf st hg
    subst hP hw hK
    obtain ⟨hz, hTI, ⟨x0, y0, hTO⟩, h1, h2⟩ := st
    obtain ⟨xs, ys, x, y, hqx, hqy, hx, hy⟩ := hg
    obtain ⟨its, rv, p, hal⟩ := seB I hqx
    obtain ⟨its2, rv2, p2, hbl⟩ := seB I hqy
    obtain ⟨u, hu, ru⟩ := rv.get hx
    obtain ⟨u2, hu2, ru2⟩ := rv2.get hy
    have hzl : z < s.heap.objs.size := Heap.lt_size hz
    have hlt1 : i < its.toArray.size := by simpa using (List.getElem?_eq_some_iff.mp hu).1
    have hlt2 : i < its2.toArray.size := by simpa using (List.getElem?_eq_some_iff.mp hu2).1
    refine wpAny_pyNext_zipD2_item S (drawsB (show X.A.in1.handled = none from I.ok.hd hc) i1 a ha its.toArray t1) (drawsB (show X.A.in1.handled = none from I.ok.hd hc) i2 b hb its2.toArray t2) hz hTI hTO ⟨h1, p⟩ ⟨h2, p2⟩ hlt1 hlt2 fun x1 x2 h' tk px1 px2 z' TO' h1' h2' hT hsz hk => ?_
    have ex : u = x1 := by
      have px : its.toArray[i]? = some x1 := px1
      have hu' : its.toArray[i]? = some u := by simpa using hu
      rw [hu'] at px; cases px; rfl
    have ex2 : u2 = x2 := by
      have px : its2.toArray[i]? = some x2 := px2
      have hu' : its2.toArray[i]? = some u2 := by simpa using hu2
      rw [hu'] at px; cases px; rfl
    subst ex ex2
    refine ⟨_, rfl, wpAny_letOwnedTupleGo_zip (s := { s with heap := h', toks := tk }) z' fun h'' z'' sb => ?_⟩
    have hT2 : h''.get? s.heap.objs.size = some { cls := .type "tuple", data := .seq #[u, u2] } := (sb.2 _ (Nat.ne_of_gt hzl)).trans hT
    have new : ObjOk X.prog X.w (upd H s.heap.objs.size (.tup [x, y])) h'' s.heap.objs.size (.tup [x, y]) :=
      ⟨by show 2 ≤ sizeLine; decide, [u, u2], .cons ru (.cons ru2 .nil), ⟨_, hT2, rfl, _, rfl⟩⟩
    have I1 : Inv X pins σ (upd H s.heap.objs.size (.tup [x, y])) { s with heap := h'', toks := tk } :=
      I.turnedNew (t' := tk) (ch := [z, TI, TO, i1, i2]) (fun c o hb q => (sb.2 c (fun q' => hb (by simp [q']))).trans (hk c o (fun q' => hb (by simp [q'])) (fun q' => hb (by simp [q'])) (fun q' => hb (by simp [q'])) (fun q' => hb (by simp [q'])) q)) hf (Nat.le_refl _) new
    refine ⟨.ref s.heap.objs.size, _, I1, rfl, ⟨_, x, y, rfl, I.hok.fresh (Nat.le_refl _), rfl, fun l hl => by rw [sqB_inj I hl hqx]; exact hx, fun l hl => by rw [sqB_inj I hl hqy]; exact hy⟩, ⟨z'', ?_, ⟨u, u2, ?_⟩, ?_, ?_⟩, fun c hcm => ?_⟩
    · exact (sb.2 _ S.TIz).trans (hk _ _ S.TIz S.TITO S.TIi1 S.TIi2 hTI)
    · exact (sb.2 _ S.TOz).trans TO'
    · exact h1'.1.at fun o q => (sb.2 _ (Ne.symm S.zi1)).trans q
    · exact h2'.1.at fun o q => (sb.2 _ (Ne.symm S.zi2)).trans q
    · have hlt : c < s.heap.objs.size := by
        have e' : c = z ∨ c = TI ∨ c = TO ∨ c = i1 ∨ c = i2 := by simpa using hcm
        rcases e' with q | q | q | q | q
        · rw [q]; exact hzl
        · rw [q]; exact Heap.lt_size hTI
        · rw [q]; exact Heap.lt_size hTO
        · rw [q]; obtain ⟨_, e1, _⟩ := h1.obj; exact Heap.lt_size e1
        · rw [q]; obtain ⟨_, e2, _⟩ := h2.obj; exact Heap.lt_size e2
      rw [upd_ne (Nat.ne_of_lt hlt)]
      exact (hf c hcm).1
  done := by
    intro X hP hw hK hc i pins s σ H E I hf st hg
    subst hP hw hK
    obtain ⟨hz, hTI, ⟨x0, y0, hTO⟩, h1, h2⟩ := st
    obtain ⟨xs, ys, hqx, hqy, hl1, hl2, hend⟩ := hg
    obtain ⟨its, rv, p, hal⟩ := seB I hqx
    obtain ⟨its2, rv2, p2, hbl⟩ := seB I hqy
    have l1 := rv.length
    have l2 := rv2.length
    exact wpAny_pyNext_zipD2_end S (drawsB (show X.A.in1.handled = none from I.ok.hd hc) i1 a ha its.toArray t1) (drawsB (show X.A.in1.handled = none from I.ok.hd hc) i2 b hb its2.toArray t2) hz hTI hTO ⟨h1, p⟩ ⟨h2, p2⟩ (by simp; omega) (by simp; omega) (by simp; omega) fun h' tk hk => ⟨rfl, I.turnedL (t' := tk) (ch := [z, TI, TO, i1, i2]) (fun c o hb q =>
      hk c o (fun q' => hb (by simp [q'])) (fun q' => hb (by simp [q'])) (fun q' => hb (by simp [q'])) (fun q' => hb (by simp [q'])) q) hf⟩
  self := fun A i s Q E st h => wpAny_pyIter_zip st.1 h
def iZpB (K : PySem.W.Frag) (ta : TA) : TI := fun σ H R => ta σ H fun vs H1 => ∃ t1 t2 a b xs ys, vs = [.ref a, .ref b] ∧ SqB K t1 H1 a xs ∧ SqB K t2 H1 b ys ∧ R (ItZ K t1 t2 a b) H1
theorem pi_zipB {X : Cx} {e e2 : Expr} {ta : TA} {p pos tpos : Pos} {elts : List Expr} {kk : Nat} (hg : Gl X "zip") (hm : X.mg "zip" = none) (ha : PA X [e, e2] ta)
    (hs : starEach [e, e2] X.env = (false, eval e X.env) :: starEach [e2] X.env := by rfl) (hpl : (backTo pos (starEach [e2] X.env)).any (·.1) = false := by rfl) :
    PI X (.Tuple elts kk tpos) (.Call (.Name "zip" p) [e, e2] [] pos) (iZpB X.K ta) := by
  refine ⟨fun pins s σ H R I h => ?_⟩
  refine Call_ (ld_blt I hg hm PyProof.Rows.boot_zip (PyProof.Rows.callWith_type1 (thn (ha.run pos pins s σ H _ I h) fun us s1 ⟨vs, H1, I1, r1, q1⟩ => ?_) hs hpl))
  obtain ⟨t1, t2, a, b, xs, ys, ex, hqx, hqy, q⟩ := q1
  subst ex
  cases r1 with
  | cons r rr =>
    cases rr with
    | cons r' rr =>
      cases rr
      cases r
      cases r'
      have fresh5 : ∀ c, c ∈ [s1.heap.objs.size + 4, s1.heap.objs.size + 2, s1.heap.objs.size + 3, s1.heap.objs.size, s1.heap.objs.size + 1] → FpOk X pins H1 c := fun c hcm => by
        have e' : c = s1.heap.objs.size + 4 ∨ c = s1.heap.objs.size + 2 ∨ c = s1.heap.objs.size + 3 ∨ c = s1.heap.objs.size ∨ c = s1.heap.objs.size + 1 := by simpa using hcm
        have hle : s1.heap.objs.size ≤ c := by
          rcases e' with z | z | z | z | z
          · rw [z]; exact Nat.le_add_right _ _
          · rw [z]; exact Nat.le_add_right _ _
          · rw [z]; exact Nat.le_add_right _ _
          · rw [z]; exact Nat.le_refl _
          · rw [z]; exact Nat.le_add_right _ _
        exact I1.fpOk hle (I1.hok.fresh hle)
      obtain ⟨its, rv, p1, hal⟩ := seB I1 hqx
      obtain ⟨its2, rv2, p2, hbl⟩ := seB I1 hqy
      refine zip_begins2 (beginsB a its.toArray t1) (beginsB b its2.toArray t2) p1 p2 fun h' hz hTI hTO h1 h2 hsz hk => wpAny_pyIter_zip hz ?_
      have I2 : Inv X pins σ H1 { s1 with heap := h' } := I1.kept (t' := s1.toks) hk
      have sep := zip_sep2 (N := s1.heap.objs.size) (fp1 := [a]) (fp2 := [b]) (fun c hc => by rw [List.mem_singleton.mp hc]; exact hal) (fun c hc => by rw [List.mem_singleton.mp hc]; exact hbl)
      exact ⟨s1.heap.objs.size + 4, [s1.heap.objs.size + 4, s1.heap.objs.size + 2, s1.heap.objs.size + 3, s1.heap.objs.size, s1.heap.objs.size + 1], _, _, H1, rfl, I2, turn_zipB t1 t2 sep (Nat.ne_of_lt hal) (Nat.ne_of_lt (Nat.lt_succ_of_lt hbl)), ⟨hz, hTI, ⟨_, _, hTO⟩, .of h1, .of h2⟩, fresh5, q⟩
/-! ### by data -/
def enumD : Nat → List D → List D
  | _, [] => []
  | n, d :: r => .tuple [.int n, d] :: enumD (n + 1) r
def zipD : List D → List D → List D
  | x :: xs, y :: ys => .tuple [x, y] :: zipD xs ys
  | _, _ => []
theorem enumD_len : ∀ (n : Nat) (ds : List D), (enumD n ds).length = ds.length
  | _, [] => rfl
  | n, d :: r => by unfold enumD; rw [List.length_cons, List.length_cons, enumD_len]
theorem enumD_get : ∀ (n i : Nat) (ds : List D), (enumD n ds)[i]? = ds[i]?.map fun d => .tuple [.int ((n + i : Nat)), d]
  | _, i, [] => by simp [enumD]
  | n, 0, d :: r => rfl
  | n, i + 1, d :: r => by
    unfold enumD
    rw [List.getElem?_cons_succ, List.getElem?_cons_succ, enumD_get, show n + 1 + i = n + (i + 1) by omega]
theorem zipD_len : ∀ (xs ys : List D), (zipD xs ys).length = min xs.length ys.length
  | [], _ => by simp [zipD]
  | _ :: _, [] => by simp [zipD]
  | x :: xs, y :: ys => by unfold zipD; rw [List.length_cons, List.length_cons, List.length_cons, zipD_len]; omega
theorem zipD_get : ∀ (i : Nat) (xs ys : List D) (d : D), (zipD xs ys)[i]? = some d → ∃ x y, xs[i]? = some x ∧ ys[i]? = some y ∧ d = .tuple [x, y]
  | _, [], _, _, h => by simp [zipD] at h
  | _, _ :: _, [], _, h => by simp [zipD] at h
  | 0, x :: xs, y :: ys, d, h => by simp [zipD] at h; exact ⟨x, y, rfl, rfl, h.symm⟩
  | i + 1, x :: xs, y :: ys, d, h => by
    unfold zipD at h
    rw [List.getElem?_cons_succ] at h
    obtain ⟨a, b, h1, h2, h3⟩ := zipD_get i xs ys d h
    exact ⟨a, b, by simpa using h1, by simpa using h2, h3⟩
section
variable {K : PySem.W.Frag} {B : Addr → Prop} {H0 : Hp} {a b : Addr} {xs ys : List V} {ds es : List D}
/-- what stands of a value, as a sequence of either kind -/
def StB (K : PySem.W.Frag) (t : Bool) (B : Addr → Prop) (H0 : Hp) (a : Addr) (xs : List V) : Prop := if t then TupAt K B H0 a xs else H0 a = some (.lst xs) ∧ ¬ B a
theorem StB.sq {t : Bool} (h : StB K t B H0 a xs) {H : Hp} (k : ∀ b o, H0 b = some o → NT o → ¬ B b → H b = some o) : SqB K t H a xs := by
  cases t with
  | true =>
    rcases (show TupAt K B H0 a xs from h) with ⟨h, n⟩ | h
    · exact SqT.of (k _ _ h nt_tup n)
    · exact .inr h
  | false => exact SqL.of (k _ _ h.1 nt_lst h.2)
theorem stB_of {v : V} {d : D} {ds : List D} (dv : DV K B H0 v d) (e : seqOf d = some ds) : ∃ t a xs, v = .ref a ∧ StB K t B H0 a xs ∧ DVs K B H0 xs ds := by
  cases dv with
  | lst h n dvs => cases e; exact ⟨false, _, _, rfl, ⟨h, n⟩, dvs⟩
  | tup h dvs => cases e; exact ⟨true, _, _, rfl, h, dvs⟩
  | non => cases e
  | bl _ => cases e
  | int _ => cases e
  | str _ => cases e
theorem it_enum {t : Bool} (st : StB K t B H0 a xs) (dvs : DVs K B H0 xs ds) : ItOk K (ItE K t a) B H0 (enumD 0 ds) := by
  refine ⟨fun H k => ⟨xs, st.sq k, by rw [enumD_len, dvs.len]⟩, fun i d H k e => ?_, fun i d H x H' k e y => ?_⟩
  · rw [enumD_get] at e
    cases e1 : ds[i]? with
    | none => rw [e1] at e; cases e
    | some d' => obtain ⟨v, e', _⟩ := dvs.get e1; exact ⟨xs, v, st.sq k, e'⟩
  · obtain ⟨T, x', rfl, hT, rfl, y⟩ := y
    rw [enumD_get] at e
    cases e1 : ds[i]? with
    | none => rw [e1] at e; cases e
    | some d' =>
      rw [e1] at e
      cases e
      obtain ⟨v, e', dv⟩ := dvs.get e1
      have y' := y xs (st.sq k)
      rw [e'] at y'; cases y'
      refine ⟨.upd hT, fun B' hb hn => ?_⟩
      refine .tup (.inl ⟨upd_same, fun q => by obtain ⟨o, q⟩ := hb T q; rw [hT] at q; cases q⟩) (.cons ?_ (.cons ((DV.mono (it_mono k hn) _ _ dv).grow (.upd hT)) .nil))
      rw [Nat.zero_add]; exact .int _
theorem it_zip {t1 t2 : Bool} (s1 : StB K t1 B H0 a xs) (s2 : StB K t2 B H0 b ys) (dvs : DVs K B H0 xs ds) (evs : DVs K B H0 ys es) : ItOk K (ItZ K t1 t2 a b) B H0 (zipD ds es) := by
  refine ⟨fun H k => ⟨xs, ys, s1.sq k, s2.sq k, ?_, ?_, ?_⟩, fun i d H k e => ?_, fun i d H x H' k e y => ?_⟩
  · rw [zipD_len, dvs.len]; exact Nat.min_le_left _ _
  · rw [zipD_len, evs.len]; exact Nat.min_le_right _ _
  · rw [zipD_len, dvs.len, evs.len]; omega
  · obtain ⟨x, y, h1, h2, rfl⟩ := zipD_get _ _ _ _ e
    obtain ⟨v, e1, _⟩ := dvs.get h1
    obtain ⟨u, e2, _⟩ := evs.get h2
    exact ⟨xs, ys, v, u, s1.sq k, s2.sq k, e1, e2⟩
  · obtain ⟨T, x', z', rfl, hT, rfl, y1, y2⟩ := y
    obtain ⟨x, y, h1, h2, rfl⟩ := zipD_get _ _ _ _ e
    obtain ⟨v, e1, dv⟩ := dvs.get h1
    obtain ⟨u, e2, du⟩ := evs.get h2
    have y1' := y1 xs (s1.sq k)
    have y2' := y2 ys (s2.sq k)
    rw [e1] at y1'; cases y1'
    rw [e2] at y2'; cases y2'
    refine ⟨.upd hT, fun B' hb hn => ?_⟩
    exact .tup (.inl ⟨upd_same, fun q => by obtain ⟨o, q⟩ := hb T q; rw [hT] at q; cases q⟩) (.cons ((DV.mono (it_mono k hn) _ _ dv).grow (.upd hT)) (.cons ((DV.mono (it_mono k hn) _ _ du).grow (.upd hT)) .nil))
end
def iEnum (fs : Mo (List Ref)) : Mo (List D) := bnd fs fun qs => bnd (durs qs) fun ds => liftL (match ds with
  | [d] => (seqOf d).map (enumD 0)
  | _ => none)
def iZip (fs : Mo (List Ref)) : Mo (List D) := bnd fs fun qs => bnd (durs qs) fun ds => liftL (match ds with
  | [a, b] => match seqOf a, seqOf b with
    | some xs, some ys => some (zipD xs ys)
    | _, _ => none
  | _ => none)
section
variable {X : Cx} {XP : XPt} {p pos tpos : Pos} {elts : List Expr} {kk : Nat} {e e2 : Expr} {fs : Mo (List Ref)}
theorem qi_enum (hm : X.mg "enumerate" = none) (ha : QA X XP [e] fs) (hg : Gl X "enumerate" := by rfl) (hs : starEach [e] X.env = [(false, eval e X.env)] := by rfl) : QI X XP (.Tuple elts kk tpos) (.Call (.Name "enumerate" p) [e] [] pos) (iEnum fs) :=
  PI.imp (pi_enumB hg hm ha hs) fun σ H R ⟨c, Z, W, s, r, h⟩ => ⟨c, Z, W, s, r, h.bind.imp fun qs s1 W1 H1 x1 r1 h1 vs rvs => by
    obtain ⟨ds, s2, W2, x2, r2, dvs, h2⟩ := h1.durs r1 rvs
    obtain ⟨es, he, h3⟩ := h2.liftL
    split at he
    · rename_i d
      cases dvs with
      | cons dv dvs =>
        cases dvs
        cases e1 : seqOf d with
        | none => rw [e1] at he; cases he
        | some xs =>
          rw [e1] at he
          cases he
          obtain ⟨t, a, vs, rfl, st, dvs⟩ := stB_of dv e1
          exact ⟨t, a, vs, rfl, st.sq fun b o e _ _ => e, h3 W2 H1 .refl r2 _ (it_enum st dvs)⟩
    · cases he⟩
theorem qi_zip (hm : X.mg "zip" = none) (ha : QA X XP [e, e2] fs) (hg : Gl X "zip" := by rfl) (hs : starEach [e, e2] X.env = (false, eval e X.env) :: starEach [e2] X.env := by rfl) (hpl : (backTo pos (starEach [e2] X.env)).any (·.1) = false := by rfl) :
    QI X XP (.Tuple elts kk tpos) (.Call (.Name "zip" p) [e, e2] [] pos) (iZip fs) :=
  PI.imp (pi_zipB hg hm ha hs hpl) fun σ H R ⟨c, Z, W, s, r, h⟩ => ⟨c, Z, W, s, r, h.bind.imp fun qs s1 W1 H1 x1 r1 h1 vs rvs => by
    obtain ⟨ds, s2, W2, x2, r2, dvs, h2⟩ := h1.durs r1 rvs
    obtain ⟨es, he, h3⟩ := h2.liftL
    split at he
    · rename_i d d'
      cases dvs with
      | cons dv dvs =>
        cases dvs with
        | cons dv' dvs =>
          cases dvs
          cases e1 : seqOf d with
          | none => rw [e1] at he; cases he
          | some xs =>
            cases e2 : seqOf d' with
            | none => rw [e1, e2] at he; cases he
            | some ys =>
              rw [e1, e2] at he
              cases he
              obtain ⟨t, a, vs, rfl, st, dvs⟩ := stB_of dv e1
              obtain ⟨t', b, us, rfl, st', dvs'⟩ := stB_of dv' e2
              exact ⟨t, t', a, b, vs, us, rfl, st.sq fun b o e _ _ => e, st'.sq fun b o e _ _ => e, h3 W2 H1 .refl r2 _ (it_zip st st' dvs dvs')⟩
    · cases he⟩
end
end Ev
set_option Elab.async false
set_option linter.all false
set_option maxRecDepth 100000
set_option maxHeartbeats 4000000
/-! Ev10: chained comparisons, logic as values; lists that are made by operators; lists that are changed -/
namespace Ev
open PySem PySem.Spec PySem.W PyProof.Rows L2

/-! ### a op b op c -/
def eChain (p p' : D → D → Option D) (f g h : Mo Ref) : Mo Ref := bnd f fun a => bnd g fun b => bnd (rd a) fun x => bnd (rd b) fun y => match p x y with
  | some (.bool true) => bnd h fun c => bnd (rd b) fun y => bnd (rd c) fun z => lift (p' y z)
  | some (.bool false) => fun s => .ok (.d (.bool false)) s
  | _ => fun _ => .stuck
def fBool (m : Mo Ref) : Mo Bool := bnd m fun q => bnd (rd q) fun d s => match d with
  | .bool k => .ok k s
  | _ => .stuck
def eAndV (f g : Mo Ref) : Mo Ref := bnd f fun q => bnd (rd q) fun d => match d with
  | .bool true => g
  | .bool false => fun s => .ok (.d (.bool false)) s
  | _ => fun _ => .stuck
def eOrV (f g : Mo Ref) : Mo Ref := bnd f fun q => bnd (rd q) fun d => match d with
  | .bool true => fun s => .ok (.d (.bool true)) s
  | .bool false => g
  | _ => fun _ => .stuck
def eNotV (f : Mo Ref) : Mo Ref := bnd f fun q => bnd (rd q) fun d s => match d with
  | .bool b => .ok (.d (.bool (!b))) s
  | _ => .stuck
section
variable {X : Cx} {XP : XPt} {pos : Pos} {a b c : Expr} {f g h : Mo Ref}
theorem chain_imp {p p' : D → D → Option D} {σ : Sl} {H : Hp} {Q : VK} (hh : tE X.K XP (eChain p p' f g h) σ H Q) : tChain (rOp X.K p) (rOp X.K p') (tE X.K XP f) (tE X.K XP g) (tE X.K XP h) σ H Q := by
  obtain ⟨c, Z, W, s, r, hh⟩ := hh
  refine ⟨c, Z, W, s, r, hh.bind.imp fun q1 s1 W1 H1 x1 r1 h1 v rv => ⟨c, Z, W1, s1, r1, h1.bind.imp fun q2 s2 W2 H2 x2 r2 h2 u ru => ?_⟩⟩
  obtain ⟨dx, tx, h3⟩ := h2.rd r2 (rv.step r1 x2)
  obtain ⟨dy, ty, h4⟩ := h3.rd r2 ru
  cases e : p dx dy with
  | none => rw [e] at h4; exact h4.elim
  | some d =>
    rw [e] at h4
    refine ⟨blk Z W2, dx, dy, d, fun a ha => r2.blkT ha, tx, ty, e, fun w H' gr dv => ?_⟩
    have r3 := r2.grow gr
    cases d with
    | bool k =>
      cases dv
      refine ⟨k, rfl, ?_⟩
      cases k with
      | true =>
        refine iteT ⟨c, Z, W2, s2, r3, (Run.step gr.stp h4).bind.imp fun q3 s3 W3 H3 x3 r4 h5 z rz => ?_⟩
        obtain ⟨dy', ty', h6⟩ := h5.rd r4 ((ru.step r2 gr.stp).step r3 x3)
        obtain ⟨dz, tz, h7⟩ := h6.rd r4 rz
        obtain ⟨d, hd, h8⟩ := h7.lift
        exact ⟨blk Z W3, dy', dz, d, fun a ha => r4.blkT ha, ty', tz, hd, fun v H' gr dv => h8 W3 H' gr.stp (r4.grow gr) v dv⟩
      | false => exact iteF (h4 W2 H' gr.stp r3 _ (.bl false))
    | none => exact h4.elim
    | int _ => exact h4.elim
    | str _ => exact h4.elim
    | list _ => exact h4.elim
    | tuple _ => exact h4.elim
    | dict _ => exact h4.elim
theorem qe_chain {op op' : CmpOp} {p p' : D → D → Option D} (ho : OpR X (compareOp op) (rOp X.K p)) (ho' : OpR X (compareOp op') (rOp X.K p')) (ha : QE X XP a f) (hb : QE X XP b g) (hc : QE X XP c h)
    (hm : lastMarks [op, op'] [b, c] = false := by with_unfolding_all rfl) : QE X XP (.Compare a [op, op'] [b, c] pos) (eChain p p' f g h) :=
  PE.imp (pe_chain ho ho' ha hb hc hm) fun σ H Q h => chain_imp h
theorem qt_chain {op op' : CmpOp} {p p' : D → D → Option D} (ho : OpR X (compareOp op) (rOp X.K p)) (ho' : OpR X (compareOp op') (rOp X.K p')) (ha : QE X XP a f) (hb : QE X XP b g) (hc : QE X XP c h)
    (hm : lastMarks [op, op'] [b, c] = false := by with_unfolding_all rfl) : QT X XP (.Compare a [op, op'] [b, c] pos) (fBool (eChain p p' f g h)) :=
  PT.imp (pt_chain ho ho' ha hb hc hm) fun σ H Q ⟨c, Z, W, s, r, h⟩ => chain_imp ⟨c, Z, W, s, r, h.bind.imp fun q s1 W1 H1 x1 r1 h1 v rv => by
    obtain ⟨d, t, h2⟩ := h1.rd r1 rv
    cases d with
    | bool k => cases t.bool; exact ⟨k, rfl, h2 W1 H1 .refl r1⟩
    | none => exact h2.elim
    | int _ => exact h2.elim
    | str _ => exact h2.elim
    | list _ => exact h2.elim
    | tuple _ => exact h2.elim
    | dict _ => exact h2.elim⟩
variable {rest : List Expr}
theorem qe_one {op} (h : QE X XP a f) : QE X XP (.BoolOp op [a] pos) f := pe_one h
theorem qe_and (ha : QE X XP a f) (hb : QE X XP (.BoolOp .And (b :: rest) pos) g) : QE X XP (.BoolOp .And (a :: b :: rest) pos) (eAndV f g) := PE.imp (pe_and ha hb) fun σ H Q ⟨c, Z, W, s, r, h⟩ =>
  ⟨c, Z, W, s, r, h.bind.imp fun q s1 W1 H1 x1 r1 h1 v rv => by
    obtain ⟨d, t, h2⟩ := h1.rd r1 rv
    cases d with
    | bool k =>
      cases t.bool
      refine ⟨k, rfl, ?_⟩
      cases k with
      | true => exact iteT ⟨c, Z, W1, s1, r1, h2⟩
      | false => exact iteF (h2 W1 H1 .refl r1 _ (.bl false))
    | none => exact h2.elim
    | int _ => exact h2.elim
    | str _ => exact h2.elim
    | list _ => exact h2.elim
    | tuple _ => exact h2.elim
    | dict _ => exact h2.elim⟩
theorem qe_or (ha : QE X XP a f) (hb : QE X XP (.BoolOp .Or (b :: rest) pos) g) : QE X XP (.BoolOp .Or (a :: b :: rest) pos) (eOrV f g) := PE.imp (pe_or ha hb) fun σ H Q ⟨c, Z, W, s, r, h⟩ =>
  ⟨c, Z, W, s, r, h.bind.imp fun q s1 W1 H1 x1 r1 h1 v rv => by
    obtain ⟨d, t, h2⟩ := h1.rd r1 rv
    cases d with
    | bool k =>
      cases t.bool
      refine ⟨k, rfl, ?_⟩
      cases k with
      | true => exact iteT (h2 W1 H1 .refl r1 _ (.bl true))
      | false => exact iteF ⟨c, Z, W1, s1, r1, h2⟩
    | none => exact h2.elim
    | int _ => exact h2.elim
    | str _ => exact h2.elim
    | list _ => exact h2.elim
    | tuple _ => exact h2.elim
    | dict _ => exact h2.elim⟩
theorem qe_notv (ha : QE X XP a f) : QE X XP (.UnaryOp .Not a pos) (eNotV f) := PE.imp (pe_not ha) fun σ H Q ⟨c, Z, W, s, r, h⟩ =>
  ⟨c, Z, W, s, r, h.bind.imp fun q s1 W1 H1 x1 r1 h1 v rv => by
    obtain ⟨d, t, h2⟩ := h1.rd r1 rv
    cases d with
    | bool k => cases t.bool; exact ⟨k, rfl, h2 W1 H1 .refl r1 _ (.bl _)⟩
    | none => exact h2.elim
    | int _ => exact h2.elim
    | str _ => exact h2.elim
    | list _ => exact h2.elim
    | tuple _ => exact h2.elim
    | dict _ => exact h2.elim⟩
end

/-! ### made lists -/
theorem RunM.liftL {K : PySem.W.Frag} {XP : XPt} {c : Option (Addr × Addr)} {Z : Addr → Prop} {W : Own} {σ : Sl} {H : Hp} {s : ES} {o : Option (List D)} {Q : VK} (h : RunM K XP c Z W σ H (Ev.liftL o s) Q) :
    ∃ d, o = some d ∧ RunM K XP c Z W σ H (.ok d s) Q := by
  cases o with
  | none => exact h.elim
  | some d => exact ⟨d, rfl, h⟩
/-- a new list of an operator's, by values -/
def rOpM (K : PySem.W.Frag) (p : D → D → Option (List D)) : R2 := fun x y H Q => ∃ B dx dy ds, (∀ a, B a → ∃ o, H a = some o) ∧ TV K B H x dx ∧ TV K B H y dy ∧ p dx dy = some ds ∧ ∀ a vs, H a = none → DVs K B H vs ds → Q (.ref a) (upd H a (.lst vs))
def mBin (p : D → D → Option (List D)) (f g : Mo Ref) : Mo (List D) := bnd f fun a => bnd g fun b => bnd (rd a) fun x => bnd (rd b) fun y => liftL (p x y)
section
variable {X : Cx} {XP : XPt} {p pos p2 : Pos} {a b : Expr} {f g : Mo Ref}
theorem qm_bin {op : Operator} {p : D → D → Option (List D)} (ho : OpR X (binaryOp op) (rOpM X.K p)) (ha : QE X XP a f) (hb : QE X XP b g) : QM X XP (.BinOp a op b pos) (mBin p f g) :=
  PE.imp (pe_op ho ha hb) fun σ H Q ⟨c, Z, W, s, r, h⟩ => ⟨c, Z, W, s, r, h.bind.imp fun q1 s1 W1 H1 x1 r1 h1 v rv => ⟨c, Z, W1, s1, r1, h1.bind.imp fun q2 s2 W2 H2 x2 r2 h2 u ru => by
    obtain ⟨dx, tx, h3⟩ := h2.rd r2 (rv.step r1 x2)
    obtain ⟨dy, ty, h4⟩ := h3.rd r2 ru
    obtain ⟨ds, hd, h5⟩ := h4.liftL
    exact ⟨blk Z W2, dx, dy, ds, fun a ha => r2.blkT ha, tx, ty, hd, fun a vs ha dvs => h5.new r2 ha dvs⟩⟩⟩
theorem opm_cat : OpR X (binaryOp .Add) (rOpM X.K dAddM) := by
  intro pins s σ H x y v u Q I rx ry h
  obtain ⟨B, dx, dy, ds, hb, tx, ty, hd, q⟩ := h
  unfold dAddM at hd
  split at hd
  · rename_i xs ys
    split at hd
    · rename_i hz
      cases hd
      obtain ⟨a, vs, rfl, h1, h2⟩ := tx.lst
      obtain ⟨b, ws, rfl, h3, h4⟩ := ty.lst
      exact op_cat pins s σ H _ _ v u Q I rx ry ⟨a, b, vs, ws, rfl, rfl, h1, h3, by rw [h2.len, h4.len, szL_eq]; exact hz, fun p hp => q p _ hp (h2.append h4)⟩
    · cases hd
  · cases hd
theorem opm_rep : OpR X (binaryOp .Mult) (rOpM X.K dMulM) := by
  intro pins s σ H x y v u Q I rx ry h
  obtain ⟨B, dx, dy, ds, hb, tx, ty, hd, q⟩ := h
  unfold dMulM at hd
  split at hd
  · split at hd
    · rename_i hm
      unfold repOk at hm
      simp only [Bool.and_eq_true, decide_eq_true_eq] at hm
      cases hd
      cases ty.int
      obtain ⟨a, vs, rfl, h1, h2⟩ := tx.lst
      exact op_rep pins s σ H _ _ v u Q I rx ry ⟨a, _, vs, rfl, rfl, h1, hm.1.1, hm.1.2, by rw [h2.len, szL_eq]; exact hm.2, fun p hp => q p _ hp (h2.repL _)⟩
    · cases hd
  · cases hd
/-- list(x) -/
def mUn (pd : D → Option (List D)) (f : Mo Ref) : Mo (List D) := bnd f fun a => bnd (rd a) fun x => liftL (pd x)
def rC1M (K : PySem.W.Frag) (p : D → Option (List D)) : List V → Hp → VK → Prop := fun xs H Q => ∃ x B dx ds, xs = [x] ∧ (∀ a, B a → ∃ o, H a = some o) ∧ TV K B H x dx ∧ p dx = some ds ∧ ∀ a vs, H a = none → DVs K B H vs ds → Q (.ref a) (upd H a (.lst vs))
theorem one_ofM {pd : D → Option (List D)} {σ : Sl} {H : Hp} {Q : VK} (h : tMk X.K XP (mUn pd f) σ H Q) : tCB (rC1M X.K pd) (tCons (tE X.K XP f) tNil) σ H Q := by
  obtain ⟨c, Z, W, s, r, h⟩ := h
  refine ⟨c, Z, W, s, r, h.bind.imp fun q1 s1 W1 H1 x1 r1 h1 v rv => ?_⟩
  obtain ⟨dx, tx, h3⟩ := h1.rd r1 rv
  obtain ⟨d, hd, h5⟩ := h3.liftL
  exact ⟨v, blk Z W1, dx, d, rfl, fun a ha => r1.blkT ha, tx, hd, fun a vs ha dvs => h5.new r1 ha dvs⟩
theorem qm_t1 {x : Str} {T : String} {pd : D → Option (List D)} (hc : CallR X (.type T) (rC1M X.K pd)) (hm : X.mg x = none) (hv : bootBuiltins x = some (.type T)) (ha : QE X XP a f) (hg : Gl X x := by rfl) (hn : x ≠ "__name__" := by decide) (hdb : (x == ("__debug__" : Str)) = false := by decide)
    (he : starEach [a] X.env = [(false, eval a X.env)] := by rfl) : QM X XP (.Call (.Name x p) [a] [] pos) (mUn pd f) :=
  PE.imp (pe_callTy hc hg hm hv (pa_cons ha pa_nil he) hn hdb he rfl) fun σ H Q h => one_ofM h
theorem qm_b1 {x : Str} {id : String} {pd : D → Option (List D)} (hc : CallR X (.builtin id) (rC1M X.K pd)) (hm : X.mg x = none) (hv : bootBuiltins x = some (.builtin id)) (ha : QE X XP a f) (hg : Gl X x := by rfl) (hn : x ≠ "__name__" := by decide) (hdb : (x == ("__debug__" : Str)) = false := by decide)
    (he : starEach [a] X.env = [(false, eval a X.env)] := by rfl) : QM X XP (.Call (.Name x p) [a] [] pos) (mUn pd f) :=
  PE.imp (pe_callB hc hg hm hv (pa_cons ha pa_nil he) hn hdb he rfl) fun σ H Q h => one_ofM h
theorem cm_lst : CallR X (.type "list") (rC1M X.K dLstM) := by
  intro pins s σ H xs us Q I r h
  obtain ⟨x, B, dx, d, rfl, hb, tx, hd, q⟩ := h
  unfold dLstM at hd
  split at hd
  · cases hd
    obtain ⟨a, vs, rfl, h1, h2⟩ := tx.lst
    exact call_list_of pins s σ H _ us Q I r ⟨a, vs, rfl, .inl (SqL.of h1), fun l hl => q _ _ hl h2⟩
  · cases hd
    obtain ⟨a, vs, rfl, h1, h2⟩ := tx.tup
    exact call_list_of pins s σ H _ us Q I r ⟨a, vs, rfl, .inr h1.seq, fun l hl => q _ _ hl h2⟩
  · cases hd
/-- xs[lo:hi], a new list -/
def mSl (f : Mo Ref) (fl fh : Mo (Option Int)) : Mo (List D) := bnd f fun q => bnd fl fun l => bnd fh fun h => bnd (rd q) fun d => liftL (dSlM d l h)
def rSlM (K : PySem.W.Frag) (p : D → Option Int → Option Int → Option (List D)) : V → Option Int → Option Int → Hp → VK → Prop := fun x lo hi H Q => ∃ B dx ds, (∀ a, B a → ∃ o, H a = some o) ∧ TV K B H x dx ∧ p dx lo hi = some ds ∧ ∀ a vs, H a = none → DVs K B H vs ds → Q (.ref a) (upd H a (.lst vs))
theorem slm : SlR X (rSlM X.K dSlM) := by
  intro pins s σ H x v vl vu lo hi sl Q I rx hs pl pu h
  obtain ⟨B, dx, d, hb, tx, hd, q⟩ := h
  unfold dSlM at hd
  split at hd
  · cases hd
    obtain ⟨a, vs, rfl, h1, h2⟩ := tx.lst
    exact sl_list pins s σ H _ v vl vu _ _ sl Q I rx hs pl pu ⟨a, vs, rfl, SqL.of h1, fun p hp => q _ _ hp (cut_dvs h2 _ _)⟩
  · cases hd
theorem qm_sl {e : Expr} {lo hi : Option Expr} {fl fh : Mo (Option Int)} (he : QE X XP e f) (hl : QO X XP lo fl) (hh : QO X XP hi fh) : QM X XP (.Subscript e (.Slice lo hi none p2) pos) (mSl f fl fh) := PE.imp (pe_slice slm he hl hh) fun σ H Q ⟨c, Z, W, s, r, h⟩ =>
  ⟨c, Z, W, s, r, h.bind.imp fun q s1 W1 H1 x1 r1 h1 v rv => ⟨c, Z, W1, s1, r1, h1.bind.imp fun l s2 W2 H2 x2 r2 h2 => ⟨c, Z, W2, s2, r2, h2.bind.imp fun u s3 W3 H3 x3 r3 h3 => by
    obtain ⟨d, t, h4⟩ := h3.rd r3 ((rv.step r1 x2).step r2 x3)
    obtain ⟨y, hy, h5⟩ := h4.liftL
    exact ⟨blk Z W3, d, y, fun a b => r3.blkT b, t, hy, fun a vs ha dvs => h5.new r3 ha dvs⟩⟩⟩⟩
end

/-! ### a list of one's own is changed -/
section
variable {K : PySem.W.Frag} {c : Option (Addr × Addr)} {Z : Addr → Prop} {W : Own} {s : ES} {σ : Sl} {H : Hp}
theorem Rel.mut (r : Rel K c Z W s σ H) {i : Nat} {xs ys : List D} (hs : s.σ[i]? = some (some (.own xs))) {a : Addr} (hw : W i = some a) {vs : List V} (dv : DVs K (blk Z W) H vs ys) :
    Rel K c Z W (Ev.put i (.own ys) s) σ (upd H a (.lst vs)) ∧ Stp c W H W (upd H a (.lst vs)) := by
  obtain ⟨nz, xs0, ha⟩ := r.wo i a hw
  obtain ⟨a', xv, hw', hsl, _, _⟩ := r.slot i _ hs
  rw [hw] at hw'; cases hw'
  have hi : i < s.σ.length := (List.getElem?_eq_some_iff.mp hs).1
  have k : ∀ b o, H b = some o → NT o → ¬ blk Z W b → upd H a (.lst vs) b = some o ∧ ¬ blk Z W b := fun b o e _ n => ⟨by rw [upd_ne (fun z => n (.inr ⟨i, by rw [z]; exact hw⟩))]; exact e, n⟩
  have wn : ∀ j b, W j = some b → j ≠ i → b ≠ a := fun j b e hj z => hj (r.inj _ _ _ (z ▸ e) hw)
  refine ⟨⟨by simpa [Ev.put] using r.len, fun j sv e => ?_, r.inj, fun j b e => ⟨(r.wo j b e).1, ?_⟩, fun b z => ?_, r.cz, ?_, r.tb.updM ha.1 ha.2, by simpa [Ev.put] using r.len1, r.cL,
    r.cel.same k (fun _ => rfl) rfl fun m b o q e => by rw [upd_ne (wn _ b q (cix_ne (Nat.lt_of_lt_of_le hi r.len1)))]; exact e⟩, ⟨fun b o e _ n _ => by rw [upd_ne (fun z => n i (by rw [z]; exact hw))]; exact e, fun b o e => ?_, fun j b e => .inl ⟨j, e⟩, Nat.le_refl _, fun _ _ _ e => e⟩⟩
  · have e : (s.σ.set i (some (.own ys)))[j]? = some (some sv) := e
    by_cases hj : j = i
    · subst hj
      rw [List.getElem?_set_self hi] at e
      cases e
      exact ⟨a, vs, hw, hsl, upd_same, DVs.mono k _ _ dv⟩
    · rw [List.getElem?_set_ne (Ne.symm hj)] at e
      have q := r.slot j sv e
      cases sv with
      | val d => obtain ⟨v, h1, h2⟩ := q; exact ⟨v, h1, DV.mono k _ _ h2⟩
      | own ds => obtain ⟨b, ws, h1, h2, h3, h4⟩ := q; exact ⟨b, ws, h1, h2, by rw [upd_ne (wn j b h1 hj)]; exact h3, DVs.mono k _ _ h4⟩
      | cur => exact q
      | cel n => exact q
  · by_cases hb : b = a
    · subst hb; exact ⟨_, upd_same, True.intro⟩
    · obtain ⟨_, ws, h⟩ := r.wo j b e
      exact ⟨ws, by rw [upd_ne hb]; exact h⟩
  · have hb : b ≠ a := fun q => nz (q ▸ z)
    rw [upd_ne hb]; exact r.zt b z
  · have q := r.T
    show CurOk c (upd H a (.lst vs)) s.T.cu
    cases hT : s.T.cu with
    | none => rw [hT] at q; exact q
    | some cu =>
      rw [hT] at q
      obtain ⟨a1, l, h1, h3, h4, h5⟩ := q
      obtain ⟨z1, z2⟩ := r.cz _ _ h1
      have n1 : a1 ≠ a := fun q => nz (by rw [← q]; exact z1)
      have n2 : l ≠ a := fun q => nz (by rw [← q]; exact z2)
      exact ⟨a1, l, h1, h3, by rw [upd_ne n1]; exact h4, by rw [upd_ne n2]; exact h5⟩
  · by_cases hb : b = a
    · subst hb; exact ⟨_, upd_same⟩
    · exact ⟨o, by rw [upd_ne hb]; exact e⟩
end
/-- a method that changes: the answer, the list behind it -/
abbrev MOp := List D → List D → Option (D × List D)
def eMeth (i : Nat) (op : MOp) (fs : Mo (List Ref)) : Mo Ref := bnd fs fun qs => bnd (durs qs) fun ds s => match s.σ[i]? with
  | some (some (.own xs)) => match op xs ds with
    | some (r, ys) => .ok (.d r) (put i (.own ys) s)
    | none => .stuck
  | _ => .stuck
def MethOk (K : PySem.W.Frag) (op : MOp) (r : V → List V → Hp → VK → Prop) : Prop :=
  ∀ (H : Hp) (Q : VK) (B : Addr → Prop) (a : Addr) (vs us : List V) (xs ds ys : List D) (d : D), H a = some (.lst vs) → DVs K B H vs xs → DVs K B H us ds → op xs ds = some (d, ys) →
    (∀ v ws, DV K B H v d → DVs K B H ws ys → Q v (upd H a (.lst ws))) → r (.ref a) us H Q
section
variable {X : Cx} {XP : XPt} {e : Expr} {es : List Expr} {fs : Mo (List Ref)} {name x : Str} {p apos cpos : Pos} {id : String} {r : V → List V → Hp → VK → Prop} {op : MOp}
theorem eMeth_ok {i : Nat} (hm : MethOk X.K op r) {c : Option (Addr × Addr)} {Z : Addr → Prop} {W : Own} {s : ES} {σ : Sl} {H : Hp} {Q : VK} {a : Addr} (hσ : σ[i]? = some (some (.ref a))) (rl : Rel X.K c Z W s σ H) {ds : List D} {us : List V} (dvs : DVs X.K (blk Z W) H us ds)
    (h : Run X.K XP c Z W σ H (match s.σ[i]? with
      | some (some (.own xs)) => match op xs ds with
        | some (r, ys) => .ok (.d r) (put i (.own ys) s)
        | none => .stuck
      | _ => .stuck) fun q _ W' H' => ∀ v, RV X.K Z W' H' σ v q → Q v H') : r (.ref a) us H Q := by
  split at h
  · rename_i xs hs
    obtain ⟨a', vs, hw, hsl, ha, hv⟩ := rl.slot i _ hs
    rw [hσ] at hsl; cases hsl
    split at h
    · rename_i d ys ho
      refine hm H Q (blk Z W) a vs us xs ds ys d ha hv dvs ho fun v ws dv dws => ?_
      obtain ⟨r1, x1⟩ := rl.mut hs hw dws
      have k : ∀ b o, H b = some o → NT o → ¬ blk Z W b → upd H a (.lst ws) b = some o ∧ ¬ blk Z W b := fun b o e _ n => ⟨by rw [upd_ne (fun z => n (.inr ⟨i, by rw [z]; exact hw⟩))]; exact e, n⟩
      exact h W _ x1 r1 v (DV.mono k _ _ dv)
    · exact h.elim
  · exact h.elim
theorem own_ty {c : Option (Addr × Addr)} {Z : Addr → Prop} {W : Own} {s : ES} {σ : Sl} {H : Hp} {i : Nat} {xs : List D} {K : PySem.W.Frag} (rl : Rel K c Z W s σ H) (hs : s.σ[i]? = some (some (.own xs))) : ∃ a vs, σ[i]? = some (some (.ref a)) ∧ H a = some (.lst vs) := by
  obtain ⟨a', vs, hw, hsl, ha, hv⟩ := rl.slot i _ hs
  exact ⟨a', vs, hsl, ha⟩
def ownAtS (i : Nat) (s : ES) : Bool := match s.σ[i]? with
  | some (some (.own _)) => true
  | _ => false
/-- first the receiver: it is a list of one's own -/
def eMethN (i : Nat) (op : MOp) (fs : Mo (List Ref)) : Mo Ref := fun s => if ownAtS i s then eMeth i op fs s else .stuck
theorem qe_meth (i : Nat) (slot : Slot "list" name id) (hty : typeOf (.builtin id) = pure (.type "method_descriptor")) (hm : MtR X id r) (hop : MethOk X.K op r) (ha : QA X XP (e :: es) fs) (hN : X.N[i]? = some x := by rfl) (hv : Vis X.env.scope x := by first | exact Or.inl rfl | exact Or.inr (Or.inl rfl) | exact Or.inr (Or.inr rfl)) (hd : (x == ("__debug__" : Str)) = false := by decide)
    (hcd : (x == ("__classdict__" : Str)) = false := by decide)
    (hbase : attributeBase (.Name x p) name X.env (eval (.Name x p) X.env) = eval (.Name x p) X.env := by rfl)
    (hfew : ((backTo cpos (starEach (e :: es) X.env)).all (fun x => !x.1) && (backToKw cpos (keywordEach [] X.env)).all (fun x => x.1.isSome)
      && decide ((e :: es).length + ([] : List Keyword).length + (if ([] : List Keyword).isEmpty then 0 else 1) < 30)) = true := by rfl)
    (hline : (apos.endLine == cpos.line) = true := by rfl) (hs : starEach (e :: es) X.env = (false, eval e X.env) :: starEach es X.env := by rfl) (hplain : (backTo cpos (starEach es X.env)).any (·.1) = false := by rfl) :
    QE X XP (.Call (.Attribute (.Name x p) name apos) (e :: es) [] cpos) (eMethN i op fs) :=
  PE.imp (pe_bm PySem.F.plainAttrs_list slot hty hm (pe_var (i := i) hN hv hd hcd) ha hbase hfew hline hs hplain) fun σ H Q ⟨c, Z, W, s, rl, h⟩ => by
  unfold eMethN at h
  split at h
  · rename_i ho
    unfold ownAtS at ho
    split at ho
    · rename_i xs hs
      obtain ⟨a, vs, h1, h2⟩ := own_ty rl hs
      refine ⟨_, h1, .inl ⟨rfl, vs, SqL.of h2⟩, c, Z, W, s, rl, h.bind.imp fun qs s1 W1 H1 x1 r1 h3 us rus => ?_⟩
      obtain ⟨ds, s2, W2, x2, r2, dvs, h4⟩ := h3.durs r1 rus
      exact eMeth_ok hop h1 r2 dvs h4
    · cases ho
  · exact h.elim
theorem qe_meth0 (i : Nat) (slot : Slot "list" name id) (hty : typeOf (.builtin id) = pure (.type "method_descriptor")) (hm : MtR X id r) (hop : MethOk X.K op r) (hN : X.N[i]? = some x := by rfl) (hv : Vis X.env.scope x := by first | exact Or.inl rfl | exact Or.inr (Or.inl rfl) | exact Or.inr (Or.inr rfl)) (hd : (x == ("__debug__" : Str)) = false := by decide)
    (hcd : (x == ("__classdict__" : Str)) = false := by decide)
    (hbase : attributeBase (.Name x p) name X.env (eval (.Name x p) X.env) = eval (.Name x p) X.env := by rfl) (hline : (apos.endLine == cpos.line) = true := by rfl) :
    QE X XP (.Call (.Attribute (.Name x p) name apos) [] [] cpos) (eMethN i op aNil) :=
  PE.imp (pe_bm0 PySem.F.plainAttrs_list slot hty hm (pe_var (i := i) hN hv hd hcd) hbase hline) fun σ H Q ⟨c, Z, W, s, rl, h⟩ => by
  unfold eMethN at h
  split at h
  · rename_i ho
    unfold ownAtS at ho
    split at ho
    · rename_i xs hs
      obtain ⟨a, vs, h1, h2⟩ := own_ty rl hs
      exact ⟨_, h1, .inl ⟨rfl, vs, SqL.of h2⟩, eMeth_ok (ds := []) hop h1 rl .nil h⟩
    · cases ho
  · exact h.elim
end
/-! the methods -/
def opAppend : MOp := fun xs ds => match ds with
  | [d] => if xs.length < szL then some (.none, xs ++ [d]) else none
  | _ => none
def opExtend : MOp := fun xs ds => match ds with
  | [.list ys] => if xs.length + ys.length ≤ szL then some (.none, xs ++ ys) else none
  | _ => none
def opPop : MOp := fun xs ds => match ds with
  | [] => match xs[xs.length - 1]? with
    | some d => some (d, xs.dropLast)
    | none => none
  | _ => none
def opPopAt : MOp := fun xs ds => match ds with
  | [.int i] => if -(2 ^ 63) ≤ i ∧ i < 2 ^ 63 then match seqIndex? i xs.length with
    | some k => match xs[k]? with
      | some d => some (d, xs.eraseIdx k)
      | none => none
    | none => none else none
  | _ => none
def opInsert : MOp := fun xs ds => match ds with
  | [.int i, d] => if xs.length < szL ∧ 0 ≤ i ∧ i < 2 ^ 63 then some (.none, xs.take i.toNat ++ [d] ++ xs.drop i.toNat) else none
  | _ => none
section
variable {K : PySem.W.Frag}
theorem mo_append : MethOk K opAppend rAppend := by
  intro H Q B a vs us xs ds ys d ha hv hu ho q
  unfold opAppend at ho
  split at ho
  · split at ho
    · rename_i hz
      cases ho
      cases hu with
      | cons h1 h2 =>
        cases h2
        exact ⟨a, vs, _, rfl, rfl, ha, by rw [hv.len, szL_eq]; exact hz, q _ _ .non (hv.snoc h1)⟩
    · cases ho
  · cases ho
theorem mo_extend : MethOk K opExtend rExtend := by
  intro H Q B a vs us xs ds ys d ha hv hu ho q
  unfold opExtend at ho
  split at ho
  · split at ho
    · rename_i hz
      cases ho
      cases hu with
      | cons h1 h2 =>
        cases h2
        cases h1 with
        | lst h3 h4 h5 => exact ⟨a, _, vs, _, rfl, rfl, ha, h3, by rw [hv.len, h5.len, szL_eq]; exact hz, q _ _ .non (hv.append h5)⟩
    · cases ho
  · cases ho
theorem mo_pop : MethOk K opPop rPop := by
  intro H Q B a vs us xs ds ys d ha hv hu ho q
  unfold opPop at ho
  split at ho
  · split at ho
    · rename_i hz
      cases ho
      cases hu
      obtain ⟨v, e, dv⟩ := hv.get hz
      exact ⟨a, vs, v, rfl, rfl, ha, by rw [hv.len]; exact e, q _ _ dv hv.dropLast⟩
    · cases ho
  · cases ho
theorem mo_popAt : MethOk K opPopAt rPopAt := by
  intro H Q B a vs us xs ds ys d ha hv hu ho q
  unfold opPopAt at ho
  split at ho
  · split at ho
    · rename_i hz
      split at ho
      · rename_i k hk
        split at ho
        · rename_i d' hd
          cases ho
          cases hu with
          | cons h1 h2 =>
            cases h2
            cases h1
            obtain ⟨v, e, dv⟩ := hv.get hd
            exact ⟨a, vs, _, k, v, rfl, rfl, ha, hz.1, hz.2, by rw [hv.len]; exact hk, e, q _ _ dv (hv.eraseIdx _)⟩
        · cases ho
      · cases ho
    · cases ho
  · cases ho
theorem mo_insert : MethOk K opInsert (fun x vs H Q => ∃ (l : Addr) (xs : List V) (i : Int) (y : V), x = .ref l ∧ vs = [.int i, y] ∧ H l = some (.lst xs) ∧ xs.length < sizeLine ∧ 0 ≤ i ∧ i < 2 ^ 63 ∧
    Q .non (upd H l (.lst (xs.take i.toNat ++ [y] ++ xs.drop i.toNat)))) := by
  intro H Q B a vs us xs ds ys d ha hv hu ho q
  unfold opInsert at ho
  split at ho
  · split at ho
    · rename_i hz
      cases ho
      cases hu with
      | cons h1 h2 =>
        cases h2 with
        | cons h2 h3 =>
          cases h3
          cases h1
          exact ⟨a, vs, _, _, rfl, rfl, ha, by rw [hv.len, szL_eq]; exact hz.1, hz.2.1, hz.2.2, q _ _ .non (((hv.take _).snoc h2).append (hv.drop _))⟩
    · cases ho
  · cases ho
end
section
variable {X : Cx} {XP : XPt} {e : Expr} {fs : Mo (List Ref)} {x : Str} {p apos cpos : Pos}
/-! ### xs[i] = v, xs[i] op= v -/
def sPutIx (i : Nat) (f fi : Mo Ref) : ES → SR := sE (bnd f dur) fun d s0 => if ownAtS i s0 then sE fi (fun q => sE (rd q) fun k s => match k, s.σ[i]? with
  | .int k, some (some (.own xs)) => match ixN xs.length k with
    | some j => .nx (put i (.own (xs.set j d)) s)
    | none => .stuck
  | _, _ => .stuck) s0 else .stuck
theorem RunS.rd {K : PySem.W.Frag} {c : Option (Addr × Addr)} {Z : Addr → Prop} {W : Own} {s : ES} {σ : Sl} {H : Hp} {q : Ref} {k : D → ES → SR} {E : Ends} {v : V} (r : Rel K c Z W s σ H) (rv : RV K Z W H σ v q) (h : RunS K XP c Z W H (sE (Ev.rd q) k s) E) : ∃ d, TV K (blk Z W) H v d ∧ RunS K XP c Z W H (k d s) E := by
  cases e : Ev.rd q s with
  | ok d s1 =>
    obtain ⟨rfl, t⟩ := rv.rd r e
    refine ⟨d, t, ?_⟩
    unfold sE at h; rw [e] at h; exact h
  | err code T =>
    exfalso
    cases q with
    | d d => cases e
    | slot i => unfold Ev.rd at e; dsimp only at e; split at e <;> cases e
    | cel n => unfold Ev.rd at e; dsimp only at e; split at e <;> first | cases e | (split at e <;> cases e)
  | stuck => exact absurd (by unfold sE; rw [e]) h.ne
theorem RunS.dur {K : PySem.W.Frag} {c : Option (Addr × Addr)} {Z : Addr → Prop} {W : Own} {s : ES} {σ : Sl} {H : Hp} {q : Ref} {k : D → ES → SR} {E : Ends} {v : V} (r : Rel K c Z W s σ H) (rv : RV K Z W H σ v q) (h : RunS K XP c Z W H (sE (Ev.dur q) k s) E) :
    ∃ d s1 W1, Stp c W H W1 H ∧ Rel K c Z W1 s1 σ H ∧ DV K (blk Z W1) H v d ∧ RunS K XP c Z W1 H (k d s1) E := by
  cases e : Ev.dur q s with
  | ok d s1 =>
    obtain ⟨W1, x, r1, dv⟩ := rv.dur r e
    refine ⟨d, s1, W1, x, r1, dv, RunS.step x ?_⟩
    unfold sE at h; rw [e] at h; exact h
  | err code T =>
    exfalso
    cases q with
    | d d => cases e
    | slot i => unfold Ev.dur at e; dsimp only at e; split at e <;> cases e
    | cel n => unfold Ev.dur at e; dsimp only at e; split at e <;> cases e
  | stuck => exact absurd (by unfold sE; rw [e]) h.ne
theorem sE_bnd {α β : Type} (m : Mo α) (k : α → Mo β) (g : β → ES → SR) : sE (bnd m k) g = sE m fun a => sE (k a) g := by
  funext s
  unfold sE bnd
  cases m s <;> rfl
theorem qs_putIx (i : Nat) {ei : Expr} {f fi : Mo Ref} {spos pos : Pos} (he : QE X XP e f) (hi : QE X XP ei fi) (hN : X.N[i]? = some x := by rfl) (hv : Vis X.env.scope x := by first | exact Or.inl rfl | exact Or.inr (Or.inl rfl) | exact Or.inr (Or.inr rfl)) (hd : (x == ("__debug__" : Str)) = false := by decide)
    (hcd : (x == ("__classdict__" : Str)) = false := by decide)
    (ha : ∀ v, assign (.Subscript (.Name x p) ei spos) X.env v = (do
      let ov ← holding [v] (eval (.Name x p) X.env)
      let iv ← holding [v, ov] (eval ei X.env)
      standAt spos
      holding [v, ov, iv] (setItem ov iv v)
      release [v, ov, iv] []) := by intro _; rfl)
    (hs : swapsWithSole [.Subscript (.Name x p) ei spos] e pos.line X.env = pure false := by rfl) (hw : swappedStores [.Subscript (.Name x p) ei spos] e X.env = pure none := by rfl)
    (h1 : (assignEach [.Subscript (.Name x p) ei spos] X.env).map (·.2) = [assign (.Subscript (.Name x p) ei spos) X.env] := by rfl) : QS X XP (.Assign [.Subscript (.Name x p) ei spos] e pos) (sPutIx i f fi) :=
  PS.imp (ps_asg he (pg_sub (pe_var (i := i) hN hv hd hcd) hi set_list ha) hs hw h1) fun D σ H ⟨c, Z, W, s, rl, h⟩ => by
  unfold sPutIx at h
  rw [sE_bnd] at h
  refine ⟨c, Z, W, s, rl, (h.bind (σ := σ)).imp fun q s1 W1 H1 x1 r1 h1 v rv => ?_⟩
  obtain ⟨d, s2, W2, x2, r2, dv, h2⟩ := h1.dur r1 rv
  split at h2
  · rename_i ho
    unfold ownAtS at ho
    split at ho
    · rename_i xs hs
      obtain ⟨a, vs, e1, e2⟩ := own_ty r2 hs
      refine ⟨_, e1, c, Z, W2, s2, r2, (h2.bind (σ := σ)).imp fun q3 s3 W3 H3 x3 r3 h3 v3 rv3 => ?_⟩
      obtain ⟨k, t, h4⟩ := h3.rd r3 rv3
      split at h4
      · rename_i k xs' hs'
        cases t.int
        split at h4
        · rename_i j hj
          obtain ⟨a', vs', hw, hsl, ha, hv⟩ := r3.slot i _ hs'
          rw [e1] at hsl; cases hsl
          have dv3 := dv.step r2 x3
          obtain ⟨r4, x4⟩ := r3.mut hs' hw (hv.set dv3 j)
          exact ⟨a, vs', k, j, rfl, rfl, ha, by rw [hv.len]; exact hj, h4 σ W3 _ x4 r4⟩
        · exact h4.elim
      · exact h4.elim
    · cases ho
  · exact h2.elim
def sAugIx (i : Nat) (p : D → D → Option D) (fi f : Mo Ref) : ES → SR := fun s0 => if ownAtS i s0 then sE fi (fun q => sE (rd q) fun k s => match k, s.σ[i]? with
  | .int k, some (some (.own xs)) => match ixN xs.length k with
    | some j => match xs[j]? with
      | some x => sE f (fun q => sE (rd q) fun y s2 => match p x y, s2.σ[i]? with
        | some d, some (some (.own xs2)) => match ixN xs2.length k with
          | some j2 => .nx (put i (.own (xs2.set j2 d)) s2)
          | none => .stuck
        | _, _ => .stuck) s
      | none => .stuck
    | none => .stuck
  | _, _ => .stuck) s0 else .stuck
def rGetL : V → V → Hp → VK → Prop := fun o i H Q => ∃ p xs k v, o = .ref p ∧ i = .int k ∧ H p = some (.lst xs) ∧ atI xs k = some v ∧ Q v H
theorem get_list : PGet X rGetL := by
  intro pins s σ H o i ov iv Q I ro ri h
  obtain ⟨p, xs, k, z, rfl, rfl, hq, he, q⟩ := h
  cases ro
  obtain ⟨t, rfl⟩ := ri
  obtain ⟨its, r, pl, hz⟩ := I.list (SqL.of hq)
  obtain ⟨j, h1, h2, h3, h4, h5⟩ := atI_get he
  obtain ⟨w, ew, rw'⟩ := r.get h2
  have hl := r.length
  have hn := line63
  have fin : EP X pins σ Q w s := ⟨z, H, I, rw', q⟩
  by_cases h0 : 0 ≤ k
  · have hj : k.toNat = j := by
      rw [seqIndex_of h0 h5] at h1
      exact Option.some.inj h1
    exact wpAny_getItem_list pl.isList h0 (by omega) (by rw [hj]; simpa using ew) fin
  · have hj : (k + (its.toArray.size : Int)).toNat = j := by
      rw [seqIndex_neg (by omega) h4] at h1
      rw [List.size_toArray, ← hl]
      exact Option.some.inj h1
    exact wpAny_getItem_list_neg pl.isList (by omega) (by rw [List.size_toArray] <;> omega) (by omega) (by rw [hj]; simpa using ew) fin
theorem atI_of {α : Type} {xs : List α} {k : Int} {j : Nat} {x : α} (h1 : ixN xs.length k = some j) (h2 : xs[j]? = some x) : atI xs k = some x := by
  unfold atI; rw [h1]; exact h2
theorem qs_augIx (i : Nat) {op : Operator} {pd : D → D → Option D} {ei : Expr} {f fi : Mo Ref} {spos pos : Pos} (ho : OpR X (inplaceOp op) (rOp X.K pd)) (hi : QE X XP ei fi) (he : QE X XP e f) (hN : X.N[i]? = some x := by rfl) (hv : Vis X.env.scope x := by first | exact Or.inl rfl | exact Or.inr (Or.inl rfl) | exact Or.inr (Or.inr rfl)) (hd : (x == ("__debug__" : Str)) = false := by decide)
    (hcd : (x == ("__classdict__" : Str)) = false := by decide)
    (ha : ∀ ov iv new, augStore ei ov iv new = (do holding [new, ov, iv] (setItem ov iv new); release [new, ov, iv] []; pure .next) := by intros; rfl) : QS X XP (.AugAssign (.Subscript (.Name x p) ei spos) op e pos) (sAugIx i pd fi f) :=
  PS.imp (ps_augS (pe_var (i := i) hN hv hd hcd) hi get_list he ho set_list ha) fun D σ H ⟨c, Z, W, s, rl, h⟩ => by
  unfold sAugIx at h
  split at h
  · rename_i hown
    unfold ownAtS at hown
    split at hown
    · rename_i xs hs
      obtain ⟨a, vs, e1, e2⟩ := own_ty rl hs
      refine ⟨_, e1, c, Z, W, s, rl, (h.bind (σ := σ)).imp fun q3 s3 W3 H3 x3 r3 h3 v3 rv3 => ?_⟩
      obtain ⟨k, t, h4⟩ := h3.rd r3 rv3
      split at h4
      · rename_i k xs' hs'
        cases t.int
        obtain ⟨a', vs', hw, hsl, ha, hv⟩ := r3.slot i _ hs'
        rw [e1] at hsl; cases hsl
        split at h4
        · rename_i j hj
          split at h4
          · rename_i x0 hx0
            obtain ⟨v0, ev0, dv0⟩ := hv.get hx0
            refine ⟨a, vs', k, v0, rfl, rfl, ha, atI_of (by rw [hv.len]; exact hj) ev0, c, Z, W3, s3, r3, (h4.bind (σ := σ)).imp fun q5 s5 W5 H5 x5 r5 h5 v5 rv5 => ?_⟩
            obtain ⟨y, ty, h6⟩ := h5.rd r5 rv5
            split at h6
            · rename_i d xs2 hp hs2
              obtain ⟨a2, vs2, hw2, hsl2, ha2, hv2⟩ := r5.slot i _ hs2
              rw [e1] at hsl2; cases hsl2
              split at h6
              · rename_i j2 hj2
                have dv5 := dv0.step r3 x5
                refine ⟨blk Z W5, x0, y, d, fun a b => r5.blkT b, .inl dv5, ty, hp, fun v H' gr dv => ?_⟩
                have r6 := r5.grow gr
                obtain ⟨r7, x7⟩ := r6.mut hs2 hw2 ((hv2.grow gr).set dv j2)
                exact ⟨a, vs2, k, j2, rfl, rfl, gr _ _ ha2, by rw [hv2.len]; exact hj2, h6 σ W5 _ (gr.stp.trans x7) r7⟩
              · exact h6.elim
            · exact h6.elim
          · exact h4.elim
        · exact h4.elim
      · exact h4.elim
    · cases hown
  · exact h.elim
/-! ### x op= e -/
def sAug (i : Nat) (p : D → D → Option D) (f : Mo Ref) : ES → SR := fun s0 => match s0.σ[i]? with
  | some (some (.val x)) => sE f (fun q => sE (rd q) fun y s => match p x y with
    | some d => .nx (put i (.val d) s)
    | none => .stuck) s0
  | _ => .stuck
theorem qs_aug (i : Nat) {op : Operator} {pd : D → D → Option D} {f : Mo Ref} {pos : Pos} (hNd : X.N.Nodup) (ho : OpR X (inplaceOp op) (rOp X.K pd)) (he : QE X XP e f) (hN : X.N[i]? = some x := by rfl) (hx : Loc X.env.scope x := by first | exact Or.inl rfl | exact Or.inr rfl)
    (hf : X.fn x = true ∨ X.env.scope.names.lookup x = some .local := by first | exact .inl rfl | exact .inr rfl | assumption) : QS X XP (.AugAssign (.Name x p) op e pos) (sAug i pd f) :=
  PS.imp (ps_aug hNd hN hx he ho hf) fun D σ H ⟨c, Z, W, s, rl, h⟩ => by
  unfold sAug at h
  split at h
  · rename_i x0 hs
    obtain ⟨v0, h1, dv0⟩ := rl.slot i _ hs
    refine ⟨v0, h1, c, Z, W, s, rl, (h.bind (σ := σ)).imp fun q1 s1 W1 H1 x1 r1 h2 v rv => ?_⟩
    obtain ⟨y, ty, h3⟩ := h2.rd r1 rv
    split at h3
    · rename_i d hp
      exact ⟨blk Z W1, x0, y, d, fun a b => r1.blkT b, .inl (dv0.step rl x1), ty, hp, fun w H' gr dw => h3 _ _ H' (gr.stp.trans (.unown i)) ((r1.grow gr).put dw)⟩
    · exact h3.elim
  · exact h.elim
/-- the in-place operators on ints -/
def iAdd : D → D → Option D
  | .int i, .int j => some (.int (i + j))
  | _, _ => none
def iSub : D → D → Option D
  | .int i, .int j => some (.int (i - j))
  | _, _ => none
def iMul : D → D → Option D
  | .int i, .int j => if mulOk i j then some (.int (i * j)) else none
  | _, _ => none
theorem io_add : OpR X (inplaceOp .Add) (rOp X.K iAdd) := by
  intro pins s σ H x y v u Q I rx ry h
  obtain ⟨B, dx, dy, d, hb, tx, ty, hd, q⟩ := h
  unfold iAdd at hd
  split at hd
  · cases tx.int
    cases ty.int
    cases hd
    exact iop_add pins s σ H _ _ v u Q I rx ry ⟨_, _, rfl, rfl, q _ _ .refl (.int _)⟩
  · cases hd
theorem io_sub : OpR X (inplaceOp .Sub) (rOp X.K iSub) := by
  intro pins s σ H x y v u Q I rx ry h
  obtain ⟨B, dx, dy, d, hb, tx, ty, hd, q⟩ := h
  unfold iSub at hd
  split at hd
  · cases tx.int
    cases ty.int
    cases hd
    exact iop_sub pins s σ H _ _ v u Q I rx ry ⟨_, _, rfl, rfl, q _ _ .refl (.int _)⟩
  · cases hd
theorem iop_mulW : OpR X (inplaceOp .Mult) (rI CMulW fun i j => .int (i * j)) := opI fun _ _ _ _ _ _ _ hc q => imul_int q hc.ok
theorem io_mul : OpR X (inplaceOp .Mult) (rOp X.K iMul) := by
  intro pins s σ H x y v u Q I rx ry h
  obtain ⟨B, dx, dy, d, hb, tx, ty, hd, q⟩ := h
  unfold iMul at hd
  split at hd
  · split at hd
    · rename_i hm
      cases tx.int
      cases ty.int
      cases hd
      exact iop_mulW pins s σ H _ _ v u Q I rx ry ⟨_, _, rfl, rfl, (by unfold mulOk at hm; have z := of_decide_eq_true hm; exact z), q _ _ .refl (.int _)⟩
    · cases hd
  · cases hd
/-! ### a, b = x, y -/
def sPar (i j : Nat) (fs : Mo (List Ref)) : ES → SR := sE (bnd fs durs) fun ds s => match ds with
  | [a, b] => .nx (put j (.val b) (put i (.val a) s))
  | _ => .stuck
theorem qs_par (i j : Nat) {y : Str} {a b : Expr} {px py pt : Pos} {kt k2 pt2 pos} (hc : X.calm = true) (hNd : X.N.Nodup) (hab : QA X XP [a, b] fs) (hi : X.N[i]? = some x := by rfl) (hj : X.N[j]? = some y := by rfl) (hij : i ≠ j := by decide)
    (hx : X.env.scope.names.lookup x = some .local := by rfl) (hy : X.env.scope.names.lookup y = some .local := by rfl)
    (hw : swappedStores [.Tuple [.Name x px, .Name y py] kt pt] (.Tuple [a, b] k2 pt2) X.env = pure (some [x, y]) := by rfl)
    (hs : swapsWithSole [.Tuple [.Name x px, .Name y py] kt pt] (.Tuple [a, b] k2 pt2) pos.line X.env = pure false := by rfl) : QS X XP (.Assign [.Tuple [.Name x px, .Name y py] kt pt] (.Tuple [a, b] k2 pt2) pos) (sPar i j fs) :=
  PS.imp (ps_par hc hNd hi hj hij hx hy hab hw hs) fun D σ H ⟨c, Z, W, s, rl, h⟩ => by
  refine ⟨c, Z, W, s, rl, (h.bind (σ := σ)).bind.imp fun qs s1 W1 H1 x1 r1 h1 vs rvs => ?_⟩
  have h1' : Run X.K XP c Z W1 σ H1 (bnd (durs qs) (fun d s => Rs.ok d s) s1) fun ds s2 W2 H2 => RunS X.K XP c Z W2 H2 (match ds with
      | [a, b] => .nx (put j (.val b) (put i (.val a) s2))
      | _ => .stuck) D := by
    have e : bnd (durs qs) (fun d s => Rs.ok d s) s1 = durs qs s1 := by unfold bnd; cases durs qs s1 <;> rfl
    rw [e]; exact h1
  obtain ⟨ds, s2, W2, x2, r2, dvs, h2⟩ := h1'.durs r1 rvs
  have h3 := h2 W2 H1 .refl r2
  dsimp only at h3
  split at h3
  · rename_i d1 d2
    cases dvs with
    | cons dv1 dvs =>
      cases dvs with
      | cons dv2 dvs =>
        cases dvs
        have g : ∀ a o, H1 a = some o → NT o → ¬ blk Z W2 a → H1 a = some o ∧ ¬ blk Z (unown W2 i) a := fun a o e _ n => ⟨e, fun q => n (blk_unown q)⟩
        exact ⟨_, _, rfl, h3 _ _ H1 ((Stp.unown i).trans (.unown j)) ((r2.put dv1).put (DV.mono g _ _ dv2))⟩
  · exact h3.elim
end
end Ev
set_option Elab.async false
set_option linter.all false
set_option maxRecDepth 100000
set_option maxHeartbeats 4000000
/-! Ev11: the program's own error: class GuildError(MarketplaceError), made by super().__init__(code); self.code = code; raised; read -/
namespace PySem
namespace GuX
open PySem.W PySem.Calls PyProof.Rows PySem.HandSPX
def iA (l : Nat) : Arguments := { posonlyargs := [], args := [{ arg := "self", annotation := none, pos := ⟨l + 2, 17, l + 2, 21⟩ }, { arg := "code", annotation := none, pos := ⟨l + 2, 23, l + 2, 27⟩ }], vararg := none, kwonlyargs := [], kw_defaults := [], kwarg := none, defaults := [] }
def iB (l : Nat) : List Stmt := [.Expr (.Call (.Attribute (.Call (.Name "super" ⟨l + 3, 8, l + 3, 13⟩) [] [] ⟨l + 3, 8, l + 3, 15⟩) "__init__" ⟨l + 3, 8, l + 3, 24⟩) [.Name "code" ⟨l + 3, 25, l + 3, 29⟩] [] ⟨l + 3, 8, l + 3, 30⟩) ⟨l + 3, 8, l + 3, 30⟩,
  .Assign [.Attribute (.Name "self" ⟨l + 4, 8, l + 4, 12⟩) "code" ⟨l + 4, 8, l + 4, 17⟩] (.Name "code" ⟨l + 4, 20, l + 4, 24⟩) ⟨l + 4, 8, l + 4, 24⟩]
def iS : Scope := { kind := .function, names := [(PySem.Str.ofString "self", .local), (PySem.Str.ofString "code", .local), (PySem.Str.ofString "__class__", .free), (PySem.Str.ofString "super", .globalImplicit)], isGenerator := false, isCoroutine := false, more := [] }
structure GTxt (P : Program) (K : Frag) (mg : Str → Option Value) (C fI : Addr) : Prop where
  gC : mg "GuildError" = some (.ref C)
  cls : ∃ nm q N bs bm sn sub ab col dd k0 k1 k2 k3 k5, K.lookup C = some (excClassObj nm q C N bs bm true sn sub ab col dd k0 k1 k2 k3 k5 "ValueError.__new__") ∧ refsVE bm = true
  sa : findIn K (.ref C) "__setattr__" = some (some (.builtin "object.__setattr__"))
  ga : findIn K (.ref C) "__getattribute__" = some (some (.builtin "BaseException.__getattribute__"))
  gg : findIn K (.ref C) "__getattr__" = some none
  noN : findIn K (.ref C) "code" = some none
  iC : findIn K (.ref C) "__init__" = some (some (.ref fI))
  tC : typeIn K (.ref fI) = some (.type "function")
  kC : keepIn K (.ref C) = true
  exC : subIn K (.ref C) (.type "BaseException") = some true
  tyC : typeIn K (.ref C) = some (.type "type")
  hdC : hasDictIn K C = true
  te : exmOne K (.ref C) (.ref C) = some true
  sup : ks_superIn K C C "__init__" = some (some (.builtin "ValueError.__init__"))
  sVE : subIn K (.ref C) (.type "ValueError") = some true
  sCC : mroIn K C (.ref C) = some true
  noSuper : mg "super" = none
  third : nsIn K cStatics "thirdparty.any" = some none
  top : (P.main.scope.names.lookup ("super" : Str)).isSome = false
  fn : ∃ (l : Nat) (oc : Value) (od : Option Addr) (dV kV doc pm : Value) (an : Option Addr) (ct : Value) (osl : Array (Option Value)) (cc cda : Addr) (ccl cl : Value) (cdd cld : Option Addr) (ccs csl : Array (Option Value)) (vs : Array Value) (file : Str) (tf : Tok),
    (l = 4 ∨ l = 7) ∧ K.lookup fI = some ⟨oc, od, .func (ksFn "__init__" "GuildError.__init__" (iA l) (iB l) iS .none .none doc pm an (.ref cda) ct cc), osl⟩ ∧ codeIn K (.ref cda) "GuildError.__init__" = true ∧
    K.lookup cda = some ⟨ccl, cdd, .fields vs, ccs⟩ ∧ vs[2]? = some (.str file tf) ∧ ((P.main.file : Str) == file) = true ∧ K.lookup cc = some ⟨cl, cld, .cell (some (.ref C)), csl⟩
theorem ldX {M : Model} {s : Shared} {name : Str} {scope : Scope} {L a : Addr} {cd : Value} {cc : Addr} {m : Str → Option Value} {x : Str} {pos : Pos} {v : Value} {Q : Value → Shared → Prop} {A : Around} {E : Value → Shared → Prop} (hn : s.heap.Ns L m) (hv : m x = some v) (h : Q v s)
    (hk : scope.kind = .function := by rfl) (hl : (ksEnv name scope L a cd cc).kindOf x = some .local := by rfl) (hd : (x == ("__debug__" : Str)) = false := by decide) :
    wpAny M A (eval (.Name x pos) (ksEnv name scope L a cd cc)) Q E s := wpAny_Name (wpAny_loadName_local hk hl hn hv h) hd
structure InitEnd (h h' : Heap) (x C dx t1 : Addr) (v : Value) : Prop where
  keep : ∀ b o, b ≠ x → h.get? b = some o → h'.get? b = some o
  obj : h'.get? x = some { cls := .ref C, dict := some dx, data := .fields #[.ref t1, .none, .none, .none, .bool false, .none] }
  dbig : h.objs.size ≤ dx
  dne : dx ≠ x
  ns : h'.Ns1 dx (fun y => if y = "code" then some v else none)
structure OwnMade (h h' : Heap) (e C d : Addr) (v : Value) : Prop where
  keep : ∀ b o, h.get? b = some o → h'.get? b = some o
  new : h.objs.size ≤ e
  obj : ∃ oe vs, h'.get? e = some oe ∧ oe.cls = .ref C ∧ oe.dict = some d ∧ oe.data = .fields vs ∧ vs[1]? = some .none
  dbig : h.objs.size ≤ d
  dne : d ≠ e
  ns : h'.Ns1 d (fun y => if y = "code" then some v else none)
theorem one_size (v : Value) : [v].length ≤ sizeLine := by
  rw [sizeLine_eq]
  exact (by decide : 1 ≤ 16777216)
section
variable {prog : Program} {w : World} {A : Around} {E : Value → Shared → Prop} {R : Result → Shared → Prop} {s : Shared} {K : Frag} {mg : Str → Option Value} {C fI : Addr}
/-- the bound ValueError.__init__ of an exception, called: its args are laid anew -/
theorem call_kxs {u e t0 : Addr} {rest : List Value} {nm q : Str} {N : Addr} {bs bm : List Value} {hdct : Bool} {sn : List Str} {sub : List Value} {ab : Bool} {col : Option Bool} {dd : Option Addr} {k0 k1 k2 k3 k5 : Option Value} {Q : Value → Shared → Prop}
    (hC : s.heap.get? C = some (excClassObj nm q C N bs bm hdct sn sub ab col dd k0 k1 k2 k3 k5 "ValueError.__new__")) (hbm : refsVE bm = true) (he : s.heap.get? e = some (excO C t0)) (hu : s.heap.get? u = some (kxs_mw "ValueError.__init__" e)) (hrest : rest.length ≤ sizeLine)
    (hq : ∀ h' t1, (∀ b o, b ≠ e → s.heap.get? b = some o → h'.get? b = some o) → h'.get? e = some (excO C t1) → Q .none { s with heap := h' }) : wpAny (model prog w) A (call (.ref u) rest) Q E s := by
  obtain ⟨hh, g, d, tk, os⟩ := s
  refine wpAny_call (codeAny_of_tree ?_)
  show wpAny _ A.in1 (callAny (.ref u) ⟨rest, []⟩) _ _ _
  simp only [callAny]
  refine wpAny_bind (wpAny_load hu ?_)
  simp only [kxs_mw, show (Value.type "method-wrapper" == Value.type "method" || Value.type "method-wrapper" == Value.type "builtin_function_or_method" || Value.type "method-wrapper" == Value.type "method-wrapper") = true by decide, if_true]
  refine KFB.if_so (by decide) ?_
  refine wpAny_bind (check_bound_init F.excBase_ValueError.toExcCallFacts hC he rfl ?_)
  refine wpAny_bind (wpAny_pure (wpAny_pure ?_))
  refine ⟨plainId_quiet F.excBase_ValueError.init.plain _, codeAny_builtin F.excBase_ValueError.initEntry ?_⟩
  rw [Around.under_plainId F.excBase_ValueError.init.plain _]
  wp_walk
  refine hq _ hh.objs.size (fun b o hb ho => ?_) ?_
  · rw [Heap.get?_update_other _ _ (Ne.symm hb)]
    exact Heap.get?_push_of_some _ ho
  · rw [Heap.get?_update_self _ (Heap.get?_push_of_some _ he) rfl]
    rfl
theorem gu_init (T : GTxt prog K mg C fI) {x t0 : Addr} {v : Value} (X : K.In s.heap) (hg : s.heap.Ns mainGlobals mg) (hb : ∃ mb, s.heap.Ns builtinsNs mb ∧ ∀ x : Str, x ≠ "__name__" → mb x = bootBuiltins x) (hlim : s.heap.NoLimit) (hx : s.heap.get? x = some (excO C t0)) (hnx : K.lookup x = none)
    (hroom : A.depth < recursionLimit) (hq : ∀ h' tk dx t1, InitEnd s.heap h' x C dx t1 v → R (.ok (.ret .none)) { s with heap := h', toks := tk }) :
    codeAny (model prog w) A (.call (.ref fI) ⟨[.ref x, v], []⟩) R s := by
  obtain ⟨l, oc, od, dV, kV, doc, pm, an, ct, osl, cc, cda, ccl, cl, cdd, cld, ccs, csl, vs, file, tf, hl, ho, hcd, hcda, hvs, hfile, hcc⟩ := T.fn
  obtain ⟨nm, q, N, bs, bm, sn, sub, ab, col, dd, k0, k1, k2, k3, k5, hC, hbm⟩ := T.cls
  obtain ⟨mb, hb1, hb2⟩ := hb
  have hcl : clsIn K C = some { name := nm, bases := bs, mro := .ref C :: bm, ns := N, qualname := q, hasDict := true, slotNames := sn, subclasses := sub, abstract := ab, collection := col, hasDel := false } := by unfold clsIn; rw [hC] <;> rfl
  have go : ∀ l, (l = 4 ∨ l = 7) → K.lookup fI = some ⟨oc, od, .func (ksFn "__init__" "GuildError.__init__" (iA l) (iB l) iS .none .none doc pm an (.ref cda) ct cc), osl⟩ → codeAny (model prog w) A (.call (.ref fI) ⟨[.ref x, v], []⟩) R s := by
    intro l hl ho
    rcases hl with rfl | rfl
    · refine ks_codeAny_call_defAt (fd := ksFn "__init__" "GuildError.__init__" (iA 4) (iB 4) iS .none .none doc pm an (.ref cda) ct cc) (body := iB 4) (binds := [("self", .ref x), ("code", v)]) hroom (X _ _ ho) rfl hlim (codeRec_of X hcd) rfl
        (BindsTo.of_eq (by first | rfl | with_unfolding_all rfl)) (show ∀ x ∈ iS.names, x.2 ≠ .cell by decide) (fun y hy => by
          rcases List.mem_cons.mp hy with rfl | hy
          · rfl
          · rcases List.mem_cons.mp hy with rfl | hy
            · rfl
            · cases hy) (fun h₁ hn k => ?_) rfl rfl rfl
      have X₁ : K.In h₁ := X.keeps k
      have hx₁ := k _ _ hx
      refine ks_wpAt_execs_cons (ks_wpAt_Expr_any (ks_wpAt_MethodCall (ks_wpAt_super_base (f := fI) (cc := cda) (fd := ksFn "__init__" "GuildError.__init__" (iA 4) (iB 4) iS .none .none doc pm an (.ref cda) ct cc) rfl rfl rfl rfl (X₁ _ _ ho) rfl rfl rfl (X₁ _ _ hcda) rfl hvs hfile T.top ?_)))
      refine ks_loadName_global rfl rfl (Calls.loadGlobal_builtin (hg.keeps k) T.noSuper (hb1.keeps k) ((hb2 _ (by decide)).trans (by decide +kernel)) ⟨rfl, ?_⟩)
      refine wpAny_loadName_free rfl rfl rfl ⟨_, X₁ _ _ hcc, rfl⟩ ?_
      refine wpAny_loadName_local rfl rfl hn (v := .ref x) (by first | rfl | with_unfolding_all rfl | kernel_rfl) ?_
      refine ks_wpAny_isType_cls (X₁ _ _ hC) rfl ⟨rfl, ?_⟩
      refine ks_wpAny_call_super (X₁ _ _ hC) rfl hx₁ rfl (fun c e => by cases e) (looks_mroIn X₁ T.sCC) (fun h₂ e₂ kk₂ => ?_)
      have k₂ : ∀ b o, s.heap.get? b = some o → h₂.get? b = some o := fun b o e => kk₂ b o (k b o e)
      have X₂ : K.In h₂ := X.keeps k₂
      have hx₂ := k₂ _ _ hx
      have hsup := T.sup
      unfold ks_superIn at hsup
      rw [hcl, Option.bind_some] at hsup
      have I₂ : InstAt h₂ x (excO C t0) C none := ⟨hx₂, rfl, rfl, trivial⟩
      refine kxs_getMethod kxs_ValueError e₂ (looks_opaque X₂ T.third) (l₀ := .ref C :: bm) ?_ rfl X₂ hsup (I₂.type.andThen (looks_subIn X₂ T.sVE)) (ks_ne X₂ I₂ hcl) rfl ?_
      · exact fun A Q E s k q => wpAny_bind ((looks_clsIn X₂ hcl) A _ E s k (wpAny_pure q))
      have k₃ : ∀ b o, h₂.get? b = some o → (h₂.push (kxs_mw "ValueError.__init__" x)).get? b = some o := fun b o e => Heap.get?_push_of_some _ e
      have hn₃ := (hn.keeps kk₂).keeps k₃
      refine kxs_callWith (i := "ValueError.__init__") (x := x) rfl (evalArgs_plain (spliced_cons (ldX (v := v) hn₃ (by first | rfl | with_unfolding_all rfl | kernel_rfl) (spliced_nil ⟨Heap.get?_push_size _ rfl, ?_⟩))))
      refine call_kxs (k₃ _ _ (X₂ _ _ hC)) hbm (k₃ _ _ hx₂) (Heap.get?_push_size _ rfl) (one_size v) fun h₄ t1 k₄ hx₄ => ?_
      have neC : C ≠ x := fun e => (ks_ne X₂ I₂ hcl) e.symm
      have kX : ∀ b o, b ≠ x → s.heap.get? b = some o → h₄.get? b = some o := fun b o hb e => k₄ b o hb (k₃ b o (k₂ b o e))
      have X₄ : K.In h₄ := fun a o e => kX a o (fun z => by rw [z, hnx] at e; cases e) (X a o e)
      have hxL : s.heap.objs.size ≠ x := Nat.ne_of_gt (Heap.lt_size hx)
      have hn₄ : h₄.Ns s.heap.objs.size _ := hn₃.at fun o e => k₄ _ o hxL e
      refine ks_wpAt_execs_cons (ks_wpAt_Assign_Attr (wpAt_of_wpAny (ldX (v := v) hn₄ (by first | rfl | with_unfolding_all rfl | kernel_rfl) (ldX (v := .ref x) hn₄ (by first | rfl | with_unfolding_all rfl | kernel_rfl) ?_))))
      refine set_plain X₄ (ox := excO C t1) (od := none) ⟨hx₄, rfl, rfl, trivial⟩ T.sa ?_
      refine exc_osa X₄ hx₄ hcl (show refsVE (.ref C :: bm) = true from hbm) rfl T.noN (fun h₅ tk₅ dx k₅ dn dne hx₅ hn₅ => ?_)
      have hsz : s.heap.objs.size < h₄.objs.size := hn₄.lt
      exact wpAt_of_wpAny (wpAny_execs_nil (hq h₅ tk₅ dx t1 ⟨fun b o hb e => k₅ b o hb (kX b o hb e), hx₅, Nat.le_of_lt (Nat.lt_of_lt_of_le hsz dn), dne, hn₅⟩))
    · refine ks_codeAny_call_defAt (fd := ksFn "__init__" "GuildError.__init__" (iA 7) (iB 7) iS .none .none doc pm an (.ref cda) ct cc) (body := iB 7) (binds := [("self", .ref x), ("code", v)]) hroom (X _ _ ho) rfl hlim (codeRec_of X hcd) rfl
        (BindsTo.of_eq (by first | rfl | with_unfolding_all rfl)) (show ∀ x ∈ iS.names, x.2 ≠ .cell by decide) (fun y hy => by
          rcases List.mem_cons.mp hy with rfl | hy
          · rfl
          · rcases List.mem_cons.mp hy with rfl | hy
            · rfl
            · cases hy) (fun h₁ hn k => ?_) rfl rfl rfl
      have X₁ : K.In h₁ := X.keeps k
      have hx₁ := k _ _ hx
      refine ks_wpAt_execs_cons (ks_wpAt_Expr_any (ks_wpAt_MethodCall (ks_wpAt_super_base (f := fI) (cc := cda) (fd := ksFn "__init__" "GuildError.__init__" (iA 7) (iB 7) iS .none .none doc pm an (.ref cda) ct cc) rfl rfl rfl rfl (X₁ _ _ ho) rfl rfl rfl (X₁ _ _ hcda) rfl hvs hfile T.top ?_)))
      refine ks_loadName_global rfl rfl (Calls.loadGlobal_builtin (hg.keeps k) T.noSuper (hb1.keeps k) ((hb2 _ (by decide)).trans (by decide +kernel)) ⟨rfl, ?_⟩)
      refine wpAny_loadName_free rfl rfl rfl ⟨_, X₁ _ _ hcc, rfl⟩ ?_
      refine wpAny_loadName_local rfl rfl hn (v := .ref x) (by first | rfl | with_unfolding_all rfl | kernel_rfl) ?_
      refine ks_wpAny_isType_cls (X₁ _ _ hC) rfl ⟨rfl, ?_⟩
      refine ks_wpAny_call_super (X₁ _ _ hC) rfl hx₁ rfl (fun c e => by cases e) (looks_mroIn X₁ T.sCC) (fun h₂ e₂ kk₂ => ?_)
      have k₂ : ∀ b o, s.heap.get? b = some o → h₂.get? b = some o := fun b o e => kk₂ b o (k b o e)
      have X₂ : K.In h₂ := X.keeps k₂
      have hx₂ := k₂ _ _ hx
      have hsup := T.sup
      unfold ks_superIn at hsup
      rw [hcl, Option.bind_some] at hsup
      have I₂ : InstAt h₂ x (excO C t0) C none := ⟨hx₂, rfl, rfl, trivial⟩
      refine kxs_getMethod kxs_ValueError e₂ (looks_opaque X₂ T.third) (l₀ := .ref C :: bm) ?_ rfl X₂ hsup (I₂.type.andThen (looks_subIn X₂ T.sVE)) (ks_ne X₂ I₂ hcl) rfl ?_
      · exact fun A Q E s k q => wpAny_bind ((looks_clsIn X₂ hcl) A _ E s k (wpAny_pure q))
      have k₃ : ∀ b o, h₂.get? b = some o → (h₂.push (kxs_mw "ValueError.__init__" x)).get? b = some o := fun b o e => Heap.get?_push_of_some _ e
      have hn₃ := (hn.keeps kk₂).keeps k₃
      refine kxs_callWith (i := "ValueError.__init__") (x := x) rfl (evalArgs_plain (spliced_cons (ldX (v := v) hn₃ (by first | rfl | with_unfolding_all rfl | kernel_rfl) (spliced_nil ⟨Heap.get?_push_size _ rfl, ?_⟩))))
      refine call_kxs (k₃ _ _ (X₂ _ _ hC)) hbm (k₃ _ _ hx₂) (Heap.get?_push_size _ rfl) (one_size v) fun h₄ t1 k₄ hx₄ => ?_
      have neC : C ≠ x := fun e => (ks_ne X₂ I₂ hcl) e.symm
      have kX : ∀ b o, b ≠ x → s.heap.get? b = some o → h₄.get? b = some o := fun b o hb e => k₄ b o hb (k₃ b o (k₂ b o e))
      have X₄ : K.In h₄ := fun a o e => kX a o (fun z => by rw [z, hnx] at e; cases e) (X a o e)
      have hxL : s.heap.objs.size ≠ x := Nat.ne_of_gt (Heap.lt_size hx)
      have hn₄ : h₄.Ns s.heap.objs.size _ := hn₃.at fun o e => k₄ _ o hxL e
      refine ks_wpAt_execs_cons (ks_wpAt_Assign_Attr (wpAt_of_wpAny (ldX (v := v) hn₄ (by first | rfl | with_unfolding_all rfl | kernel_rfl) (ldX (v := .ref x) hn₄ (by first | rfl | with_unfolding_all rfl | kernel_rfl) ?_))))
      refine set_plain X₄ (ox := excO C t1) (od := none) ⟨hx₄, rfl, rfl, trivial⟩ T.sa ?_
      refine exc_osa X₄ hx₄ hcl (show refsVE (.ref C :: bm) = true from hbm) rfl T.noN (fun h₅ tk₅ dx k₅ dn dne hx₅ hn₅ => ?_)
      have hsz : s.heap.objs.size < h₄.objs.size := hn₄.lt
      exact wpAt_of_wpAny (wpAny_execs_nil (hq h₅ tk₅ dx t1 ⟨fun b o hb e => k₅ b o hb (kX b o hb e), hx₅, Nat.le_of_lt (Nat.lt_of_lt_of_le hsz dn), dne, hn₅⟩))
  exact go l hl ho
theorem gu_made (T : GTxt prog K mg C fI) {v : Value} (X : K.In s.heap) (hg : s.heap.Ns mainGlobals mg) (hb : ∃ mb, s.heap.Ns builtinsNs mb ∧ ∀ x : Str, x ≠ "__name__" → mb x = bootBuiltins x) (hlim : s.heap.NoLimit) (hroom : A.depth + 1 < recursionLimit)
    (hq : ∀ h' tk e d, OwnMade s.heap h' e C d v → R (.ok (.ret (.ref e))) { s with heap := h', toks := tk }) :
    codeAny (model prog w) A (.call (.ref C) ⟨[v], []⟩) R s := by
  obtain ⟨nm, q, N, bs, bm, sn, sub, ab, col, dd, k0, k1, k2, k3, k5, hC, hbm⟩ := T.cls
  obtain ⟨mb, hb1, hb2⟩ := hb
  obtain ⟨hp, g, dr, tk, os⟩ := s
  have k : ∀ b o, hp.get? b = some o → ((hp.push (kdv_tup [v])).push (excO C hp.objs.size)).get? b = some o := fun b o e => Heap.get?_push_of_some _ (Heap.get?_push_of_some _ e)
  have hget : ((hp.push (kdv_tup [v])).push (excO C hp.objs.size)).get? (hp.objs.size + 1) = some (excO C hp.objs.size) := by heap_get
  have hnx : K.lookup (hp.objs.size + 1) = none := by
    cases e : K.lookup (hp.objs.size + 1) with
    | none => rfl
    | some o =>
      have z : hp.get? (hp.objs.size + 1) = some o := X _ _ e
      exact absurd (Nat.lt_of_succ_lt (Heap.lt_size z)) (Nat.lt_irrefl _)
  refine call_own F.excBase_ValueError (fun X => refsVE_contains X bm hbm) (X _ _ hC) (looks_findIn X T.iC) (fun self => bind_fn X self T.tC) (one_size v) ?_
  refine gu_init (s := ⟨(hp.push (kdv_tup [v])).push (excO C hp.objs.size), g, dr, tk, os⟩) T (X.keeps k) (hg.keeps k) ⟨mb, hb1.keeps k, hb2⟩ (hlim.keeps k) hget hnx ?_ fun h' tk' dx t1 ⟨k', hx, dn, dne, hns⟩ => ?_
  · show A.depth + 1 < recursionLimit
    exact hroom
  · have old : ∀ b o, hp.get? b = some o → h'.get? b = some o := fun b o e => k' b o (Nat.ne_of_lt (Nat.lt_succ_of_lt (Heap.lt_size e))) (k b o e)
    have z : hp.objs.size + 1 + 1 ≤ dx := by
      first
        | (simpa only [Heap.size_push] using dn)
        | exact dn
        | (have q := dn; rw [Heap.size_push, Heap.size_push] at q; exact q)
    exact ⟨rfl, hq h' tk' (hp.objs.size + 1) dx ⟨old, Nat.le_succ _, ⟨_, _, hx, rfl, rfl, rfl, rfl⟩, Nat.le_trans (Nat.le_trans (Nat.le_succ _) (Nat.le_succ _)) z, dne, hns⟩⟩
end
end GuX
end PySem
namespace Ev
open PySem PySem.Spec PyProof.Rows L2
theorem relO_code {v : V} {v' : Value} (r : RelV v v') (f : Str) : RelO (List.lookup f [(("code" : Str), v)]) (if f = "code" then some v' else none) := by
  by_cases hw : f = "code"
  · subst hw
    rw [if_pos rfl]
    have q : List.lookup ("code" : Str) [(("code" : Str), v)] = some v := by simp [List.lookup]
    rw [q]
    exact r
  · rw [if_neg hw]
    have qw : (f == ("code" : Str)) = false := by simpa using hw
    have q2 : List.lookup f [(("code" : Str), v)] = none := by simp [List.lookup, qw]
    rw [q2]
    trivial
section
variable {X : Cx} {C fI : Addr}
/-- GuildError(e) -/
def tMkGu (C : Addr) (ta : TA) : L2.St → Hp → XK → Prop := fun σ H Q => ta σ H fun vs H1 => ∃ v, vs = [v] ∧ ∀ d, H1 d = none → Q (.ref C) (some d) (upd H1 d (.xd [(("code" : Str), v)]))
theorem pmk_gu {a : Expr} {ta : TA} {p pos : Pos} {k : Nat} (T : PySem.GuX.GTxt X.prog X.K X.mg C fI) (hr : Room (k + 1) X.A) (ha : PA X [a] ta) (hg : Gl X "GuildError" := by rfl)
    (he : starEach (a :: []) X.env = (false, eval a X.env) :: starEach [] X.env := by rfl) (hpl : (backTo pos (starEach [] X.env)).any (·.1) = false := by rfl) :
    PMk X (.Call (.Name "GuildError" p) [a] [] pos) (tMkGu C ta) := by
  intro pins s σ H Q I h
  refine wpAny_Call_Name_kw (ld_glob I hg T.gC ?_)
  refine PySem.W.callWith_K (h₀ := X.base) I.ok.mod.kin T.kC (thn (ha.run pos pins s σ H _ I h) fun us s1 hh => ?_) he hpl
  obtain ⟨vs, H1, I1, r1, v, ev, q1⟩ := hh
  subst ev
  refine ⟨I1.kIn, ?_⟩
  cases r1 with
  | cons rv rn =>
    rename_i v' us'
    cases rn
    show wpAny _ _ (call (.ref C) [v']) _ _ _
    have hlim := I1.nolimit
    obtain ⟨mb, hb1, hb2⟩ := I1.mod.blt
    have hgl := I1.mod.glob.keeps I1.bk
    have hbl := hb1.keeps I1.bk
    obtain ⟨hp, g, dr, tk, os⟩ := s1
    refine wpAny_call (PySem.GuX.gu_made T I1.kIn hgl ⟨mb, hbl, hb2⟩ hlim (by have := hr.dp; omega) fun h' tk' e d M => ?_)
    show MkP X pins σ Q (.ref e) ⟨h', g, dr, tk', os⟩
    obtain ⟨oe, fv, hoe, hc, hd, hdat, h1⟩ := M.obj
    have hns := M.ns
    obtain ⟨G', g1, g2⟩ := restrict h' fun b => decide (b ≠ e)
    have gk : ∀ b, b ≠ e → G'.get? b = h'.get? b := fun b hb => g1 b (decide_eq_true hb)
    have ge : G'.get? e = none := g2 e (by simp)
    have old : ∀ b o, hp.get? b = some o → G'.get? b = some o := fun b o q => (gk b (Nat.ne_of_lt (Nat.lt_of_lt_of_le (Heap.lt_size q) M.new))).trans (M.keep b o q)
    have ob : ObjOk X.prog X.w (upd H1 d (.xd [(("code" : Str), v)])) G' d (.xd [(("code" : Str), v)]) :=
      ⟨_, hns.at (fun o q => (gk d M.dne).trans q), fun f => relO_code rv f⟩
    have J : Inv X pins σ (upd H1 d (.xd [(("code" : Str), v)])) ⟨G', g, dr, tk', os⟩ := I1.laid (t' := tk') old M.dbig ob
    refine ⟨e, oe, fv, ⟨G', g, dr, tk', os⟩, _, .ref C, some d, rfl, J, fun b o q => ?_, ge, hoe, ⟨hc, hd⟩, hdat, h1, ?_, rfl, I1.bare, raises_own T.exC T.tyC, q1 d (I1.hok.fresh M.dbig)⟩
    · by_cases hb : b = e
      · have q' : G'.get? b = some o := q
        rw [hb, ge] at q'; cases q'
      · exact (gk b hb).symm.trans q
    · rw [upd_ne (Ne.symm M.dne)]
      exact I1.hok.fresh M.new
/-- e.code, e the exception that the suite holds -/
def tByCode (C : Addr) (a : Addr) (cls : Value) (d : Option Addr) (te : TE) : TE := fun σ H Q => te σ H fun x H1 => x = .ref a ∧ cls = .ref C ∧ ∃ (dd : Addr) (v : V), d = some dd ∧ H1 dd = some (.xd [(("code" : Str), v)]) ∧ Q v H1
theorem pe_byCode {a : Addr} {oe : Obj} {cls : Value} {d : Option Addr} {pn : List (Addr × Obj)} {e : Expr} {te : TE} {pos : Pos} {P : Program} (T : PySem.GuX.GTxt P X.K X.mg C fI) (hz : Zc cls d oe) (hf : ∃ vs, oe.data = .fields vs) (he : PE (X.suite a ((a, oe) :: pn)) e te)
    (hb : attributeBase e "code" X.env (eval e X.env) = eval e X.env := by rfl) :
    PE (X.suite a ((a, oe) :: pn)) (.Attribute e "code" pos) (tByCode C a cls d te) := by
  refine ⟨fun pins s σ H Q I h => ?_⟩
  refine attr_of hb (thn (he.run pins s σ H _ I h) fun u s1 hh => ?_)
  obtain ⟨x, H1, I1, rx, ex, ec, dd, v, ed, ea, q⟩ := hh
  subst ex
  obtain rfl : u = Value.ref a := rx
  subst ec
  subst ed
  obtain ⟨ha, _⟩ := I1.pin (a, oe) (List.mem_append_left _ List.mem_cons_self)
  obtain ⟨vs, hd⟩ := hf
  have hx : ObjOk X.prog X.w H1 s1.heap dd (.xd [(("code" : Str), v)]) := I1.hok dd _ ea
  obtain ⟨mA, hns, hr⟩ := hx
  obtain ⟨od, ho, hl⟩ := lookIn_ns hns
  have l : List.lookup ("code" : Str) [(("code" : Str), v)] = some v := by simp [List.lookup]
  obtain ⟨u, hu, ru⟩ := RelO.some_of (v := v) (o := mA "code") (by rw [← l]; exact hr "code")
  have J : PySem.W.InstAt s1.heap a oe C (some od) := ⟨ha, hz.1, by unfold PySem.W.notCls; rw [hd] <;> rfl, by rw [hz.2]; exact ho⟩
  exact HandSPX.exc_get I1.kIn J T.ga T.gg T.exC (PySem.W.findObj_own T.hdC T.noN rfl (by rw [hl, hu])) (handed_of ru) ⟨v, H1, I1.tok _, ru, q⟩
/-- raise GuildError('code') -/
def sRaise (code : Str) : ES → SR := fun s => .err code s.T
theorem qs_raise {XP : XPt} {code : Str} {j : Nat} {p p2 pos pos2 : Pos} {k : Nat} (T : PySem.GuX.GTxt X.prog X.K X.mg C fI) (hc : X.calm = true) (hr : Room (k + 1) X.A) (tk : Tk X C XP) (hg : Gl X "GuildError" := by rfl) :
    QS X XP (.Raise (some (.Call (.Name "GuildError" p) [.Constant (.str code) j p2] [] pos)) none pos2) (sRaise code) :=
  PS.imp (ps_raise hc tk (pmk_gu T hr (pa_cons pe_str pa_nil (by rfl)) hg (by rfl) (by rfl))) fun D σ H ⟨c, Z, W, s, r, h⟩ => by
  refine ⟨.str code, rfl, fun d hd => ⟨code, d, rfl, rfl, upd_same, ?_⟩⟩
  have g := Grow.upd (o := codeF code) hd
  exact h d W _ g.stp (r.T.grow g) (r.tb.ext g) upd_same
end
end Ev
set_option Elab.async false
set_option linter.all false
set_option maxRecDepth 100000
set_option maxHeartbeats 4000000
/-! Ev12: _law_told(lambda: e): e's value, or the code of the error that e raises -/
namespace Ev
open PySem PySem.Spec PyProof.Rows L2 LamX

def TToldE (CS : Addr) : (XK → Hp → VK → Prop) → Hp → VK → Prop := fun tl H Q => tl (fun cls dx H' => ∃ d code, cls = .ref CS ∧ dx = some d ∧ H' d = some (codeF code) ∧ Q (.str code) H') H Q
theorem told_givesE {X : Cx} {x q : Str} {sg : Scope} {g CS fI : Addr} {cdg : Value} {p1 p2 p3 p4 p5 p6 p7 p8 p9 : Pos} (T : PySem.GuX.GTxt X.prog X.K X.mg CS fI) (hge : sg.names.lookup ("GuildError" : Str) = some .globalImplicit) (hle : sg.names.lookup ("e" : Str) = some .local) (hkf : sg.kind = .function) :
    GivesTo X ["call", "e"] x sg g cdg [.Try [.Return (some (.Call (.Name "call" p1) [] [] p2)) p3] [.ExceptHandler (some (.Name "GuildError" p4)) (some "e") [.Return (some (.Attribute (.Name "e" p5) "code" p6)) p7] p8] [] [] p9] "call" q (TToldE CS) := by
  intro f c' s H Q tl act hc h
  have hgl : Gl (cxOf C8.CX0 X.prog X.w X.K X.mg X.base ["call", "e"] x sg g cdg X.A X.stack s H C8.E0).nox "GuildError" := hge
  refine ⟨_, pss_one (ps_try_as (X := (cxOf C8.CX0 X.prog X.w X.K X.mg X.base ["call", "e"] x sg g cdg X.A X.stack s H C8.E0).nox) (c := .ref CS) (i := 1) (n := "e") (ts := fun a cls d D σ H => σ.length = 2 → tRet (tByCode CS a cls d (tVar 1)) D σ H) (Wout := fun _ _ _ _ => False)
      (tb := fun W D σ H => ∃ Ech : XK, (∀ cls d σ' H', Ech cls d H' → W cls d σ' H') ∧ σ[0]? = some (some (.ref f)) ∧ H c' = some (CodeO c' q) ∧ tl Ech H D.rt)
      rfl rfl (show (["call", "e"] : List Str).Nodup by decide) rfl hle ⟨hgl, by decide, .inl T.gC⟩ L2.takes0 (fun W pn xe tk _ => ?_) (fun a oe cls d pn hz hf => ?_)), ?_⟩
  · refine ⟨fun pins s' σ H' D I h' => ?_⟩
    obtain ⟨Ech, hW, h1, h2, h3⟩ := h'
    have hp := act W pn xe Ech p1 p2 tk hW
    have hq := pss_one (ps_ret (pos := p3) hp)
    exact hq.run pins s' σ H' D I ⟨h1, h2, h3⟩
  · have z := pss_one (ps_ret (pos := p7) (pe_byCode (pos := p6) (X := (cxOf C8.CX0 X.prog X.w X.K X.mg X.base ["call", "e"] x sg g cdg X.A X.stack s H C8.E0).nox) T (a := a) (pn := pn) hz hf (pe_var (pos := p5) (i := 1) rfl (.inl hle))))
    exact ⟨fun pins s σ H D I h => z.run pins s σ H D I (h I.len)⟩
  · refine ⟨fun cls dx H' => ∃ d code, cls = .ref CS ∧ dx = some d ∧ H' d = some (codeF code) ∧ Q (.str code) H', fun cls d σ' H' ⟨dd, code, e1, e2, e3, e4⟩ => ?_, rfl, hc, h⟩
    subst e1 e2
    refine ⟨true, T.te, fun _ a ha hl => ⟨_, ?_, rfl, rfl, dd, _, rfl, e3, e4⟩, fun z => by cases z⟩
    rw [List.length_set] at hl
    rw [List.getElem?_set_self (by omega)]

section
variable {X : Cx} {pins : List (Addr × Obj)} {σ : L2.St} {H : Hp} {s : Shared}
/-- a function without a name is made: its table may grow by one; all else stays, and nothing goes -/
theorem make_lam {T : List (Addr × Str)} {c P : Addr} {q : Str} {params : Arguments} {body : Expr} {scope : Scope} {pos : Pos} {E : Value → Shared → Prop} {Q : Value → Shared → Prop} (eq : X.env.qual ++ "<lambda>" = q) (I : Inv X pins σ H s) (TB : TabB X.base X.mg c P) (hcode : X.env.code = .ref c)
    (hm : (P, q) ∈ T) (hu : ∀ p ∈ T, p.1 = P → p.2 = q) (hT : Tabs T H) (hdef : defaultsOf params X.env = ([], [])) (L : LamS X.env.scope scope)
    (h : ∀ (f c' : Addr) (pm ctv : Value) (H1 : Hp) (s' : Shared), Inv X pins σ H1 s' → GrowT H H1 → Tabs T H1 →
      s'.heap.get? f = some (PySem.W.kla_obj "<lambda>" (X.env.qual ++ "<lambda>") params body scope (cloFrom X.env.cells scope.names []) pm c' ctv) → H1 f = none → f ∉ frs X.stack → H1 c' = some (CodeO c' (X.env.qual ++ "<lambda>")) → Q (.ref f) s') :
    wpAny (model X.prog X.w) X.A (eval (.Lambda params body scope pos) X.env) Q E s := by
  subst eq
  obtain ⟨ps, hP, ht, ha⟩ := hT _ hm
  have atP : s.heap.get? P = some { cls := .none, data := .fields ps } := I.hok P _ hP
  have outer : ∀ f, s.heap.objs.size ≤ f → f ∉ frs X.stack := fun f hf z => by
    rcases List.mem_cons.mp (I.stkSub _ z) with e | e
    · have lt := I.lt
      rw [← e] at lt
      exact Nat.lt_irrefl _ (Nat.lt_of_lt_of_le lt hf)
    · exact I.nofs hf e
  have clo := closure_ok (L.has I.ok)
  have gl := I.mod.glob.keeps I.bk
  have cd := TB.code.keeps I.bk
  have bm := TB.bm.keeps I.bk
  refine PySem.W.kla_eval hdef ?_
  cases hc : codeAmong pos ps.toList with
  | some cv =>
    obtain ⟨c', e, hco⟩ := ha pos cv hc
    subst e
    exact PySem.W.kla_makeFunctionHit (mg := X.mg) (c := c) (P := P) (ps := ps) clo I.ok.glob gl hcode cd atP ht hc bm fun ctv h' tk hx hsz =>
      h _ c' _ ctv H _ (I.kept fun b o e => Heap.get?_push_of_some _ (hx b o e)) .refl hT (Heap.get?_push_size _ rfl) (I.hok.fresh hsz) (outer _ hsz) hco
  | none =>
    refine PySem.W.kla_makeFunction (mg := X.mg) (c := c) (P := P) (ps := ps) clo I.ok.glob gl hcode cd atP ht hc TB.gP bm fun c' ctv h' tk hx hge hlt ⟨c2, oc, vs, t, e2, hoc, hd, hv⟩ htb => ?_
    cases e2
    have big : s.heap.objs.size ≤ h'.objs.size := Nat.le_trans hge (Nat.le_of_lt hlt)
    have fresh : H c' = none := I.hok.fresh hge
    have I1 := inv_table (t' := tk) (more := #[rawInt pos.line, rawInt pos.col, .ref c']) (h' := h'.push (PySem.W.kla_obj "<lambda>" (X.env.qual ++ "<lambda>") params body scope (cloFrom X.env.cells scope.names []) ((X.mg "__name__").getD .none) c' ctv)) I hP
      (fun b o hb e => Heap.get?_push_of_some _ (hx b o hb e)) (Heap.get?_push_of_some _ htb) hge ⟨oc, vs, t, Heap.get?_push_of_some _ hoc, hd, hv⟩
    have cP : P ≠ c' := ne_of_none hP fresh
    have oth : ∀ b o, H b = some o → b ≠ P → upd (upd H P (.tbl (ps ++ #[rawInt pos.line, rawInt pos.col, .ref c']))) c' (CodeO c' (X.env.qual ++ "<lambda>")) b = some o := fun b o e n => by
      rw [upd_ne (ne_of_none e fresh), upd_ne n]; exact e
    have code : ∀ b q, H b = some (CodeO b q) → b ≠ P := fun b q e z => by
      subst z
      rw [hP] at e
      exact codeO_ne ps (Option.some.inj e).symm
    refine h h'.objs.size c' _ ctv _ _ I1 ⟨fun b o e n => oth b o e fun z => by rw [z, hP] at e; exact n ps (Option.some.inj e).symm, fun b o e => ?_⟩ (fun p hp => ?_) (Heap.get?_push_size _ rfl) ?_ (outer _ big) upd_same
    · by_cases hb : b = P
      · exact ⟨_, by rw [hb, upd_ne cP, upd_same]⟩
      · exact ⟨o, oth b o e hb⟩
    · by_cases hb : p.1 = P
      · rw [hu p hp hb, hb]
        have el : (ps ++ #[rawInt pos.line, rawInt pos.col, .ref c']).toList = ps.toList ++ [rawInt pos.line, rawInt pos.col, .ref c'] := by simp
        refine ⟨_, by rw [upd_ne cP, upd_same], by rw [el]; exact PySem.TriplesOk_snoc _ _ _ _ ht, fun p' cv hcv => ?_⟩
        rw [el] at hcv
        rcases among_app _ ht hcv with z | z
        · obtain ⟨c0, e1, e2⟩ := ha p' cv z
          exact ⟨c0, e1, oth _ _ e2 (code _ _ e2)⟩
        · exact ⟨c', z, upd_same⟩
      · obtain ⟨ps', a1, a2, a3⟩ := hT p hp
        refine ⟨ps', oth _ _ a1 hb, a2, fun p' cv hcv => ?_⟩
        obtain ⟨c0, e1, e2⟩ := a3 p' cv hcv
        exact ⟨c0, e1, oth _ _ e2 (code _ _ e2)⟩
    · rw [upd_ne (Nat.ne_of_gt hlt), upd_ne (Nat.ne_of_gt (Nat.lt_of_lt_of_le (Heap.lt_size atP) big))]
      exact I.hok.fresh big
end
/-- where a def's names for functions without names stand -/
structure LamAt (X : Cx) (c P : Addr) : Prop where
  tb : TabB X.base X.mg c P
  code : X.env.code = .ref c
  mem : (P, X.env.qual ++ "<lambda>") ∈ lamTabs X.K
  one : ∀ p ∈ lamTabs X.K, p.1 = P → p.2 = X.env.qual ++ "<lambda>"
/-- the def _law_told, as the program's top leaves it -/
structure ToldAt (K : PySem.W.Frag) (mg : Str → Option Value) (g : Addr) : Prop where
  ex : ∃ (oc : Value) (od : Option Addr) (pg : Arguments) (sg : Scope) (dV kV doc pm : Value) (an : Option Addr) (cdv ct : Value) (osl : Array (Option Value)) (p1 p2 p3 p4 p5 p6 p7 p8 p9 : Pos),
    K.lookup g = some ⟨oc, od, .func (PySem.W.fnOf "_law_told" "_law_told" pg [.Try [.Return (some (.Call (.Name "call" p1) [] [] p2)) p3] [.ExceptHandler (some (.Name "GuildError" p4)) (some "e") [.Return (some (.Attribute (.Name "e" p5) "code" p6)) p7] p8] [] [] p9] sg dV kV doc pm an cdv ct), osl⟩ ∧
    PySem.W.codeIn K cdv "_law_told" = true ∧ L2.Binds K (PySem.W.fnOf "_law_told" "_law_told" pg [.Try [.Return (some (.Call (.Name "call" p1) [] [] p2)) p3] [.ExceptHandler (some (.Name "GuildError" p4)) (some "e") [.Return (some (.Attribute (.Name "e" p5) "code" p6)) p7] p8] [] [] p9] sg dV kV doc pm an cdv ct) ["call"] [] ∧
    FnScope ["call", "e"] ["call"] sg ∧ sg.names.lookup ("GuildError" : Str) = some .globalImplicit ∧ sg.names.lookup ("e" : Str) = some .local ∧ Vis sg "call"
  gl : mg "_law_told" = some (.ref g)
  kp : PySem.W.keepIn K (.ref g) = true
/-- what is one's own goes, where an error has left an expression -/
def ownless : Option SV → Option SV
  | some (.own _) => none
  | some (.cel _) => none
  | o => o
def dropO (T : Ext) (s : ES) : ES := { σ := s.σ.map ownless, T := ⟨T.cu, s.T.ce.map fun _ => .gone⟩ }
abbrev WN (L : Nat) : Own := ⟨fun _ => none, L⟩
def eTold (f : Mo Ref) : Mo Ref := fun s => match bnd f dur s with
  | .ok d s1 => .ok (.d d) s1
  | .err c T => .ok (.d (.str c)) (dropO T s)
  | .stuck => .stuck
section
variable {K : PySem.W.Frag} {c : Option (Addr × Addr)} {Z : Addr → Prop} {W W' : Own} {s : ES} {σ : Sl} {H H' : Hp}
theorem Rel.dropO (r : Rel K c Z W s σ H) (x : Stp c W H W' H') {T : Ext} (hT : CurOk c H' T.cu) (tb : TabOk K H') : Rel K c Z (WN W.L) (Ev.dropO T s) σ H' := by
  refine ⟨by show (s.σ.map ownless).length = _; rw [List.length_map]; exact r.len, fun i sv e => ?_, fun i j a e => (nomatch e), fun i a e => (nomatch e), fun a z => (r.zt a z).elim fun o q => x.dom a o q, r.cz, hT, tb, by show (s.σ.map ownless).length ≤ _; rw [List.length_map]; exact r.len1, by show (s.T.ce.map _).length = W.L; rw [List.length_map]; exact r.cL, fun n y e => by
    have e : (s.T.ce.map fun _ => Cell.gone)[n]? = some y := e
    rw [List.getElem?_map] at e
    cases e1 : s.T.ce[n]? with
    | none => rw [e1] at e; cases e
    | some o => rw [e1] at e; cases e; exact True.intro⟩
  have e : (s.σ.map ownless)[i]? = some (some sv) := e
  rw [List.getElem?_map] at e
  cases e1 : s.σ[i]? with
  | none => rw [e1] at e; cases e
  | some o =>
    rw [e1] at e
    have e := Option.some.inj e
    cases o with
    | none => cases e
    | some sv0 =>
      cases sv0 with
      | own ds => cases e
      | cel n => cases e
      | val d =>
        cases e
        obtain ⟨v, h1, h2⟩ := r.slot i _ e1
        refine ⟨v, h1, DV.mono (fun a o e t n => ⟨(r.over x a o e t n).1, ?_⟩) _ _ h2⟩
        rintro (z | ⟨j, z⟩)
        · exact n (.inl z)
        · cases z
      | cur =>
        cases e
        exact r.slot i _ e1
theorem Stp.none (x : Stp c W H W' H') : Stp c W H (WN W.L) H' := ⟨x.keep, x.dom, fun i a e => (nomatch e), Nat.le_refl _, fun m a _ e => (nomatch e)⟩
end
section
variable {X : Cx} {XP : XPt} {C fI g c P : Addr} {k : Nat} {params : Arguments} {body : Expr} {scope : Scope} {f : Mo Ref} {p lpos pos : Pos}
theorem qe_told (T : PySem.GuX.GTxt X.prog X.K X.mg C fI) (G : ToldAt X.K X.mg g) (LA : LamAt X c P) (hr : Room (k + 2) X.A) (hg : Gl X "_law_told")
    (hbody : ∀ (A : Around) (outer : List Env) (s : Shared) (H : Hp) (E : XK) (f' c' : Addr), Room k (A.deeper (lamEnv X scope s.heap.objs.size f' c')) → ∀ XP, Tk (lamCx X A outer s H E scope f' c') C XP → QE (lamCx X A outer s H E scope f' c') XP body f)
    (L : LamS X.env.scope scope := by exact LamX.lamS_by (by kernel_rfl)) (hdef : defaultsOf params X.env = ([], []) := by rfl)
    (hbind : ∀ (q : Str) (cl : List (Str × Addr)) (pm cv ctv : Value), bindArgs (PySem.W.kla_fn "<lambda>" q params body scope cl pm cv ctv) ⟨[], []⟩ = pure [] := by intros; rfl) :
    QE X XP (.Call (.Name "_law_told" p) [.Lambda params body scope lpos] [] pos) (eTold f) := by
  obtain ⟨oc, od, pg, sg, dV, kV, doc, pm, an, cdv, ct, osl, p1, p2, p3, p4, p5, p6, p7, p8, p9, lk, hcg, hb, Sg, hge, hle, hva⟩ := G.ex
  refine ⟨fun pins s σ H Q I h => ?_⟩
  obtain ⟨cc, Z, W, s0, r, h⟩ := h
  refine wpAny_Call_Name_kw (ld_glob I hg G.gl ?_)
  refine PySem.W.callWith_K (h₀ := X.base) I.ok.mod.kin G.kp ?_ (by rfl) (by rfl)
  show wpAny _ _ (spliced ((false, eval (.Lambda params body scope lpos) X.env) :: backTo pos (starEach [] X.env))) _ _ s
  refine Calls.spliced_cons (make_lam rfl I LA.tb LA.code LA.mem LA.one r.tb hdef L fun f' c' pm' ctv H1 s' I1 gr T1 hf hfn hfr hco => ?_)
  refine Calls.spliced_nil ⟨I1.kIn, ?_⟩
  have r1 := r.growT gr T1
  have hTT : TToldE C (fun E H' Q' => tE X.K (fun code d H' => E (.ref C) (some d) H') f σ H' Q') H1 Q := by
    show tE _ _ _ _ _ _
    refine ⟨cc, Z, W, s0, r1, ?_⟩
    unfold eTold at h
    have h2 : Run X.K XP cc Z W σ H1 (match bnd f dur s0 with
      | .ok d s1 => .ok (.d d) s1
      | .err c T => .ok (.d (.str c)) (dropO T s0)
      | .stuck => .stuck) fun q _ W' H' => ∀ v, RV X.K Z W' H' σ v q → Q v H' := Run.step gr.stp h
    cases e : bnd f dur s0 with
    | ok d s1 =>
      rw [e] at h2
      have h3 : Run X.K (fun code d H' => (fun cls dx H' => ∃ d code, cls = Value.ref C ∧ dx = some d ∧ H' d = some (codeF code) ∧ Q (.str code) H') (.ref C) (some d) H') cc Z W σ H1 (bnd f dur s0) fun d s1 W' H' => ∀ v, DV X.K (blk Z W') H' v d → Q v H' := by
        rw [e]
        exact fun W' H' x r' v dv => h2 W' H' x r' v dv
      refine h3.bind.imp fun q s2 W2 H2 x2 r2 h4 v rv => ?_
      have h4' : Run X.K (fun code d H' => (fun cls dx H' => ∃ d code, cls = Value.ref C ∧ dx = some d ∧ H' d = some (codeF code) ∧ Q (.str code) H') (.ref C) (some d) H') cc Z W2 σ H2 (bnd (dur q) (fun d s => Rs.ok d s) s2) fun d s1 W' H' => ∀ v, DV X.K (blk Z W') H' v d → Q v H' := by
        have e' : bnd (dur q) (fun d s => Rs.ok d s) s2 = dur q s2 := by unfold bnd; cases dur q s2 <;> rfl
        rw [e']; exact h4
      obtain ⟨d', s3, W3, x3, r3, dv, h5⟩ := h4'.dur r2 rv
      exact h5 W3 H2 .refl r3 v dv
    | err code T' =>
      rw [e] at h2
      have h3 : Run X.K (fun code d H' => (fun cls dx H' => ∃ d code, cls = Value.ref C ∧ dx = some d ∧ H' d = some (codeF code) ∧ Q (.str code) H') (.ref C) (some d) H') cc Z W σ H1 (bnd f dur s0) fun d s1 W' H' => ∀ v, DV X.K (blk Z W') H' v d → Q v H' := by
        rw [e]
        exact fun d W' H' x hT tb hd => ⟨d, code, rfl, rfl, hd, h2 _ H' x.none (r1.dropO x hT tb) _ (.str code)⟩
      refine h3.bind.imp fun q s2 W2 H2 x2 r2 h4 v rv => ?_
      have h4' : Run X.K (fun code d H' => (fun cls dx H' => ∃ d code, cls = Value.ref C ∧ dx = some d ∧ H' d = some (codeF code) ∧ Q (.str code) H') (.ref C) (some d) H') cc Z W2 σ H2 (bnd (dur q) (fun d s => Rs.ok d s) s2) fun d s1 W' H' => ∀ v, DV X.K (blk Z W') H' v d → Q v H' := by
        have e' : bnd (dur q) (fun d s => Rs.ok d s) s2 = dur q s2 := by unfold bnd; cases dur q s2 <;> rfl
        rw [e']; exact h4
      obtain ⟨d', s3, W3, x3, r3, dv, h5⟩ := h4'.dur r2 rv
      exact h5 W3 H2 .refl r3 v dv
    | stuck => rw [e] at h2; exact h2.elim
  have rc : codeAny (model X.prog X.w) X.A (.call (.ref g) ⟨[.ref f'], []⟩) (CR C8.CX0 X.stack X.prog X.w H1 s' Q C8.E0) s' := by
    refine run_ofS (N := ["call", "e"]) (ps := ["call"]) (us := [.ref f']) (vs := [.ref f']) lk hcg Sg hr I1.env0 (hb s' [.ref f'] I1.kIn rfl) (.cons rfl .nil) rfl fun hr' => ?_
    obtain ⟨t', ht', hq'⟩ := told_givesE (X := X) (x := "_law_told") (q := X.env.qual ++ "<lambda>") (sg := sg) (g := g) (cdg := cdv) (p1 := p1) (p2 := p2) (p3 := p3) (p4 := p4) (p5 := p5) (p6 := p6) (p7 := p7) (p8 := p8) (p9 := p9) T hge hle Sg.kind
      f' c' s' H1 Q (fun E H' Q' => tE X.K (fun code d H' => E (.ref C) (some d) H') f σ H' Q')
      (fun W pn xe E p1 p2 tk hW => pe_act (i := 0) (tb := tE X.K (fun code d H' => E (.ref C) (some d) H') f) I1 L hf hfn hfr (hbind _ _ _ _ _) tk hW hr' (fun A outer s H hr2 => hbody A outer s H E f' c' hr2 _ (Takes.imp (takes_of rfl rfl rfl rfl) fun c d σ H' ⟨code, d', e1, e2, e3, e4⟩ => by subst e1 e2; exact e4)) rfl hva) hco hTT
    exact ⟨t', ht'.nox, hq'⟩
  refine wpAny_call (codeAny_mono rc fun r s2 hq => ?_)
  cases r with
  | error e => exact (show False from hq).elim
  | ok fl =>
    cases fl with
    | ret u => exact I1.after hq
    | next => exact False.elim hq
    | brk => exact False.elim hq
    | cont => exact False.elim hq
end
end Ev
set_option Elab.async false
set_option linter.all false
set_option maxRecDepth 100000
set_option maxHeartbeats 4000000
/-! Ev13: the drawn numbers: _law_begin, _law_take -/
namespace Ev
open PySem PySem.Spec PyProof.Rows L2

/-! ### evaluations that leave the heap as it is -/
def Gv (t : TE) (σ : Sl) (H : Hp) (v : V) : Prop := ∀ Q : VK, Q v H → t σ H Q
section
variable {σ : Sl} {H : Hp} {K : PySem.W.Frag} {ta tb : TE}
theorem gv_var {i : Nat} {v : V} (h : σ[i]? = some (some v)) : Gv (tVar i) σ H v := fun Q q => ⟨v, h, q⟩
theorem gv_c {v : V} : Gv (tC v) σ H v := fun Q q => q
theorem gv_ix {p : Addr} {xs : List V} {k : Int} {z : V} (ha : Gv ta σ H (.ref p)) (hb : Gv tb σ H (.int k)) (hp : SqL K H p xs) (hz : atI xs k = some z) : Gv (tOp (rIxL K) ta tb) σ H z := fun Q q => ha _ (hb _ ⟨p, xs, k, z, rfl, rfl, hp, hz, q⟩)
theorem gv_op0 {g : Int → Int → V} {i j : Int} (ha : Gv ta σ H (.int i)) (hb : Gv tb σ H (.int j)) : Gv (tOp (rI0 g) ta tb) σ H (g i j) := fun Q q => ha _ (hb _ ⟨i, j, rfl, rfl, q⟩)
theorem gv_op {C : Int → Int → Prop} {g : Int → Int → V} {i j : Int} (ha : Gv ta σ H (.int i)) (hb : Gv tb σ H (.int j)) (hc : C i j) : Gv (tOp (rI C g) ta tb) σ H (g i j) := fun Q q => ha _ (hb _ ⟨i, j, rfl, rfl, hc, q⟩)
theorem gv_eq {i j : Int} (ha : Gv ta σ H (.int i)) (hb : Gv tb σ H (.int j)) : Gv (tOp rEq ta tb) σ H (.bl (decide (V.int i = V.int j))) := fun Q q => ha _ (hb _ ⟨rfl, q⟩)
abbrev rInt : List V → Hp → VK → Prop := fun xs H Q => (∃ i, xs = [.int i] ∧ Q (.int i) H) ∨ ∃ k, xs = [.bl k] ∧ Q (.int (if k then 1 else 0)) H
abbrev rAbsI : List V → Hp → VK → Prop := fun xs H Q => ∃ i, xs = [.int i] ∧ Q (.int (if i < 0 then -i else i)) H
abbrev rLenV (K : PySem.W.Frag) : List V → Hp → VK → Prop := fun xs H Q => ∃ x n, xs = [x] ∧ LenV K x H n ∧ Q (.int n) H
theorem gv_int {i : Int} (ha : Gv ta σ H (.int i)) : Gv (tCB rInt (tCons ta tNil)) σ H (.int i) := fun Q q => ha _ (.inl ⟨i, rfl, q⟩)
theorem gv_abs {i : Int} (ha : Gv ta σ H (.int i)) : Gv (tCB rAbsI (tCons ta tNil)) σ H (.int (if i < 0 then -i else i)) := fun Q q => ha _ ⟨i, rfl, q⟩
theorem gv_len {a : Addr} {xs : List V} (ha : Gv ta σ H (.ref a)) (h : SqL K H a xs) : Gv (tCB (rLenV K) (tCons ta tNil)) σ H (.int xs.length) := fun Q q => ha _ ⟨.ref a, _, rfl, .inl ⟨xs, h, rfl⟩, q⟩
theorem gv_test {k : Bool} (h : Gv ta σ H (.bl k)) {Q : Bool → Hp → Prop} (q : Q k H) : tTest ta σ H Q := h _ ⟨k, rfl, q⟩
/-- d[k] = e -/
theorem gv_put {p : Addr} {xs : List V} {k : Int} {j : Nat} {v : V} {to ti te : TE} {D : Ends} (he : Gv te σ H v) (ho : Gv to σ H (.ref p)) (hi : Gv ti σ H (.int k)) (hp : H p = some (.lst xs)) (hj : ixN xs.length k = some j) (q : D.nx σ (upd H p (.lst (xs.set j v)))) : tAsg te (gSub to ti rSetL) D σ H :=
  he _ (ho _ (hi _ ⟨p, xs, k, j, rfl, rfl, hp, hj, q⟩))
theorem gv_set {i : Nat} {v : V} {te : TE} {D : Ends} (he : Gv te σ H v) (q : D.nx (σ.set i (some v)) H) : tAsg te (gName i) D σ H := he _ q
theorem gv_ret {v : V} {te : TE} {D : Ends} (he : Gv te σ H v) (q : D.rt v H) : tRet te D σ H := he _ q
end
theorem tru_if {b : Bool} (hb : b = true) {A B : Prop} (h : A) : if b = true then A else B := by rw [if_pos hb]; exact h
theorem fls_if {b : Bool} (hb : b = false) {A B : Prop} (h : B) : if b = true then A else B := by rw [hb]; exact h

/-! ### _law_take -/
abbrev bigL : Int := 10 ^ 18
abbrev absI (i : Int) : Int := if i < 0 then -i else i
theorem absI_nn (i : Int) : 0 ≤ absI i := by
  unfold absI
  split <;> omega
def nextSeed (s : Int) : Int := (s * 48271 + 11) % 2147483647
def drawC (many : Int) (hm : 0 < many) (c : Cur) : Int × Cur :=
  if c.cur = 0 ∧ c.pos < c.items.length then
    if absI (c.items.getD c.pos 0) < bigL then (absI (c.items.getD c.pos 0) % many, { c with pos := c.pos + 1, cur := 0, h1 := Int.le_refl 0 })
    else (absI (c.items.getD c.pos 0) % many, { c with pos := c.pos + 1, cur := absI (c.items.getD c.pos 0) / many, h1 := Int.ediv_nonneg (absI_nn _) (Int.le_of_lt hm) })
  else if 0 < c.cur then (c.cur % many, { c with cur := c.cur / many, h1 := Int.ediv_nonneg c.h1 (Int.le_of_lt hm) })
  else (nextSeed c.seed / 3 % many, { c with seed := nextSeed c.seed, h2 := Int.emod_nonneg _ (by decide), h3 := Int.emod_lt_of_pos _ (by decide) })
theorem drawC_range (many : Int) (hm : 0 < many) (c : Cur) : 0 ≤ (drawC many hm c).1 ∧ (drawC many hm c).1 < many := by
  have h : ∀ x : Int, 0 ≤ x % many ∧ x % many < many := fun x => ⟨Int.emod_nonneg _ (by omega), Int.emod_lt_of_pos _ hm⟩
  unfold drawC
  split
  · split <;> exact h _
  · split <;> exact h _
structure CurAt (H : Hp) (p l : Addr) (cu : Cur) : Prop where
  ne : p ≠ l
  hp : H p = some (.lst [V.ref l, V.int cu.pos, V.int cu.cur, V.int cu.seed])
  hl : H l = some (.lst (cu.items.map V.int))
def spTake : Sp := fun vs H Q _ => ∃ (p l : Addr) (cu : Cur) (many : Int) (hm : 0 < many), vs = [.ref p, .int many] ∧ divOk many = true ∧ CurAt H p l cu ∧
  Q (.int (drawC many hm cu).1) (upd H p (.lst [V.ref l, V.int (drawC many hm cu).2.pos, V.int (drawC many hm cu).2.cur, V.int (drawC many hm cu).2.seed]))
/-- d[k] -/
abbrev tD (K : PySem.W.Frag) (k : Int) : TE := tOp (rIxL K) (tVar 0) (tC (.int k))
abbrev rAddI : R2 := rI0 fun i j => .int (i + j)
abbrev rModI : R2 := rI (fun _ j => 0 < j) fun i j => .int (i % j)
abbrev rLtI : R2 := rI0 fun i j => .bl (decide (i < j))
abbrev rGtI : R2 := rI0 fun i j => .bl (decide (j < i))
abbrev rDivI : R2 := rI CDivW fun i j => .int (i / j)
abbrev rMulI : R2 := rI CMul fun i j => .int (i * j)
abbrev rPowI : R2 := rI CPow fun i j => .int (i ^ j.toNat)
def t_take (K : PySem.W.Frag) : TS :=
  tSeq (tIfS (tAnd (tTest (tOp rEq (tD K 2) (tC (.int 0)))) (tTest (tOp rLtI (tD K 1) (tCB (rLenV K) (tCons (tD K 0) tNil)))))
      (tSeq (tAsg (tCB rAbsI (tCons (tCB rInt (tCons (tOp (rIxL K) (tD K 0) (tD K 1)) tNil)) tNil)) (gSub (tVar 0) (tC (.int 2)) rSetL))
        (tSeq (tAsg (tOp rAddI (tD K 1) (tC (.int 1))) (gSub (tVar 0) (tC (.int 1)) rSetL))
          (tIfS (tTest (tOp rLtI (tD K 2) (tOp rPowI (tC (.int 10)) (tC (.int 18)))))
            (tSeq (tAsg (tCB rInt (tCons (tD K 2) tNil)) (gName 2)) (tSeq (tAsg (tC (.int 0)) (gSub (tVar 0) (tC (.int 2)) rSetL)) (tRet (tOp rModI (tVar 2) (tVar 1)))))
            tNext)))
      tNext)
    (tSeq (tIfS (tTest (tOp rGtI (tD K 2) (tC (.int 0))))
        (tSeq (tAsg (tOp rModI (tCB rInt (tCons (tD K 2) tNil)) (tVar 1)) (gName 3)) (tSeq (tAsg (tOp rDivI (tCB rInt (tCons (tD K 2) tNil)) (tVar 1)) (gSub (tVar 0) (tC (.int 2)) rSetL)) (tRet (tVar 3))))
        tNext)
      (tSeq (tAsg (tOp rModI (tCB rInt (tCons (tOp rAddI (tOp rMulI (tD K 3) (tC (.int 48271))) (tC (.int 11))) tNil)) (tC (.int 2147483647))) (gSub (tVar 0) (tC (.int 3)) rSetL))
        (tRet (tOp rModI (tCB rInt (tCons (tOp rDivI (tD K 3) (tC (.int 3))) tNil)) (tVar 1)))))
section
variable {K : PySem.W.Frag} {H : Hp} {p l : Addr} {σ : Sl}
theorem gv_d {xs : List V} {k : Int} {z : V} (h0 : σ[0]? = some (some (.ref p))) (hp : H p = some (.lst xs)) (hz : atI xs k = some z) : Gv (tD K k) σ H z := gv_ix (gv_var h0) gv_c (SqL.of hp) hz
theorem upd_upd {a : Addr} {u v : HO} : upd (upd H a u) a v = upd H a v := by
  funext b
  by_cases h : b = a
  · subst h; rw [upd_same, upd_same]
  · rw [upd_ne h, upd_ne h, upd_ne h]
theorem sizeLine_pos : (63 : Nat) ≤ sizeLine := by rw [szL_eq]; decide
theorem cdivW_of {i j : Int} (h : divOk j = true) : CDivW i j := by
  unfold divOk at h
  rw [Bool.and_eq_true, decide_eq_true_eq, decide_eq_true_eq] at h
  exact h
theorem atI_map {ns : List Int} {i : Nat} (h : i < ns.length) : atI (ns.map V.int) (i : Int) = some (.int (ns.getD i 0)) := by
  have hl : i < (ns.map V.int).length := by simpa using h
  have e : (ns.map V.int)[i]? = some (.int (ns.getD i 0)) := by
    rw [List.getElem?_map, List.getElem?_eq_getElem h]
    simp [List.getD_eq_getElem?_getD, List.getElem?_eq_getElem h]
  refine atI_of (j := i) ?_ e
  unfold ixN
  rw [if_pos (by omega), if_pos (by omega)]
  simp
/-- _law_take's body does what drawC says -/
theorem pure_take {vs : List V} {Q : VK} {E : XK} (h : spTake vs H Q E) : t_take K { nx := fun _ H' => Q .non H', rt := Q } (start ["d", "many", "small", "digit"] vs) H := by
  obtain ⟨p, l, cu, many, hm, rfl, hdv, C, q⟩ := h
  have e0 : (start ["d", "many", "small", "digit"] [V.ref p, V.int many])[0]? = some (some (V.ref p)) := rfl
  have e1 : (start ["d", "many", "small", "digit"] [V.ref p, V.int many])[1]? = some (some (V.int many)) := rfl
  generalize hσ : start ["d", "many", "small", "digit"] [V.ref p, V.int many] = σ at e0 e1 ⊢
  have hlen : σ.length = 4 := by rw [← hσ]; rfl
  clear hσ
  have d0 : ∀ {H' : Hp} {a b c d : V}, H' p = some (.lst [a, b, c, d]) → Gv (tD K 0) σ H' a := fun h => gv_d e0 h rfl
  have d1 : ∀ {H' : Hp} {a b c d : V}, H' p = some (.lst [a, b, c, d]) → Gv (tD K 1) σ H' b := fun h => gv_d e0 h rfl
  have d2 : ∀ {H' : Hp} {a b c d : V}, H' p = some (.lst [a, b, c, d]) → Gv (tD K 2) σ H' c := fun h => gv_d e0 h rfl
  have d3 : ∀ {H' : Hp} {a b c d : V}, H' p = some (.lst [a, b, c, d]) → Gv (tD K 3) σ H' d := fun h => gv_d e0 h rfl
  have lupd : ∀ {u : HO}, upd H p u l = some (.lst (cu.items.map V.int)) := fun {u} => by rw [upd_ne (Ne.symm C.ne)]; exact C.hl
  -- the last part
  have last : ¬ 0 < cu.cur → (drawC many hm cu) = (nextSeed cu.seed / 3 % many, { cu with seed := nextSeed cu.seed, h2 := Int.emod_nonneg _ (by decide), h3 := Int.emod_lt_of_pos _ (by decide) }) →
      tSeq (tAsg (tOp rModI (tCB rInt (tCons (tOp rAddI (tOp rMulI (tD K 3) (tC (.int 48271))) (tC (.int 11))) tNil)) (tC (.int 2147483647))) (gSub (tVar 0) (tC (.int 3)) rSetL))
        (tRet (tOp rModI (tCB rInt (tCons (tOp rDivI (tD K 3) (tC (.int 3))) tNil)) (tVar 1))) { nx := fun _ H' => Q .non H', rt := Q } σ H := fun _ hd => by
    have hs2 := cu.h2
    have hs3 := cu.h3
    refine gv_put (D := { nx := _, rt := Q }) (gv_op (gv_int (gv_op0 (gv_op (d3 C.hp) gv_c (.inr (by decide))) gv_c)) gv_c (by decide)) (gv_var e0) gv_c C.hp rfl ?_
    refine gv_ret (gv_op (gv_int (i := nextSeed cu.seed / 3) (gv_op (g := fun i j => .int (i / j)) (d3 upd_same) gv_c (cdivW_of (show divOk 3 = true by decide +kernel)))) (gv_var e1) hm) ?_
    rw [hd] at q
    exact q
  by_cases h1 : cu.cur = 0 ∧ cu.pos < cu.items.length
  · obtain ⟨hc0, hlt⟩ := h1
    have hz := atI_map hlt
    have hdr : drawC many hm cu = if absI (cu.items.getD cu.pos 0) < bigL then (absI (cu.items.getD cu.pos 0) % many, { cu with pos := cu.pos + 1, cur := 0, h1 := Int.le_refl 0 })
      else (absI (cu.items.getD cu.pos 0) % many, { cu with pos := cu.pos + 1, cur := absI (cu.items.getD cu.pos 0) / many, h1 := Int.ediv_nonneg (absI_nn _) (Int.le_of_lt hm) }) := by
      unfold drawC; rw [if_pos ⟨hc0, hlt⟩]
    refine gv_test (gv_eq (d2 C.hp) gv_c) ?_
    refine tru_if (by rw [hc0]; exact decide_eq_true rfl) ?_
    refine gv_test (gv_op0 (d1 C.hp) (gv_len (d0 C.hp) (SqL.of C.hl))) ?_
    refine tru_if (decide_eq_true (by rw [List.length_map]; omega)) ?_
    refine gv_put (D := { nx := _, rt := Q }) (gv_abs (gv_int (gv_ix (d0 C.hp) (d1 C.hp) (SqL.of C.hl) hz))) (gv_var e0) gv_c C.hp rfl ?_
    refine gv_put (D := { nx := _, rt := Q }) (gv_op0 (d1 upd_same) gv_c) (gv_var e0) gv_c upd_same rfl ?_
    rw [upd_upd]
    have ep : (cu.pos : Int) + 1 = ((cu.pos + 1 : Nat) : Int) := by omega
    have big : ∀ {H' : Hp}, Gv (tOp rPowI (tC (.int 10)) (tC (.int 18))) σ H' (.int bigL) := fun {H'} => gv_op (i := 10) (j := 18) gv_c gv_c ⟨by decide, by decide, by decide⟩
    refine gv_test (k := decide (absI (cu.items.getD cu.pos 0) < bigL)) (gv_op0 (g := fun i j => .bl (decide (i < j))) (d2 upd_same) big) ?_
    by_cases hb : absI (cu.items.getD cu.pos 0) < bigL
    · refine tru_if (decide_eq_true hb) ?_
      refine gv_set (D := { nx := _, rt := Q }) (gv_int (d2 upd_same)) ?_
      refine gv_put (D := { nx := _, rt := Q }) gv_c (gv_var (by rw [List.getElem?_set_ne (by decide)]; exact e0)) gv_c upd_same rfl ?_
      rw [upd_upd]
      have s2 : (σ.set 2 (some (V.int (absI (cu.items.getD cu.pos 0)))))[2]? = some (some (V.int (absI (cu.items.getD cu.pos 0)))) := by rw [List.getElem?_set_self (by omega)]
      refine gv_ret (gv_op (gv_var s2) (gv_var (by rw [List.getElem?_set_ne (by decide)]; exact e1)) hm) ?_
      rw [hdr, if_pos hb] at q
      exact q
    · refine fls_if (decide_eq_false hb) ?_
      have pos : 0 < absI (cu.items.getD cu.pos 0) := by
        have : bigL ≤ absI (cu.items.getD cu.pos 0) := by omega
        have : (0 : Int) < bigL := by decide
        omega
      refine gv_test (k := decide (0 < absI (cu.items.getD cu.pos 0))) (gv_op0 (g := fun i j => .bl (decide (j < i))) (d2 upd_same) gv_c) ?_
      refine tru_if (decide_eq_true pos) ?_
      refine gv_set (D := { nx := _, rt := Q }) (gv_op (gv_int (d2 upd_same)) (gv_var e1) hm) ?_
      have e0' : ∀ v, (σ.set 3 v)[0]? = some (some (V.ref p)) := fun v => by rw [List.getElem?_set_ne (by decide)]; exact e0
      have e1' : ∀ v, (σ.set 3 v)[1]? = some (some (V.int many)) := fun v => by rw [List.getElem?_set_ne (by decide)]; exact e1
      refine gv_put (D := { nx := _, rt := Q }) (gv_op (gv_int (gv_d (e0' _) upd_same rfl)) (gv_var (e1' _)) (cdivW_of hdv)) (gv_var (e0' _)) gv_c upd_same rfl ?_
      rw [upd_upd]
      refine gv_ret (gv_var (by rw [List.getElem?_set_self (by omega)])) ?_
      rw [hdr, if_neg hb] at q
      exact q
  · have hdr : drawC many hm cu = if 0 < cu.cur then (cu.cur % many, { cu with cur := cu.cur / many, h1 := Int.ediv_nonneg cu.h1 (Int.le_of_lt hm) })
        else (nextSeed cu.seed / 3 % many, { cu with seed := nextSeed cu.seed, h2 := Int.emod_nonneg _ (by decide), h3 := Int.emod_lt_of_pos _ (by decide) }) := by
      unfold drawC; rw [if_neg h1]
    have back : (tSeq (tIfS (tTest (tOp rGtI (tD K 2) (tC (.int 0))))
        (tSeq (tAsg (tOp rModI (tCB rInt (tCons (tD K 2) tNil)) (tVar 1)) (gName 3)) (tSeq (tAsg (tOp rDivI (tCB rInt (tCons (tD K 2) tNil)) (tVar 1)) (gSub (tVar 0) (tC (.int 2)) rSetL)) (tRet (tVar 3))))
        tNext)
      (tSeq (tAsg (tOp rModI (tCB rInt (tCons (tOp rAddI (tOp rMulI (tD K 3) (tC (.int 48271))) (tC (.int 11))) tNil)) (tC (.int 2147483647))) (gSub (tVar 0) (tC (.int 3)) rSetL))
        (tRet (tOp rModI (tCB rInt (tCons (tOp rDivI (tD K 3) (tC (.int 3))) tNil)) (tVar 1))))) { nx := fun _ H' => Q .non H', rt := Q } σ H := by
      refine gv_test (gv_op0 (d2 C.hp) gv_c) ?_
      by_cases hb : 0 < cu.cur
      · refine tru_if (decide_eq_true hb) ?_
        refine gv_set (D := { nx := _, rt := Q }) (gv_op (gv_int (d2 C.hp)) (gv_var e1) hm) ?_
        have e0' : ∀ v, (σ.set 3 v)[0]? = some (some (V.ref p)) := fun v => by rw [List.getElem?_set_ne (by decide)]; exact e0
        have e1' : ∀ v, (σ.set 3 v)[1]? = some (some (V.int many)) := fun v => by rw [List.getElem?_set_ne (by decide)]; exact e1
        refine gv_put (D := { nx := _, rt := Q }) (gv_op (gv_int (gv_d (e0' _) C.hp rfl)) (gv_var (e1' _)) (cdivW_of hdv)) (gv_var (e0' _)) gv_c C.hp rfl ?_
        refine gv_ret (gv_var (by rw [List.getElem?_set_self (by omega)])) ?_
        rw [hdr, if_pos hb] at q
        exact q
      · refine fls_if (decide_eq_false hb) ?_
        exact last hb (by rw [hdr, if_neg hb])
    refine gv_test (gv_eq (d2 C.hp) gv_c) ?_
    by_cases hc0 : cu.cur = 0
    · refine tru_if (by rw [hc0]; exact decide_eq_true rfl) ?_
      refine gv_test (gv_op0 (d1 C.hp) (gv_len (d0 C.hp) (SqL.of C.hl))) ?_
      have hlt : ¬ cu.pos < cu.items.length := fun z => h1 ⟨hc0, z⟩
      refine fls_if (decide_eq_false (by rw [List.length_map]; omega)) back
    · have e : decide (V.int cu.cur = V.int 0) = false := decide_eq_false fun z => hc0 (V.int.inj z)
      rw [e]
      exact back
end

/-! ### _law_begin -/
def spBegin (K : PySem.W.Frag) : Sp := fun vs H Q _ => ∃ (a : Addr) (ns : List Int), vs = [.ref a] ∧ SqL K H a (ns.map V.int) ∧
  ∀ (l p : Addr) (seed : Int), 0 ≤ seed → seed < 2147483647 → H l = none → p ≠ l → H p = none → Q (.ref p) (upd (upd H l (.lst (ns.map V.int))) p (.lst [.ref l, .int 0, .int 0, .int seed]))
abbrev rListV (K : PySem.W.Frag) : List V → Hp → VK → Prop := fun xs H Q => ∃ p ys, xs = [.ref p] ∧ (SqL K H p ys ∨ SqT K H p ys) ∧ ∀ l, H l = none → Q (.ref l) (upd H l (.lst ys))
def t_begin (K : PySem.W.Frag) : TS :=
  tSeq (tAsg (tC (.int 1)) (gName 1))
    (tSeq (tFor (iList K (tVar 0)) (gName 2) (tAsg (tOp rModI (tOp rAddI (tOp rAddI (tOp rMulI (tVar 1) (tC (.int 69621))) (tOp rModI (tCB rInt (tCons (tVar 2) tNil)) (tC (.int 2147483629)))) (tC (.int 7))) (tC (.int 2147483647))) (gName 1)))
      (tRet (tLst (tCons (tCB (rListV K) (tCons (tVar 0) tNil)) (tCons (tC (.int 0)) (tCons (tC (.int 0)) (tCons (tVar 1) tNil)))))))
theorem pure_begin {K : PySem.W.Frag} {vs : List V} {H : Hp} {Q : VK} {E : XK} (h : spBegin K vs H Q E) : t_begin K { nx := fun _ H' => Q .non H', rt := Q } (start ["script", "seed", "cell"] vs) H := by
  obtain ⟨a, ns, rfl, hS, q⟩ := h
  refine ⟨_, rfl, a, rfl, ⟨_, hS⟩, for_list (K := K) (a := a) (xs := ns.map V.int) (fun i σ H' => H' = H ∧ ∃ (s : Int) (v : Option V), 0 ≤ s ∧ s < 2147483647 ∧ σ = [some (.ref a), some (.int s), v])
    ⟨rfl, 1, none, by decide, by decide, rfl⟩ (fun i σ H' _ ⟨e, _⟩ => by rw [e]; exact hS) ?_ ?_⟩
  · rintro i y σ H' hi ⟨rfl, s, v, h1, h2, rfl⟩
    obtain ⟨z, rfl⟩ : ∃ z, y = V.int z := by
      rw [List.getElem?_map] at hi
      cases e : ns[i]? with
      | none => rw [e] at hi; cases hi
      | some z => rw [e] at hi; exact ⟨z, (Option.some.inj hi).symm⟩
    refine gv_set (D := { nx := _, rt := Q }) (gv_op (gv_op0 (gv_op0 (gv_op (gv_var rfl) gv_c (.inr (by decide))) (gv_op (gv_int (gv_var rfl)) gv_c (by decide))) gv_c) gv_c (by decide)) ?_
    exact ⟨rfl, _, some (V.int z), Int.emod_nonneg _ (by decide), Int.emod_lt_of_pos _ (by decide), rfl⟩
  · rintro σ H' ⟨rfl, s, v, h1, h2, rfl⟩
    refine ⟨_, rfl, a, _, rfl, .inl hS, fun l hl => ⟨_, rfl, by show 4 ≤ sizeLine; rw [szL_eq]; decide, fun p hp => ?_⟩⟩
    have hpl : p ≠ l := fun z => by rw [z, upd_same] at hp; cases hp
    exact q l p s h1 h2 hl hpl (by rw [upd_ne hpl] at hp; exact hp)

/-! ### d in the state -/
/-- _law_take(d, e): d in slot i -/
def takeK (d : D) : Mo Ref := fun s => match d, s.T.cu with
  | .int many, some cu => if h : 0 < many then if divOk many then .ok (.d (.int (drawC many h cu).1)) { s with T := ⟨some (drawC many h cu).2, s.T.ce⟩ } else .stuck else .stuck
  | _, _ => .stuck
def curAtS (i : Nat) (s : ES) : Bool := match s.σ[i]? with
  | some (some .cur) => true
  | _ => false
def eTake (i : Nat) (f : Mo Ref) : Mo Ref := fun s => if curAtS i s then bnd f (fun q => bnd (rd q) takeK) s else .stuck
section
variable {K : PySem.W.Frag} {c : Option (Addr × Addr)} {Z : Addr → Prop} {W : Own} {s : ES} {σ : Sl} {H : Hp}
theorem Rel.draw (r : Rel K c Z W s σ H) {cu cu' : Cur} (hT : s.T.cu = some cu) {a l : Addr} (hc : c = some (a, l)) (hi : cu'.items = cu.items) :
    Rel K c Z W { s with T := ⟨some cu', s.T.ce⟩ } σ (upd H a (.lst [V.ref l, V.int cu'.pos, V.int cu'.cur, V.int cu'.seed])) ∧ Stp c W H W (upd H a (.lst [V.ref l, V.int cu'.pos, V.int cu'.cur, V.int cu'.seed])) := by
  have q := r.T
  rw [hT] at q
  obtain ⟨a', l', h1, h3, h4, h5⟩ := q
  rw [hc] at h1
  cases h1
  obtain ⟨z1, z2⟩ := r.cz _ _ hc
  have k : ∀ b o, H b = some o → NT o → ¬ blk Z W b → upd H a (.lst [V.ref l, V.int cu'.pos, V.int cu'.cur, V.int cu'.seed]) b = some o ∧ ¬ blk Z W b := fun b o e _ n => ⟨by rw [upd_ne (fun z => n (.inl (by rw [z]; exact z1)))]; exact e, n⟩
  have wn : ∀ j b, W j = some b → b ≠ a := fun j b e z => (r.wo j b e).1 (by rw [z]; exact z1)
  refine ⟨⟨r.len, fun j sv e => ?_, r.inj, fun j b e => ⟨(r.wo j b e).1, ?_⟩, fun b z => ?_, r.cz, ⟨a, l, hc, h3, upd_same, by rw [upd_ne (Ne.symm h3), hi]; exact h5⟩, r.tb.upd h4, r.len1, r.cL, r.cel.same k (fun _ => rfl) rfl fun m b o q e => by rw [upd_ne (wn _ b q)]; exact e⟩, ⟨fun b o e _ n1 n2 => by rw [upd_ne (fun z => n2 ⟨l, by rw [z]; exact hc⟩)]; exact e, fun b o e => ?_, fun j b e => .inl ⟨j, e⟩, Nat.le_refl _, fun _ _ _ e => e⟩⟩
  · have q := r.slot j sv e
    cases sv with
    | val d => obtain ⟨v, h1, h2⟩ := q; exact ⟨v, h1, DV.mono k _ _ h2⟩
    | own ds => obtain ⟨b, ws, h1, h2, h3, h4⟩ := q; exact ⟨b, ws, h1, h2, by rw [upd_ne (wn j b h1)]; exact h3, DVs.mono k _ _ h4⟩
    | cur => exact q
    | cel n => exact q
  · obtain ⟨_, ws, h⟩ := r.wo j b e
    exact ⟨ws, by rw [upd_ne (wn j b e)]; exact h⟩
  · by_cases hb : b = a
    · rw [hb]; exact ⟨_, upd_same⟩
    · rw [upd_ne hb]; exact r.zt b z
  · by_cases hb : b = a
    · rw [hb]; exact ⟨_, upd_same⟩
    · exact ⟨o, by rw [upd_ne hb]; exact e⟩
end
theorem drawC_items {many : Int} {hm : 0 < many} {c : Cur} : (drawC many hm c).2.items = c.items := by
  unfold drawC
  split
  · split <;> rfl
  · split <;> rfl
/-- a def of the program with a promise of its own -/
structure DfS (P : Program) (w : World) (K : PySem.W.Frag) (mg : Str → Option Value) (base : Heap) (k : Nat) (x : Str) (sp : Sp) : Prop where
  ex : ∃ f fd ps, FnOk P w K mg base (L2.CX P w) k f fd ps sp ∧ mg x = some (.ref f) ∧ PySem.W.keepIn K (.ref f) = true ∧ Binds K fd ps []
section
variable {X : Cx} {XP : XPt} {CG : Addr} {k : Nat} {x : Str} {p p1 pos : Pos} {e : Expr} {f : Mo Ref}
theorem qe_take (i : Nat) (G : DfS X.prog X.w X.K X.mg X.base k "_law_take" spTake) (hr : Room k X.A) (tk : Tk X CG XP) (he : QE X XP e f) (hN : X.N[i]? = some x := by rfl) (hv : Vis X.env.scope x := by first | exact Or.inl rfl | exact Or.inr (Or.inl rfl) | exact Or.inr (Or.inr rfl)) (hd : (x == ("__debug__" : Str)) = false := by decide)
    (hcd : (x == ("__classdict__" : Str)) = false := by decide) (hg : Gl X "_law_take" := by rfl)
    (hs : starEach [.Name x p1, e] X.env = (false, eval (.Name x p1) X.env) :: starEach [e] X.env := by rfl) (hs2 : starEach [e] X.env = (false, eval e X.env) :: starEach [] X.env := by rfl) (hpl : (backTo pos (starEach [e] X.env)).any (·.1) = false := by rfl) :
    QE X XP (.Call (.Name "_law_take" p) [.Name x p1, e] [] pos) (eTake i f) := by
  obtain ⟨ff, fd, ps, ok, hm, hk, hb⟩ := G.ex
  refine PE.imp (pe_callS ok hr hg hm hk hb (fun σ => passAt tk σ) (pa_cons (pe_var (i := i) hN hv hd hcd) (pa_cons he pa_nil hs2) hs) (by decide) hs hpl) fun σ H Q h => ?_
  obtain ⟨c, Z, W, s, r, h⟩ := h
  unfold eTake at h
  split at h
  · rename_i hc
    unfold curAtS at hc
    split at hc
    · rename_i hs
      obtain ⟨a, l, e1, e2⟩ := r.slot i _ hs
      refine ⟨_, e2, c, Z, W, s, r, h.bind.imp fun q s1 W1 H1 x1 r1 h1 v rv => ?_⟩
      obtain ⟨d, t, h2⟩ := h1.rd r1 rv
      unfold takeK at h2
      split at h2
      · rename_i many cu hT
        split at h2
        · rename_i hm
          split at h2
          · rename_i hdv
            cases t.int
            have q := r1.T
            rw [hT] at q
            obtain ⟨a', l', g1, g3, g4, g5⟩ := q
            rw [e1] at g1
            cases g1
            obtain ⟨r2, x2⟩ := r1.draw (cu' := (drawC many hm cu).2) hT e1 drawC_items
            exact ⟨a, l, cu, many, hm, rfl, hdv, ⟨g3, g4, g5⟩, h2 W1 _ x2 r2 _ (.int _)⟩
          · exact h2.elim
        · exact h2.elim
      · exact h2.elim
    · cases hc
  · exact h.elim
end

/-! ### the law itself -/
def startL (n : Nat) (cu : Cur) : ES := { σ := none :: some .cur :: List.replicate (n - 2) none, T := ⟨some cu, []⟩ }
def spLaw (K : PySem.W.Frag) : Sp := fun vs H Q _ => ∃ (a : Addr) (ns : List Int), vs = [.ref a] ∧ SqL K H a (ns.map V.int) ∧ TabOk K H ∧ ∀ H', Q (.bl true) H'
abbrev tBegin (K : PySem.W.Frag) : TS := tAsg (tCallS (spBegin K) (fun _ _ _ _ => False) (tCons (tVar 0) tNil)) (gName 1)
section
variable {P : Program} {w : World} {K : PySem.W.Frag} {mg : Str → Option Value} {base : Heap} {CG : Addr}
theorem ok_law {st : Stmt} {f : Addr} {fd : FuncData} {N : List Str} {k n : Nat} {s1 : Stmt} {rest : List Stmt} {g : ES → SR} (F : Fun K "law" "law" st f fd) (S : FnScope N ["script"] (defScope st)) (hn : N.length = n) (h2 : 2 ≤ n ∧ n ≤ cB) (hst : defBody st = s1 :: rest)
    (hbody : ∀ (cdv : Value) (A : Around) (outer : List Env) (s : Shared) (H : Hp) (E : XK), Room k (A.deeper (envOfC "law" (defScope st) s.heap.objs.size f cdv)) →
      PS (cxOf (L2.CX P w) P w K mg base N "law" (defScope st) f cdv A outer s H E) s1 (tBegin K) ∧ QSs (cxOf (L2.CX P w) P w K mg base N "law" (defScope st) f cdv A outer s H E) XPF rest g)
    (hpure : ∀ cu : Cur, ∃ T, g (startL n cu) = .rt (.bool true) T) : FnOk P w K mg base (L2.CX P w) (k + 1) f fd ["script"] (spLaw K) := by
  subst hn
  refine F.okX S (fun vs H Q E ⟨a, ns, h, _⟩ => by rw [h]; rfl) fun cdv A outer s H vs Q E hr ⟨a, ns, hv, hS, tb, q⟩ => ?_
  subst hv
  obtain ⟨b1, b2⟩ := hbody cdv A outer s H E hr
  rw [hst]
  refine ⟨_, pss_cons b1 b2, _, rfl, a, ns, rfl, hS, fun l p seed h1 h2' hl hpl hp => ?_⟩
  obtain ⟨T, hg⟩ := hpure ⟨ns, 0, 0, seed, Int.le_refl 0, h1, h2'⟩
  have e1 := Grow.upd (o := HO.lst (ns.map V.int)) hl
  have hp' : upd H l (.lst (ns.map V.int)) p = none := by rw [upd_ne hpl]; exact hp
  have e2 := Grow.upd (o := HO.lst [V.ref l, V.int 0, V.int 0, V.int seed]) hp'
  have g := e1.trans e2
  obtain ⟨m, hm⟩ : ∃ m, N.length = m + 2 := ⟨N.length - 2, by have := h2.1; omega⟩
  have sl : (start N [V.ref a]).set 1 (some (V.ref p)) = some (V.ref a) :: some (V.ref p) :: List.replicate m none := by
    show ([V.ref a].map some ++ List.replicate (N.length - 1) none).set 1 _ = _
    rw [hm, show m + 2 - 1 = m + 1 by omega, List.replicate_succ]
    rfl
  show tS _ _ _ _ ((start N [V.ref a]).set 1 (some (V.ref p))) _
  rw [sl]
  refine ⟨some (p, l), fun x => x = p ∨ x = l, W0, startL N.length ⟨ns, 0, 0, seed, Int.le_refl 0, h1, h2'⟩, ⟨?_, fun i sv e => ?_, fun i j a e => (nomatch e), fun i a e => (nomatch e), fun a z => ?_, fun a b e => ?_, ⟨p, l, rfl, hpl, upd_same, ?_⟩, tb.ext g, by have := h2.2; simp [startL]; omega, rfl, fun n x e => by cases e⟩, ?_⟩
  · simp [startL, hm]
  · match i with
    | 0 => simp [startL] at e
    | 1 =>
      simp only [startL, List.getElem?_cons_succ, List.getElem?_cons_zero, Option.some.injEq] at e
      subst e
      exact ⟨p, l, rfl, rfl⟩
    | i + 2 =>
      simp only [startL, List.getElem?_cons_succ, List.getElem?_replicate] at e
      split at e <;> cases e
  · rcases z with rfl | rfl
    · exact ⟨_, upd_same⟩
    · exact ⟨_, by rw [upd_ne (Ne.symm hpl), upd_same]⟩
  · cases e; exact ⟨.inl rfl, .inr rfl⟩
  · rw [upd_ne (Ne.symm hpl), upd_same]
  · rw [hg]
    exact fun v W' H' _ _ _ _ _ dv => by cases dv; exact q H'
end
end Ev
set_option Elab.async false
set_option linter.all false
set_option maxRecDepth 100000
set_option maxHeartbeats 4000000
/-! Ev14: methods that only look; where a law's defs stand -/
namespace Ev
open PySem PySem.Spec PyProof.Rows L2 LamX

theorem hu65 {A : Around} {k : Nat} (hr : Room k A) : A.units + 65 < cLine := by have := hr.un; omega
theorem hu64 {A : Around} {k : Nat} (hr : Room k A) : A.units + 64 < cLine := by have := hr.un; omega
/-! ### xs.index(e) -/
def isListD : D → Bool
  | .list _ => true
  | _ => false
def firstD (a : D) : List D → Nat → Option Nat
  | [], _ => none
  | d :: r, n => if PyData.eqv d a then some n else firstD a r (n + 1)
def dIndex : D → D → Option D
  | .list ds, a => if SeqAt.shaped (.list ds) && SeqAt.shaped a then (firstD a ds 0).map fun n => .int n else none
  | _, _ => none
theorem firstD_spec {a : D} : ∀ (ds : List D) (n j : Nat), firstD a ds n = some j → n ≤ j ∧ ∃ z, ds[j - n]? = some z ∧ PyData.eqv z a = true ∧ ∀ m z', m < j - n → ds[m]? = some z' → PyData.eqv z' a = false
  | [], n, j, h => by cases h
  | d :: r, n, j, h => by
    unfold firstD at h
    split at h
    · rename_i he
      cases h
      refine ⟨Nat.le_refl _, d, by simp, he, fun m z' hm => by omega⟩
    · rename_i he
      obtain ⟨h1, z, h2, h3, h4⟩ := firstD_spec r (n + 1) j h
      refine ⟨by omega, z, by rw [show j - n = (j - (n + 1)) + 1 by omega]; simpa using h2, h3, fun m z' hm hz => ?_⟩
      cases m with
      | zero => simp at hz; subst hz; simpa using he
      | succ m => exact h4 m z' (by omega) (by simpa using hz)
/-- a method of a list that only looks -/
def eMv (p : D → D → Option D) (f g : Mo Ref) : Mo Ref := bnd f fun a => bnd (rd a) fun x0 => if isListD x0 then bnd g fun b => bnd (rd a) fun x => bnd (rd b) fun y => lift (p x y) else fun _ => .stuck
section
variable {X : Cx} {XP : XPt} {o e : Expr} {f g : Mo Ref} {apos cpos : Pos}
theorem qe_index (hu : X.A.units + 65 < cLine) (ho : QE X XP o f) (he : QE X XP e g)
    (hbase : attributeBase o "index" X.env (eval o X.env) = eval o X.env := by rfl)
    (hfew : ((backTo cpos (starEach [e] X.env)).all (fun x => !x.1) && (backToKw cpos (keywordEach [] X.env)).all (fun x => x.1.isSome)
      && decide ([e].length + ([] : List Keyword).length + (if ([] : List Keyword).isEmpty then 0 else 1) < 30)) = true := by rfl)
    (hline : (apos.endLine == cpos.line) = true := by rfl) (hs : starEach [e] X.env = (false, eval e X.env) :: starEach [] X.env := by rfl) (hplain : (backTo cpos (starEach [] X.env)).any (·.1) = false := by rfl) :
    QE X XP (.Call (.Attribute o "index" apos) [e] [] cpos) (eMv dIndex f g) :=
  PE.imp (pe_bm PySem.F.plainAttrs_list PySem.F.slot_list_index PySem.F.type_list_index (mt_indexD hu) ho (pa_cons he pa_nil hs) hbase hfew hline hs hplain) fun σ H Q ⟨c, Z, W, s, r, h⟩ => by
  refine ⟨c, Z, W, s, r, h.bind.imp fun q1 s1 W1 H1 x1 r1 h1 v rv => ?_⟩
  obtain ⟨d0, t0, h2⟩ := h1.rd r1 rv
  cases d0 with
  | list ds0 =>
    obtain ⟨a, vs, rfl, e1, e2⟩ := t0.lst
    refine ⟨.inl ⟨rfl, vs, SqL.of e1⟩, c, Z, W1, s1, r1, h2.bind.imp fun q2 s2 W2 H2 x2 r2 h3 u ru => ?_⟩
    obtain ⟨dx, tx, h4⟩ := h3.rd r2 (rv.step r1 x2)
    obtain ⟨dy, ty, h5⟩ := h4.rd r2 ru
    obtain ⟨d, hd, h6⟩ := h5.lift
    unfold dIndex at hd
    split at hd
    · rename_i ds
      split at hd
      · rename_i hsh
        rw [Bool.and_eq_true] at hsh
        cases ef : firstD dy ds 0 with
        | none => rw [ef] at hd; cases hd
        | some j =>
          rw [ef] at hd
          cases hd
          obtain ⟨_, z, k1, k2, k3⟩ := firstD_spec ds 0 j ef
          exact ⟨a, u, dy, ds, j, z, rfl, rfl, tx.dp, ty.dp, hsh.1, hsh.2, k1, k2, k3, h6 W2 H2 .refl r2 _ (.int _)⟩
      · cases hd
    · cases hd
  | none => exact h2.elim
  | bool _ => exact h2.elim
  | int _ => exact h2.elim
  | str _ => exact h2.elim
  | tuple _ => exact h2.elim
  | dict _ => exact h2.elim
end

/-! ### where the defs stand -/
structure Stand (K : PySem.W.Frag) (mg : Str → Option Value) (x : Str) (st : Stmt) (ps : List Str) : Prop where
  ex : ∃ f fd, Fun K x x st f fd ∧ mg x = some (.ref f) ∧ PySem.W.keepIn K (.ref f) = true ∧ Binds K fd ps []
theorem Stand.mk' {K : PySem.W.Frag} {mg : Str → Option Value} {x : Str} {st : Stmt} {ps : List Str} {f : Addr} {oc : Value} {od an : Option Addr} {osl : Array (Option Value)} {kV doc pm cdv ct : Value} (g : mg x = some (.ref f))
    (l : K.lookup f = some ⟨oc, od, .func (PySem.W.fnOf x x (defArgs st) (defBody st) (defScope st) .none kV doc pm an cdv ct), osl⟩) (c : PySem.W.codeIn K cdv x = true) (k : PySem.W.keepIn K (.ref f) = true)
    (b : ∀ (kV doc pm : Value) (an : Option Addr) (cdv ct : Value) (us : List Value), us.length = ps.length → bindArgs (PySem.W.fnOf x x (defArgs st) (defBody st) (defScope st) .none kV doc pm an cdv ct) ⟨us, []⟩ = pure (ps.zip us)) : Stand K mg x st ps :=
  ⟨f, _, fun_mk l c k, g, k, (fun_mk l c k).binds b⟩
/-- a def that makes functions without names: its code object, the table of these -/
structure StandL (K : PySem.W.Frag) (mg : Str → Option Value) (x : Str) (st : Stmt) (ps : List Str) (c P : Addr) : Prop where
  ex : ∃ f fd, Fun K x x st f fd ∧ mg x = some (.ref f) ∧ PySem.W.keepIn K (.ref f) = true ∧ Binds K fd ps [] ∧ fd.code = .ref c
  mem : (P, x ++ ".<locals>." ++ "<lambda>") ∈ lamTabs K
  one : ∀ p ∈ lamTabs K, p.1 = P → p.2 = x ++ ".<locals>." ++ "<lambda>"
section
variable {P : Program} {w : World} {K : PySem.W.Frag} {mg : Str → Option Value} {base : Heap} {CG : Addr}
theorem df_of {x : Str} {st : Stmt} {N ps : List Str} {k n m : Nat} {g : ES → SR} {Fo : Fn} (S : Stand K mg x st ps) (sc : FnScope N ps (defScope st)) (hF : Fo = mkFn n m g) (hn : N.length = n) (hm : ps.length = m) (hle : m ≤ n ∧ n ≤ cB)
    (hbody : ∀ (f : Addr) (cdv : Value) (A : Around) (outer : List Env) (s : Shared) (H : Hp) (E : XK), Room k (A.deeper (envOfC x (defScope st) s.heap.objs.size f cdv)) →
      ∀ XP, Tk (cxOf (L2.CX P w) P w K mg base N x (defScope st) f cdv A outer s H E) CG XP → QSs (cxOf (L2.CX P w) P w K mg base N x (defScope st) f cdv A outer s H E) XP (defBody st) g) : Df P w K mg base CG (k + 1) x Fo := by
  obtain ⟨f, fd, F, h1, h2, h3⟩ := S.ex
  exact ⟨f, fd, ps, ok_fn F sc hF hn hm hle (hbody f), h1, h2, h3⟩
/-- as Stand, the code object told -/
theorem df_ofL {x : Str} {st : Stmt} {N ps : List Str} {k n m : Nat} {g : ES → SR} {Fo : Fn} {c Pt : Addr} (S : StandL K mg x st ps c Pt) (TB : TabB base mg c Pt) (sc : FnScope N ps (defScope st)) (hF : Fo = mkFn n m g) (hn : N.length = n) (hm : ps.length = m) (hle : m ≤ n ∧ n ≤ cB)
    (hbody : ∀ (f : Addr) (A : Around) (outer : List Env) (s : Shared) (H : Hp) (E : XK), Room k (A.deeper (envOfC x (defScope st) s.heap.objs.size f (.ref c))) →
      ∀ XP, Tk (cxOf (L2.CX P w) P w K mg base N x (defScope st) f (.ref c) A outer s H E) CG XP → LamAt (cxOf (L2.CX P w) P w K mg base N x (defScope st) f (.ref c) A outer s H E) c Pt →
        QSs (cxOf (L2.CX P w) P w K mg base N x (defScope st) f (.ref c) A outer s H E) XP (defBody st) g) : Df P w K mg base CG (k + 1) x Fo := by
  obtain ⟨f, fd, F, h1, h2, h3, hc⟩ := S.ex
  refine ⟨f, fd, ps, ?_, h1, h2, h3⟩
  obtain ⟨oc, od, kV, doc, pm, an, cdv, ct, osl, rfl, lk, hcd⟩ := F.ex
  have hc : cdv = .ref c := hc
  subst hc
  subst hn hm
  refine fn_of lk hcd sc (fun vs H Q E ⟨B, ds, hb, tb, h, q⟩ => ?_) fun A outer s H vs Q E hr ⟨B, ds, hb, tb, h, q⟩ => ?_
  · rw [hF] at q
    unfold mkFn at q
    by_cases hl : ds.length = ps.length
    · rw [h.len]; exact hl
    · rw [if_neg hl] at q; exact q.elim
  · have tk : Tk (cxOf (L2.CX P w) P w K mg base N x (defScope st) f (.ref c) A outer s H E) CG fun code d H' => E (.ref CG) (some d) H' :=
      Takes.imp (takes_of rfl rfl rfl rfl) fun c d σ H' ⟨code, d', e1, e2, e3, e4⟩ => by subst e1 e2; exact e4
    refine ⟨_, hbody f A outer s H E hr _ tk ⟨TB, rfl, S.mem, S.one⟩, none, B, W0, startE N.length ds, ?_⟩
    rw [hF] at q
    unfold mkFn at q
    have hl : ds.length = ps.length := by
      by_cases hl : ds.length = ps.length
      · exact hl
      · rw [if_neg hl] at q; exact q.elim
    rw [if_pos hl] at q
    refine ⟨rel_start (ps := ps) hb tb h (by have := hle.1; omega) hle.2, ?_⟩
    have nC : ∀ b, ¬ isC (none : Option (Addr × Addr)) b := fun b ⟨_, e⟩ => (nomatch e)
    have gr : ∀ {W' H'}, Stp (none : Option (Addr × Addr)) W0 H W' H' → GrowT H H' := fun x => ⟨fun b o e t => x.keep b o e t (fun i z => (nomatch z)) (nC b), x.dom⟩
    cases eb : g (startE N.length ds) with
    | nx s' => rw [eb] at q; exact fun σ' W' H' x r => q _ _ (gr x) r.tb .non
    | rt d T => rw [eb] at q; exact fun v W' H' x _ _ _ tb dv => q _ _ (gr x) tb dv
    | rc n T => rw [eb] at q; exact q.elim
    | err cd T => rw [eb] at q; exact fun d W' H' x _ tb hd => q d H' (gr x) tb hd
    | bk s' => rw [eb] at q; exact q.elim
    | ct s' => rw [eb] at q; exact q.elim
    | stuck => rw [eb] at q; exact q.elim
end
section
variable {P : Program} {w : World} {K : PySem.W.Frag} {mg : Str → Option Value} {base : Heap}
theorem take_of {st : Stmt} {k : Nat} (S : Stand K mg "_law_take" st ["d", "many"]) (sc : FnScope ["d", "many", "small", "digit"] ["d", "many"] (defScope st))
    (hbody : ∀ (f : Addr) (cdv : Value) (A : Around) (outer : List Env) (s : Shared) (H : Hp) (E : XK), Room k (A.deeper (envOfC "_law_take" (defScope st) s.heap.objs.size f cdv)) →
      PSs (cxOf (L2.CX P w) P w K mg base ["d", "many", "small", "digit"] "_law_take" (defScope st) f cdv A outer s H E) (defBody st) (t_take K)) : DfS P w K mg base (k + 1) "_law_take" spTake := by
  obtain ⟨f, fd, F, h1, h2, h3⟩ := S.ex
  refine ⟨f, fd, _, F.okX sc (fun vs H Q E ⟨p, l, cu, many, hm, hv, _⟩ => by rw [hv]; rfl) fun cdv A outer s H vs Q E hr hsp => ⟨_, hbody f cdv A outer s H E hr, pure_take hsp⟩, h1, h2, h3⟩
theorem begin_of {st : Stmt} {k : Nat} (S : Stand K mg "_law_begin" st ["script"]) (sc : FnScope ["script", "seed", "cell"] ["script"] (defScope st))
    (hbody : ∀ (f : Addr) (cdv : Value) (A : Around) (outer : List Env) (s : Shared) (H : Hp) (E : XK), Room k (A.deeper (envOfC "_law_begin" (defScope st) s.heap.objs.size f cdv)) →
      PSs (cxOf (L2.CX P w) P w K mg base ["script", "seed", "cell"] "_law_begin" (defScope st) f cdv A outer s H E) (defBody st) (t_begin K)) : DfS P w K mg base (k + 1) "_law_begin" (spBegin K) := by
  obtain ⟨f, fd, F, h1, h2, h3⟩ := S.ex
  refine ⟨f, fd, _, F.okX sc (fun vs H Q E ⟨a, ns, hv, _⟩ => by rw [hv]; rfl) fun cdv A outer s H vs Q E hr hsp => ⟨_, hbody f cdv A outer s H E hr, pure_begin hsp⟩, h1, h2, h3⟩
end
/-- d = _law_begin(script) -/
theorem begin_stmt {X : Cx} {k : Nat} {p p1 p2 pos spos : Pos} (G : DfS X.prog X.w X.K X.mg X.base k "_law_begin" (spBegin X.K)) (hr : Room k X.A) (hN : X.N.Nodup) (h0 : X.N[0]? = some ("script" : Str) := by rfl) (h1 : X.N[1]? = some ("d" : Str) := by rfl) (hv : Vis X.env.scope "script" := by first | exact Or.inl rfl | exact Or.inr (Or.inl rfl))
    (hx : Loc X.env.scope "d" := by first | exact Or.inl rfl | exact Or.inr rfl) (hf : X.fn "d" = true ∨ X.env.scope.names.lookup ("d" : Str) = some .local := by first | exact .inl rfl | exact .inr rfl) (hg : Gl X "_law_begin" := by rfl)
    (hsw : swapsWith (.Call (.Name "_law_begin" p) [.Name "script" p1] [] pos) (some (.Name "d" p2)) spos.line X.env = pure false := by rfl)
    (hs : starEach [.Name "script" p1] X.env = (false, eval (.Name "script" p1) X.env) :: starEach [] X.env := by rfl) (hpl : (backTo pos (starEach [] X.env)).any (·.1) = false := by rfl) :
    PS X (.Assign [.Name "d" p2] (.Call (.Name "_law_begin" p) [.Name "script" p1] [] pos) spos) (tBegin X.K) := by
  obtain ⟨ff, fd, ps, ok, hm, hk, hb⟩ := G.ex
  exact ps_set (i := 1) hN h1 hx (pe_callS ok hr hg hm hk hb (fun σ => passAt (L2.takes0 (X := X)) σ) (pa_cons (pe_var (i := 0) h0 hv) pa_nil hs) (by decide) hs hpl) hsw hf
theorem cx_false {P : Program} {w : World} {H : Hp} {s : Shared} {e : Value} {s' : Shared} (h : L2.CX P w [] H s (fun _ _ _ => False) e s') : False := by
  obtain ⟨_, _, _, _, _, _, _, _, _, _, _, _, h⟩ := h
  exact h
theorem exm_self {K : PySem.W.Frag} {S : Addr} (h1 : PySem.W.subIn K (.ref S) (.type "BaseException") = some true) (h2 : PySem.W.isClsIn K S = true) (h3 : PySem.W.typeIn K (.ref S) = some (.type "type")) (h4 : PySem.W.subIn K (.ref S) (.ref S) = some true) : PySem.W.exmOne K (.ref S) (.ref S) = some true := by
  have h2' : (PySem.W.clsIn K S).isSome = true := h2
  show (if (PySem.W.subIn K (.ref S) (.type "BaseException") == some true) = true then (if ((PySem.W.clsIn K S).isSome && PySem.W.typeIn K (.ref S) == some (.type "type")) = true then PySem.W.subIn K (.ref S) (.ref S) else none) else none) = some true
  rw [h1, h2', h3, h4]
  rfl
end Ev
set_option Elab.async false
set_option linter.all false
set_option maxRecDepth 100000
set_option maxHeartbeats 4000000
/-! Ev20: what is never reached; sorted; list(range), tuple(range); x[::-1] -/
namespace Ev
open PySem PySem.Spec PyProof.Rows L2

/-! ### not reached -/
def eStk : Mo Ref := fun _ => .stuck
def fStk : Mo Bool := fun _ => .stuck
def sStk : ES → SR := fun _ => .stuck
theorem qe_stk {X : Cx} {XP : XPt} {e : Expr} : QE X XP e eStk := ⟨fun _ _ _ _ _ _ ⟨_, _, _, _, _, h⟩ => h.elim⟩
theorem qt_stk {X : Cx} {XP : XPt} {e : Expr} : QT X XP e fStk := ⟨fun _ _ _ _ _ _ ⟨_, _, _, _, _, h⟩ => h.elim⟩
theorem qs_stk {X : Cx} {XP : XPt} {e : Stmt} : QS X XP e sStk := ⟨fun _ _ _ _ _ _ ⟨_, _, _, _, _, h⟩ => h.elim⟩

/-! ### sorted -/
def insD (le : D → D → Bool) (a : D) : List D → List D
  | [] => [a]
  | b :: r => if le a b then a :: b :: r else b :: insD le a r
def isrtD (le : D → D → Bool) : List D → List D
  | [] => []
  | a :: l => insD le a (isrtD le l)
theorem ins_mid {le : D → D → Bool} {a : D} : ∀ {l1 l2 : List D}, (∀ b ∈ l1, (!le a b) = true) → (∀ b ∈ l2, le a b = true) → insD le a (l1 ++ l2) = l1 ++ a :: l2
  | [], [], _, _ => rfl
  | [], b :: l2, _, h => by
    show (if le a b then a :: b :: l2 else b :: insD le a l2) = _
    rw [if_pos (h b (by simp))]; rfl
  | b :: l1, l2, h1, h2 => by
    show (if le a b then a :: b :: (l1 ++ l2) else b :: insD le a (l1 ++ l2)) = _
    have := h1 b (by simp)
    rw [if_neg (by simpa using this), ins_mid (fun c hc => h1 c (by simp [hc])) h2]; rfl
theorem isrt_eq {le : D → D → Bool} (T : PySem.W.TotalLe le) : ∀ l : List D, l.mergeSort le = isrtD le l
  | [] => by simp [isrtD]
  | a :: l => by
    have tr : ∀ a b c : D, le a b = true → le b c = true → le a c = true := fun a b c h1 h2 => T.trans a b c h1 h2
    have to : ∀ a b : D, (le a b || le b a) = true := fun a b => by rw [Bool.or_eq_true]; exact T.total a b
    obtain ⟨l1, l2, e1, e2, e3⟩ := List.mergeSort_cons tr to a l
    rw [isrtD, ← isrt_eq T l, e1, e2, ins_mid (fun b hb => e3 b hb)]
    intro b hb
    have p := List.pairwise_mergeSort tr to (a :: l)
    rw [e1, List.pairwise_append] at p
    exact (List.pairwise_cons.mp p.2.1).1 b hb
def sortD (ds : List D) : List D := isrtD (fun a b => !PySem.W.dataLt b a) ds
theorem sortD_eq (ds : List D) : ds.mergeSort (fun a b => !PySem.W.dataLt b a) = sortD ds := by
  have T : PySem.W.TotalLe (PySem.W.dataLe false (id : D → D)) := PySem.W.sortLe_total _ _ _
  have e : PySem.W.dataLe false (id : D → D) = fun a b => !PySem.W.dataLt b a := by rw [PySem.W.dataLe_eq]; rfl
  rw [e] at T
  exact isrt_eq T ds
def isTup1 : D → Bool
  | .tuple (_ :: _) => true
  | _ => false
def isTupN : D → Bool
  | .tuple _ => true
  | .none => true
  | _ => false
def canSort (ds : List D) : Bool := allAlike ds && (ds.all isTup1 || ds.all fun d => !isTupN d) && decide (PyData.depthAll ds ≤ 63)
def dSortM (d : D) : Option (List D) := match seqOf d with
  | some ds => if canSort ds then some (sortD ds) else none
  | none => none
theorem depth_le : ∀ {ds : List D} {d : D}, d ∈ ds → d.depth ≤ PyData.depthAll ds
  | [], _, h => by cases h
  | x :: xs, d, h => by
    rw [PyData.depthAll]
    rcases List.mem_cons.mp h with rfl | h
    · exact Nat.le_max_left _ _
    · exact Nat.le_trans (depth_le h) (Nat.le_max_right _ _)
theorem canSort_of {ds : List D} (h : canSort ds = true) : PySem.W.AllAlike ds ∧ PySem.W.Sortable ds ∧ ∀ d ∈ ds, d.depth ≤ 63 := by
  unfold canSort allAlike at h
  rw [Bool.and_eq_true, Bool.and_eq_true, decide_eq_true_eq, Bool.or_eq_true, List.all_eq_true, List.all_eq_true, List.all_eq_true] at h
  obtain ⟨⟨c1, c2⟩, c3⟩ := h
  refine ⟨fun x hx y hy => List.all_eq_true.mp (c1 x hx) y hy, ?_, fun d hd => Nat.le_trans (depth_le hd) c3⟩
  rcases c2 with c2 | c2
  · refine .inl fun d hd => ?_
    have := c2 d hd
    match d, this with
    | .tuple (x :: r), _ => exact ⟨x, r, rfl⟩
  · refine .inr fun d hd => ?_
    have := c2 d hd
    refine ⟨fun e => ?_, fun xs e => ?_⟩
    · subst e; cases this
    · subst e; cases this
theorem eachIs_zip {K : PySem.W.Frag} {B : Addr → Prop} {H : Hp} : ∀ {vs : List V} {ds : List D} {us : List Value}, DVs K B H vs ds → Vals vs us → PySem.W.EachIs (fun u (b : V × D) => RelV b.1 u) us (vs.zip ds)
  | _, _, _, .nil, .nil => .nil
  | _, _, _, .cons _ t, .cons r1 r2 => .cons r1 (eachIs_zip t r2)
theorem zip_snd {K : PySem.W.Frag} {B : Addr → Prop} {H : Hp} : ∀ {vs : List V} {ds : List D}, DVs K B H vs ds → (vs.zip ds).map Prod.snd = ds
  | _, _, .nil => rfl
  | _, _, .cons _ t => by rw [List.zip_cons_cons, List.map_cons, zip_snd t]
theorem dvs_of_zip {K : PySem.W.Frag} {B : Addr → Prop} {H : Hp} : ∀ {ps : List (V × D)}, (∀ p ∈ ps, DV K B H p.1 p.2) → DVs K B H (ps.map Prod.fst) (ps.map Prod.snd)
  | [], _ => .nil
  | p :: ps, h => .cons (h p (by simp)) (dvs_of_zip fun q hq => h q (by simp [hq]))
theorem zip_dv {K : PySem.W.Frag} {B : Addr → Prop} {H : Hp} : ∀ {vs : List V} {ds : List D}, DVs K B H vs ds → ∀ p ∈ vs.zip ds, DV K B H p.1 p.2
  | _, _, .nil, p, h => by cases h
  | _, _, .cons r t, p, h => by
    rw [List.zip_cons_cons] at h
    rcases List.mem_cons.mp h with rfl | h
    · exact r
    · exact zip_dv t p h
theorem vals_of_each : ∀ {us : List Value} {ps : List (V × D)}, PySem.W.EachIs (fun u (b : V × D) => RelV b.1 u) us ps → Vals (ps.map Prod.fst) us
  | _, _, .nil => .nil
  | _, _, .cons r t => .cons r (vals_of_each t)
theorem sort_snd (ps : List (V × D)) : (ps.mergeSort (PySem.W.dataLe false Prod.snd)).map Prod.snd = sortD (ps.map Prod.snd) := by
  rw [← sortD_eq]
  refine PySem.W.sort_maps Prod.snd fun a _ b _ => ?_
  rw [PySem.W.dataLe_eq]; rfl
section
variable {prog : Program} {w : World} {A : Around} {E : Value → Shared → Prop} {s : Shared} {β : Type} {vs : List Value} {bs : List β} {enc : β → PyData} {R : Value → β → Prop}
theorem sortedHeap_keep {h : Heap} {a b : Addr} {vs : List Value} {out : Array Value} {o : Obj} (hb : b ≠ a) (e : h.get? b = some o) : (sortedHeap h a vs out).get? b = some o := by
  rw [sortedHeap_old hb (Heap.lt_size e)]; exact e
/-- the items of a tuple, collected: the heap only grows -/
theorem collect_tupX {l : Addr} {o : Obj} {xs : Array Value} {n : Nat} {R : List Value → Shared → Prop} (h0 : s.heap.get? l = some o) (h1 : o.cls = .type "tuple") (h2 : o.data = .seq xs n) (h3 : xs.size ≤ sizeLine)
    (k : ∀ g, (∀ b u, s.heap.get? b = some u → g.get? b = some u) → s.heap.objs.size ≤ g.objs.size → R xs.toList { s with heap := g }) : wpAny (model prog w) A (collect (.ref l)) R E s := by
  let base := s.heap.push { cls := .type "list", data := .seq ([] : List Value).toArray }
  let full := base.update s.heap.objs.size (Obj.mapSeq (· ++ xs))
  have at0 : base.get? s.heap.objs.size = some { cls := .type "list", data := .seq #[] 0 } := Heap.get?_push_size _ rfl
  have at1 := Heap.get?_update_self (Obj.mapSeq (· ++ xs)) at0 rfl
  have sz : s.heap.objs.size ≤ full.objs.size := by
    show s.heap.objs.size ≤ (base.update s.heap.objs.size (Obj.mapSeq (· ++ xs))).objs.size
    rw [Heap.size_update]
    show s.heap.objs.size ≤ (s.heap.push { cls := .type "list", data := .seq ([] : List Value).toArray }).objs.size
    rw [size_push']
    exact Nat.le_succ _
  have kp : ∀ b u, s.heap.get? b = some u → full.get? b = some u := fun b u q =>
    (Heap.get?_update_other _ _ (Nat.ne_of_gt (Heap.lt_size q))).trans (Heap.get?_push_of_some _ q)
  have fin : wpAny (model prog w) A (match Value.ref s.heap.objs.size with
      | Value.ref a => do
        match (← load a).data with
          | Data.seq ys _ => pure ys.toList
          | _ => unsupported "internal:collect"
      | _ => unsupported "internal:collect") R E { s with heap := full } := by
    show wpAny _ A (load s.heap.objs.size >>= _) _ _ { s with heap := full }
    refine wpAny_bind (wpAny_load at1 (wpAny_pure ?_))
    have em : ((#[] : Array Value) ++ xs).toList = xs.toList := by simp
    show R ((#[] : Array Value) ++ xs).toList { s with heap := full }
    rw [em]; exact k full kp sz
  unfold collect
  refine wpAny_bind (wpAny_runValue (codeAny_builtin F.entry_proto_collect ?_)); rw [Around.under_plainId F.plain_proto_collect _]
  show wpAny _ A.in1 (newList [] >>= fun z => again (.builtin "list.__iadd__" ⟨[z, .ref l], []⟩)) _ _ s
  refine wpAny_bind (wpAny_newObj_type (wpAny_pure ⟨plainId_quiet F.plain_list_iadd _, codeAny_builtin F.entry_list_iadd ?_⟩)); rw [Around.under_plainId F.plain_list_iadd _]
  show wpAny _ A.in1 (Builtin.List.listExtendWith (.ref s.heap.objs.size) (.ref l) (.ref s.heap.objs.size)) _ _ { s with heap := base }
  refine wpAny_mono (wpAny_extend_seq (hsz := h3) (A := A) (s := { s with heap := base }) (R := fun r z => r = .ok (.ret (.ref s.heap.objs.size)) ∧ z = { s with heap := full })
    _ l _ 0 (.inr rfl) at0 (Heap.get?_push_of_some _ h0) h1 h2 ⟨rfl, rfl⟩) (fun f z h => ?_) fun e z h => absurd h.1 (by simp)
  cases f with
  | done f =>
    obtain ⟨e1, rfl⟩ := h
    cases e1; exact fin
  | again c => exact ⟨h.1, codeAny_mono h.2 fun r z hr => by obtain ⟨rfl, rfl⟩ := hr; exact fin⟩
/-- sorted(t), t a tuple -/
theorem sorted_tuple_data {l : Addr} {o : Obj} {n : Nat} {Q : Value → Shared → Prop} (ho : s.heap.get? l = some o) (hcl : o.cls = .type "tuple") (hd : o.data = .seq vs.toArray n) (e : PySem.W.EachIs R vs bs) (er : PySem.W.EachIs (fun v b => ∃ as, Reads s.heap v (enc b) as) vs bs) (hal : PySem.W.AllAlike (bs.map enc)) (hk : PySem.W.Sortable (bs.map enc)) (hL : bs.length ≤ sizeLine)
    (hu : ∀ b, b ∈ bs → A.units + 2 + (enc b).depth < cLine) (h : ∀ out h' a ep, out.length = bs.length → PySem.W.EachIs R out (bs.mergeSort (PySem.W.dataLe false enc)) → (∀ b o, s.heap.get? b = some o → h'.get? b = some o) → h'.get? a = some (seqObj "list" out.toArray ep) → s.heap.objs.size ≤ a → Q (.ref a) { s with heap := h' }) :
    wpAny (model prog w) A (call (.builtin "sorted") [.ref l]) Q E s := by
  have hLv : vs.length ≤ sizeLine := by rw [e.length]; exact hL
  refine call_function_entry_kw kind_sorted plain_sorted entry_sorted (args_sorted1 _) ?_
  unfold Builtin.«sorted»
  refine wpAny_bind (m := checkCount "sorted" 1 1 _) (wpAny_pure ?_)
  refine wpAny_bind (collect_tupX ho hcl hd (by rw [List.size_toArray]; exact hLv) fun h1 k1 hsz => ?_)
  rw [List.toList_toArray]
  refine wpAny_bind (wpAny_newList ?_ hLv)
  have hat : (h1.push (seqObj "list" vs.toArray 0)).get? h1.objs.size = some (seqObj "list" vs.toArray 0) := Heap.get?_push_size _ rfl
  have k2 : ∀ b o, s.heap.get? b = some o → (h1.push (seqObj "list" vs.toArray 0)).get? b = some o := fun b o q => Heap.get?_push_of_some _ (k1 b o q)
  have nb : ∀ {b o}, s.heap.get? b = some o → b ≠ h1.objs.size := fun q => Nat.ne_of_lt (Heap.lt_size (k1 _ _ q))
  have er' : PySem.W.EachIs (fun v b => ∃ as, Reads (PySem.W.sortingHeap (h1.push (seqObj "list" vs.toArray 0)) h1.objs.size vs) v (enc b) as) vs bs := er.mono fun _ _ ⟨as, r⟩ => ⟨as, PyProof.Rows.Reads.keeps (fun b o q => PySem.W.sortingHeap_old (nb q) (k2 b o q)) r⟩
  obtain ⟨ep, hep⟩ := sortedHeap_at (vs := vs) (out := (PySem.W.sortVals (PySem.W.dataKind (PySem.W.sortingHeap (h1.push (seqObj "list" vs.toArray 0)) h1.objs.size vs) (bs.map enc)) false vs vs).toArray) hat
  refine wpAny_bind (wpAny_holding (wpAny_call_entry_kw slot_list_sort ⟨_, hat, rfl⟩ entry_list_sort ?body (args_list_sort _)))
  show wpAny (model prog w) A.in1.in1 (Builtin.«list.sort» ⟨[.ref h1.objs.size], []⟩) _ _ _
  refine PySem.W.list_sort_vals (s := { s with heap := h1.push (seqObj "list" vs.toArray 0) }) (κ := PySem.W.dataKind (PySem.W.sortingHeap (h1.push (seqObj "list" vs.toArray 0)) h1.objs.size vs) (bs.map enc)) hat
    (PySem.W.SortsAt.data (s := { s with heap := PySem.W.sortingHeap (h1.push (seqObj "list" vs.toArray 0)) h1.objs.size vs }) (PySem.W.each_map (R := fun v d => ∃ as, Reads (PySem.W.sortingHeap (h1.push (seqObj "list" vs.toArray 0)) h1.objs.size vs) v d as) enc er') hal hk (PySem.W.bound_map hu)) hLv ?_
  refine ⟨_, rfl, wpAny_pure ⟨_, rfl, ?_⟩⟩
  exact h _ _ _ ep (by rw [PySem.W.sortVals_length false rfl]; exact e.length) (PySem.W.sortVals_data false e er' hal) (fun b o q => sortedHeap_keep (nb q) (k2 b o q)) (by simpa using hep) hsz
end
section
variable {X : Cx}
theorem cm_sort (hu : X.A.units + 65 < cLine) : CallR X (.builtin "sorted") (rC1M X.K dSortM) := by
  intro pins s σ H xs us Q I r h
  obtain ⟨x, B, dx, d, rfl, hb, tx, hd, q⟩ := h
  unfold dSortM at hd
  cases dx with
  | list ds =>
    simp only [seqOf] at hd
    split at hd
    · rename_i hc
      cases hd
      obtain ⟨c1, c2, c3⟩ := canSort_of hc
      obtain ⟨a, vs, rfl, h1, h2⟩ := tx.lst
      obtain ⟨its, rv, hl, hz⟩ := I.list (SqL.of h1)
      rw [Vals.ref1 r]
      obtain ⟨as, hr⟩ := Dp.readsAll I _ vs its (DVs.dp _ _ h2) rv
      have zs := zip_snd h2
      have zl : (vs.zip ds).length = vs.length := by rw [List.length_zip, h2.len, Nat.min_self]
      refine PySem.W.sorted_data (enc := Prod.snd) hl.isList (eachIs_zip h2 rv) (PySem.W.readsAll_each Prod.snd (by rw [zs]; exact hr)) (by rw [zs]; exact c1) (by rw [zs]; exact c2) (by rw [zl]; exact hz) (fun b hb => ?_) fun out h3 h4 => ?_
      · have : b.2 ∈ ds := by rw [← zs]; exact List.mem_map_of_mem hb
        have := c3 _ this
        omega
      · obtain ⟨ep, he'⟩ := PyProof.Rows.sortedAll_at s.heap its out.toArray
        have dv : DVs X.K B H (((vs.zip ds).mergeSort (PySem.W.dataLe false Prod.snd)).map Prod.fst) (sortD ds) := by
          rw [← zs, ← sort_snd, zs]
          exact dvs_of_zip fun p hp => zip_dv h2 p ((List.mergeSort_perm _ _).mem_iff.mp hp)
        exact ⟨.ref _, upd H (s.heap.objs.size + 1) (.lst _), I.laid (t' := s.toks) (fun _ _ => PyProof.Rows.sortedAll_old) (Nat.le_succ _) ⟨by rw [List.length_map, List.length_mergeSort, zl]; exact hz, out, ep, vals_of_each h4, he'⟩, rfl, q _ _ (I.hok.fresh (Nat.le_succ _)) dv⟩
    · cases hd
  | tuple ds =>
    simp only [seqOf] at hd
    split at hd
    · rename_i hc
      cases hd
      obtain ⟨c1, c2, c3⟩ := canSort_of hc
      obtain ⟨a, vs, rfl, h1, h2⟩ := tx.tup
      obtain ⟨its, rv, hl, hz⟩ := I.tuple h1.seq
      rw [Vals.ref1 r]
      obtain ⟨as, hr⟩ := Dp.readsAll I _ vs its (DVs.dp _ _ h2) rv
      have zs := zip_snd h2
      have zl : (vs.zip ds).length = vs.length := by rw [List.length_zip, h2.len, Nat.min_self]
      obtain ⟨o, ho, hcl, n, hdt⟩ := hl
      refine sorted_tuple_data (enc := Prod.snd) ho hcl hdt (eachIs_zip h2 rv) (PySem.W.readsAll_each Prod.snd (by rw [zs]; exact hr)) (by rw [zs]; exact c1) (by rw [zs]; exact c2) (by rw [zl]; exact hz) (fun b hb => ?_) fun out h' p ep h3 h4 k1 k2 k3 => ?_
      · have : b.2 ∈ ds := by rw [← zs]; exact List.mem_map_of_mem hb
        have := c3 _ this
        omega
      · have dv : DVs X.K B H (((vs.zip ds).mergeSort (PySem.W.dataLe false Prod.snd)).map Prod.fst) (sortD ds) := by
          rw [← zs, ← sort_snd, zs]
          exact dvs_of_zip fun p hp => zip_dv h2 p ((List.mergeSort_perm _ _).mem_iff.mp hp)
        exact ⟨.ref _, upd H p (.lst _), I.laid (t' := s.toks) k1 k3 ⟨by rw [List.length_map, List.length_mergeSort, zl]; exact hz, out, ep, vals_of_each h4, k2⟩, rfl, q _ _ (I.hok.fresh k3) dv⟩
    · cases hd
  | none => cases hd
  | bool _ => cases hd
  | int _ => cases hd
  | str _ => cases hd
  | dict _ => cases hd
end

/-! ### list(range(e)), tuple(range(e)) -/
def dRngL : D → Option (List D)
  | .int n => if 0 ≤ n ∧ n ≤ 16777216 then some (rngL 0 n) else none
  | _ => none
def dRngT (d : D) : Option D := (dRngL d).map .tuple
theorem dvs_rng {K : PySem.W.Frag} {B : Addr → Prop} {H : Hp} (g : Nat → Int) : ∀ ns : List Nat, DVs K B H (ns.map fun i => V.int (g i)) (ns.map fun i => PyData.int (g i))
  | [] => .nil
  | n :: ns => .cons (.int _) (dvs_rng g ns)
section
variable {X : Cx} {XP : XPt} {p p2 pos pos2 : Pos} {a : Expr} {f : Mo Ref}
theorem tRg_of {pd : D → Option (List D)} {k : Int → Int → Hp → Prop} {σ : Sl} {H : Hp} {c : Option (Addr × Addr)} {Z : Addr → Prop} {W : Own} {s : ES} (r : Rel X.K c Z W s σ H)
    (h : Run X.K XP c Z W σ H (f s) fun q s1 W1 H1 => ∀ v, RV X.K Z W1 H1 σ v q → ∃ n, v = .int n ∧ k 0 n H1) : tRg1 (tE X.K XP f) σ H k := ⟨c, Z, W, s, r, h⟩
theorem qm_lrg (hm : X.mg "list" = none) (hm2 : X.mg "range" = none) (ha : QE X XP a f) (hc : X.calm = true := by rfl) (hg : Gl X "list" := by rfl) (hg2 : Gl X "range" := by rfl) (na : starEach [a] X.env = (false, eval a X.env) :: starEach [] X.env := by rfl)
    (na2 : starEach [Expr.Call (.Name "range" p2) [a] [] pos2] X.env = (false, eval (.Call (.Name "range" p2) [a] [] pos2) X.env) :: starEach [] X.env := by rfl) : QM X XP (.Call (.Name "list" p) [.Call (.Name "range" p2) [a] [] pos2] [] pos) (mUn dRngL f) :=
  PE.imp (pe_listRg hc hg hm (prg_1 hg2 hm2 ha na) na2) fun σ H Q ⟨c, Z, W, s, r, h⟩ => ⟨c, Z, W, s, r, h.bind.imp fun q1 s1 W1 H1 x1 r1 h1 v rv => by
    obtain ⟨dx, tx, h3⟩ := h1.rd r1 rv
    obtain ⟨d, hd, h5⟩ := h3.liftL
    unfold dRngL at hd
    split at hd
    · rename_i n
      split at hd
      · rename_i hn
        cases hd
        cases tx.int
        exact ⟨n, rfl, RgOk.of_le (by omega) (by omega) (by omega) (by omega), fun q hq => h5.new r1 hq (dvs_rng (fun i => 0 + (i : Int)) _)⟩
      · cases hd
    · cases hd⟩
theorem qe_trg (hm : X.mg "tuple" = none) (hm2 : X.mg "range" = none) (ha : QE X XP a f) (hc : X.calm = true := by rfl) (hg : Gl X "tuple" := by rfl) (hg2 : Gl X "range" := by rfl) (na : starEach [a] X.env = (false, eval a X.env) :: starEach [] X.env := by rfl)
    (na2 : starEach [Expr.Call (.Name "range" p2) [a] [] pos2] X.env = (false, eval (.Call (.Name "range" p2) [a] [] pos2) X.env) :: starEach [] X.env := by rfl) : QE X XP (.Call (.Name "tuple" p) [.Call (.Name "range" p2) [a] [] pos2] [] pos) (eUn dRngT f) :=
  PE.imp (pe_tupRg hc hg hm (prg_1 hg2 hm2 ha na) na2) fun σ H Q ⟨c, Z, W, s, r, h⟩ => ⟨c, Z, W, s, r, h.bind.imp fun q1 s1 W1 H1 x1 r1 h1 v rv => by
    obtain ⟨dx, tx, h3⟩ := h1.rd r1 rv
    obtain ⟨d, hd, h5⟩ := h3.lift
    unfold dRngT dRngL at hd
    split at hd
    · rename_i n
      split at hd
      · rename_i hn
        cases hd
        cases tx.int
        exact ⟨n, rfl, RgOk.of_le (by omega) (by omega) (by omega) (by omega), fun q hq => h5 W1 _ (Grow.upd hq).stp (r1.grow (Grow.upd hq)) _ (new_tup (fun a b => r1.blkT b) hq (dvs_rng (fun i => 0 + (i : Int)) _))⟩
      · cases hd
    · cases hd⟩
end

/-! ### x[::-1] -/
def dRev : D → Option D
  | .list ds => some (.list ds.reverse)
  | .tuple ds => some (.tuple ds.reverse)
  | _ => none
theorem DVs.reverse {K : PySem.W.Frag} {B : Addr → Prop} {H : Hp} : ∀ {vs : List V} {ds : List D}, DVs K B H vs ds → DVs K B H vs.reverse ds.reverse
  | _, _, .nil => .nil
  | _, _, .cons r t => by rw [List.reverse_cons, List.reverse_cons]; exact (DVs.reverse t).snoc r
section
variable {prog : Program} {w : World} {A : Around} {E : Value → Shared → Prop} {s : Shared}
theorem rev_places (n : Nat) : Builtin.Slice.slicePlaces ((n : Int) - 1) (-1) (-1) = n := by
  unfold Builtin.Slice.slicePlaces
  rw [if_neg (by decide)]
  by_cases h : n = 0
  · subst h; rw [if_neg (by decide)]; rfl
  · rw [if_pos (by omega), show (-(-1 : Int)) = 1 by decide, Int.ediv_one]; omega
theorem fm_congr {α β : Type} {f g : α → Option β} : ∀ {l : List α}, (∀ x ∈ l, f x = g x) → l.filterMap f = l.filterMap g
  | [], _ => rfl
  | x :: l, h => by rw [List.filterMap_cons, List.filterMap_cons, h x (by simp), fm_congr fun y hy => h y (by simp [hy])]
theorem rev_pick (xs : Array Value) : ((List.range xs.size).filterMap fun (k : Nat) => xs[(((xs.size : Int) - 1) + (k : Int) * (-1)).toNat]?).toArray = xs.toList.reverse.toArray := by
  congr 1
  rw [← PySem.W.krv_all xs, ← List.filterMap_reverse, ← PySem.W.krv_range, List.filterMap_map]
  refine fm_congr fun k hk => ?_
  have := List.mem_range.mp hk
  rw [show (((xs.size : Int) - 1) + (k : Int) * (-1)).toNat = xs.size - 1 - k by omega]; rfl
theorem applied_rev {sl : Addr} {vl vu vs : Value} {n : Nat} {Q : Int × Int × Nat → Shared → Prop} (hs : s.heap.IsSliceOf sl vl vu vs) (pl : IsPart vl none) (pu : IsPart vu none) (ps : IsPart vs (some (-1)))
    (h : Q (((n : Int) - 1), -1, n) s) : wpAny (model prog w) A (Builtin.Slice.sliceApplied (.ref sl) (pure (n : Int))) Q E s := by
  obtain ⟨o, h1, h2, h3⟩ := id hs
  unfold Builtin.Slice.sliceApplied Builtin.Slice.sliceFields
  refine wpAny_bind (wpAny_bind (wpAny_field h1 h3 (x := vl) rfl (wpAny_bind (wpAny_field h1 h3 (x := vu) rfl (wpAny_bind (wpAny_field h1 h3 (x := vs) rfl (wpAny_pure ?_)))))))
  refine wpAny_bind (HT.slicePart_ ps ?_)
  show wpAny _ _ (if ((-1 : Int) == 0) = true then _ else _) _ _ s
  rw [if_neg (by decide)]
  refine wpAny_bind (HT.slicePart_ pl (wpAny_bind (HT.slicePart_ pu (wpAny_bind (wpAny_pure ?_)))))
  show wpAny _ _ (pure (((n : Int) - 1), (-1 : Int), Builtin.Slice.slicePlaces ((n : Int) - 1) (-1) (-1))) _ _ s
  rw [rev_places]
  exact wpAny_pure h
theorem getItem_tuple_rev {t sl : Addr} {items : Array Value} {vl vu vs : Value} {Q : Value → Shared → Prop} (ht : IsTup s.heap t items) (hs : s.heap.IsSliceOf sl vl vu vs) (pl : IsPart vl none) (pu : IsPart vu none) (ps : IsPart vs (some (-1)))
    (h : Q (.ref s.heap.objs.size) { s with heap := s.heap.push { cls := .type "tuple", data := .seq items.toList.reverse.toArray } }) (hsz : items.size ≤ sizeLine) : wpAny (model prog w) A (getItem (.ref t) (.ref sl)) Q E s := by
  have hok : sizeOk (.seq items.toList.reverse.toArray) := by
    show items.toList.reverse.toArray.size ≤ sizeLine
    rw [List.size_toArray, List.length_reverse, Array.length_toList]; exact hsz
  have hTs : s.TypeIs (.ref sl) "slice" := let ⟨o, h1, h2, _⟩ := hs; ⟨o, h1, h2⟩
  unfold getItem
  try with_reducible refine wpAny_holding ?_
  first | refine wpAny_bind (wpAny_pure ?_) | skip
  refine wpAny_bind (wpAny_sequenceKey ht.typeIs (by decide) (wpAny_bind (wpAny_callSpecial?_slot (name := Str.ofString "__getitem__") ht.typeIs PyProof.Rows.slot_tuple_getitem (wpAny_call_entry PyProof.Rows.slot_tuple_getitem ht.typeIs entry_tuple_getitem ?_ (args_tuple_getitem _ _)))))
  show wpAny _ _ (Builtin.Tuple.tupleItemsOf (.ref t) >>= _) _ _ s
  refine wpAny_bind (tupleItemsOf_ ht (wpAny_bind (wpAny_typeOf hTs ?_)))
  rw [if_pos (by decide)]
  refine wpAny_bind (applied_rev hs pl pu ps ?_)
  show wpAny _ _ (if (((items.size : Int) - 1) == 0 && (-1 : Int) == 1 && items.size == items.size) = true then _ else _) _ _ s
  rw [if_neg (by simp), rev_pick]
  first
    | exact wpAny_bind (m := Builtin.Tuple.tupleExact _) (wpAny_newObj_type (wpAny_pure ⟨_, rfl, wpAny_pure h⟩) hok)
    | exact wpAny_bind (m := Builtin.Tuple.tupleExact _) (wpAny_newObj_type (wpAny_bind (wpAny_pure (wpAny_pure ⟨_, rfl, wpAny_pure h⟩))) hok)
    | exact wpAny_bind (wpAny_bind (m := Builtin.Tuple.tupleExact _) (wpAny_newObj_type (wpAny_pure (wpAny_pure ⟨_, rfl, wpAny_pure h⟩)) hok))
    | exact wpAny_bind (wpAny_bind (m := Builtin.Tuple.tupleExact _) (wpAny_newObj_type (wpAny_pure ⟨_, rfl, wpAny_pure h⟩) hok))
end
def tRevA (K : PySem.W.Frag) (te : TE) : TE := fun σ H Q => te σ H fun x H1 => ∃ a xs, x = .ref a ∧ ((SqL K H1 a xs ∧ ∀ p, H1 p = none → Q (.ref p) (upd H1 p (.lst xs.reverse))) ∨ (SqT K H1 a xs ∧ ∀ p, H1 p = none → Q (.ref p) (upd H1 p (.tup xs.reverse))))
theorem pe_revA {X : Cx} {e : Expr} {te : TE} {k : Nat} {p1 p2 p3 pos : Pos} (he : PE X e te) : PE X (.Subscript e (.Slice none none (some (.UnaryOp .USub (.Constant (.int 1) k p1) p2)) p3) pos) (tRevA X.K te) := by
  refine ⟨fun pins s σ H Q I h => Subscript_ (thn (he.run pins s σ H _ I h) fun v s1 ⟨x, H1, I1, r1, q1⟩ => ?_)⟩
  obtain ⟨a, xs, rfl, q⟩ := q1
  cases r1
  refine wpAny_Slice (thn (po_none.run pins s1 σ H1 (fun o H2 => o = none ∧ H2 = H1) I1 ⟨rfl, rfl⟩) fun vl s2 ⟨l, H2, I2, pl, el, e2⟩ => ?_)
  cases el; cases e2
  refine thn (po_none.run pins s2 σ H1 (fun o H3 => o = none ∧ H3 = H1) I2 ⟨rfl, rfl⟩) fun vu s3 ⟨u, H3, I3, pu, eu, e3⟩ => ?_
  cases eu; cases e3
  have hst : PO X (some (.UnaryOp .USub (.Constant (.int 1) k p1) p2)) (tPart (tUn (rU fun i => .int (-i)) (tC (.int 1)))) := po_some (pe_un un_neg pe_int)
  refine thn (hst.run pins s3 σ H1 (fun o H4 => o = some (-1) ∧ H4 = H1) I3 ⟨1, rfl, -1, rfl, rfl, rfl⟩) fun vs s4 ⟨o, H4, I4, ps, eo, e4⟩ => ?_
  cases eo; cases e4
  have I5 : L2.Inv X pins σ H1 { s4 with heap := s4.heap.push { cls := .type "slice", data := .fields #[vl, vu, vs] } } := I4.kept (t' := s4.toks) fun b ob z => Heap.get?_push_of_some _ z
  show wpAny (model X.prog X.w) X.A (subscriptTail e (.Slice none none (some (.UnaryOp .USub (.Constant (.int 1) k p1) p2)) p3) (.ref a) (.ref s4.heap.objs.size)) (EP X pins σ Q) X.xe { s4 with heap := s4.heap.push { cls := .type "slice", data := .fields #[vl, vu, vs] } }
  rcases q with ⟨hx, q⟩ | ⟨hx, q⟩
  · obtain ⟨its, r, ht, hz⟩ := I5.list hx
    refine tail_any (ops := [.ref a, .ref s4.heap.objs.size]) ht.isList.typeIs PySem.slot_list_getitem.lookup (wpAny_getItem_list_slice ht.isList (Heap.IsSliceOf.new _ vl vu vs) pl pu ps (by decide) ?_ (by rw [List.size_toArray, ← r.length]; exact hz)) (by with_unfolding_all rfl)
    rw [PySem.W.krv_pick]
    exact ⟨.ref _, _, I5.laid (t' := s4.toks) (o := .lst xs.reverse) (fun b ob z => Heap.get?_push_of_some _ z) (Nat.le_refl _) ⟨by rw [List.length_reverse]; exact hz, _, 0, r.reverse, Heap.get?_push_size _ rfl⟩, rfl, q _ (I5.hok.fresh (Nat.le_refl _))⟩
  · obtain ⟨its, r, ht, hz⟩ := I5.tuple hx
    refine tail_any (ops := [.ref a, .ref s4.heap.objs.size]) ht.typeIs PyProof.Rows.slot_tuple_getitem.lookup (getItem_tuple_rev ht (Heap.IsSliceOf.new _ vl vu vs) pl pu ps ?_ (by rw [List.size_toArray, ← r.length]; exact hz)) (by with_unfolding_all rfl)
    exact ⟨.ref _, _, I5.laid (t' := s4.toks) (o := .tup xs.reverse) (fun b ob z => Heap.get?_push_of_some _ z) (Nat.le_refl _) ⟨by rw [List.length_reverse]; exact hz, _, r.reverse, IsTup.new _ _⟩, rfl, q _ (I5.hok.fresh (Nat.le_refl _))⟩
theorem qe_rev {X : Cx} {XP : XPt} {e : Expr} {f : Mo Ref} {k : Nat} {p1 p2 p3 pos : Pos} (he : QE X XP e f) : QE X XP (.Subscript e (.Slice none none (some (.UnaryOp .USub (.Constant (.int 1) k p1) p2)) p3) pos) (eUn dRev f) :=
  PE.imp (pe_revA he) fun σ H Q ⟨c, Z, W, s, r, h⟩ => ⟨c, Z, W, s, r, h.bind.imp fun q1 s1 W1 H1 x1 r1 h1 v rv => by
    obtain ⟨dx, tx, h3⟩ := h1.rd r1 rv
    obtain ⟨d, hd, h5⟩ := h3.lift
    unfold dRev at hd
    split at hd
    · cases hd
      obtain ⟨a, vs, rfl, h6, h7⟩ := tx.lst
      exact ⟨a, vs, rfl, .inl ⟨SqL.of h6, fun q hq => h5 W1 _ (Grow.upd hq).stp (r1.grow (Grow.upd hq)) _ (new_lst (fun a b => r1.blkT b) hq h7.reverse)⟩⟩
    · cases hd
      obtain ⟨a, vs, rfl, h6, h7⟩ := tx.tup
      exact ⟨a, vs, rfl, .inr ⟨h6.seq, fun q hq => h5 W1 _ (Grow.upd hq).stp (r1.grow (Grow.upd hq)) _ (new_tup (fun a b => r1.blkT b) hq h7.reverse)⟩⟩
    · cases hd⟩
end Ev
set_option Elab.async false
set_option linter.all false
set_option maxRecDepth 100000
set_option maxHeartbeats 4000000
/-! Ev15: reckoning with the combinators: what they answer on known data -/
namespace Ev
open PySem L2
/-! ### data of a form -/
abbrev I (i : Int) : D := .int i
abbrev Nn (n : Nat) : D := .int (n : Int)
def Tu {α : Type} (f : α → D) (xs : List α) : D := .tuple (xs.map f)
def Li {α : Type} (f : α → D) (xs : List α) : D := .list (xs.map f)
def P2 {α β : Type} (f : α → D) (g : β → D) (p : α × β) : D := .tuple [f p.1, g p.2]
section
variable {s s1 s2 s3 : ES} {f g h : Mo Ref} {a b c d r : D} {p : D → D → Option D} {pu : D → Option D} {i : Nat}
/-! ### expressions -/
theorem ev_var (h : s.σ[i]? = some (some (.val d))) : eVar i s = .ok (.d d) s := by unfold eVar; rw [h]
theorem ev_own {ds : List D} (h : s.σ[i]? = some (some (.own ds))) : eVar i s = .ok (.slot i) s := by unfold eVar; rw [h]
theorem ev_c : eC d s = .ok (.d d) s := rfl
theorem ev_bin (h1 : f s = .ok (.d a) s1) (h2 : g s1 = .ok (.d b) s2) (h3 : p a b = some r) : eBin p f g s = .ok (.d r) s2 := by
  unfold eBin bnd; rw [h1]; dsimp only; rw [h2]; dsimp only [rd]; unfold lift; rw [h3]
theorem ev_un (h1 : f s = .ok (.d a) s1) (h3 : pu a = some r) : eUn pu f s = .ok (.d r) s1 := by
  unfold eUn bnd; rw [h1]; dsimp only [rd]; unfold lift; rw [h3]
/-- where the operand is a list of one's own -/
theorem ev_unO {ds : List D} (h1 : f s = .ok (.slot i) s1) (h2 : s1.σ[i]? = some (some (.own ds))) (h3 : pu (.list ds) = some r) : eUn pu f s = .ok (.d r) s1 := by
  unfold eUn bnd; rw [h1]; dsimp only [rd]; rw [h2]; unfold lift; dsimp only; rw [h3]
theorem ev_binO {ds : List D} (h1 : f s = .ok (.slot i) s1) (h2 : g s1 = .ok (.d b) s2) (h3 : s2.σ[i]? = some (some (.own ds))) (h4 : p (.list ds) b = some r) : eBin p f g s = .ok (.d r) s2 := by
  unfold eBin bnd; rw [h1]; dsimp only; rw [h2]; dsimp only [rd]; rw [h3]; unfold lift; dsimp only; rw [h4]
theorem ev_ifT {t : Mo Bool} {q : Ref} (h1 : t s = .ok true s1) (h2 : f s1 = .ok q s2) : eIf t f g s = .ok q s2 := by unfold eIf bnd; rw [h1]; exact h2
theorem ev_ifF {t : Mo Bool} {q : Ref} (h1 : t s = .ok false s1) (h2 : g s1 = .ok q s2) : eIf t f g s = .ok q s2 := by unfold eIf bnd; rw [h1]; exact h2
theorem ev_tup {fs : Mo (List Ref)} {qs : List Ref} {ds : List D} (h1 : fs s = .ok qs s1) (h2 : durs qs s1 = .ok ds s2) (h3 : small ds = true) : eTup fs s = .ok (.d (.tuple ds)) s2 := by
  unfold eTup bnd; rw [h1]; dsimp only; rw [h2]; unfold lift; dsimp only; rw [if_pos h3]
theorem ev_call {F : Fn} {fs : Mo (List Ref)} {qs : List Ref} {ds : List D} (h1 : fs s = .ok qs s1) (h2 : durs qs s1 = .ok ds s2) (h3 : F ds = .ok r) : eCall F fs s = .ok (.d r) s2 := by
  unfold eCall bnd; rw [h1]; dsimp only; rw [h2]; dsimp only; rw [h3]
theorem ev_call0 {F : Fn} (h3 : F [] = .ok r) : eCall0 F s = .ok (.d r) s := by unfold eCall0; rw [h3]
theorem ev_nil : aNil s = .ok [] s := rfl
theorem ev_cons {fs : Mo (List Ref)} {q : Ref} {qs : List Ref} (h1 : f s = .ok q s1) (h2 : fs s1 = .ok qs s2) : aCons f fs s = .ok (q :: qs) s2 := by unfold aCons bnd; rw [h1]; dsimp only; rw [h2]
theorem du_nil : durs [] s = .ok [] s := rfl
theorem du_cons {qs : List Ref} {ds : List D} (h : durs qs s = .ok ds s1) : durs (.d d :: qs) s = .ok (d :: ds) s1 := by unfold durs bnd; dsimp only [dur]; rw [h]
theorem du_own {qs : List Ref} {es ds : List D} (ho : s.σ[i]? = some (some (.own es))) (h : durs qs { s with σ := s.σ.set i (some (.val (.list es))) } = .ok ds s1) : durs (.slot i :: qs) s = .ok (.list es :: ds) s1 := by unfold durs bnd; dsimp only [dur]; rw [ho]; dsimp only; rw [h]
theorem ev_M {m : Mo (List D)} {ds : List D} (h : m s = .ok ds s1) : eM m s = .ok (.d (.list ds)) s1 := by unfold eM bnd; rw [h]
theorem ev_sl {fl fh : Mo (Option Int)} {l u : Option Int} (h1 : f s = .ok (.d a) s1) (h2 : fl s1 = .ok l s2) (h3 : fh s2 = .ok u s3) (h4 : dSl a l u = some r) : eSl f fl fh s = .ok (.d r) s3 := by
  unfold eSl bnd; rw [h1]; dsimp only; rw [h2]; dsimp only; rw [h3]; dsimp only [rd]; unfold lift; rw [h4]
theorem o_none : oNone s = .ok none s := rfl
theorem o_some {k : Int} (h : f s = .ok (.d (.int k)) s1) : oSome f s = .ok (some k) s1 := by unfold oSome bnd; rw [h]; rfl
theorem ev_mv {dd : List D} (h1 : f s = .ok (.d (.list dd)) s1) (h2 : g s1 = .ok (.d b) s2) (h3 : p (.list dd) b = some r) : eMv p f g s = .ok (.d r) s2 := by
  have e : eMv p f g s = (bnd g fun b => bnd (rd (.d (.list dd))) fun x => bnd (rd b) fun y => lift (p x y)) s1 := by unfold eMv bnd; rw [h1]; rfl
  rw [e]
  unfold bnd; rw [h2]; dsimp only [rd]; unfold lift; rw [h3]
/-! ### tests -/
theorem te_tru {k : Bool} (h1 : f s = .ok (.d a) s1) (h2 : dTru a = some k) : fTru f s = .ok k s1 := by unfold fTru bnd; rw [h1]; dsimp only [rd]; rw [h2]
theorem te_cmp {k : Bool} (h1 : f s = .ok (.d a) s1) (h2 : g s1 = .ok (.d b) s2) (h3 : p a b = some (.bool k)) : fCmp p f g s = .ok k s2 := by unfold fCmp bnd; rw [h1]; dsimp only; rw [h2]; dsimp only [rd]; rw [h3]
theorem te_not {t : Mo Bool} {k : Bool} (h1 : t s = .ok k s1) : fNot t s = .ok (!k) s1 := by unfold fNot bnd; rw [h1]
theorem te_and {t u : Mo Bool} {k l : Bool} (h1 : t s = .ok k s) (h2 : k = true → u s = .ok l s) : fAnd t u s = .ok (k && l) s := by
  unfold fAnd bnd; rw [h1]; dsimp only
  cases k with
  | true => rw [if_pos rfl, h2 rfl]; rfl
  | false => rfl
theorem te_or {t u : Mo Bool} {k l : Bool} (h1 : t s = .ok k s) (h2 : k = false → u s = .ok l s) : fOr t u s = .ok (k || l) s := by
  unfold fOr bnd; rw [h1]; dsimp only
  cases k with
  | false => rw [if_neg (by decide), h2 rfl]; rfl
  | true => rfl
theorem te_bool {k : Bool} (h : f s = .ok (.d (.bool k)) s1) : fBool f s = .ok k s1 := by unfold fBool bnd; rw [h]; rfl
theorem ev_chainT {p' : D → D → Option D} (h1 : f s = .ok (.d a) s) (h2 : g s = .ok (.d b) s) (h3 : h s = .ok (.d c) s) (h4 : p a b = some (.bool true)) (h5 : p' b c = some r) : eChain p p' f g h s = .ok (.d r) s := by
  unfold eChain bnd; rw [h1]; dsimp only; rw [h2]; dsimp only [rd]; rw [h4]; dsimp only; rw [h3]; dsimp only; unfold lift; rw [h5]
theorem ev_chainF {p' : D → D → Option D} (h1 : f s = .ok (.d a) s) (h2 : g s = .ok (.d b) s) (h4 : p a b = some (.bool false)) : eChain p p' f g h s = .ok (.d (.bool false)) s := by
  unfold eChain bnd; rw [h1]; dsimp only; rw [h2]; dsimp only [rd]; rw [h4]
theorem ev_chain {p' : D → D → Option D} {k l : Bool} (h1 : f s = .ok (.d a) s) (h2 : g s = .ok (.d b) s) (h3 : h s = .ok (.d c) s) (h4 : p a b = some (.bool k)) (h5 : p' b c = some (.bool l)) : eChain p p' f g h s = .ok (.d (.bool (k && l))) s := by
  cases k with
  | true => rw [ev_chainT h1 h2 h3 h4 h5]; rfl
  | false => rw [ev_chainF h1 h2 h4]; rfl
/-! ### statements -/
theorem st_seq {u v : ES → SR} (h1 : u s = .nx s1) : sSeq u v s = v s1 := by unfold sSeq; rw [h1]
theorem st_seq' {u v : ES → SR} {r : SR} (h1 : u s = .nx s1) (h2 : v s1 = r) : sSeq u v s = r := by rw [st_seq h1, h2]
theorem st_ifT' {t : Mo Bool} {u v : ES → SR} {r : SR} (h1 : t s = .ok true s1) (h2 : u s1 = r) : sIf t u v s = r := by unfold sIf sE; rw [h1]; exact h2
theorem st_ifF' {t : Mo Bool} {u v : ES → SR} {r : SR} (h1 : t s = .ok false s1) (h2 : v s1 = r) : sIf t u v s = r := by unfold sIf sE; rw [h1]; exact h2
theorem st_for' {fi : Mo (List D)} {pt : Pat} {body : ES → SR} {ds : List D} {r : SR} (h1 : fi s = .ok ds s1) (h2 : forL pt body ds s1 = r) : sFor fi pt body s = r := by unfold sFor sE; rw [h1]; exact h2
theorem st_seqR {u v : ES → SR} {T : Ext} (h1 : u s = .rt d T) : sSeq u v s = .rt d T := by unfold sSeq; rw [h1]
theorem st_seqE {u v : ES → SR} {x : Str} {T : Ext} (h1 : u s = .err x T) : sSeq u v s = .err x T := by unfold sSeq; rw [h1]
theorem st_set (h1 : f s = .ok (.d d) s1) : sSet i f s = .nx (put i (.val d) s1) := by unfold sSet sE bnd; rw [h1]; rfl
theorem st_setO {j : Nat} {ds : List D} (h1 : f s = .ok (.slot j) s1) (h2 : s1.σ[j]? = some (some (.own ds))) : sSet i f s = .nx (put i (.val (.list ds)) { s1 with σ := s1.σ.set j (some (.val (.list ds))) }) := by unfold sSet sE bnd; rw [h1]; dsimp only [dur]; rw [h2]
theorem st_own {m : Mo (List D)} {ds : List D} (h1 : m s = .ok ds s1) : sOwn i m s = .nx (put i (.own ds) s1) := by unfold sOwn sE; rw [h1]
theorem st_ret (h1 : f s = .ok (.d d) s1) : sRet f s = .rt d s1.T := by unfold sRet sE bnd; rw [h1]; rfl
theorem st_retO {j : Nat} {ds : List D} (h1 : f s = .ok (.slot j) s1) (h2 : s1.σ[j]? = some (some (.own ds))) : sRet f s = .rt (.list ds) s1.T := by unfold sRet sE bnd; rw [h1]; dsimp only [dur]; rw [h2]
theorem st_expr {q : Ref} (h1 : f s = .ok q s1) : sExpr f s = .nx s1 := by unfold sExpr sE; rw [h1]
theorem st_ifT {t : Mo Bool} {u v : ES → SR} (h1 : t s = .ok true s1) : sIf t u v s = u s1 := by unfold sIf sE; rw [h1]; rfl
theorem st_ifF {t : Mo Bool} {u v : ES → SR} (h1 : t s = .ok false s1) : sIf t u v s = v s1 := by unfold sIf sE; rw [h1]; rfl
theorem st_asg {pt : Pat} (h1 : f s = .ok (.d d) s1) (h2 : pt d s1 = some s2) : sAsg f pt s = .nx s2 := by unfold sAsg sE bnd; rw [h1]; dsimp only [dur]; rw [h2]
theorem st_for {fi : Mo (List D)} {pt : Pat} {body : ES → SR} {ds : List D} (h1 : fi s = .ok ds s1) : sFor fi pt body s = forL pt body ds s1 := by unfold sFor sE; rw [h1]
/-! ### what is walked -/
theorem w_seq {ds : List D} (h1 : f s = .ok (.d d) s1) (h2 : seqOf d = some ds) : iSeq f s = .ok ds s1 := by unfold iSeq bnd; rw [h1]; dsimp only [dur]; unfold liftL; rw [h2]
theorem w_seqO {ds : List D} (h1 : f s = .ok (.slot i) s1) (h2 : s1.σ[i]? = some (some (.own ds))) : iSeq f s = .ok ds { s1 with σ := s1.σ.set i (some (.val (.list ds))) } := by unfold iSeq bnd; rw [h1]; dsimp only [dur]; rw [h2]; rfl
theorem rngL0 (n : Nat) : rngL 0 (n : Int) = (List.range n).map Nn := by unfold rngL; simp [Nn]
theorem big62 : (2 : Int) ^ 62 = 4611686018427387904 := by decide
theorem inLine_nat {n : Nat} (h : n < 4611686018427387904) : inLine (n : Int) = true := by
  unfold inLine
  rw [big62, Bool.and_eq_true, decide_eq_true_eq, decide_eq_true_eq]
  constructor
  · omega
  · omega
theorem rng1_nat {n : Nat} (h : n < 4611686018427387904) : dRng1 (.int (n : Int)) = some ((List.range n).map Nn) := by
  show (if inLine (n : Int) = true then some (rngL 0 (n : Int)) else none) = _
  rw [if_pos (inLine_nat h), rngL0]
theorem w_r1 {n : Nat} (h1 : f s = .ok (.d (.int (n : Int))) s1) (h2 : n < 4611686018427387904) : iR1 f s = .ok ((List.range n).map Nn) s1 := by
  unfold iR1 bnd
  rw [h1]
  show liftL (dRng1 (.int (n : Int))) s1 = _
  rw [rng1_nat h2]
  rfl
theorem zipD_map {α β : Type} {f : α → D} {g : β → D} : ∀ (xs : List α) (ys : List β), zipD (xs.map f) (ys.map g) = (xs.zip ys).map (P2 f g)
  | [], _ => rfl
  | _ :: _, [] => rfl
  | x :: xs, y :: ys => by
    rw [List.map_cons, List.map_cons, List.zip_cons_cons, List.map_cons, ← zipD_map xs ys]; rfl
theorem w_zip {fs : Mo (List Ref)} {qs : List Ref} {x y : D} {xs ys : List D} (h1 : fs s = .ok qs s1) (h2 : durs qs s1 = .ok [x, y] s2) (h3 : seqOf x = some xs) (h4 : seqOf y = some ys) : iZip fs s = .ok (zipD xs ys) s2 := by
  unfold iZip bnd; rw [h1]; dsimp only; rw [h2]; dsimp only; unfold liftL; rw [h3, h4]
theorem w_enum {fs : Mo (List Ref)} {qs : List Ref} {x : D} {xs : List D} (h1 : fs s = .ok qs s1) (h2 : durs qs s1 = .ok [x] s2) (h3 : seqOf x = some xs) : iEnum fs s = .ok (enumD 0 xs) s2 := by
  unfold iEnum bnd; rw [h1]; dsimp only; rw [h2]; dsimp only; unfold liftL; rw [h3]; rfl
theorem enumD_map {α : Type} {f : α → D} : ∀ (xs : List α) (n : Nat), enumD n (xs.map f) = ((List.range' n xs.length).zip xs).map (P2 Nn f)
  | [], _ => rfl
  | x :: xs, n => by
    rw [List.map_cons, List.length_cons, List.range'_succ, List.zip_cons_cons, List.map_cons, ← enumD_map xs (n + 1)]; rfl
theorem seq_tu {α : Type} {f : α → D} {xs : List α} : seqOf (Tu f xs) = some (xs.map f) := rfl
theorem seq_li {α : Type} {f : α → D} {xs : List α} : seqOf (Li f xs) = some (xs.map f) := rfl
end
/-! ### comprehensions -/
def cstep (vs : List Nat) (pt : Pat) (tst : Mo Bool) (elt : Mo Ref) (d : D) : Mo (Option D) := fun s => match pt d s with
  | none => .stuck
  | some s1 => match tst s1 with
    | .ok true s2 => match bnd elt dur s2 with
      | .ok y s3 => .ok (some y) (wipeE vs s3)
      | .err c T => .err c T
      | .stuck => .stuck
    | .ok false s2 => .ok none (wipeE vs s2)
    | .err c T => .err c T
    | .stuck => .stuck
theorem compL_eq {vs : List Nat} {pt : Pat} {tst : Mo Bool} {elt : Mo Ref} {d : D} {r : List D} {s : ES} : compL vs pt tst elt (d :: r) s = (match pt d s with
    | none => .stuck
    | some s1 => bnd tst (fun b => if b then bnd elt fun q => bnd (dur q) fun y => fun s2 => bnd (compL vs pt tst elt r) (fun ys s3 => .ok (y :: ys) s3) (wipeE vs s2)
        else fun s2 => compL vs pt tst elt r (wipeE vs s2)) s1) := rfl
def consO (o : Option D) (ys : List D) : List D := match o with
  | some y => y :: ys
  | none => ys
theorem compL_cons {vs : List Nat} {pt : Pat} {tst : Mo Bool} {elt : Mo Ref} {d : D} {r : List D} {s s' : ES} {o : Option D} (h : cstep vs pt tst elt d s = .ok o s') :
    compL vs pt tst elt (d :: r) s = bnd (compL vs pt tst elt r) (fun ys s3 => .ok (consO o ys) s3) s' := by
  unfold cstep at h
  rw [compL_eq]
  cases e1 : pt d s with
  | none => rw [e1] at h; cases h
  | some s1 =>
    rw [e1] at h
    dsimp only at h ⊢
    unfold bnd
    cases e2 : tst s1 with
    | err c T => rw [e2] at h; cases h
    | stuck => rw [e2] at h; cases h
    | ok b s2 =>
      rw [e2] at h
      cases b with
      | false =>
        cases h
        dsimp only
        rw [if_neg (by decide)]
        cases compL vs pt tst elt r (wipeE vs s2) <;> rfl
      | true =>
        dsimp only at h ⊢
        rw [if_pos rfl]
        unfold bnd at h
        cases e3 : elt s2 with
        | err c T => rw [e3] at h; cases h
        | stuck => rw [e3] at h; cases h
        | ok q s3 =>
          rw [e3] at h
          dsimp only at h ⊢
          cases e4 : dur q s3 with
          | err c T => rw [e4] at h; cases h
          | stuck => rw [e4] at h; cases h
          | ok y s4 => rw [e4] at h; cases h; rfl
theorem compL_filterMap {α : Type} {vs : List Nat} {pt : Pat} {tst : Mo Bool} {elt : Mo Ref} {enc : α → D} {out : α → Option D} {s : ES} : ∀ (xs : List α), (∀ x ∈ xs, cstep vs pt tst elt (enc x) s = .ok (out x) s) → compL vs pt tst elt (xs.map enc) s = .ok (xs.filterMap out) s
  | [], _ => rfl
  | x :: xs, h => by
    rw [List.map_cons, compL_cons (h x (by simp))]
    unfold bnd
    rw [compL_filterMap xs fun y hy => h y (by simp [hy])]
    dsimp only
    rw [List.filterMap_cons]
    cases out x <;> rfl
theorem filterMap_len {α β : Type} (f : α → Option β) (xs : List α) : (xs.filterMap f).length ≤ xs.length := List.length_filterMap_le f xs
theorem comp_fm {α : Type} {vs : List Nat} {fi : Mo (List D)} {pt : Pat} {tst : Mo Bool} {elt : Mo Ref} {enc : α → D} {out : α → Option D} {s s1 : ES} {xs : List α} (h1 : fi s = .ok (xs.map enc) s1) (hl : xs.length ≤ szL) (hb : backE vs s1 (wipeE vs s1) = s1)
    (h : ∀ x ∈ xs, cstep vs pt tst elt (enc x) (wipeE vs s1) = .ok (out x) (wipeE vs s1)) : mComp vs fi pt tst elt s = .ok (xs.filterMap out) s1 := by
  unfold mComp bnd
  rw [h1]
  dsimp only
  rw [compL_filterMap xs h]
  dsimp only
  have hs : small (xs.filterMap out) = true := decide_eq_true (Nat.le_trans (filterMap_len _ _) (by rw [szL_eq]; exact hl))
  rw [if_pos hs, hb]
theorem comp_map {α : Type} {vs : List Nat} {fi : Mo (List D)} {pt : Pat} {elt : Mo Ref} {enc out : α → D} {s s1 : ES} {xs : List α} (h1 : fi s = .ok (xs.map enc) s1) (hl : xs.length ≤ szL) (hb : backE vs s1 (wipeE vs s1) = s1)
    (h : ∀ x ∈ xs, ∃ s2, pt (enc x) (wipeE vs s1) = some s2 ∧ wipeE vs s2 = wipeE vs s1 ∧ elt s2 = .ok (.d (out x)) s2) : mComp vs fi pt fYes elt s = .ok (xs.map out) s1 := by
  rw [comp_fm (out := fun x => some (out x)) h1 hl hb fun x hx => ?_]
  · congr 1
    induction xs with
    | nil => rfl
    | cons x xs ih => simp
  · obtain ⟨s2, e1, e2, e3⟩ := h x hx
    unfold cstep
    rw [e1]
    dsimp only [fYes]
    unfold bnd
    rw [e3]
    dsimp only [dur]
    rw [e2]
theorem comp_filter {α : Type} {vs : List Nat} {fi : Mo (List D)} {pt : Pat} {tst : Mo Bool} {elt : Mo Ref} {enc out : α → D} {t : α → Bool} {s s1 : ES} {xs : List α} (h1 : fi s = .ok (xs.map enc) s1) (hl : xs.length ≤ szL) (hb : backE vs s1 (wipeE vs s1) = s1)
    (h : ∀ x ∈ xs, ∃ s2, pt (enc x) (wipeE vs s1) = some s2 ∧ wipeE vs s2 = wipeE vs s1 ∧ tst s2 = .ok (t x) s2 ∧ (t x = true → elt s2 = .ok (.d (out x)) s2)) : mComp vs fi pt tst elt s = .ok ((xs.filter t).map out) s1 := by
  rw [comp_fm (out := fun x => if t x then some (out x) else none) h1 hl hb fun x hx => ?_]
  · congr 1
    clear h h1 hl
    induction xs with
    | nil => rfl
    | cons x xs ih =>
      by_cases e : t x = true
      · simp [e, ih]
      · simp [e, ih]
  · obtain ⟨s2, e1, e2, e3, e4⟩ := h x hx
    unfold cstep
    rw [e1]
    dsimp only
    rw [e3]
    cases e : t x with
    | true =>
      dsimp only
      unfold bnd
      rw [e4 e]
      dsimp only [dur]
      rw [e2]
      rfl
    | false =>
      dsimp only
      rw [e2]
      rfl
/-! ### for -/
theorem forL_eq {pt : Pat} {body : ES → SR} {d : D} {r : List D} {s : ES} : forL pt body (d :: r) s = (match pt d s with
    | none => .stuck
    | some s1 => match body s1 with
      | .nx s2 => forL pt body r s2
      | .ct s2 => forL pt body r s2
      | .bk s2 => .nx s2
      | .rt d T => .rt d T
      | .rc n T => .rc n T
      | .err c T => .err c T
      | .stuck => .stuck) := rfl
theorem for_inv {α β : Type} {pt : Pat} {body : ES → SR} {enc : α → D} {P : β → ES → Prop} {f : β → α → β} : ∀ (xs : List α) (b : β) (s : ES), P b s → (∀ b s x, x ∈ xs → P b s → ∃ s1 s2, pt (enc x) s = some s1 ∧ (body s1 = .nx s2 ∨ body s1 = .ct s2) ∧ P (f b x) s2) → ∃ s', forL pt body (xs.map enc) s = .nx s' ∧ P (xs.foldl f b) s'
  | [], b, s, p, _ => ⟨s, rfl, p⟩
  | x :: xs, b, s, p, h => by
    obtain ⟨s1, s2, e1, e2, p2⟩ := h b s x (by simp) p
    obtain ⟨s', e3, p3⟩ := for_inv xs (f b x) s2 p2 fun b s y hy => h b s y (by simp [hy])
    refine ⟨s', ?_, p3⟩
    rw [List.map_cons, forL_eq, e1]
    dsimp only
    rcases e2 with e2 | e2 <;> rw [e2] <;> exact e3
/-- a loop that returns at the first of a kind -/
theorem for_find {α : Type} {pt : Pat} {body : ES → SR} {enc : α → D} {P : ES → Prop} {t : α → Bool} {v : α → D} {T : Ext} : ∀ (xs : List α) (s : ES), P s → (∀ s x, x ∈ xs → P s → ∃ s1, pt (enc x) s = some s1 ∧ ((t x = true ∧ body s1 = .rt (v x) T) ∨ (t x = false ∧ ∃ s2, (body s1 = .nx s2 ∨ body s1 = .ct s2) ∧ P s2))) →
    (∃ x, xs.find? t = some x ∧ forL pt body (xs.map enc) s = .rt (v x) T) ∨ (xs.find? t = none ∧ ∃ s', forL pt body (xs.map enc) s = .nx s' ∧ P s')
  | [], s, p, _ => .inr ⟨rfl, s, rfl, p⟩
  | x :: xs, s, p, h => by
    obtain ⟨s1, e1, q⟩ := h s x (by simp) p
    have un : ∀ r, forL pt body ((x :: xs).map enc) s = r ↔ (match body s1 with
      | .nx s2 => forL pt body (xs.map enc) s2
      | .ct s2 => forL pt body (xs.map enc) s2
      | .bk s2 => .nx s2
      | .rt d T => .rt d T
      | .rc n T => .rc n T
      | .err c T => .err c T
      | .stuck => .stuck) = r := fun r => by rw [List.map_cons, forL_eq, e1]
    rcases q with ⟨e2, e3⟩ | ⟨e2, s2, e3, p2⟩
    · exact .inl ⟨x, by rw [List.find?_cons_of_pos e2], by rw [un, e3]⟩
    · rcases for_find xs s2 p2 fun s y hy => h s y (by simp [hy]) with ⟨y, h1, h2⟩ | ⟨h1, s', h2, h3⟩
      · exact .inl ⟨y, by rw [List.find?_cons_of_neg (by simp [e2])]; exact h1, by rw [un]; rcases e3 with e3 | e3 <;> rw [e3] <;> exact h2⟩
      · exact .inr ⟨by rw [List.find?_cons_of_neg (by simp [e2])]; exact h1, s', by rw [un]; rcases e3 with e3 | e3 <;> rw [e3] <;> exact h2, h3⟩
/-! ### operators on data of a form -/
section
variable {α : Type} {f : α → D} {xs : List α}
theorem atI_nat {xs : List D} {n : Nat} : atI xs (n : Int) = xs[n]? := by
  unfold atI ixN
  rw [if_pos (by omega)]
  by_cases h : n < xs.length
  · rw [if_pos (by omega)]; simp
  · rw [if_neg (by omega)]; simp; omega
theorem ix_tu {n : Nat} {x : α} (h : xs[n]? = some x) : dIx (Tu f xs) (.int (n : Int)) = some (f x) := by
  show atI (xs.map f) (n : Int) = _
  rw [atI_nat, List.getElem?_map, h]; rfl
theorem ix_li {n : Nat} {x : α} (h : xs[n]? = some x) : dIx (Li f xs) (.int (n : Int)) = some (f x) := by
  show atI (xs.map f) (n : Int) = _
  rw [atI_nat, List.getElem?_map, h]; rfl
theorem len_tu : dLen (Tu f xs) = some (.int (xs.length : Int)) := by unfold dLen Tu; simp
theorem len_li : dLen (Li f xs) = some (.int (xs.length : Int)) := by unfold dLen Li; simp
theorem intsOf_map : ∀ (ns : List Int), intsOf (ns.map I) = some ns
  | [] => rfl
  | n :: r => by rw [List.map_cons]; unfold intsOf; rw [intsOf_map r]; rfl
theorem boolsOf_map : ∀ (ns : List Bool), boolsOf (ns.map PyData.bool) = some ns
  | [] => rfl
  | n :: r => by rw [List.map_cons]; unfold boolsOf; rw [boolsOf_map r]; rfl
theorem sum_li {g : α → Int} : dSum (Li (fun x => I (g x)) xs) = some (.int (xs.map g).sum) := by
  unfold dSum Li seqOf
  dsimp only
  rw [show xs.map (fun x => I (g x)) = (xs.map g).map I by simp, intsOf_map]; rfl
theorem sum_tu {g : α → Int} : dSum (Tu (fun x => I (g x)) xs) = some (.int (xs.map g).sum) := by
  unfold dSum Tu seqOf
  dsimp only
  rw [show xs.map (fun x => I (g x)) = (xs.map g).map I by simp, intsOf_map]; rfl
theorem all_li {g : α → Bool} : dAll (Li (fun x => .bool (g x)) xs) = some (.bool (xs.all g)) := by
  unfold dAll Li
  dsimp only
  rw [show xs.map (fun x => PyData.bool (g x)) = (xs.map g).map PyData.bool by simp, boolsOf_map]
  simp [List.all_map, Function.comp_def]
theorem tup_li : dTup (Li f xs) = some (Tu f xs) := rfl
theorem tup_tu : dTup (Tu f xs) = some (Tu f xs) := rfl
end
theorem cut_take {xs : List D} {k : Nat} : cutD xs none (some (k : Int)) = xs.take k := by
  unfold cutD
  rw [HT.sIx_nat, HT.sIx_none]
  simp only [Nat.sub_zero, List.drop_zero]
  rcases Nat.le_total k xs.length with h | h
  · rw [Nat.min_eq_left h]
  · rw [Nat.min_eq_right h, List.take_of_length_le (Nat.le_refl _), List.take_of_length_le h]
theorem cut_drop {xs : List D} {k : Nat} : cutD xs (some (k : Int)) none = xs.drop k := by
  unfold cutD
  rw [HT.sIx_nat, HT.sIx_none]
  rcases Nat.le_total k xs.length with h | h
  · rw [Nat.min_eq_left h, List.take_of_length_le (by simp)]
  · rw [Nat.min_eq_right h, List.drop_of_length_le (Nat.le_refl _), List.drop_of_length_le h]; simp
section
variable {α : Type} {f : α → D} {xs ys : List α}
theorem sl_take {k : Nat} : dSl (Tu f xs) none (some (k : Int)) = some (Tu f (xs.take k)) := by
  show some (PyData.tuple (cutD (xs.map f) none (some (k : Int)))) = _
  rw [cut_take, ← List.map_take]; rfl
theorem sl_drop {k : Nat} : dSl (Tu f xs) (some (k : Int)) none = some (Tu f (xs.drop k)) := by
  show some (PyData.tuple (cutD (xs.map f) (some (k : Int)) none)) = _
  rw [cut_drop, ← List.map_drop]; rfl
theorem add_tu (h : xs.length + ys.length ≤ szL) : dAdd (Tu f xs) (Tu f ys) = some (Tu f (xs ++ ys)) := by
  show (if (xs.map f).length + (ys.map f).length ≤ szL then some (PyData.tuple (xs.map f ++ ys.map f)) else none) = _
  rw [if_pos (by simpa using h), ← List.map_append]; rfl
theorem add_li (h : xs.length + ys.length ≤ szL) : dAdd (Li f xs) (Li f ys) = some (Li f (xs ++ ys)) := by
  show (if (xs.map f).length + (ys.map f).length ≤ szL then some (PyData.list (xs.map f ++ ys.map f)) else none) = _
  rw [if_pos (by simpa using h), ← List.map_append]; rfl
theorem tup1 {x : α} : PyData.tuple [f x] = Tu f [x] := rfl
theorem tup0 : PyData.tuple [] = Tu f ([] : List α) := rfl
theorem sub_nn {a b : Nat} (h : b ≤ a) : dSub (Nn a) (Nn b) = some (Nn (a - b)) := by
  show some (PyData.int ((a : Int) - (b : Int))) = some (.int ((a - b : Nat) : Int))
  rw [Int.ofNat_sub h]
theorem add_nn {a b : Nat} : dAdd (Nn a) (Nn b) = some (Nn (a + b)) := rfl
end
theorem add_n1 {k : Nat} : dAdd (.int (k : Int)) (.int 1) = some (Nn (k + 1)) := rfl
theorem sub_n1 {k : Nat} (h : 1 ≤ k) : dSub (.int (k : Int)) (.int 1) = some (Nn (k - 1)) := by
  show some (PyData.int ((k : Int) - 1)) = some (.int ((k - 1 : Nat) : Int))
  rw [Int.ofNat_sub h]; rfl
section
variable {α β : Type} {f : α → D} {g : β → D} {xs : List α} {ys : List β} {s s1 s2 : ES}
theorem getD_some [Inhabited α] {n : Nat} (h : n < xs.length) : xs[n]? = some (xs.getD n default) := by
  rw [List.getD_eq_getElem?_getD, List.getElem?_eq_getElem h]; rfl
theorem ix_tu' [Inhabited α] {n : Nat} (h : n < xs.length) : dIx (Tu f xs) (.int (n : Int)) = some (f (xs.getD n default)) := ix_tu (getD_some h)
theorem ix_li' [Inhabited α] {n : Nat} (h : n < xs.length) : dIx (Li f xs) (.int (n : Int)) = some (f (xs.getD n default)) := ix_li (getD_some h)
theorem ix_tu0 [Inhabited α] (h : 0 < xs.length) : dIx (Tu f xs) (.int 0) = some (f (xs.getD 0 default)) := ix_tu (n := 0) (getD_some h)
theorem ix_li0 [Inhabited α] (h : 0 < xs.length) : dIx (Li f xs) (.int 0) = some (f (xs.getD 0 default)) := ix_li (n := 0) (getD_some h)
theorem ix_rng {f : Nat → D} {k n : Nat} (h : k < n) : dIx (Li f (List.range n)) (.int (k : Int)) = some (f k) := ix_li (by rw [List.getElem?_range h])
theorem ev_M' {m : Mo (List D)} (h : m s = .ok (xs.map f) s1) : eM m s = .ok (.d (Li f xs)) s1 := ev_M h
theorem w_zip' {fs : Mo (List Ref)} {qs : List Ref} {x y : D} (h1 : fs s = .ok qs s1) (h2 : durs qs s1 = .ok [x, y] s2) (h3 : seqOf x = some (xs.map f)) (h4 : seqOf y = some (ys.map g)) : iZip fs s = .ok ((xs.zip ys).map (P2 f g)) s2 := by
  rw [w_zip h1 h2 h3 h4, zipD_map]
theorem w_enum' {fs : Mo (List Ref)} {qs : List Ref} {x : D} (h1 : fs s = .ok qs s1) (h2 : durs qs s1 = .ok [x] s2) (h3 : seqOf x = some (xs.map f)) : iEnum fs s = .ok (((List.range' 0 xs.length).zip xs).map (P2 Nn f)) s2 := by
  rw [w_enum h1 h2 h3, enumD_map]
theorem eqv_int {a b : Int} : PyData.eqv (.int a) (.int b) = (a == b) := by simp [PyData.eqv]
theorem in_tuN {x : Nat} {xs : List Nat} : dIn (Nn x) (Tu Nn xs) = some (.bool (xs.contains x)) := by
  unfold dIn dInB Tu
  dsimp only
  have h : ((flatD (Nn x) && (xs.map Nn).all flatD) = true) := by
    rw [Bool.and_eq_true]
    exact ⟨rfl, by rw [List.all_map]; exact List.all_eq_true.mpr fun _ _ => rfl⟩
  rw [if_pos h]
  simp only [Option.map_some]
  congr 2
  rw [List.any_map, Bool.eq_iff_iff, List.any_eq_true, List.contains_iff_mem]
  constructor
  · rintro ⟨y, hy, e⟩
    have e : (((y : Int) == (x : Int)) = true) := by rw [← eqv_int]; exact e
    have e2 : (y : Int) = (x : Int) := by simpa using e
    have : y = x := by omega
    rw [← this]; exact hy
  · intro h
    exact ⟨x, h, by show PyData.eqv (.int x) (.int x) = true; rw [eqv_int]; simp⟩
theorem lt_nn {a b : Nat} : dLt (Nn a) (Nn b) = some (.bool (decide (a < b))) := by
  show some (PyData.bool (decide ((a : Int) < (b : Int)))) = _
  congr 2
  simp
end
theorem small_of_le {ds : List D} (h : ds.length ≤ szL) : small ds = true := decide_eq_true (by rw [szL_eq]; exact h)
/-! ### least and greatest of ints -/
theorem fn_ok {n m : Nat} {g : ES → SR} {ds : List D} {d : D} {T : Ext} (hl : ds.length = m) (h : g (startE n ds) = .rt d T) : mkFn n m g ds = .ok d := by unfold mkFn; rw [if_pos hl, h]
theorem fn_nx {n m : Nat} {g : ES → SR} {ds : List D} {s : ES} (hl : ds.length = m) (h : g (startE n ds) = .nx s) : mkFn n m g ds = .ok .none := by unfold mkFn; rw [if_pos hl, h]
end Ev
set_option Elab.async false
set_option linter.all false
set_option maxRecDepth 100000
set_option maxHeartbeats 4000000
/-! Ev16: == and < on data of a form; least, greatest, index, in -/
namespace Ev
open PySem L2
/-- a form in which == says equal, of depth k at most, whose data can be compared -/
structure EncOk {α : Type} [DecidableEq α] (f : α → D) (k : Nat) : Prop where
  can : ∀ a, (f a).canLay0 = true
  dep : ∀ a, (f a).depth ≤ k
  eqv : ∀ a b, PyData.eqv (f a) (f b) = decide (a = b)
  al : ∀ a b, PySem.W.alike (f a) (f b) = true
  nn : ∀ a, isNone (f a) = false
/-- < on the form -/
def LtOk {α : Type} (f : α → D) (lt : α → α → Bool) : Prop := ∀ a b, PySem.W.dataLt (f a) (f b) = lt a b
theorem enc_I : EncOk I 0 := ⟨fun _ => rfl, fun _ => Nat.le_refl _, fun a b => by rw [eqv_int, Bool.eq_iff_iff]; simp, fun a b => by simp only [I, PySem.W.alike], fun _ => rfl⟩
theorem enc_N : EncOk Nn 0 := ⟨fun _ => rfl, fun _ => Nat.le_refl _, fun a b => by rw [eqv_int, Bool.eq_iff_iff, beq_iff_eq, decide_eq_true_eq]; omega, fun a b => by simp only [Nn, PySem.W.alike], fun _ => rfl⟩
theorem lt_I : LtOk I (fun a b => decide (a < b)) := fun a b => PySem.W.dataLt_int a b
theorem lt_N : LtOk Nn (fun a b => decide (a < b)) := fun a b => (PySem.W.dataLt_int a b).trans (by simp)
section
variable {α β : Type} [DecidableEq α] [DecidableEq β] {f : α → D} {g : β → D} {k l : Nat} {lf : α → α → Bool} {lg : β → β → Bool}
theorem can_map (E : EncOk f k) : ∀ xs : List α, PyData.canLayAll0 (xs.map f) = true
  | [] => rfl
  | x :: xs => by rw [List.map_cons, PyData.canLayAll0, E.can x, can_map E xs]; rfl
theorem dep_map (E : EncOk f k) : ∀ xs : List α, PyData.depthAll (xs.map f) ≤ k
  | [] => Nat.zero_le _
  | x :: xs => by rw [List.map_cons, PyData.depthAll]; exact Nat.max_le.mpr ⟨E.dep x, dep_map E xs⟩
theorem eqv_map (E : EncOk f k) : ∀ xs ys : List α, PyData.eqvAll (xs.map f) (ys.map f) = decide (xs = ys)
  | [], [] => rfl
  | [], _ :: _ => by simp [PyData.eqvAll]
  | _ :: _, [] => by simp [PyData.eqvAll]
  | x :: xs, y :: ys => by
    rw [List.map_cons, List.map_cons, PyData.eqvAll, E.eqv, eqv_map E xs ys]
    by_cases h1 : x = y <;> by_cases h2 : xs = ys <;> simp [h1, h2]
theorem al_map (E : EncOk f k) : ∀ xs ys : List α, PySem.W.alikeAll (xs.map f) (ys.map f) = true
  | [], _ => by rw [List.map_nil, PySem.W.alikeAll]
  | _ :: _, [] => by rw [List.map_nil, List.map_cons, PySem.W.alikeAll]
  | x :: xs, y :: ys => by rw [List.map_cons, List.map_cons, PySem.W.alikeAll, E.al x y, al_map E xs ys]; rfl
theorem enc_Tu (E : EncOk f k) : EncOk (Tu f) (k + 1) := by
  refine ⟨fun xs => can_map E xs, fun xs => ?_, fun a b => ?_, fun a b => ?_, fun _ => rfl⟩
  · show PyData.depth (.tuple (xs.map f)) ≤ k + 1
    rw [PyData.depth]
    exact Nat.succ_le_succ (dep_map E xs)
  · show PyData.eqv (.tuple (a.map f)) (.tuple (b.map f)) = _
    rw [PyData.eqv, eqv_map E]
  · show PySem.W.alike (.tuple (a.map f)) (.tuple (b.map f)) = _
    rw [PySem.W.alike, al_map E]
theorem enc_Li (E : EncOk f k) : EncOk (Li f) (k + 1) := by
  refine ⟨fun xs => can_map E xs, fun xs => ?_, fun a b => ?_, fun a b => ?_, fun _ => rfl⟩
  · show PyData.depth (.list (xs.map f)) ≤ k + 1
    rw [PyData.depth]
    exact Nat.succ_le_succ (dep_map E xs)
  · show PyData.eqv (.list (a.map f)) (.list (b.map f)) = _
    rw [PyData.eqv, eqv_map E]
  · show PySem.W.alike (.list (a.map f)) (.list (b.map f)) = _
    rw [PySem.W.alike, al_map E]
theorem enc_P2 (E : EncOk f k) (F : EncOk g l) : EncOk (P2 f g) (max k l + 1) := by
  refine ⟨fun p => ?_, fun p => ?_, fun p q => ?_, fun p q => ?_, fun _ => rfl⟩
  · show PyData.canLayAll0 [f p.1, g p.2] = true
    rw [PyData.canLayAll0, PyData.canLayAll0, PyData.canLayAll0, E.can, F.can]; rfl
  · show PyData.depth (.tuple [f p.1, g p.2]) ≤ _
    rw [PyData.depth, PyData.depthAll, PyData.depthAll, PyData.depthAll]
    have := E.dep p.1
    have := F.dep p.2
    omega
  · show PyData.eqv (.tuple [f p.1, g p.2]) (.tuple [f q.1, g q.2]) = _
    rw [PyData.eqv, PyData.eqvAll, PyData.eqvAll, PyData.eqvAll, E.eqv, F.eqv]
    obtain ⟨a, b⟩ := p
    obtain ⟨c, d⟩ := q
    by_cases h1 : a = c <;> by_cases h2 : b = d <;> simp [h1, h2]
  · show PySem.W.alike (.tuple [f p.1, g p.2]) (.tuple [f q.1, g q.2]) = _
    simp only [PySem.W.alike, PySem.W.alikeAll, E.al, F.al, Bool.and_self]
/-- the first difference decides, else the shorter is the less -/
def lexB (lt : α → α → Bool) : List α → List α → Bool
  | [], [] => false
  | [], _ :: _ => true
  | _ :: _, [] => false
  | x :: xs, y :: ys => if x = y then lexB lt xs ys else lt x y
def lexP (lf : α → α → Bool) (lg : β → β → Bool) (p q : α × β) : Bool := if p.1 = q.1 then lg p.2 q.2 else lf p.1 q.1
theorem lexAll_map (E : EncOk f k) (L : LtOk f lf) : ∀ xs ys : List α, PyProof.Rows.lexLt PyProof.Rows.itemOrd (PySem.W.keyToksAll (xs.map f)) (PySem.W.keyToksAll (ys.map f)) = lexB lf xs ys
  | [], [] => PyProof.Rows.lex_irrefl _
  | [], y :: ys => by
    rw [List.map_nil, List.map_cons, PySem.W.toks_all_cons]
    simp only [PySem.W.keyToksAll]
    rw [PyProof.Rows.lex_diff (O := PyProof.Rows.itemOrd) (by simp)]
    rfl
  | x :: xs, [] => by
    rw [List.map_nil, List.map_cons, PySem.W.toks_all_cons]
    simp only [PySem.W.keyToksAll]
    rw [PyProof.Rows.lex_diff (O := PyProof.Rows.itemOrd) (by simp)]
    rfl
  | x :: xs, y :: ys => by
    rw [List.map_cons, List.map_cons, lexB]
    by_cases h : x = y
    · rw [if_pos h, PySem.W.dataLt_all_yes (E.al x y) (by rw [E.eqv, decide_eq_true_eq]; exact h), lexAll_map E L xs ys]
    · rw [if_neg h, PySem.W.dataLt_all_no (E.al x y) (by rw [E.eqv, decide_eq_false_iff_not]; exact h)]
      exact L x y
theorem lt_Tu (E : EncOk f k) (L : LtOk f lf) : LtOk (Tu f) (lexB lf) := fun xs ys => (PySem.W.dataLt_tuple _ _).trans (lexAll_map E L xs ys)
theorem lt_Li (E : EncOk f k) (L : LtOk f lf) : LtOk (Li f) (lexB lf) := fun xs ys => (PySem.W.dataLt_list _ _).trans (lexAll_map E L xs ys)
theorem lt_P2 (E : EncOk f k) (L : LtOk f lf) (F : EncOk g l) (M : LtOk g lg) : LtOk (P2 f g) (lexP lf lg) := fun p q => by
  refine (PySem.W.dataLt_tuple _ _).trans ?_
  unfold lexP
  by_cases h : p.1 = q.1
  · rw [if_pos h, PySem.W.dataLt_all_yes (E.al p.1 q.1) (by rw [E.eqv, decide_eq_true_eq]; exact h)]
    by_cases h2 : p.2 = q.2
    · rw [PySem.W.dataLt_all_yes (F.al p.2 q.2) (by rw [F.eqv, decide_eq_true_eq]; exact h2), PyProof.Rows.lex_irrefl, h2]
      exact ((PyProof.Rows.lex_irrefl _).symm.trans (M q.2 q.2))
    · rw [PySem.W.dataLt_all_no (F.al p.2 q.2) (by rw [F.eqv, decide_eq_false_iff_not]; exact h2)]
      exact M p.2 q.2
  · rw [if_neg h, PySem.W.dataLt_all_no (E.al p.1 q.1) (by rw [E.eqv, decide_eq_false_iff_not]; exact h)]
    exact L p.1 q.1
theorem shaped_enc (E : EncOk f k) (hk : k ≤ 64) (a : α) : SeqAt.shaped (f a) = true := by
  unfold SeqAt.shaped
  rw [E.can, Bool.true_and, decide_eq_true_eq]
  exact Nat.le_trans (E.dep a) hk
/-! ### ==, in, index -/
theorem eq_enc (E : EncOk f k) {a b : α} (hk : k ≤ 64 := by decide) : dEq (f a) (f b) = some (.bool (decide (a = b))) := by
  unfold dEq dEqB; rw [shaped_enc E hk, shaped_enc E hk, if_pos (by rfl), E.eqv]; rfl
theorem ne_enc (E : EncOk f k) {a b : α} (hk : k ≤ 64 := by decide) : dNe (f a) (f b) = some (.bool (!decide (a = b))) := by
  unfold dNe dEqB; rw [shaped_enc E hk, shaped_enc E hk, if_pos (by rfl), E.eqv]; rfl
theorem ne_self {d : D} (h : SeqAt.shaped d = true) : dNe d d = some (.bool false) := by
  unfold dNe dEqB
  rw [h, if_pos (by rfl), PySem.SeqAt.eqv_refl d (SeqAt.canLay_of_shaped h)]; rfl
theorem any_enc (E : EncOk f k) (a : α) : ∀ xs : List α, ((xs.map f).any fun z => PyData.eqv z (f a)) = decide (a ∈ xs)
  | [] => rfl
  | x :: xs => by
    rw [List.map_cons, List.any_cons, E.eqv, any_enc E a xs, Bool.eq_iff_iff]
    simp only [Bool.or_eq_true, decide_eq_true_eq, List.mem_cons]
    constructor
    · rintro (h | h)
      · exact .inl h.symm
      · exact .inr h
    · rintro (h | h)
      · exact .inl h.symm
      · exact .inr h
theorem in_li (E : EncOk f k) {a : α} {xs : List α} (hk : k + 1 ≤ 64 := by decide) : dIn (f a) (Li f xs) = some (.bool (decide (a ∈ xs))) := by
  have h2 : SeqAt.shaped (.list (xs.map f)) = true := shaped_enc (enc_Li E) hk xs
  unfold dIn dInB Li
  dsimp only
  rw [shaped_enc E (by omega), h2, if_pos (by rfl), any_enc E]; rfl
theorem notin_li (E : EncOk f k) {a : α} {xs : List α} (hk : k + 1 ≤ 64 := by decide) : dNotIn (f a) (Li f xs) = some (.bool (!decide (a ∈ xs))) := by
  have h2 : SeqAt.shaped (.list (xs.map f)) = true := shaped_enc (enc_Li E) hk xs
  unfold dNotIn dInB Li
  dsimp only
  rw [shaped_enc E (by omega), h2, if_pos (by rfl), any_enc E]; rfl
theorem firstD_enc (E : EncOk f k) (a : α) : ∀ (xs : List α) (n : Nat), a ∈ xs → firstD (f a) (xs.map f) n = some (n + xs.idxOf a)
  | [], _, h => by cases h
  | x :: xs, n, h => by
    rw [List.map_cons]
    unfold firstD
    rw [E.eqv]
    by_cases e : x = a
    · subst e
      rw [if_pos (by simp), List.idxOf_cons_self]; rfl
    · rw [if_neg (by simpa using e), firstD_enc E a xs (n + 1) (by rcases List.mem_cons.mp h with h | h; exact absurd h.symm e; exact h), List.idxOf_cons]
      rw [show (x == a) = false by simpa using e]
      simp only [cond_false]
      congr 1; omega
theorem index_li (E : EncOk f k) {a : α} {xs : List α} (h : a ∈ xs) (hk : k + 1 ≤ 64 := by decide) : dIndex (Li f xs) (f a) = some (Nn (xs.idxOf a)) := by
  have h2 : SeqAt.shaped (.list (xs.map f)) = true := shaped_enc (enc_Li E) hk xs
  show (if (SeqAt.shaped (.list (xs.map f)) && SeqAt.shaped (f a)) = true then (firstD (f a) (xs.map f) 0).map fun n => PyData.int (n : Int) else none) = _
  rw [shaped_enc E (by omega), h2, if_pos (by rfl), firstD_enc E a xs 0 h, Nat.zero_add]; rfl
/-! ### least and greatest -/
/-- the first of the least -/
def lst [Inhabited α] (lt : α → α → Bool) : List α → α
  | [] => default
  | x :: r => r.foldl (fun a y => if lt y a then y else a) x
/-- the first of the greatest -/
def mst [Inhabited α] (lt : α → α → Bool) : List α → α
  | [] => default
  | x :: r => r.foldl (fun a y => if lt a y then y else a) x
theorem minD_enc (L : LtOk f lf) : ∀ (xs : List α) (x : α), PySem.W.minD (f x) (xs.map f) = f (xs.foldl (fun a y => if lf y a then y else a) x)
  | [], _ => rfl
  | y :: ys, x => by
    rw [List.foldl_cons, ← minD_enc L ys]
    unfold PySem.W.minD
    rw [List.map_cons, List.foldl_cons, L y x]
    cases lf y x <;> rfl
theorem maxD_enc (L : LtOk f lf) : ∀ (xs : List α) (x : α), PySem.W.maxD (f x) (xs.map f) = f (xs.foldl (fun a y => if lf a y then y else a) x)
  | [], _ => rfl
  | y :: ys, x => by
    rw [List.foldl_cons, ← maxD_enc L ys]
    unfold PySem.W.maxD
    rw [List.map_cons, List.foldl_cons, L x y]
    cases lf x y <;> rfl
theorem canLt_enc (E : EncOk f k) (hk : k ≤ 64) (xs : List α) : canLt (xs.map f) = true := by
  unfold canLt allAlike
  rw [Bool.and_eq_true, Bool.and_eq_true, decide_eq_true_eq, List.all_map, List.all_map, List.all_eq_true, List.all_eq_true]
  refine ⟨⟨fun x hx => ?_, fun x hx => ?_⟩, Nat.le_trans (dep_map E xs) hk⟩
  · show ((xs.map f).all fun b => PySem.W.alike (f x) b) = true
    rw [List.all_map, List.all_eq_true]
    exact fun y hy => E.al x y
  · show (!isNone (f x)) = true
    rw [E.nn]; rfl
theorem min_li [Inhabited α] (E : EncOk f k) (L : LtOk f lf) {xs : List α} (h : xs ≠ []) (hk : k ≤ 64 := by decide) : dMin (Li f xs) = some (f (lst lf xs)) := by
  show (if canLt (xs.map f) then leastD (xs.map f) else none) = _
  rw [canLt_enc E hk, if_pos rfl]
  cases xs with
  | nil => exact absurd rfl h
  | cons x r => show some (PySem.W.minD (f x) (r.map f)) = _; rw [minD_enc L]; rfl
theorem min_tu [Inhabited α] (E : EncOk f k) (L : LtOk f lf) {xs : List α} (h : xs ≠ []) (hk : k ≤ 64 := by decide) : dMin (Tu f xs) = some (f (lst lf xs)) := min_li E L h hk
theorem max_li [Inhabited α] (E : EncOk f k) (L : LtOk f lf) {xs : List α} (h : xs ≠ []) (hk : k ≤ 64 := by decide) : dMax (Li f xs) = some (f (mst lf xs)) := by
  show (if canLt (xs.map f) then mostD (xs.map f) else none) = _
  rw [canLt_enc E hk, if_pos rfl]
  cases xs with
  | nil => exact absurd rfl h
  | cons x r => show some (PySem.W.maxD (f x) (r.map f)) = _; rw [maxD_enc L]; rfl
theorem max_tu [Inhabited α] (E : EncOk f k) (L : LtOk f lf) {xs : List α} (h : xs ≠ []) (hk : k ≤ 64 := by decide) : dMax (Tu f xs) = some (f (mst lf xs)) := max_li E L h hk
theorem lst_mem [Inhabited α] {xs : List α} (h : xs ≠ []) : lst lf xs ∈ xs := by
  cases xs with
  | nil => exact absurd rfl h
  | cons x r => exact foldl_in (fun m y => lf y m) r x
theorem mst_mem [Inhabited α] {xs : List α} (h : xs ≠ []) : mst lf xs ∈ xs := by
  cases xs with
  | nil => exact absurd rfl h
  | cons x r => exact foldl_in (fun m y => lf m y) r x
end
/-! ### least int -/
abbrev ltI : Int → Int → Bool := fun a b => decide (a < b)
abbrev ltN : Nat → Nat → Bool := fun a b => decide (a < b)
theorem lst_le {xs : List Int} : ∀ y ∈ xs, lst ltI xs ≤ y := by
  cases xs with
  | nil => intro y h; cases h
  | cons x r =>
    have : ∀ (r : List Int) (x : Int), (r.foldl (fun a y => if ltI y a then y else a) x) ≤ x ∧ ∀ y ∈ r, (r.foldl (fun a y => if ltI y a then y else a) x) ≤ y := by
      intro r
      induction r with
      | nil => intro x; exact ⟨Int.le_refl _, fun y h => by cases h⟩
      | cons z r ih =>
        intro x
        rw [List.foldl_cons]
        by_cases e : z < x
        · rw [if_pos (by simpa using e)]
          have := ih z
          exact ⟨by omega, fun y hy => by rcases List.mem_cons.mp hy with rfl | hy; exact this.1; exact this.2 y hy⟩
        · rw [if_neg (by simpa using e)]
          have := ih x
          exact ⟨this.1, fun y hy => by rcases List.mem_cons.mp hy with rfl | hy; omega; exact this.2 y hy⟩
    intro y hy
    rcases List.mem_cons.mp hy with rfl | hy
    · exact (this r y).1
    · exact (this r x).2 y hy
theorem sum_tuI {xs : List Int} : dSum (Tu I xs) = some (I xs.sum) := by
  have := sum_tu (xs := xs) (g := fun x => x)
  rw [List.map_id'] at this
  exact this
theorem sum_liI {xs : List Int} : dSum (Li I xs) = some (I xs.sum) := sum_tuI
end Ev
set_option Elab.async false
set_option linter.all false
set_option maxRecDepth 100000
set_option maxHeartbeats 4000000
/-! Ev17: own lists, while, ranges -/
namespace Ev
open PySem L2
section
variable {s s1 s2 s3 : ES} {f g h fi : Mo Ref} {fs : Mo (List Ref)} {a b c d r x y : D} {p : D → D → Option D} {i : Nat} {ds ds2 xs ys : List D} {qs : List Ref}
theorem ixN_nat {n L : Nat} (h : n < L) : ixN L (n : Int) = some n := by
  unfold ixN
  rw [if_pos (by omega), if_pos (by omega)]
  simp
theorem ownAt_of (ho : s.σ[i]? = some (some (.own ds))) : ownAtS i s = true := by unfold ownAtS; rw [ho]
theorem st_augix {n : Nat} (ho : s.σ[i]? = some (some (.own ds))) (h1 : fi s = .ok (.d (.int (n : Int))) s) (hx : ds[n]? = some x) (h2 : f s = .ok (.d y) s) (hp : p x y = some d) : sAugIx i p fi f s = .nx (put i (.own (ds.set n d)) s) := by
  have hn : n < ds.length := by
    rcases Nat.lt_or_ge n ds.length with h | h
    · exact h
    · rw [List.getElem?_eq_none h] at hx; cases hx
  unfold sAugIx
  rw [if_pos (ownAt_of ho)]
  unfold sE
  rw [h1]
  dsimp only [rd]
  rw [ho]
  dsimp only
  rw [ixN_nat hn]
  dsimp only
  rw [hx]
  dsimp only
  rw [h2]
  dsimp only [rd]
  rw [hp, ho]
  dsimp only
  rw [ixN_nat hn]
theorem ev_meth {op : MOp} (h0 : ownAtS i s = true) (h1 : fs s = .ok qs s1) (h2 : durs qs s1 = .ok ds s2) (h3 : s2.σ[i]? = some (some (.own xs))) (h4 : op xs ds = some (r, ys)) : eMethN i op fs s = .ok (.d r) (put i (.own ys) s2) := by
  unfold eMethN
  rw [if_pos h0]
  unfold eMeth bnd
  rw [h1]; dsimp only; rw [h2]; dsimp only; rw [h3]; dsimp only; rw [h4]
theorem m_lst (h1 : fs s = .ok qs s1) (h2 : durs qs s1 = .ok ds s2) (h3 : ds.length ≤ szL) : mLst fs s = .ok ds s2 := by
  unfold mLst bnd
  rw [h1]; dsimp only; rw [h2]; dsimp only; unfold guard; rw [small_of_le h3]; rfl
theorem m_bin {q : D → D → Option (List D)} (h1 : f s = .ok (.d a) s1) (h2 : g s1 = .ok (.d b) s2) (h3 : q a b = some ds) : mBin q f g s = .ok ds s2 := by
  unfold mBin bnd
  rw [h1]; dsimp only; rw [h2]; dsimp only [rd]; unfold liftL; rw [h3]
end
/-! ### while -/
def runW {α : Type} (t : α → Bool) (nx : α → α) : Nat → α → α
  | 0, a => a
  | n + 1, a => if t a then runW t nx n (nx a) else a
theorem while_inv {α : Type} {ft : Mo Bool} {g : ES → SR} {P : α → ES → Prop} {t : α → Bool} {nx : α → α} {μ : α → Nat} (ht : ∀ a s, P a s → ft s = .ok (t a) s) (hs : ∀ a s, P a s → t a = true → ∃ s2, g s = .nx s2 ∧ P (nx a) s2 ∧ μ (nx a) < μ a) :
    ∀ (n : Nat) (a : α) (s : ES), P a s → μ a < n → ∃ s', whileF ft g n s = .nx s' ∧ P (runW t nx n a) s' ∧ t (runW t nx n a) = false
  | 0, a, s, _, h => absurd h (Nat.not_lt_zero _)
  | n + 1, a, s, p, h => by
    unfold whileF sE runW
    rw [ht a s p]
    cases e : t a with
    | false => exact ⟨s, rfl, p, e⟩
    | true =>
      obtain ⟨s2, e2, p2, hm⟩ := hs a s p e
      obtain ⟨s', e3, p3, e4⟩ := while_inv ht hs n (nx a) s2 p2 (by omega)
      refine ⟨s', ?_, p3, e4⟩
      dsimp only
      rw [if_pos rfl, e2]
      exact e3
/-! ### lists as ranges -/
theorem range_self {α : Type} [Inhabited α] (xs : List α) : xs = (List.range xs.length).map fun k => xs.getD k default := by
  apply List.ext_getElem?
  intro k
  rw [List.getElem?_map]
  rcases Nat.lt_or_ge k xs.length with h | h
  · rw [List.getElem?_range h, getD_some h]; rfl
  · rw [List.getElem?_eq_none h, List.getElem?_eq_none (by simpa using h)]; rfl
theorem zip_range {α β : Type} [Inhabited α] [Inhabited β] {xs : List α} {ys : List β} {n : Nat} (h1 : xs.length = n) (h2 : ys.length = n) : xs.zip ys = (List.range n).map fun k => (xs.getD k default, ys.getD k default) := by
  apply List.ext_getElem?
  intro k
  rw [List.getElem?_map]
  rcases Nat.lt_or_ge k n with h | h
  · have q1 : xs[k]? = some (xs.getD k default) := getD_some (by omega)
    have q2 : ys[k]? = some (ys.getD k default) := getD_some (by omega)
    rw [List.getElem?_range h, (List.getElem?_zip_eq_some (z := (xs.getD k default, ys.getD k default))).mpr ⟨q1, q2⟩]; rfl
  · rw [List.getElem?_eq_none (by rw [List.length_zip]; omega), List.getElem?_eq_none (by simpa using h)]; rfl
theorem enum_range {α : Type} [Inhabited α] {xs : List α} {n : Nat} (h2 : xs.length = n) : (List.range' 0 xs.length).zip xs = (List.range n).map fun k => (k, xs.getD k default) := by
  rw [h2, zip_range (n := n) (by simp) h2]
  apply List.map_congr_left
  intro k hk
  rw [List.mem_range] at hk
  rw [List.getD_eq_getElem?_getD, List.getElem?_range' hk]
  simp
theorem set_range {n k : Nat} {f : Nat → D} {d : D} : ((List.range n).map f).set k d = (List.range n).map fun j => if j = k then d else f j := by
  apply List.ext_getElem?
  intro j
  rw [List.getElem?_set, List.getElem?_map, List.getElem?_map]
  rcases Nat.lt_or_ge j n with h | h
  · rw [List.getElem?_range h]
    by_cases e : k = j
    · subst e; rw [if_pos rfl, if_pos (by simpa using h)]; simp
    · rw [if_neg e]; rw [Option.map_some, Option.map_some, if_neg fun q : j = k => e q.symm]
  · rw [List.getElem?_eq_none (by simpa using h)]
    by_cases e : k = j
    · subst e; rw [if_pos rfl, if_neg (by simpa using h)]; rfl
    · rw [if_neg e]; rfl
theorem flat_rep {d : D} : ∀ n : Nat, (List.replicate n [d]).flatten = (List.range n).map fun _ => d := by
  intro n
  rw [List.map_const', List.length_range]
  induction n with
  | zero => rfl
  | succ n ih => rw [List.replicate_succ, List.flatten_cons, ih, List.replicate_succ]; rfl
theorem rep_range {d : D} {n : Nat} (h : n ≤ szL) : dMulM (.list [d]) (.int (n : Int)) = some ((List.range n).map fun _ => d) := by
  unfold dMulM
  dsimp only
  have hs : (szL : Nat) ≤ 1000000000 := by simp [szL]
  have : repOk [d].length (n : Int) = true := by
    unfold repOk
    rw [Bool.and_eq_true, Bool.and_eq_true, decide_eq_true_eq, decide_eq_true_eq, decide_eq_true_eq, Int.toNat_natCast, List.length_singleton, Nat.one_mul]
    exact ⟨⟨by omega, by omega⟩, h⟩
  rw [if_pos this, Int.toNat_natCast, flat_rep]
theorem ne_nn {a b : Nat} (h : a = b) : dNe (.int (a : Int)) (.int (b : Int)) = some (.bool false) := by
  subst h
  exact ne_self rfl
theorem w_r1m {f : Mo Ref} {s s1 : ES} {n : Nat} (h1 : f s = .ok (.d (.int ((n : Int) - 1))) s1) (h2 : n < 4611686018427387904) : iR1 f s = .ok ((List.range (n - 1)).map Nn) s1 := by
  cases n with
  | zero =>
    unfold iR1 bnd
    rw [h1]
    rfl
  | succ m =>
    apply w_r1 (n := m)
    · rw [h1]
      congr 3
      omega
    · omega
/-! ### for, then the rest -/
section
variable {α β : Type} {fi : Mo (List D)} {pt : Pat} {body K : ES → SR} {enc : α → D} {P : β → ES → Prop} {f : β → α → β} {xs : List α} {b : β} {s s1 : ES} {r : SR}
theorem st_forI (P : β → ES → Prop) (f : β → α → β) (b : β) (h1 : fi s = .ok (xs.map enc) s) (h0 : P b s) (hs : ∀ b s x, x ∈ xs → P b s → ∃ s1 s2, pt (enc x) s = some s1 ∧ (body s1 = .nx s2 ∨ body s1 = .ct s2) ∧ P (f b x) s2)
    (k : ∀ s', P (xs.foldl f b) s' → K s' = r) : sSeq (sFor fi pt body) K s = r := by
  obtain ⟨s', e, p⟩ := for_inv xs b s h0 hs
  exact st_seq' (st_for' h1 e) (k s' p)
theorem st_forN (P : β → ES → Prop) (f : β → α → β) (b : β) (h1 : fi s = .ok (xs.map enc) s) (h0 : P b s) (hs : ∀ b s x, x ∈ xs → P b s → ∃ s1 s2, pt (enc x) s = some s1 ∧ (body s1 = .nx s2 ∨ body s1 = .ct s2) ∧ P (f b x) s2) :
    ∃ s', sFor fi pt body s = .nx s' ∧ P (xs.foldl f b) s' := by
  obtain ⟨s', e, p⟩ := for_inv xs b s h0 hs
  exact ⟨s', st_for' h1 e, p⟩
theorem st_seqN {u v : ES → SR} {Q : ES → Prop} (h1 : u s = .nx s1) (h2 : ∃ s', v s1 = .nx s' ∧ Q s') : ∃ s', sSeq u v s = .nx s' ∧ Q s' := by
  obtain ⟨s', e, q⟩ := h2
  exact ⟨s', st_seq' h1 e, q⟩
end
theorem st_iff {t : Mo Bool} {u v : ES → SR} {s s1 : ES} {r : SR} {k : Bool} (h1 : t s = .ok k s1) (hk : k = false) (h2 : v s1 = r) : sIf t u v s = r := st_ifF' (hk ▸ h1) h2
theorem st_ift {t : Mo Bool} {u v : ES → SR} {s s1 : ES} {r : SR} {k : Bool} (h1 : t s = .ok k s1) (hk : k = true) (h2 : u s1 = r) : sIf t u v s = r := st_ifT' (hk ▸ h1) h2
theorem ex_nx {u : ES → SR} {s s' : ES} (h : u s = .nx s') : ∃ s', u s = .nx s' ∧ True := ⟨s', h, True.intro⟩
theorem for_stp {pt : Pat} {body : ES → SR} {d : D} {s s1 s2 : ES} {P : ES → Prop} (h1 : pt d s = some s1) (h2 : body s1 = .nx s2) (h3 : P s2) : ∃ s1 s2, pt d s = some s1 ∧ (body s1 = .nx s2 ∨ body s1 = .ct s2) ∧ P s2 := ⟨s1, s2, h1, .inl h2, h3⟩
theorem fn_nxE {n m : Nat} {g : ES → SR} {ds : List D} {Q : ES → Prop} (hl : ds.length = m) (h : ∃ s', g (startE n ds) = .nx s' ∧ Q s') : mkFn n m g ds = .ok .none := by
  obtain ⟨s', e, _⟩ := h
  exact fn_nx hl e
end Ev
set_option Elab.async false
set_option linter.all false
set_option maxRecDepth 100000
set_option maxHeartbeats 4000000
/-! Ev18: the first of the least by a measure -/
namespace Ev
open PySem L2
section
variable {α : Type} [Inhabited α] [DecidableEq α] {g : α → Int} {lg : α → α → Bool}
/-- the first with the least measure -/
def argm (g : α → Int) (xs : List α) : α := lst (fun y a => decide (g y < g a)) xs
theorem fold_pair : ∀ (r : List α) (a : α), (∀ y ∈ r, lg y a = false) → r.Pairwise (fun a b => lg b a = false) →
    (r.map fun c => (g c, c)).foldl (fun a y => if lexP ltI lg y a then y else a) (g a, a) = (g (r.foldl (fun a y => if decide (g y < g a) then y else a) a), r.foldl (fun a y => if decide (g y < g a) then y else a) a)
  | [], a, _, _ => rfl
  | y :: r, a, h, hp => by
    have h2 := List.pairwise_cons.mp hp
    rw [List.map_cons, List.foldl_cons, List.foldl_cons]
    have e : lexP ltI lg (g y, y) (g a, a) = decide (g y < g a) := by
      unfold lexP
      by_cases q : g y = g a
      · rw [if_pos q, h y (by simp), q]; simp
      · rw [if_neg q]
    rw [e]
    by_cases q : g y < g a
    · rw [if_pos (by simpa using q), if_pos (by simpa using q)]
      exact fold_pair r y h2.1 h2.2
    · rw [if_neg (by simpa using q), if_neg (by simpa using q)]
      exact fold_pair r a (fun z hz => h z (by simp [hz])) h2.2
theorem lst_pair {xs : List α} (h : xs ≠ []) (hp : xs.Pairwise (fun a b => lg b a = false)) : lst (lexP ltI lg) (xs.map fun c => (g c, c)) = (g (argm g xs), argm g xs) := by
  cases xs with
  | nil => exact absurd rfl h
  | cons x r =>
    have h2 := List.pairwise_cons.mp hp
    exact fold_pair r x h2.1 h2.2
theorem fold_map : ∀ (r : List α) (a : α), (r.map g).foldl (fun a y => if ltI y a then y else a) (g a) = g (r.foldl (fun a y => if decide (g y < g a) then y else a) a)
  | [], a => rfl
  | y :: r, a => by
    rw [List.map_cons, List.foldl_cons, List.foldl_cons]
    by_cases q : g y < g a
    · rw [if_pos (by simpa using q), if_pos (by simpa using q)]; exact fold_map r y
    · rw [if_neg (by simpa using q), if_neg (by simpa using q)]; exact fold_map r a
theorem lst_map {xs : List α} (h : xs ≠ []) : lst ltI (xs.map g) = g (argm g xs) := by
  cases xs with
  | nil => exact absurd rfl h
  | cons x r => exact fold_map r x
theorem argm_mem {xs : List α} (h : xs ≠ []) : argm g xs ∈ xs := lst_mem h
theorem fold_split : ∀ (r pre : List α) (a : α), (∃ l mid, pre = l ++ a :: mid ∧ (∀ y ∈ l, g a < g y) ∧ ∀ y ∈ mid, g a ≤ g y) →
    ∃ l mid, pre ++ r = l ++ (r.foldl (fun a y => if decide (g y < g a) then y else a) a) :: mid ∧ (∀ y ∈ l, g (r.foldl (fun a y => if decide (g y < g a) then y else a) a) < g y) ∧ ∀ y ∈ mid, g (r.foldl (fun a y => if decide (g y < g a) then y else a) a) ≤ g y
  | [], pre, a, h => by rw [List.append_nil]; exact h
  | y :: r, pre, a, ⟨l, mid, e, h1, h2⟩ => by
    rw [List.foldl_cons, show pre ++ y :: r = (pre ++ [y]) ++ r by simp]
    by_cases q : g y < g a
    · rw [if_pos (by simpa using q)]
      refine fold_split r (pre ++ [y]) y ⟨pre, [], rfl, fun z hz => ?_, fun z hz => by cases hz⟩
      rw [e, List.mem_append, List.mem_cons] at hz
      rcases hz with hz | rfl | hz
      · have := h1 z hz; omega
      · exact q
      · have := h2 z hz; omega
    · rw [if_neg (by simpa using q)]
      refine fold_split r (pre ++ [y]) a ⟨l, mid ++ [y], by rw [e]; simp, h1, fun z hz => ?_⟩
      rw [List.mem_append, List.mem_singleton] at hz
      rcases hz with hz | rfl
      · exact h2 z hz
      · omega
theorem argm_split {xs : List α} (h : xs ≠ []) : ∃ l mid, xs = l ++ argm g xs :: mid ∧ (∀ y ∈ l, g (argm g xs) < g y) ∧ ∀ y ∈ mid, g (argm g xs) ≤ g y := by
  cases xs with
  | nil => exact absurd rfl h
  | cons x r => exact fold_split r [x] x ⟨[], [], rfl, ⟨(fun z hz => by cases hz), (fun z hz => by cases hz)⟩⟩
theorem argm_le {xs : List α} : ∀ y ∈ xs, g (argm g xs) ≤ g y := by
  intro y hy
  obtain ⟨l, mid, e, h1, h2⟩ := argm_split (g := g) (List.ne_nil_of_mem hy)
  rw [e, List.mem_append, List.mem_cons] at hy
  rcases hy with hy | hy | hy
  · exact Int.le_of_lt (h1 y hy)
  · rw [hy]; exact Int.le_refl _
  · exact h2 y hy
theorem idx_argm {xs : List α} (h : xs ≠ []) : xs[(xs.map g).idxOf (g (argm g xs))]? = some (argm g xs) := by
  obtain ⟨l, mid, e, h1, h2⟩ := argm_split (g := g) h
  generalize argm g xs = m at *
  subst e
  have hn : g m ∉ l.map g := by
    intro hm
    obtain ⟨y, hy, q⟩ := List.mem_map.mp hm
    have := h1 y hy
    omega
  rw [List.map_append, List.map_cons, List.idxOf_append, if_neg hn, List.idxOf_cons_self, List.length_map]
  simp
end
section
variable {α : Type} [Inhabited α] [DecidableEq α] {g : α → Int} {xs : List α}
theorem li_g : Li (fun c => I (g c)) xs = Li I (xs.map g) := by unfold Li; rw [List.map_map]; rfl
theorem min_g (h : xs ≠ []) : dMin (Li (fun c => I (g c)) xs) = some (I (g (argm g xs))) := by
  rw [li_g, min_li enc_I lt_I (by simpa using h)]
  exact congrArg (fun z => some (I z)) (lst_map h)
theorem max_g (h : xs ≠ []) : dMax (Li (fun c => I (g c)) xs) = some (I (mst ltI (xs.map g))) := by
  rw [li_g, max_li enc_I lt_I (by simpa using h)]
theorem index_g (h : xs ≠ []) : dIndex (Li (fun c => I (g c)) xs) (I (g (argm g xs))) = some (Nn ((xs.map g).idxOf (g (argm g xs)))) := by
  rw [li_g]
  exact index_li enc_I (List.mem_map_of_mem (argm_mem h))
theorem idx_range {n : Nat} {g : Nat → Int} (h : List.range n ≠ []) : ((List.range n).map g).idxOf (g (argm g (List.range n))) = argm g (List.range n) := by
  have e := idx_argm (g := g) h
  have hl := argm_mem (g := g) h
  rw [List.mem_range] at hl
  obtain ⟨hi, q⟩ := List.getElem?_eq_some_iff.mp e
  rw [List.getElem_range] at q
  exact q
end
/-- a loop that returns at the first of a kind, then an answer -/
theorem st_forF {α : Type} {fi : Mo (List D)} {pt : Pat} {body K : ES → SR} {enc : α → D} {xs : List α} {s : ES} {d : D} {T : Ext} (P : ES → Prop) (t : α → Bool) (v : α → D) (h1 : fi s = .ok (xs.map enc) s) (h0 : P s)
    (hs : ∀ s x, x ∈ xs → P s → ∃ s1, pt (enc x) s = some s1 ∧ ((t x = true ∧ body s1 = .rt (v x) T) ∨ (t x = false ∧ ∃ s2, (body s1 = .nx s2 ∨ body s1 = .ct s2) ∧ P s2)))
    (hK : ∀ s', P s' → K s' = .rt d T) : sSeq (sFor fi pt body) K s = .rt (((xs.find? t).map v).getD d) T := by
  rcases for_find xs s h0 hs with ⟨x, e1, e2⟩ | ⟨e1, s', e2, p⟩
  · rw [e1]; exact st_seqR (by rw [st_for h1]; exact e2)
  · rw [e1, st_seq (by rw [st_for h1]; exact e2)]; exact hK s' p
/-- the last statement decides -/
theorem find_stp {α : Type} {body : ES → SR} {s1 s2 : ES} {P : ES → Prop} {k b : Bool} {w : D} {T : Ext} (h : k = b) (h1 : b = true → body s1 = .rt w T) (h2 : b = false → body s1 = .nx s2) (h3 : P s2) :
    (k = true ∧ body s1 = .rt w T) ∨ (k = false ∧ ∃ s2, (body s1 = .nx s2 ∨ body s1 = .ct s2) ∧ P s2) := by
  subst h
  cases k with
  | true => exact .inl ⟨rfl, h1 rfl⟩
  | false => exact .inr ⟨rfl, s2, .inl (h2 rfl), h3⟩
/-- set, then return if -/
theorem find_set {i : Nat} {f g : Mo Ref} {tst : Mo Bool} {s1 : ES} {P : ES → Prop} {k : Bool} {d w : D} {T : Ext} (h1 : f s1 = .ok (.d d) s1) (ht : tst (put i (.val d) s1) = .ok k (put i (.val d) s1)) (hg : k = true → g (put i (.val d) s1) = .ok (.d w) (put i (.val d) s1)) (hT : s1.T = T) (hP : P (put i (.val d) s1)) :
    (k = true ∧ (sSeq (sSet i f) (sIf tst (sRet g) sNx)) s1 = .rt w T) ∨ (k = false ∧ ∃ s2, ((sSeq (sSet i f) (sIf tst (sRet g) sNx)) s1 = .nx s2 ∨ (sSeq (sSet i f) (sIf tst (sRet g) sNx)) s1 = .ct s2) ∧ P s2) := by
  cases k with
  | true =>
    refine .inl ⟨rfl, ?_⟩
    rw [st_seq (st_set h1), st_ifT ht, st_ret (hg rfl)]
    rw [← hT]; rfl
  | false =>
    refine .inr ⟨rfl, _, .inl ?_, hP⟩
    rw [st_seq (st_set h1), st_ifF ht]; rfl
theorem st_setE {i : Nat} {f : Mo Ref} {s s1 s2 : ES} {d : D} (h1 : f s = .ok (.d d) s1) (h2 : put i (.val d) s1 = s2) : sSet i f s = .nx s2 := by rw [st_set h1, h2]
theorem st_retE {f : Mo Ref} {s s1 : ES} {d : D} {T : Ext} (h1 : f s = .ok (.d d) s1) (h2 : s1.T = T) : sRet f s = .rt d T := by rw [st_ret h1, h2]
end Ev
set_option Elab.async false
set_option linter.all false
set_option maxRecDepth 100000
set_option maxHeartbeats 4000000
/-! Ev19: draws; loops with the walked part at hand -/
namespace Ev
open PySem L2
theorem ev_take {s s1 : ES} {f : Mo Ref} {cu : Cur} {i m : Nat} (hc : curAtS i s = true) (h1 : f s = .ok (.d (.int (m : Int))) s1) {ce : List Cell} (hT : s1.T = ⟨some cu, ce⟩) (hm : 0 < m) (hd : divOk (m : Int) = true) :
    ∃ v cu', v < m ∧ eTake i f s = .ok (.d (Nn v)) { s1 with T := ⟨some cu', ce⟩ } := by
  have hm' : (0 : Int) < (m : Int) := by omega
  obtain ⟨r1, r2⟩ := drawC_range (m : Int) hm' cu
  refine ⟨(drawC (m : Int) hm' cu).1.toNat, (drawC (m : Int) hm' cu).2, by omega, ?_⟩
  unfold eTake
  rw [if_pos hc]
  unfold bnd
  rw [h1]
  show takeK (.int (m : Int)) s1 = _
  unfold takeK
  rw [hT]
  dsimp only
  rw [dif_pos hm', if_pos hd]
  rw [show (Nn (drawC (m : Int) hm' cu).1.toNat : D) = .int (drawC (m : Int) hm' cu).1 by unfold Nn; rw [Int.toNat_of_nonneg r1]]
theorem divOk_small {m : Nat} (h0 : 0 < m) (h : m < 4294967296) : divOk (m : Int) = true := by
  unfold divOk
  rw [Bool.and_eq_true, decide_eq_true_eq, decide_eq_true_eq]
  refine ⟨by omega, ?_⟩
  rw [Int.natAbs_natCast]
  have : m.log2 < 32 := (Nat.log2_lt (by omega)).mpr (by simpa using h)
  omega
section
variable {α β : Type} {vs : List Nat} {pt : Pat} {tst : Mo Bool} {elt : Mo Ref} {enc : α → D} {out : β → D} {w σ : List (Option SV)} {ce : List Cell} {Q : β → Prop}
theorem compL_ex : ∀ (xs : List α) (cu : Cur), (∀ cu x, x ∈ xs → ∃ s2 s3 y cu', pt (enc x) ⟨w, ⟨some cu, ce⟩⟩ = some s2 ∧ elt s2 = .ok (.d (out y)) s3 ∧ wipeE vs s3 = ⟨w, ⟨some cu', ce⟩⟩ ∧ Q y) →
    ∃ (ys : List β) (cu' : Cur), compL vs pt fYes elt (xs.map enc) ⟨w, ⟨some cu, ce⟩⟩ = .ok (ys.map out) ⟨w, ⟨some cu', ce⟩⟩ ∧ ys.length = xs.length ∧ ∀ y ∈ ys, Q y
  | [], cu, _ => ⟨[], cu, rfl, rfl, by simp⟩
  | x :: xs, cu, h => by
    obtain ⟨s2, s3, y, cu', e1, e2, e3, q⟩ := h cu x (by simp)
    have c : cstep vs pt fYes elt (enc x) ⟨w, ⟨some cu, ce⟩⟩ = .ok (some (out y)) ⟨w, ⟨some cu', ce⟩⟩ := by
      unfold cstep
      rw [e1]
      dsimp only [fYes]
      unfold bnd
      rw [e2]
      dsimp only [dur]
      rw [e3]
    obtain ⟨ys, cu2, e, l, p⟩ := compL_ex xs cu' fun cu z hz => h cu z (by simp [hz])
    refine ⟨y :: ys, cu2, ?_, by simp [l], fun z hz => ?_⟩
    · rw [List.map_cons, compL_cons c]
      unfold bnd
      rw [e]; rfl
    · rcases List.mem_cons.mp hz with rfl | hz
      · exact q
      · exact p z hz
theorem comp_ex {fi : Mo (List D)} {s : ES} {xs : List α} {cu : Cur} (h1 : fi s = .ok (xs.map enc) ⟨σ, ⟨some cu, ce⟩⟩) (hl : xs.length ≤ szL) (hb : backS σ (wipeS σ vs) vs = σ)
    (h : ∀ cu x, x ∈ xs → ∃ s2 s3 y cu', pt (enc x) ⟨wipeS σ vs, ⟨some cu, ce⟩⟩ = some s2 ∧ elt s2 = .ok (.d (out y)) s3 ∧ wipeE vs s3 = ⟨wipeS σ vs, ⟨some cu', ce⟩⟩ ∧ Q y) :
    ∃ (ys : List β) (cu' : Cur), mComp vs fi pt fYes elt s = .ok (ys.map out) ⟨σ, ⟨some cu', ce⟩⟩ ∧ ys.length = xs.length ∧ ∀ y ∈ ys, Q y := by
  obtain ⟨ys, cu', e, l, p⟩ := compL_ex xs cu h
  refine ⟨ys, cu', ?_, l, p⟩
  unfold mComp bnd
  rw [h1]
  dsimp only
  have : wipeE vs ⟨σ, ⟨some cu, ce⟩⟩ = ⟨wipeS σ vs, ⟨some cu, ce⟩⟩ := rfl
  rw [this, e]
  dsimp only
  rw [if_pos (small_of_le (by rw [List.length_map, l]; exact hl))]
  unfold backE
  dsimp only
  rw [hb]
theorem compL_exF {out : α → D} : ∀ (xs : List α) (cu : Cur), (∀ cu x, x ∈ xs → ∃ s2 s3 b cu', pt (enc x) ⟨w, ⟨some cu, ce⟩⟩ = some s2 ∧ tst s2 = .ok b s3 ∧ (b = true → elt s3 = .ok (.d (out x)) s3) ∧ wipeE vs s3 = ⟨w, ⟨some cu', ce⟩⟩) →
    ∃ (ys : List α) (cu' : Cur), compL vs pt tst elt (xs.map enc) ⟨w, ⟨some cu, ce⟩⟩ = .ok (ys.map out) ⟨w, ⟨some cu', ce⟩⟩ ∧ ys.Sublist xs
  | [], cu, _ => ⟨[], cu, rfl, .slnil⟩
  | x :: xs, cu, h => by
    obtain ⟨s2, s3, b, cu', e1, e2, e3, e4⟩ := h cu x (by simp)
    obtain ⟨ys, cu2, e, l⟩ := compL_exF xs cu' fun cu z hz => h cu z (by simp [hz])
    cases b with
    | false =>
      have c : cstep vs pt tst elt (enc x) ⟨w, ⟨some cu, ce⟩⟩ = .ok none ⟨w, ⟨some cu', ce⟩⟩ := by
        unfold cstep
        rw [e1]
        dsimp only
        rw [e2]
        dsimp only
        rw [e4]
      refine ⟨ys, cu2, ?_, l.cons _⟩
      rw [List.map_cons, compL_cons c]
      unfold bnd
      rw [e]; rfl
    | true =>
      have c : cstep vs pt tst elt (enc x) ⟨w, ⟨some cu, ce⟩⟩ = .ok (some (out x)) ⟨w, ⟨some cu', ce⟩⟩ := by
        unfold cstep
        rw [e1]
        dsimp only
        rw [e2]
        dsimp only
        unfold bnd
        rw [e3 rfl]
        dsimp only [dur]
        rw [e4]
      refine ⟨x :: ys, cu2, ?_, l.cons₂ _⟩
      rw [List.map_cons, compL_cons c]
      unfold bnd
      rw [e]; rfl
theorem comp_exF {out : α → D} {fi : Mo (List D)} {s : ES} {xs : List α} {cu : Cur} (h1 : fi s = .ok (xs.map enc) ⟨σ, ⟨some cu, ce⟩⟩) (hl : xs.length ≤ szL) (hb : backS σ (wipeS σ vs) vs = σ)
    (h : ∀ cu x, x ∈ xs → ∃ s2 s3 b cu', pt (enc x) ⟨wipeS σ vs, ⟨some cu, ce⟩⟩ = some s2 ∧ tst s2 = .ok b s3 ∧ (b = true → elt s3 = .ok (.d (out x)) s3) ∧ wipeE vs s3 = ⟨wipeS σ vs, ⟨some cu', ce⟩⟩) :
    ∃ (ys : List α) (cu' : Cur), mComp vs fi pt tst elt s = .ok (ys.map out) ⟨σ, ⟨some cu', ce⟩⟩ ∧ ys.Sublist xs := by
  obtain ⟨ys, cu', e, l⟩ := compL_exF xs cu h
  refine ⟨ys, cu', ?_, l⟩
  unfold mComp bnd
  rw [h1]
  dsimp only
  have : wipeE vs ⟨σ, ⟨some cu, ce⟩⟩ = ⟨wipeS σ vs, ⟨some cu, ce⟩⟩ := rfl
  rw [this, e]
  dsimp only
  rw [if_pos (small_of_le (by rw [List.length_map]; exact Nat.le_trans l.length_le hl))]
  unfold backE
  dsimp only
  rw [hb]
end
/-! ### for, with the walked part at hand -/
section
variable {α : Type} {fi : Mo (List D)} {pt : Pat} {body K : ES → SR} {enc : α → D} {P : List α → ES → Prop} {xs : List α} {s s1 : ES} {r : SR}
theorem for_pre : ∀ (ys pre : List α) (s : ES), P pre s → (∀ p x q s, pre ++ ys = p ++ x :: q → P p s → ∃ s1 s2, pt (enc x) s = some s1 ∧ (body s1 = .nx s2 ∨ body s1 = .ct s2) ∧ P (p ++ [x]) s2) → ∃ s', forL pt body (ys.map enc) s = .nx s' ∧ P (pre ++ ys) s'
  | [], pre, s, p, _ => ⟨s, rfl, by rw [List.append_nil]; exact p⟩
  | x :: ys, pre, s, p, h => by
    obtain ⟨s1, s2, e1, e2, p2⟩ := h pre x ys s rfl p
    obtain ⟨s', e3, p3⟩ := for_pre ys (pre ++ [x]) s2 p2 (by rw [List.append_assoc]; exact h)
    refine ⟨s', ?_, by rw [List.append_assoc] at p3; exact p3⟩
    rw [List.map_cons, forL_eq, e1]
    dsimp only
    rcases e2 with e2 | e2 <;> rw [e2] <;> exact e3
theorem st_forP (P : List α → ES → Prop) (h1 : fi s = .ok (xs.map enc) s1) (h0 : P [] s1) (hs : ∀ p x q s, xs = p ++ x :: q → P p s → ∃ s1 s2, pt (enc x) s = some s1 ∧ (body s1 = .nx s2 ∨ body s1 = .ct s2) ∧ P (p ++ [x]) s2)
    (k : ∀ s', P xs s' → K s' = r) : sSeq (sFor fi pt body) K s = r := by
  obtain ⟨s', e, p⟩ := for_pre xs [] s1 h0 hs
  exact st_seq' (st_for' h1 e) (k s' p)
theorem st_forPN (P : List α → ES → Prop) (h1 : fi s = .ok (xs.map enc) s1) (h0 : P [] s1) (hs : ∀ p x q s, xs = p ++ x :: q → P p s → ∃ s1 s2, pt (enc x) s = some s1 ∧ (body s1 = .nx s2 ∨ body s1 = .ct s2) ∧ P (p ++ [x]) s2) :
    ∃ s', sFor fi pt body s = .nx s' ∧ P xs s' := by
  obtain ⟨s', e, p⟩ := for_pre xs [] s1 h0 hs
  exact ⟨s', st_for' h1 e, p⟩
/-- the same, the rest an answer of some kind -/
theorem st_forE {R : SR → Prop} (P : List α → ES → Prop) (h1 : fi s = .ok (xs.map enc) s1) (h0 : P [] s1) (hs : ∀ p x q s, xs = p ++ x :: q → P p s → ∃ s1 s2, pt (enc x) s = some s1 ∧ (body s1 = .nx s2 ∨ body s1 = .ct s2) ∧ P (p ++ [x]) s2)
    (k : ∀ s', P xs s' → R (K s')) : R (sSeq (sFor fi pt body) K s) := by
  obtain ⟨s', e, p⟩ := for_pre xs [] s1 h0 hs
  rw [st_seq (st_for' h1 e)]
  exact k s' p
end
theorem st_seqX {u v : ES → SR} {R : SR → Prop} {s s1 : ES} (h1 : u s = .nx s1) (h2 : R (v s1)) : R (sSeq u v s) := by rw [st_seq h1]; exact h2
theorem st_no {t : Mo Bool} {u : ES → SR} {s s1 : ES} {k : Bool} (h1 : t s = .ok k s1) (hk : k = false) : sIf t u sNx s = .nx s1 := by subst hk; rw [st_ifF h1]; rfl
theorem ix_last {ds : List D} {d : D} : dIx (.list (ds ++ [d])) (.int (-1)) = some d := by
  show atI (ds ++ [d]) (-1) = some d
  unfold atI ixN
  rw [if_neg (by omega), List.length_append, List.length_singleton, if_pos (by omega)]
  show (ds ++ [d])[((-1 : Int) + ((ds.length + 1 : Nat) : Int)).toNat]? = some d
  rw [show ((-1 : Int) + ((ds.length + 1 : Nat) : Int)).toNat = ds.length by omega]
  simp
theorem ext_li {α : Type} {f : α → D} {xs ys : List α} (h : xs.length + ys.length ≤ szL) : opExtend (xs.map f) [Li f ys] = some (.none, (xs ++ ys).map f) := by
  show (if (xs.map f).length + (ys.map f).length ≤ szL then some (PyData.none, xs.map f ++ ys.map f) else none) = _
  rw [if_pos (by simpa using h), List.map_append]
theorem app_li {α : Type} {f : α → D} {xs : List α} {x : α} (h : xs.length < szL) : opAppend (xs.map f) [f x] = some (.none, (xs ++ [x]).map f) := by
  show (if (xs.map f).length < szL then some (PyData.none, xs.map f ++ [f x]) else none) = _
  rw [if_pos (by simpa using h), List.map_append]; rfl
end Ev
set_option Elab.async false
set_option linter.all false
set_option maxRecDepth 100000
set_option maxHeartbeats 4000000
/-! Ev21: fractions as data; their sizes -/
namespace Ev
open PySem L2
abbrev Fr (q : Rat) : D := .tuple [.int q.num, .int (q.den : Int)]
/-- of n bits at most -/
structure Bt (n : Nat) (q : Rat) : Prop where
  num : q.num.natAbs < 2 ^ n
  den : q.den < 2 ^ n
theorem two_mono {m n : Nat} (h : m ≤ n) : 2 ^ m ≤ 2 ^ n := Nat.pow_le_pow_right (by decide) h
theorem Bt.mono {m n : Nat} {q : Rat} (h : Bt m q) (hn : m ≤ n) : Bt n q := ⟨Nat.lt_of_lt_of_le h.num (two_mono hn), Nat.lt_of_lt_of_le h.den (two_mono hn)⟩
theorem abs_div_le (a : Int) (g : Nat) : (a / (g : Int)).natAbs ≤ a.natAbs ∨ g = 0 := by
  rcases Nat.eq_zero_or_pos g with h | h
  · exact .inr h
  · left
    have hg : (0 : Int) < (g : Int) := by omega
    rcases Int.le_total 0 a with ha | ha
    · have h1 := Int.ediv_nonneg ha (Int.le_of_lt hg)
      have h2 := Int.ediv_le_self (b := (g : Int)) ha
      omega
    · have h1 : a / (g : Int) ≤ 0 := Int.ediv_nonpos_of_nonpos_of_neg ha hg
      have h2 : a ≤ a / (g : Int) := by
        rw [Int.le_ediv_iff_mul_le hg]
        have : a * (g : Int) ≤ a * 1 := Int.mul_le_mul_of_nonpos_left ha (by omega)
        simpa using this
      omega
theorem Bt.mk' {n : Nat} {a : Int} {d : Nat} (hd : d ≠ 0) (h1 : a.natAbs < 2 ^ n) (h2 : d < 2 ^ n) : Bt n (mkRat a d) := by
  refine ⟨?_, ?_⟩
  · rw [Rat.num_mkRat, if_neg hd]
    rcases abs_div_le a (d.gcd a.natAbs) with h | h
    · exact Nat.lt_of_le_of_lt h h1
    · exact absurd (Nat.eq_zero_of_gcd_eq_zero_left h) hd
  · rw [Rat.den_mkRat, if_neg hd]
    exact Nat.lt_of_le_of_lt (Nat.div_le_self _ _) h2
theorem pow_mul_lt {m n a b : Nat} (ha : a < 2 ^ m) (hb : b < 2 ^ n) : a * b < 2 ^ (m + n) := by
  rw [Nat.pow_add]
  rcases Nat.eq_zero_or_pos b with h | h
  · subst h
    rw [Nat.mul_zero]
    exact Nat.mul_pos (Nat.two_pow_pos m) (Nat.two_pow_pos n)
  · exact Nat.lt_of_lt_of_le (Nat.mul_lt_mul_of_pos_right ha h) (Nat.mul_le_mul_left _ (Nat.le_of_lt hb))
theorem den0 (q : Rat) : q.den ≠ 0 := q.den_nz
section
variable {m n : Nat} {p q : Rat}
theorem cross_lt (hp : Bt m p) (hq : Bt n q) : (p.num * q.den).natAbs < 2 ^ (m + n) := by
  rw [Int.natAbs_mul, Int.natAbs_natCast]; exact pow_mul_lt hp.num hq.den
theorem dens_lt (hp : Bt m p) (hq : Bt n q) : p.den * q.den < 2 ^ (m + n) := pow_mul_lt hp.den hq.den
theorem Bt.add (hp : Bt m p) (hq : Bt n q) : Bt (m + n + 1) (p + q) := by
  rw [Rat.add_def']
  have h1 := cross_lt hp hq
  have h2 := cross_lt hq hp
  have h3 := dens_lt hp hq
  rw [Nat.add_comm n m] at h2
  refine Bt.mk' (Nat.mul_ne_zero (den0 p) (den0 q)) ?_ ?_
  · rw [Nat.pow_succ]; omega
  · rw [Nat.pow_succ]; omega
theorem Bt.sub (hp : Bt m p) (hq : Bt n q) : Bt (m + n + 1) (p - q) := by
  rw [Rat.sub_def']
  have h1 := cross_lt hp hq
  have h2 := cross_lt hq hp
  have h3 := dens_lt hp hq
  rw [Nat.add_comm n m] at h2
  refine Bt.mk' (Nat.mul_ne_zero (den0 p) (den0 q)) ?_ ?_
  · rw [Nat.pow_succ]; omega
  · rw [Nat.pow_succ]; omega
theorem Bt.mul (hp : Bt m p) (hq : Bt n q) : Bt (m + n) (p * q) := by
  rw [Rat.mul_def']
  refine Bt.mk' (Nat.mul_ne_zero (den0 p) (den0 q)) ?_ (dens_lt hp hq)
  rw [Int.natAbs_mul]; exact pow_mul_lt hp.num hq.num
theorem Bt.inv (hq : Bt n q) (h0 : q ≠ 0) : Bt n q⁻¹ := by
  have hn : q.num ≠ 0 := fun e => h0 (Rat.num_eq_zero.mp e)
  rw [Rat.inv_def]
  rcases Int.lt_or_lt_of_ne hn with h | h
  · rw [show (Rat.divInt (q.den : Int) q.num) = Rat.divInt (-(q.den : Int)) ((q.num.natAbs : Nat) : Int) by
      rw [← Rat.neg_divInt_neg]
      congr 1
      omega]
    rw [Rat.divInt_ofNat]
    exact Bt.mk' (by omega) (by rw [Int.natAbs_neg, Int.natAbs_natCast]; exact hq.den) hq.num
  · rw [show (Rat.divInt (q.den : Int) q.num) = Rat.divInt (q.den : Int) ((q.num.natAbs : Nat) : Int) by congr 1; omega]
    rw [Rat.divInt_ofNat]
    exact Bt.mk' (by omega) (by rw [Int.natAbs_natCast]; exact hq.den) hq.num
theorem Bt.div (hp : Bt m p) (hq : Bt n q) (h0 : q ≠ 0) : Bt (m + n) (p / q) := by rw [Rat.div_def]; exact hp.mul (hq.inv h0)
theorem Bt.int {n : Nat} {a : Int} (h : a.natAbs < 2 ^ n) (hn : 1 ≤ n := by decide) : Bt n (a : Rat) := by
  refine ⟨h, ?_⟩
  show 1 < 2 ^ n
  exact Nat.one_lt_two_pow (by omega)
end
theorem bt_zero : Bt 1 0 := ⟨by decide, by decide⟩
theorem bt_one : Bt 1 1 := ⟨by decide, by decide⟩
theorem log_lt {n a : Nat} (h : a < 2 ^ n) : a.log2 ≤ n := by
  rcases Nat.eq_zero_or_pos a with h0 | h0
  · subst h0; exact Nat.zero_le _
  · exact Nat.le_of_lt ((Nat.log2_lt (by omega)).mpr h)
theorem mulOk_bt {m n : Nat} {i j : Int} (hi : i.natAbs < 2 ^ m) (hj : j.natAbs < 2 ^ n) (h : m + n < 1000000) : mulOk i j = true := by
  unfold mulOk
  have := log_lt hi
  have := log_lt hj
  exact decide_eq_true (by omega)
theorem mul_ii {m n : Nat} {i j : Int} (hi : i.natAbs < 2 ^ m) (hj : j.natAbs < 2 ^ n) (h : m + n < 1000000) : dMul (.int i) (.int j) = some (I (i * j)) := by
  show (if mulOk i j = true then some (PyData.int (i * j)) else none) = _
  rw [if_pos (mulOk_bt hi hj h)]
/-- a, b in their least terms -/
theorem num_pos {a b : Int} (hb : 0 < b) : ((a : Rat) / (b : Rat)).num = a / ((Nat.gcd a.natAbs b.natAbs : Nat) : Int) := by
  rw [← Rat.divInt_eq_div, Rat.num_divInt, Int.sign_eq_one_of_pos hb, Int.one_mul]
  congr 2
  exact Nat.gcd_comm _ _
theorem den_pos {a b : Int} (hb : 0 < b) : ((((a : Rat) / (b : Rat)).den : Nat) : Int) = b / ((Nat.gcd a.natAbs b.natAbs : Nat) : Int) := by
  rw [← Rat.divInt_eq_div, Rat.den_divInt, if_neg (by omega)]
  rw [Int.natCast_ediv]
  congr 1
  · omega
  · congr 1
    exact Nat.gcd_comm _ _
theorem div_ii {a g : Int} (h0 : 0 < g) (h : g.natAbs < 2 ^ 8999) : dDiv (.int a) (.int g) = some (I (a / g)) := by
  show (if divOk g = true then some (PyData.int (a / g)) else none) = _
  rw [if_pos]
  unfold divOk
  have := log_lt h
  rw [Bool.and_eq_true, decide_eq_true_eq, decide_eq_true_eq]
  exact ⟨h0, by omega⟩
theorem gcd_lt {a b : Int} {n : Nat} (hb : b ≠ 0) (h : b.natAbs < 2 ^ n) : (0 : Int) < ((Nat.gcd a.natAbs b.natAbs : Nat) : Int) ∧ (((Nat.gcd a.natAbs b.natAbs : Nat) : Int)).natAbs < 2 ^ n := by
  have h1 : 0 < Nat.gcd a.natAbs b.natAbs := Nat.gcd_pos_of_pos_right _ (by omega)
  have h2 : Nat.gcd a.natAbs b.natAbs ≤ b.natAbs := Nat.gcd_le_right _ (by omega)
  exact ⟨by omega, by rw [Int.natAbs_natCast]; omega⟩
theorem neg_over {a b : Int} (hb : b ≠ 0) : (((-a : Int) : Rat) / ((-b : Int) : Rat)) = (a : Rat) / (b : Rat) := by
  rw [← Rat.divInt_eq_div, ← Rat.divInt_eq_div, Rat.neg_divInt_neg]
theorem mkRat_over {a : Int} {b c : Nat} : mkRat a (b * c) = (a : Rat) / (((b : Int) * (c : Int) : Int) : Rat) := by
  rw [← Rat.divInt_eq_div, ← Int.natCast_mul, Rat.divInt_ofNat]
theorem add_cross (p q : Rat) : ((p.num * q.den + q.num * p.den : Int) : Rat) / ((p.den : Int) * (q.den : Int) : Int) = p + q := by
  rw [Rat.add_def', mkRat_over]
theorem sub_cross (p q : Rat) : ((p.num * q.den - q.num * p.den : Int) : Rat) / ((p.den : Int) * (q.den : Int) : Int) = p - q := by
  rw [Rat.sub_def', mkRat_over]
theorem mul_cross (p q : Rat) : ((p.num * q.num : Int) : Rat) / ((p.den : Int) * (q.den : Int) : Int) = p * q := by
  rw [Rat.mul_def', mkRat_over]
theorem div_cross (p q : Rat) (h : q ≠ 0) : ((p.num * (q.den : Int) : Int) : Rat) / (((p.den : Int) * q.num : Int) : Rat) = p / q := by
  rw [← Rat.divInt_eq_div, Rat.div_def p q, Rat.inv_def]
  conv => rhs; rw [← Rat.num_divInt_den p]
  rw [Rat.divInt_mul_divInt]
theorem fr_ne {p q : Rat} : dNe (Fr p) (Fr q) = some (.bool (!decide (p = q))) := by
  have h : ∀ q : Rat, SeqAt.shaped (Fr q) = true := fun q => rfl
  unfold dNe dEqB
  rw [h, h, if_pos (by rfl)]
  show some (PyData.bool (!PyData.eqv (.tuple [.int p.num, .int (p.den : Int)]) (.tuple [.int q.num, .int (q.den : Int)]))) = _
  rw [PyData.eqv, PyData.eqvAll, PyData.eqvAll, PyData.eqvAll, eqv_int, eqv_int]
  congr 3
  by_cases e : p = q
  · subst e; simp
  · rw [decide_eq_false e, Bool.and_true, Bool.and_eq_false_iff]
    by_cases e1 : p.num = q.num
    · right
      by_cases e2 : p.den = q.den
      · exact absurd (Rat.ext e1 e2) e
      · simp; omega
    · left; simpa using e1
theorem enc_Fr : EncOk Fr 1 := by
  refine ⟨fun _ => rfl, fun q => ?_, fun a b => ?_, fun a b => ?_, fun _ => rfl⟩
  · show PyData.depth (.tuple [.int q.num, .int (q.den : Int)]) ≤ 1
    simp [PyData.depth, PyData.depthAll]
  · have := fr_ne (p := a) (q := b)
    unfold dNe dEqB at this
    rw [show SeqAt.shaped (Fr a) = true from rfl, show SeqAt.shaped (Fr b) = true from rfl, if_pos (by rfl)] at this
    simpa using this
  · show PySem.W.alike (.tuple [.int a.num, .int (a.den : Int)]) (.tuple [.int b.num, .int (b.den : Int)]) = true
    simp [PySem.W.alike, PySem.W.alikeAll]
def cmpR (p q : Rat) : Int := if p < q then -1 else if q < p then 1 else 0
end Ev
set_option Elab.async false
set_option linter.all false
set_option maxRecDepth 100000
set_option maxHeartbeats 4000000
/-! Ev22: loops over a range; sums of fractions -/
namespace Ev
open PySem L2
section
variable {fi : Mo (List D)} {pt : Pat} {body K : ES → SR} {enc : Nat → D} {P : Nat → ES → Prop} {n : Nat} {s s1 : ES} {r : SR}
theorem for_rng : ∀ (m a : Nat) (s : ES), P a s → (∀ k s, a ≤ k → k < a + m → P k s → ∃ s1 s2, pt (enc k) s = some s1 ∧ (body s1 = .nx s2 ∨ body s1 = .ct s2) ∧ P (k + 1) s2) → ∃ s', forL pt body ((List.range' a m).map enc) s = .nx s' ∧ P (a + m) s'
  | 0, a, s, p, _ => ⟨s, rfl, p⟩
  | m + 1, a, s, p, h => by
    obtain ⟨s1, s2, e1, e2, p2⟩ := h a s (Nat.le_refl _) (by omega) p
    obtain ⟨s', e3, p3⟩ := for_rng m (a + 1) s2 p2 fun k s h1 h2 => h k s (by omega) (by omega)
    refine ⟨s', ?_, by rw [show a + (m + 1) = a + 1 + m by omega]; exact p3⟩
    rw [List.range'_succ, List.map_cons, forL_eq, e1]
    dsimp only
    rcases e2 with e2 | e2 <;> rw [e2] <;> exact e3
theorem st_forRN (P : Nat → ES → Prop) (h1 : fi s = .ok ((List.range n).map enc) s1) (h0 : P 0 s1) (hs : ∀ k s, k < n → P k s → ∃ s1 s2, pt (enc k) s = some s1 ∧ (body s1 = .nx s2 ∨ body s1 = .ct s2) ∧ P (k + 1) s2) :
    ∃ s', sFor fi pt body s = .nx s' ∧ P n s' := by
  obtain ⟨s', e, p⟩ := for_rng n 0 s1 h0 fun k s _ h2 => hs k s (by omega)
  rw [← List.range_eq_range'] at e
  exact ⟨s', st_for' h1 e, by simpa using p⟩
theorem st_forR (P : Nat → ES → Prop) (h1 : fi s = .ok ((List.range n).map enc) s1) (h0 : P 0 s1) (hs : ∀ k s, k < n → P k s → ∃ s1 s2, pt (enc k) s = some s1 ∧ (body s1 = .nx s2 ∨ body s1 = .ct s2) ∧ P (k + 1) s2)
    (k : ∀ s', P n s' → K s' = r) : sSeq (sFor fi pt body) K s = r := by
  obtain ⟨s', e, p⟩ := st_forRN P h1 h0 hs
  exact st_seq' e (k s' p)
theorem st_forRE {R : SR → Prop} (P : Nat → ES → Prop) (h1 : fi s = .ok ((List.range n).map enc) s1) (h0 : P 0 s1) (hs : ∀ k s, k < n → P k s → ∃ s1 s2, pt (enc k) s = some s1 ∧ (body s1 = .nx s2 ∨ body s1 = .ct s2) ∧ P (k + 1) s2)
    (k : ∀ s', P n s' → R (K s')) : R (sSeq (sFor fi pt body) K s) := by
  obtain ⟨s', e, p⟩ := st_forRN P h1 h0 hs
  rw [st_seq e]; exact k s' p
end
theorem app_rng {f : Nat → D} {k : Nat} {d : D} (hd : d = f k) (h : k < szL) : opAppend ((List.range k).map f) [d] = some (.none, (List.range (k + 1)).map f) := by
  subst hd
  show (if ((List.range k).map f).length < szL then some (PyData.none, (List.range k).map f ++ [f k]) else none) = _
  rw [if_pos (by simpa using h), List.range_succ, List.map_append]; rfl
theorem st_meth {s s1 s2 s3 : ES} {fs : Mo (List Ref)} {r : D} {i : Nat} {ds xs ys : List D} {qs : List Ref} {op : MOp} (h0 : ownAtS i s = true) (h1 : fs s = .ok qs s1) (h2 : durs qs s1 = .ok ds s2) (h3 : s2.σ[i]? = some (some (.own xs))) (h4 : op xs ds = some (r, ys)) (h5 : put i (.own ys) s2 = s3) :
    sExpr (eMethN i op fs) s = .nx s3 := by rw [← h5]; exact st_expr (ev_meth h0 h1 h2 h3 h4)
/-! ### sums -/
def sumQ (h : Nat → Rat) : Nat → Rat
  | 0 => 0
  | k + 1 => sumQ h k + h k
theorem sumQ_congr {h g : Nat → Rat} : ∀ {n : Nat}, (∀ k, k < n → h k = g k) → sumQ h n = sumQ g n
  | 0, _ => rfl
  | n + 1, e => by rw [sumQ, sumQ, e n (by omega), sumQ_congr fun k hk => e k (by omega)]
theorem sumQ_shift {h : Nat → Rat} : ∀ n : Nat, sumQ h (n + 1) = h 0 + sumQ (fun j => h (j + 1)) n
  | 0 => by simp only [sumQ]; rw [Rat.zero_add, Rat.add_zero]
  | n + 1 => by rw [sumQ, sumQ_shift n]; show _ = h 0 + (sumQ (fun j => h (j + 1)) n + h (n + 1)); rw [Rat.add_assoc]
theorem sumQ_div {h : Nat → Rat} {g : Rat} : ∀ n : Nat, sumQ (fun j => h j / g) n = sumQ h n / g
  | 0 => by simp only [sumQ]; rw [Rat.div_def, Rat.zero_mul]
  | n + 1 => by rw [sumQ, sumQ, sumQ_div n, Rat.div_def, Rat.div_def, Rat.div_def, Rat.add_mul]
theorem sumQ_pos {h : Nat → Rat} : ∀ {n : Nat}, (∀ k, k < n → 0 < h k) → 0 < n → 0 < sumQ h n
  | 0, _, h0 => absurd h0 (by decide)
  | n + 1, e, _ => by
    rw [sumQ]
    have h1 := e n (by omega)
    rcases Nat.eq_zero_or_pos n with z | z
    · subst z; rw [sumQ, Rat.zero_add]; exact h1
    · have h2 := sumQ_pos (n := n) (fun k hk => e k (by omega)) z
      grind
end Ev
set_option Elab.async false
set_option linter.all false
set_option maxRecDepth 100000
set_option maxHeartbeats 4000000
/-! Ev23: the first of the greatest by a key of any order; all rows; order of data -/
namespace Ev
open PySem L2
structure Ordb {β : Type} (lt : β → β → Bool) : Prop where
  irr : ∀ a, lt a a = false
  tr : ∀ a b c, lt a b = true → lt b c = true → lt a c = true
  tot : ∀ a b, lt a b = true ∨ a = b ∨ lt b a = true
theorem Ordb.asymm {β : Type} {lt : β → β → Bool} (O : Ordb lt) {a b : β} (h : lt a b = true) : lt b a = false := by
  cases e : lt b a with
  | false => rfl
  | true => have := O.tr _ _ _ h e; rw [O.irr] at this; cases this
theorem Ordb.le_lt {β : Type} {lt : β → β → Bool} (O : Ordb lt) {a b c : β} (h1 : lt b a = false) (h2 : lt b c = true) : lt a c = true := by
  rcases O.tot a b with h | h | h
  · exact O.tr _ _ _ h h2
  · rw [h]; exact h2
  · rw [h] at h1; cases h1
theorem Ordb.lt_le {β : Type} {lt : β → β → Bool} (O : Ordb lt) {a b c : β} (h1 : lt a b = true) (h2 : lt c b = false) : lt a c = true := by
  rcases O.tot b c with h | h | h
  · exact O.tr _ _ _ h1 h
  · rw [← h]; exact h1
  · rw [h] at h2; cases h2
theorem ord_I : Ordb ltI := ⟨fun a => by simp, fun a b c h1 h2 => by simp at *; omega, fun a b => by simp; omega⟩
theorem ord_N : Ordb ltN := ⟨fun a => by simp, fun a b c h1 h2 => by simp at *; omega, fun a b => by simp; omega⟩
theorem ord_P {α β : Type} [DecidableEq α] {lf : α → α → Bool} {lg : β → β → Bool} (O : Ordb lf) (P : Ordb lg) : Ordb (lexP lf lg) := by
  refine ⟨fun a => ?_, fun a b c h1 h2 => ?_, fun a b => ?_⟩
  · unfold lexP; rw [if_pos rfl]; exact P.irr _
  · unfold lexP at *
    by_cases e1 : a.1 = b.1
    · by_cases e2 : b.1 = c.1
      · rw [if_pos e1] at h1; rw [if_pos e2] at h2; rw [if_pos (e1.trans e2)]; exact P.tr _ _ _ h1 h2
      · rw [if_neg e2] at h2; rw [if_neg (by rw [e1]; exact e2), e1]; exact h2
    · by_cases e2 : b.1 = c.1
      · rw [if_neg e1] at h1; rw [if_neg (by rw [← e2]; exact e1), ← e2]; exact h1
      · rw [if_neg e1] at h1; rw [if_neg e2] at h2
        have := O.tr _ _ _ h1 h2
        have ne : a.1 ≠ c.1 := fun z => by rw [z, O.irr] at this; cases this
        rw [if_neg ne]; exact this
  · unfold lexP
    by_cases e : a.1 = b.1
    · rw [if_pos e, if_pos e.symm]
      rcases P.tot a.2 b.2 with h | h | h
      · exact .inl h
      · exact .inr (.inl (Prod.ext e h))
      · exact .inr (.inr h)
    · rw [if_neg e, if_neg fun z => e z.symm]
      rcases O.tot a.1 b.1 with h | h | h
      · exact .inl h
      · exact absurd h e
      · exact .inr (.inr h)
theorem lexB_tr {α : Type} [DecidableEq α] {lt : α → α → Bool} (O : Ordb lt) : ∀ a b c : List α, lexB lt a b = true → lexB lt b c = true → lexB lt a c = true
  | [], [], _, h, _ => by simp [lexB] at h
  | [], _ :: _, [], _, h => by simp [lexB] at h
  | [], _ :: _, _ :: _, _, _ => rfl
  | _ :: _, [], _, h, _ => by simp [lexB] at h
  | _ :: _, _ :: _, [], _, h => by simp [lexB] at h
  | x :: a, y :: b, z :: c, h1, h2 => by
    rw [lexB] at h1 h2 ⊢
    by_cases e1 : x = y
    · by_cases e2 : y = z
      · rw [if_pos e1] at h1; rw [if_pos e2] at h2; rw [if_pos (e1.trans e2)]; exact lexB_tr O a b c h1 h2
      · rw [if_neg e2] at h2; rw [if_neg (by rw [e1]; exact e2), e1]; exact h2
    · by_cases e2 : y = z
      · rw [if_neg e1] at h1; rw [if_neg (by rw [← e2]; exact e1), ← e2]; exact h1
      · rw [if_neg e1] at h1; rw [if_neg e2] at h2
        have := O.tr _ _ _ h1 h2
        have ne : x ≠ z := fun q => by rw [q, O.irr] at this; cases this
        rw [if_neg ne]; exact this
theorem lexB_irr {α : Type} [DecidableEq α] {lt : α → α → Bool} : ∀ a : List α, lexB lt a a = false
  | [] => rfl
  | x :: a => by rw [lexB, if_pos rfl]; exact lexB_irr a
theorem lexB_tot {α : Type} [DecidableEq α] {lt : α → α → Bool} (O : Ordb lt) : ∀ a b : List α, lexB lt a b = true ∨ a = b ∨ lexB lt b a = true
  | [], [] => .inr (.inl rfl)
  | [], _ :: _ => .inl rfl
  | _ :: _, [] => .inr (.inr rfl)
  | x :: a, y :: b => by
    rw [lexB, lexB]
    by_cases e : x = y
    · rw [if_pos e, if_pos e.symm]
      rcases lexB_tot O a b with h | h | h
      · exact .inl h
      · exact .inr (.inl (by rw [e, h]))
      · exact .inr (.inr h)
    · rw [if_neg e, if_neg fun z => e z.symm]
      rcases O.tot x y with h | h | h
      · exact .inl h
      · exact absurd h e
      · exact .inr (.inr h)
theorem ord_B {α : Type} [DecidableEq α] {lt : α → α → Bool} (O : Ordb lt) : Ordb (lexB lt) := ⟨lexB_irr, lexB_tr O, lexB_tot O⟩
section
variable {α β : Type} {lt : β → β → Bool} {key : α → β}
/-- the first with the greatest key -/
def amxF (lt : β → β → Bool) (key : α → β) (r : List α) (a : α) : α := r.foldl (fun a y => if lt (key a) (key y) then y else a) a
def amx [Inhabited α] (lt : β → β → Bool) (key : α → β) : List α → α
  | [] => default
  | x :: r => amxF lt key r x
theorem amxF_split (O : Ordb lt) : ∀ (r pre : List α) (a : α), (∃ l mid, pre = l ++ a :: mid ∧ (∀ y ∈ l, lt (key y) (key a) = true) ∧ ∀ y ∈ mid, lt (key a) (key y) = false) →
    ∃ l mid, pre ++ r = l ++ amxF lt key r a :: mid ∧ (∀ y ∈ l, lt (key y) (key (amxF lt key r a)) = true) ∧ ∀ y ∈ mid, lt (key (amxF lt key r a)) (key y) = false
  | [], pre, a, h => by rw [List.append_nil]; exact h
  | y :: r, pre, a, ⟨l, mid, e, h1, h2⟩ => by
    rw [show pre ++ y :: r = (pre ++ [y]) ++ r by simp]
    have un : amxF lt key (y :: r) a = amxF lt key r (if lt (key a) (key y) then y else a) := rfl
    rw [un]
    cases q : lt (key a) (key y) with
    | true =>
      rw [if_pos rfl]
      refine amxF_split O r (pre ++ [y]) y ⟨pre, [], rfl, fun z hz => ?_, fun z hz => by cases hz⟩
      rw [e, List.mem_append, List.mem_cons] at hz
      rcases hz with hz | rfl | hz
      · exact O.tr _ _ _ (h1 z hz) q
      · exact q
      · exact O.le_lt (h2 z hz) q
    | false =>
      rw [if_neg (by decide)]
      refine amxF_split O r (pre ++ [y]) a ⟨l, mid ++ [y], by rw [e]; simp, h1, fun z hz => ?_⟩
      rw [List.mem_append, List.mem_singleton] at hz
      rcases hz with hz | rfl
      · exact h2 z hz
      · exact q
theorem amx_split [Inhabited α] (O : Ordb lt) {xs : List α} (h : xs ≠ []) : ∃ l mid, xs = l ++ amx lt key xs :: mid ∧ (∀ y ∈ l, lt (key y) (key (amx lt key xs)) = true) ∧ ∀ y ∈ mid, lt (key (amx lt key xs)) (key y) = false := by
  cases xs with
  | nil => exact absurd rfl h
  | cons x r => exact amxF_split O r [x] x ⟨[], [], rfl, ⟨(fun z hz => by cases hz), (fun z hz => by cases hz)⟩⟩
theorem amx_mem [Inhabited α] (O : Ordb lt) {xs : List α} (h : xs ≠ []) : amx lt key xs ∈ xs := by
  obtain ⟨l, mid, e, _⟩ := amx_split (key := key) O h
  rw [List.mem_iff_append]
  exact ⟨l, mid, e⟩
theorem amx_le [Inhabited α] (O : Ordb lt) {xs : List α} : ∀ y ∈ xs, lt (key (amx lt key xs)) (key y) = false := by
  intro y hy
  obtain ⟨l, mid, e, h1, h2⟩ := amx_split (key := key) O (List.ne_nil_of_mem hy)
  have hy2 := hy
  rw [e, List.mem_append, List.mem_cons] at hy2
  rcases hy2 with h | h | h
  · exact O.asymm (h1 y h)
  · rw [← h]; exact O.irr _
  · exact h2 y h
theorem amx_map [Inhabited α] [Inhabited β] {xs : List α} (h : xs ≠ []) : mst lt (xs.map key) = key (amx lt key xs) := by
  cases xs with
  | nil => exact absurd rfl h
  | cons x r =>
    have : ∀ (r : List α) (a : α), (r.map key).foldl (fun a y => if lt a y then y else a) (key a) = key (amxF lt key r a) := by
      intro r
      induction r with
      | nil => intro a; rfl
      | cons y r ih =>
        intro a
        rw [List.map_cons, List.foldl_cons]
        show _ = key (amxF lt key r (if lt (key a) (key y) then y else a))
        rw [← ih]
        congr 1
        cases lt (key a) (key y) <;> rfl
    exact this r x
theorem idx_amx [Inhabited α] [DecidableEq β] (O : Ordb lt) {xs : List α} (h : xs ≠ []) : xs[(xs.map key).idxOf (key (amx lt key xs))]? = some (amx lt key xs) := by
  obtain ⟨l, mid, e, h1, h2⟩ := amx_split (key := key) O h
  generalize amx lt key xs = m at *
  subst e
  have hn : key m ∉ l.map key := by
    intro hm
    obtain ⟨y, hy, q⟩ := List.mem_map.mp hm
    have := h1 y hy
    rw [q, O.irr] at this
    cases this
  rw [List.map_append, List.map_cons, List.idxOf_append, if_neg hn, List.idxOf_cons_self, List.length_map]
  simp
theorem amx_snoc [Inhabited α] {p : List α} {x : α} (hp : p ≠ []) : amx lt key (p ++ [x]) = if lt (key (amx lt key p)) (key x) then x else amx lt key p := by
  cases p with
  | nil => exact absurd rfl hp
  | cons y r =>
    show (r ++ [x]).foldl _ y = _
    rw [List.foldl_append]; rfl
end
/-! ### all rows -/
def rows (n : Nat) : Nat → List (List Nat)
  | 0 => [[]]
  | m + 1 => (rows n m).flatMap fun r => (List.range n).map fun h => r ++ [h]
theorem mem_rows {n : Nat} : ∀ {m : Nat} {r : List Nat}, r ∈ rows n m ↔ r.length = m ∧ ∀ x ∈ r, x < n
  | 0, r => by
    rw [rows, List.mem_singleton]
    constructor
    · rintro rfl; exact ⟨rfl, fun x hx => by cases hx⟩
    · rintro ⟨h, _⟩; exact List.eq_nil_of_length_eq_zero h
  | m + 1, r => by
    rw [rows, List.mem_flatMap]
    constructor
    · rintro ⟨q, h1, h2⟩
      obtain ⟨h, h3, rfl⟩ := List.mem_map.mp h2
      obtain ⟨h4, h5⟩ := mem_rows.mp h1
      refine ⟨by simp [h4], fun x hx => ?_⟩
      rcases List.mem_append.mp hx with hx | hx
      · exact h5 x hx
      · rw [List.mem_singleton.mp hx]; exact List.mem_range.mp h3
    · rintro ⟨h1, h2⟩
      rcases List.eq_nil_or_concat r with rfl | ⟨q, x, rfl⟩
      · simp at h1
      · rw [List.concat_eq_append] at h1 h2 ⊢
        refine ⟨q, mem_rows.mpr ⟨by simpa using h1, fun y hy => h2 y (by simp [hy])⟩, List.mem_map.mpr ⟨x, List.mem_range.mpr (h2 x (by simp)), rfl⟩⟩
theorem rows_len {n : Nat} : ∀ m : Nat, (rows n m).length = n ^ m
  | 0 => rfl
  | m + 1 => by
    rw [rows, List.length_flatMap]
    simp only [List.length_map, List.length_range]
    have : ∀ l : List (List Nat), (l.map fun _ => n).sum = l.length * n := fun l => by
      induction l with
      | nil => simp
      | cons x l ih => simp [ih, Nat.succ_mul]; omega
    rw [this, rows_len m, Nat.pow_succ]
theorem rows_ne {n m : Nat} (h : 1 ≤ n) : rows n m ≠ [] := by
  intro e
  have := rows_len (n := n) m
  rw [e] at this
  have := Nat.pow_pos (n := m) (show 0 < n by omega)
  simp at *
  omega
theorem m_un {s s1 : ES} {f : Mo Ref} {a : D} {ds : List D} {q : D → Option (List D)} (h1 : f s = .ok (.d a) s1) (h3 : q a = some ds) : mUn q f s = .ok ds s1 := by
  unfold mUn bnd
  rw [h1]; dsimp only [rd]; unfold liftL; rw [h3]
/-! ### comparing data -/
theorem cmp_enc {α : Type} [DecidableEq α] {f : α → D} {k : Nat} (E : EncOk f k) (a b : α) (hk : k ≤ 63) : cmpOk (f a) (f b) = true := by
  unfold cmpOk
  rw [E.al, E.nn]
  have := E.dep a
  simp; omega
theorem gt_tup {α : Type} [DecidableEq α] {f : α → D} {lt : α → α → Bool} {k : Nat} (E : EncOk f k) (L : LtOk f lt) {a b : α} {xs : List D} (ha : f a = .tuple xs) (hk : k ≤ 63 := by decide) : dGt (f a) (f b) = some (.bool (lt b a)) := by
  have e : dGt (f a) (f b) = if cmpOk (f a) (f b) then some (.bool (PySem.W.dataLt (f b) (f a))) else none := by rw [ha]; rfl
  rw [e, cmp_enc E a b hk, if_pos rfl, L b a]
end Ev
set_option Elab.async false
set_option linter.all false
set_option maxRecDepth 100000
set_option maxHeartbeats 4000000
/-! Ev24: one's own lists again; while with draws; sorted rows of numbers -/
namespace Ev
open PySem L2
theorem st_putix {s s1 s2 s3 : ES} {i n : Nat} {f fi : Mo Ref} {d : D} {xs : List D} (h1 : f s = .ok (.d d) s1) (h0 : ownAtS i s1 = true) (h2 : fi s1 = .ok (.d (.int (n : Int))) s2) (h3 : s2.σ[i]? = some (some (.own xs))) (hn : n < xs.length) (h4 : put i (.own (xs.set n d)) s2 = s3) : sPutIx i f fi s = .nx s3 := by
  unfold sPutIx sE bnd
  rw [h1]
  dsimp only [dur]
  rw [if_pos h0, h2]
  dsimp only [rd]
  rw [h3]
  dsimp only
  rw [ixN_nat hn]
  dsimp only
  rw [h4]
theorem while_ex {ft : Mo Bool} {g : ES → SR} {P : Nat → ES → Prop} (h0 : ∀ s, P 0 s → ft s = .ok false s) (hs : ∀ k s, P (k + 1) s → ft s = .ok true s ∧ ∃ s2, g s = .nx s2 ∧ P k s2) :
    ∀ (n k : Nat) (s : ES), P k s → k < n → ∃ s', whileF ft g n s = .nx s' ∧ P 0 s'
  | 0, _, _, _, h => absurd h (Nat.not_lt_zero _)
  | n + 1, 0, s, p, _ => by
    refine ⟨s, ?_, p⟩
    unfold whileF sE
    rw [h0 s p]; rfl
  | n + 1, k + 1, s, p, h => by
    obtain ⟨e1, s2, e2, p2⟩ := hs k s p
    obtain ⟨s', e3, p3⟩ := while_ex h0 hs n k s2 p2 (by omega)
    refine ⟨s', ?_, p3⟩
    unfold whileF sE
    rw [e1]
    dsimp only
    rw [if_pos rfl, e2]
    exact e3
theorem popAt_nat {xs : List D} {n : Nat} {d : D} (h : xs[n]? = some d) (hn : n < 1000000) : opPopAt xs [.int (n : Int)] = some (d, xs.eraseIdx n) := by
  have hl := (List.getElem?_eq_some_iff.mp h).1
  have e : PySem.seqIndex? (n : Int) xs.length = some n := by
    unfold PySem.seqIndex?
    dsimp only
    rw [show (if (n : Int) < 0 then (n : Int) + (xs.length : Int) else (n : Int)) = (n : Int) from if_neg (by omega)]
    rw [if_pos (by rw [Bool.and_eq_true, decide_eq_true_eq, decide_eq_true_eq]; omega), Int.toNat_natCast]
  unfold opPopAt
  dsimp only
  rw [if_pos ⟨by omega, by omega⟩, e]
  dsimp only
  rw [h]
theorem rng_l {n : Nat} (h : n ≤ 16777216) : dRngL (.int (n : Int)) = some ((List.range n).map Nn) := by
  unfold dRngL
  dsimp only
  rw [if_pos ⟨by omega, by omega⟩, rngL0]
end Ev
set_option Elab.async false
set_option linter.all false
set_option maxRecDepth 100000
set_option maxHeartbeats 4000000
/-! Ev25: loops that may return -/
namespace Ev
open PySem L2
section
variable {α : Type} {fi : Mo (List D)} {pt : Pat} {body K : ES → SR} {enc : α → D} {P : List α → ES → Prop} {xs : List α} {s s1 : ES} {r : SR} {v : D} {T : Ext}
theorem for_ret : ∀ (ys pre : List α) (s : ES), P pre s → (∀ p x q s, pre ++ ys = p ++ x :: q → P p s → ∃ s1, pt (enc x) s = some s1 ∧ ((∃ s2, body s1 = .nx s2 ∧ P (p ++ [x]) s2) ∨ body s1 = .rt v T)) → (∃ s', forL pt body (ys.map enc) s = .nx s' ∧ P (pre ++ ys) s') ∨ forL pt body (ys.map enc) s = .rt v T
  | [], pre, s, p, _ => .inl ⟨s, rfl, by rw [List.append_nil]; exact p⟩
  | x :: ys, pre, s, p, h => by
    obtain ⟨s1, e1, e2⟩ := h pre x ys s rfl p
    rw [List.map_cons, forL_eq, e1]
    dsimp only
    rcases e2 with ⟨s2, e2, p2⟩ | e2
    · rw [e2]
      dsimp only
      rcases for_ret ys (pre ++ [x]) s2 p2 (by rw [List.append_assoc]; exact h) with ⟨s', e3, p3⟩ | e3
      · exact .inl ⟨s', e3, by rw [List.append_assoc] at p3; exact p3⟩
      · exact .inr e3
    · exact .inr (by rw [e2])
/-- a loop whose body goes on or returns v; behind it v is returned, too -/
theorem st_forV (P : List α → ES → Prop) (h1 : fi s = .ok (xs.map enc) s1) (h0 : P [] s1) (hs : ∀ p x q s, xs = p ++ x :: q → P p s → ∃ s1, pt (enc x) s = some s1 ∧ ((∃ s2, body s1 = .nx s2 ∧ P (p ++ [x]) s2) ∨ body s1 = .rt v T))
    (k : ∀ s', P xs s' → K s' = .rt v T) : sSeq (sFor fi pt body) K s = .rt v T := by
  rcases for_ret xs [] s1 h0 hs with ⟨s', e, p⟩ | e
  · exact st_seq' (st_for' h1 e) (k s' p)
  · exact st_seqR (st_for' h1 e)
end
end Ev
set_option Elab.async false
set_option linter.all false
set_option maxRecDepth 100000
set_option maxHeartbeats 4000000
/-! Ev26: isinstance(x, tuple); {k: v, ..}[e] -/
namespace Ev
open PySem PySem.Spec PyProof.Rows L2
section
variable {X : Cx}
def dIsTup : D → Option D
  | .tuple _ => some (.bool true)
  | .int _ => some (.bool false)
  | .bool _ => some (.bool false)
  | .none => some (.bool false)
  | .list _ => some (.bool false)
  | .str _ => some (.bool false)
  | .dict _ => none
def eIsTup (f : Mo Ref) : Mo Ref := eUn dIsTup f
theorem cr_isiT : CallR X (.builtin "isinstance") (fun xs H Q => ∃ x B dx d, xs = [x, V.ty "tuple"] ∧ (∀ a, B a → ∃ o, H a = some o) ∧ TV X.K B H x dx ∧ dIsTup dx = some d ∧ ∀ v H', Grow H H' → DV X.K B H' v d → Q v H') := by
  intro pins s σ H xs us Q I r h
  obtain ⟨x, B, dx, d, rfl, hb, tx, hd, q⟩ := h
  have go : ∀ (T : String) (b : Bool), TyX X.K H x (.type T) → kitB T "tuple" = some b → d = .bool b → wpAny (model X.prog X.w) X.A (call (.builtin "isinstance") us) (EP X pins σ Q) X.xe s := fun T b h1 h2 h3 =>
    call_isi pins s σ H _ us Q I r ⟨x, _, _, _, b, rfl, .ty "tuple", h1, kit_ty h2, by subst h3; exact q _ _ .refl (.bl _)⟩
  cases dx with
  | none => cases hd; cases tx.none; exact go "NoneType" false (.base (by constructor)) (by decide +kernel) rfl
  | bool b => cases hd; cases tx.bool; exact go "bool" false (.base (by constructor)) (by decide +kernel) rfl
  | int i => cases hd; cases tx.int; exact go "int" false (.base (by constructor)) (by decide +kernel) rfl
  | str z => cases hd; cases tx.str; exact go "str" false (.base (by constructor)) (by decide +kernel) rfl
  | list ds =>
    cases hd
    obtain ⟨a, vs, rfl, h1, h2⟩ := tx.lst
    exact go "list" false (.base (by constructor; exact h1)) (by decide +kernel) rfl
  | tuple ds =>
    cases hd
    obtain ⟨a, vs, rfl, h1, h2⟩ := tx.tup
    rcases h1 with ⟨h1, _⟩ | ⟨o, its, n, hk, hc, _⟩
    · exact go "tuple" true (.base (by constructor; exact h1)) (by decide +kernel) rfl
    · exact go "tuple" true (.kTuple hk hc) (by decide +kernel) rfl
  | dict _ => cases hd
theorem qe_isTup {XP : XPt} {p p2 pos : Pos} {a : Expr} {f : Mo Ref} (hm : X.mg "isinstance" = none) (hm2 : X.mg "tuple" = none) (ha : QE X XP a f) (hg : Gl X "isinstance" := by rfl) (hg2 : Gl X "tuple" := by rfl)
    (he : starEach [a, .Name "tuple" p2] X.env = (false, eval a X.env) :: starEach [.Name "tuple" p2] X.env := by rfl) (he2 : starEach [.Name "tuple" p2] X.env = [(false, eval (.Name "tuple" p2) X.env)] := by rfl) : QE X XP (.Call (.Name "isinstance" p) [a, .Name "tuple" p2] [] pos) (eIsTup f) :=
  PE.imp (pe_callB cr_isiT hg hm (by decide +kernel) (pa_cons ha (pa_cons (pe_bltn (v := .ty "tuple") (u := .type "tuple") hg2 hm2 (by decide +kernel) rfl) pa_nil he2) he) (by decide) (by decide) he (by rw [he2]; rfl)) fun σ H Q h => by
  obtain ⟨c, Z, W, s, r, h⟩ := h
  refine ⟨c, Z, W, s, r, h.bind.imp fun q1 s1 W1 H1 x1 r1 h1 v rv => ?_⟩
  obtain ⟨dx, tx, h3⟩ := h1.rd r1 rv
  obtain ⟨d, hd, h5⟩ := h3.lift
  exact ⟨v, blk Z W1, dx, d, rfl, fun a ha => r1.blkT ha, tx, hd, fun v H' gr dv => h5 W1 H' gr.stp (r1.grow gr) v dv⟩
end
/-- a list made in one of two ways -/
def mIf (ft : Mo Bool) (m1 m2 : Mo (List D)) : Mo (List D) := bnd ft fun b => if b then m1 else m2
theorem qm_if {X : Cx} {XP : XPt} {pos : Pos} {t a b : Expr} {ft : Mo Bool} {f g : Mo (List D)} (ht : QT X XP t ft) (ha : QM X XP a f) (hb : QM X XP b g) : QM X XP (.IfExp t a b pos) (mIf ft f g) := PE.imp (pe_ifExp ht ha hb) fun σ H Q h => by
  obtain ⟨c, Z, W, s, r, h⟩ := h
  refine ⟨c, Z, W, s, r, h.bind.imp fun k s1 W1 H1 x1 r1 h1 => ?_⟩
  cases k with
  | true => exact iteT ⟨c, Z, W1, s1, r1, h1⟩
  | false => exact iteF ⟨c, Z, W1, s1, r1, h1⟩
/-! ### lists lent to a call that answers with a number or None -/
abbrev noB : Addr → Prop := fun _ => False
theorem TV.lent {K : PySem.W.Frag} {B : Addr → Prop} {H : Hp} {v : V} {d : D} (t : TV K B H v d) : DV K noB H v d := by
  have g : ∀ a o, H a = some o → NT o → ¬ B a → H a = some o ∧ ¬ noB a := fun a o e _ _ => ⟨e, id⟩
  rcases t with t | ⟨a, xs, ds, rfl, rfl, h1, h2⟩
  · exact DV.mono g _ _ t
  · exact .lst h1 id (DVs.mono g _ _ h2)
theorem TVs.lent {K : PySem.W.Frag} {B : Addr → Prop} {H : Hp} : ∀ {vs : List V} {ds : List D}, TVs K B H vs ds → DVs K noB H vs ds
  | _, _, .nil => .nil
  | _, _, .cons t r => .cons t.lent (TVs.lent r)
def eCallL (F : Fn) (fs : Mo (List Ref)) : Mo Ref := bnd fs fun qs => bnd (rds qs) fun ds s => match F ds with
  | .ok (.int i) => .ok (.d (.int i)) s
  | .ok .none => .ok (.d .none) s
  | .ok _ => .stuck
  | .err c => .err c s.T
  | .stuck => .stuck
theorem qe_callL {X : Cx} {XP : XPt} {CG : Addr} {k : Nat} {x : Str} {F : Fn} {p pos : Pos} {e : Expr} {es : List Expr} {fs : Mo (List Ref)} (G : Df X.prog X.w X.K X.mg X.base CG k x F) (hr : Room k X.A) (tk : Tk X CG XP) (ha : QA X XP (e :: es) fs) (hg : Gl X x := by rfl)
    (hdb : (x == ("__debug__" : Str)) = false := by decide) (he : starEach (e :: es) X.env = (false, eval e X.env) :: starEach es X.env := by rfl) (hpl : (backTo pos (starEach es X.env)).any (·.1) = false := by rfl) : QE X XP (.Call (.Name x p) (e :: es) [] pos) (eCallL F fs) := by
  obtain ⟨f, fd, ps, ok, hm, hk, hb⟩ := G.ex
  refine PE.imp (pe_callS ok hr hg hm hk hb (fun σ => passAt tk σ) ha hdb he hpl) fun σ H Q h => ?_
  obtain ⟨c, Z, W, s, r, h⟩ := h
  refine ⟨c, Z, W, s, r, h.bind.imp fun qs s1 W1 H1 x1 r1 h1 vs rvs => ?_⟩
  obtain ⟨ds, tvs, h2⟩ := h1.rds r1 rvs
  refine ⟨noB, ds, fun a b => b.elim, r1.tb, tvs.lent, ?_⟩
  cases ef : F ds with
  | ok d =>
    rw [ef] at h2
    cases d with
    | int i => exact fun v H' gr tb dv => h2 W1 H' gr.stp (r1.growT gr tb) v (by cases dv; exact .int i)
    | none => exact fun v H' gr tb dv => h2 W1 H' gr.stp (r1.growT gr tb) v (by cases dv; exact .non)
    | _ => exact h2.elim
  | err cd => rw [ef] at h2; exact fun d H' gr tb hd => ⟨cd, d, rfl, rfl, hd, h2 d W1 H' gr.stp (r1.T.growT gr) tb hd⟩
  | stuck => rw [ef] at h2; exact h2.elim
theorem ev_callL {F : Fn} {fs : Mo (List Ref)} {qs : List Ref} {ds : List D} {s s1 s2 : ES} {i : Int} (h1 : fs s = .ok qs s1) (h2 : rds qs s1 = .ok ds s2) (h3 : F ds = .ok (.int i)) : eCallL F fs s = .ok (.d (.int i)) s2 := by
  unfold eCallL bnd; rw [h1]; dsimp only; rw [h2]; dsimp only; rw [h3]
theorem rd_nil {s : ES} : rds [] s = .ok [] s := rfl
theorem rd_cons {qs : List Ref} {s s1 : ES} {d : D} {ds : List D} (h : rds qs s = .ok ds s1) : rds (.d d :: qs) s = .ok (d :: ds) s1 := by unfold rds bnd; dsimp only [rd]; rw [h]
theorem rd_own {qs : List Ref} {s s1 : ES} {i : Nat} {es ds : List D} (ho : s.σ[i]? = some (some (.own es))) (h : rds qs s = .ok ds s1) : rds (.slot i :: qs) s = .ok (.list es :: ds) s1 := by unfold rds bnd; dsimp only [rd]; rw [ho]; dsimp only; rw [h]
theorem hu1 {A : Around} {k : Nat} (hr : Room k A) : A.units + 1 < cLine := by have := hr.un; omega
/-! ### a display of a dict, one place taken at once -/
def eVals : List (Mo Ref) → ES → Option (List Int × ES)
  | [], s => some ([], s)
  | f :: r, s => match f s with
    | .ok (.d (.int i)) s1 => match eVals r s1 with
      | some (is, s2) => some (i :: is, s2)
      | none => none
    | _ => none
def kvOf (ks : List Str) (is : List Int) : List (Key × V) := (ks.zip is).map fun p => (.inr p.1, V.int p.2)
def eDisp (L : List (Str × Mo Ref)) (fk : Mo Ref) : Mo Ref := fun s => match eVals (L.map Prod.snd) s with
  | none => .stuck
  | some (is, s1) => match fk s1 with
    | .ok (.d (.str k)) s2 => match valV (mergeK [] (kvOf (L.map Prod.fst) is)) (.inr k) with
      | some (.int i) => .ok (.d (.int i)) s2
      | _ => .stuck
    | _ => .stuck
theorem nt_dK {kvs : List (Key × V)} : NT (.dK kvs) := fun _ h => by cases h
section
variable {K : PySem.W.Frag} {XP : XPt} {c : Option (Addr × Addr)} {Z : Addr → Prop} {W W1 : Own} {σ : Sl} {H H1 : Hp} {s : ES}
theorem Rel.addD {p : Addr} {kvs : List (Key × V)} (r : Rel K c Z W s σ H) (hp : H p = none) : Rel K c (zP Z p) W s σ (upd H p (.dK kvs)) := by
  have g := Grow.upd (o := HO.dK kvs) hp
  have k : ∀ a o, H a = some o → NT o → ¬ blk Z W a → upd H p (.dK kvs) a = some o ∧ ¬ blk (zP Z p) W a := fun a o e _ n => ⟨g a o e, by
    rintro ((z | rfl) | z)
    · exact n (.inl z)
    · rw [hp] at e; cases e
    · exact n (.inr z)⟩
  refine ⟨r.len, fun i sv e => ?_, r.inj, fun i a e => ⟨?_, (r.wo i a e).2.elim fun o q => ⟨o, g _ _ q.1, q.2⟩⟩, fun a z => ?_, fun a l e => ⟨.inl (r.cz a l e).1, .inl (r.cz a l e).2⟩, r.T.grow g, r.tb.ext g, r.len1, r.cL, r.cel.same k (fun _ => rfl) rfl fun _ a o _ e => g a o e⟩
  · have q := r.slot i sv e
    cases sv with
    | val d => obtain ⟨v, h1, h2⟩ := q; exact ⟨v, h1, DV.mono k _ _ h2⟩
    | own ds => obtain ⟨a, xs, h1, h2, h3, h4⟩ := q; exact ⟨a, xs, h1, h2, g _ _ h3, DVs.mono k _ _ h4⟩
    | cur => exact q
    | cel n => exact q
  · rintro (z | rfl)
    · exact (r.wo i a e).1 z
    · obtain ⟨_, o, q, _⟩ := r.wo i _ e
      rw [hp] at q; cases q
  · rcases z with z | rfl
    · exact (r.zt a z).elim fun o q => ⟨o, g _ _ q⟩
    · exact ⟨_, upd_same⟩
theorem TabOk.updD {a : Addr} {kvs : List (Key × V)} {o : HO} (t : TabOk K H) (h : H a = some (.dK kvs)) : TabOk K (L2.upd H a o) := fun p hp => by
  obtain ⟨ps, h1, h2, h3⟩ := t p hp
  refine ⟨ps, by rw [upd_ne (fun z => by rw [z, h] at h1; cases h1)]; exact h1, h2, fun pos cv hc => ?_⟩
  obtain ⟨c, e1, e2⟩ := h3 pos cv hc
  exact ⟨c, e1, by rw [upd_ne (fun z => by rw [z, h] at e2; cases e2)]; exact e2⟩
theorem Rel.setD {p : Addr} {o : HO} (r : Rel K c Z W s σ H) {kvs : List (Key × V)} (hp : H p = some (.dK kvs)) (hz : Z p) (hc : ∀ a l, c = some (a, l) → p ≠ a ∧ p ≠ l) : Rel K c Z W s σ (upd H p o) := by
  have k : ∀ a u, H a = some u → NT u → ¬ blk Z W a → upd H p o a = some u ∧ ¬ blk Z W a := fun a u e _ n => ⟨by rw [upd_ne (fun z => n (.inl (by rw [z]; exact hz)))]; exact e, n⟩
  have nw : ∀ i a, W i = some a → a ≠ p := fun i a e z => (r.wo i a e).1 (by rw [z]; exact hz)
  refine ⟨r.len, fun i sv e => ?_, r.inj, fun i a e => ⟨(r.wo i a e).1, (r.wo i a e).2.elim fun u q => ⟨u, by rw [upd_ne (nw i a e)]; exact q⟩⟩, fun a z => ?_, r.cz, ?_, r.tb.updD hp, r.len1, r.cL, r.cel.same k (fun _ => rfl) rfl fun m a u q e => by rw [upd_ne (nw _ a q)]; exact e⟩
  · have q := r.slot i sv e
    cases sv with
    | val d => obtain ⟨v, h1, h2⟩ := q; exact ⟨v, h1, DV.mono k _ _ h2⟩
    | own ds => obtain ⟨a, xs, h1, h2, h3, h4⟩ := q; exact ⟨a, xs, h1, h2, by rw [upd_ne (nw i a h1)]; exact h3, DVs.mono k _ _ h4⟩
    | cur => exact q
    | cel n => exact q
  · by_cases ha : a = p
    · exact ⟨o, by rw [ha]; exact upd_same⟩
    · rw [upd_ne ha]; exact r.zt a z
  · have q := r.T
    cases hT : s.T.cu with
    | none => rw [hT] at q; exact q
    | some cu =>
      rw [hT] at q
      obtain ⟨a, l, h1, h3, h4, h5⟩ := q
      obtain ⟨n1, n2⟩ := hc a l h1
      exact ⟨a, l, h1, h3, by rw [upd_ne (Ne.symm n1)]; exact h4, by rw [upd_ne (Ne.symm n2)]; exact h5⟩
theorem Rel.shrinkZ {Z' : Addr → Prop} (r : Rel K c Z' W s σ H) (hz : ∀ a, Z a → Z' a) (hc : ∀ a l, c = some (a, l) → Z a ∧ Z l) : Rel K c Z W s σ H := by
  have nb : ∀ a, ¬ blk Z' W a → ¬ blk Z W a := fun a n => by
    rintro (z | z)
    · exact n (.inl (hz a z))
    · exact n (.inr z)
  refine ⟨r.len, fun i sv e => ?_, r.inj, fun i a e => ⟨fun z => (r.wo i a e).1 (hz a z), (r.wo i a e).2⟩, fun a z => r.zt a (hz a z), hc, r.T, r.tb, r.len1, r.cL, r.cel.same (fun a o h _ n => ⟨h, nb a n⟩) (fun _ => rfl) rfl fun _ _ _ _ e => e⟩
  have q := r.slot i sv e
  cases sv with
  | val d => obtain ⟨v, h1, h2⟩ := q; exact ⟨v, h1, DV.mono (fun a o h t n => ⟨h, nb a n⟩) _ _ h2⟩
  | own ds => obtain ⟨a, xs, h1, h2, h3, h4⟩ := q; exact ⟨a, xs, h1, h2, h3, DVs.mono (fun a o h t n => ⟨h, nb a n⟩) _ _ h4⟩
  | cur => exact q
  | cel n => exact q
theorem eVals_len : ∀ {fs : List (Mo Ref)} {s s' : ES} {is : List Int}, eVals fs s = some (is, s') → is.length = fs.length
  | [], s, s', is, h => by cases h; rfl
  | f :: r, s, s', is, h => by
    unfold eVals at h
    split at h
    · split at h
      · rename_i e; cases h; rw [List.length_cons, List.length_cons, eVals_len e]
      · cases h
    · cases h
theorem pairs_run : ∀ (L : List (Str × Mo Ref)) (s s' : ES) (is : List Int) (W : Own) (H : Hp) (Q : List (V × V) → Hp → Prop), eVals (L.map Prod.snd) s = some (is, s') → Rel K c Z W s σ H →
    (∀ W' H', Stp c W H W' H' → Rel K c Z W' s' σ H' → Q ((kvOf (L.map Prod.fst) is).map fun kv => (kV kv.1, kv.2)) H') → tPairs (L.map fun kf => (tC (V.str kf.1), tE K XP kf.2)) σ H Q
  | [], s, s', is, W, H, Q, h, r, q => by cases h; exact q W H .refl r
  | (k, f) :: L, s, s', is, W, H, Q, h, r, q => by
    rw [List.map_cons] at h
    unfold eVals at h
    split at h
    · rename_i i s1 e1
      split at h
      · rename_i js s2 e2
        cases h
        refine ⟨c, Z, W, s, r, ?_⟩
        show Run K XP c Z W σ H (f s) _
        have e1 : f s = _ := e1
        rw [e1]
        intro W1 H1 x1 r1 v rv
        have hv : v = V.int i := by cases rv; rfl
        subst hv
        exact pairs_run L s1 s' js W1 H1 _ e2 r1 fun W2 H2 x2 r2 => q W2 H2 (x1.trans x2) r2
      · cases h
    · cases h
end
section
variable {X : Cx} {XP : XPt} {pos p2 : Pos} {keys : List (Option Expr)} {values : List Expr} {ke : Expr} {L : List (Str × Mo Ref)} {fk : Mo Ref}
theorem qe_disp (hu : X.A.units + 1 < cLine) (hp : PPs X p2 keys values (L.map fun kf => (tC (V.str kf.1), tE X.K XP kf.2))) (hk : QE X XP ke fk) (hs : NoSl ke) (hall : keys.all (·.isSome) = true) (hl : keys.length = values.length) (h0 : keys ≠ []) (h15 : keys.length ≤ 15) (hL : L.length ≤ 15) :
    QE X XP (.Subscript (.Dict keys values p2) ke pos) (eDisp L fk) := PE.imp (pe_dget hu (pe_disp hp hall hl h0 h15) hk hs) fun σ H Q h => by
  obtain ⟨c, Z, W, s, r, h⟩ := h
  unfold eDisp at h
  split at h
  · exact h.elim
  · rename_i is s1 e1
    split at h
    · rename_i k s2 e2
      split at h
      · rename_i i e3
        intro p hpn
        have g : Grow H (upd H p (.dK [])) := Grow.upd hpn
        have hc : ∀ a l, c = some (a, l) → p ≠ a ∧ p ≠ l := fun a l e => by
          obtain ⟨z1, z2⟩ := r.cz a l e
          refine ⟨fun z => ?_, fun z => ?_⟩
          · obtain ⟨o, q⟩ := r.zt a z1; rw [← z, hpn] at q; cases q
          · obtain ⟨o, q⟩ := r.zt l z2; rw [← z, hpn] at q; cases q
        have nC : ¬ isC c p := fun ⟨l, e⟩ => (hc p l e).1 rfl
        have r1 : Rel X.K c (zP Z p) W s σ (upd H p (.dK [])) := r.addD hpn
        have zp : zP Z p p := .inr rfl
        refine pairs_run L s s1 is W _ _ e1 r1 fun W2 H2 x2 r2 => ?_
        have hp2 : H2 p = some (.dK []) := x2.keep p _ upd_same nt_dK (fun j e => (r1.wo j p e).1 zp) nC
        refine ⟨hp2, kvOf (L.map Prod.fst) is, rfl, ?_, ?_⟩
        · unfold kvOf
          rw [List.length_map, List.length_zip, List.length_map]
          omega
        · have r3 : Rel X.K c (zP Z p) W2 s1 σ (upd H2 p (.dK (mergeK [] (kvOf (L.map Prod.fst) is)))) := r2.setD hp2 zp hc
          refine ⟨c, zP Z p, W2, s1, r3, ?_⟩
          show Run X.K XP c (zP Z p) W2 σ _ (fk s1) _
          rw [e2]
          intro W4 H4 x4 r4 v rv
          have hv : v = V.str k := by cases rv; rfl
          subst hv
          have hp4 : H4 p = some (.dK (mergeK [] (kvOf (L.map Prod.fst) is))) := x4.keep p _ upd_same nt_dK (fun j e => (r3.wo j p e).1 zp) nC
          refine ⟨p, V.int i, rfl, ?_, ?_⟩
          · have := DGet.k (k := .inr k) hp4
            rw [e3] at this
            exact this
          · have x : Stp c W H W2 (upd H2 p (.dK (mergeK [] (kvOf (L.map Prod.fst) is)))) := Stp.updP (g.stp.trans x2) hpn
            exact h W4 H4 (x.trans x4) (r4.shrinkZ (fun a z => .inl z) r.cz) _ (.int i)
      · exact h.elim
    · exact h.elim
end
end Ev
set_option Elab.async false
set_option linter.all false
set_option maxRecDepth 100000
set_option maxHeartbeats 4000000
/-! Ev27: sorting on forms; ranges from a place; and; lists -/
namespace Ev
open PySem L2
/-! sorted on forms -/
section
variable {α : Type} {f : α → D} {lt : α → α → Bool}
def insB (lt : α → α → Bool) (a : α) : List α → List α
  | [] => [a]
  | b :: r => if !lt b a then a :: b :: r else b :: insB lt a r
def isB (lt : α → α → Bool) : List α → List α
  | [] => []
  | a :: l => insB lt a (isB lt l)
theorem insB_map (L : LtOk f lt) (a : α) : ∀ l : List α, insD (fun a b => !PySem.W.dataLt b a) (f a) (l.map f) = (insB lt a l).map f
  | [] => rfl
  | b :: r => by
    show (if (!PySem.W.dataLt (f b) (f a)) then f a :: f b :: r.map f else f b :: insD (fun a b => !PySem.W.dataLt b a) (f a) (r.map f)) = (if !lt b a then a :: b :: r else b :: insB lt a r).map f
    rw [L, insB_map L a r]
    split <;> rfl
theorem sortD_map (L : LtOk f lt) : ∀ l : List α, sortD (l.map f) = (isB lt l).map f
  | [] => rfl
  | a :: l => by
    show insD _ (f a) (sortD (l.map f)) = _
    rw [sortD_map L l, insB_map L]
    rfl
theorem insB_perm (a : α) : ∀ l : List α, (insB lt a l).Perm (a :: l)
  | [] => .refl _
  | b :: r => by
    unfold insB
    split
    · exact .refl _
    · exact ((insB_perm a r).cons b).trans (List.Perm.swap a b r)
theorem isB_perm : ∀ l : List α, (isB lt l).Perm l
  | [] => .refl _
  | a :: l => (insB_perm a _).trans ((isB_perm l).cons a)
theorem insB_pair (O : Ordb lt) (a : α) : ∀ l : List α, l.Pairwise (fun a b => lt b a = false) → (insB lt a l).Pairwise (fun a b => lt b a = false)
  | [], _ => List.pairwise_singleton _ _
  | b :: r, h => by
    have hh := List.pairwise_cons.mp h
    unfold insB
    split
    · rename_i c
      have c : lt b a = false := by simpa using c
      refine List.pairwise_cons.mpr ⟨?_, h⟩
      intro y hy
      rcases List.mem_cons.mp hy with rfl | hy
      · exact c
      · cases e : lt y a with
        | false => rfl
        | true =>
          have e1 := hh.1 y hy
          have := O.le_lt e1 e
          rw [c] at this; cases this
    · rename_i c
      have c : lt b a = true := by simpa using c
      refine List.pairwise_cons.mpr ⟨?_, insB_pair O a r hh.2⟩
      intro y hy
      rcases List.mem_cons.mp ((insB_perm a r).mem_iff.mp hy) with rfl | hy
      · exact O.asymm c
      · exact hh.1 y hy
theorem isB_pair (O : Ordb lt) : ∀ l : List α, (isB lt l).Pairwise (fun a b => lt b a = false)
  | [] => List.Pairwise.nil
  | a :: l => insB_pair O a _ (isB_pair O l)
end
abbrev KP : Int × Nat → D := P2 I Nn
theorem enc_KP : EncOk KP 1 := enc_P2 enc_I enc_N
abbrev ltK : Int × Nat → Int × Nat → Bool := lexP ltI ltN
theorem lt_KP : LtOk KP ltK := lt_P2 enc_I lt_I enc_N lt_N
theorem ord_K : Ordb ltK := ord_P ord_I ord_N
theorem sort_KP (l : List (Int × Nat)) : dSortM (Li KP l) = some ((isB ltK l).map KP) := by
  show (if canSort (l.map KP) then some (sortD (l.map KP)) else none) = _
  have h := canLt_enc enc_KP (by decide : 1 ≤ 64) l
  have d := dep_map enc_KP l
  rw [if_pos, sortD_map lt_KP]
  unfold canLt at h
  rw [Bool.and_eq_true, Bool.and_eq_true] at h
  unfold canSort
  rw [h.1.1, Bool.true_and, Bool.and_eq_true, Bool.or_eq_true, decide_eq_true_eq]
  refine ⟨.inl ?_, by omega⟩
  rw [List.all_map, List.all_eq_true]
  intro x _
  rfl
theorem ev_andV {f g : Mo Ref} {s : ES} {k l : Bool} (h1 : f s = .ok (.d (.bool k)) s) (h2 : k = true → g s = .ok (.d (.bool l)) s) : eAndV f g s = .ok (.d (.bool (k && l))) s := by
  unfold eAndV bnd
  rw [h1]
  cases k with
  | false => rfl
  | true => exact h2 rfl
theorem ev_andX {f g : Mo Ref} {s s1 : ES} {k l : Bool} (h1 : f s = .ok (.d (.bool k)) s1) (h2 : k = true → g s1 = .ok (.d (.bool l)) s1) : eAndV f g s = .ok (.d (.bool (k && l))) s1 := by
  unfold eAndV bnd
  rw [h1]
  cases k with
  | false => rfl
  | true => exact h2 rfl
def jsL (n i : Nat) : List Nat := (List.range (n - (i + 1))).map fun m => i + 1 + m
theorem mem_js {n i j : Nat} : j ∈ jsL n i ↔ i < j ∧ j < n := by
  unfold jsL
  rw [List.mem_map]
  constructor
  · rintro ⟨m, hm, rfl⟩
    have := List.mem_range.mp hm
    omega
  · intro ⟨h1, h2⟩
    exact ⟨j - (i + 1), List.mem_range.mpr (by omega), by omega⟩
theorem w_r2 {f g : Mo Ref} {s s1 s2 : ES} {n i : Nat} (h1 : f s = .ok (.d (Nn (i + 1))) s1) (h2 : g s1 = .ok (.d (Nn n)) s2) (hi : i < 1000) (hn : n < 1000) : iR2 f g s = .ok ((jsL n i).map Nn) s2 := by
  unfold iR2 bnd
  rw [h1]
  dsimp only [bnd]
  rw [h2]
  show liftL (dRng2 (Nn (i + 1)) (Nn n)) s2 = _
  have : dRng2 (Nn (i + 1)) (Nn n) = some ((jsL n i).map Nn) := by
    show (if (inLine ((i + 1 : Nat) : Int) && inLine (n : Int)) = true then some (rngL ((i + 1 : Nat) : Int) (n : Int)) else none) = _
    rw [inLine_nat (by omega), inLine_nat (by omega), if_pos (by rfl)]
    unfold rngL jsL
    rw [List.map_map, show ((n : Int) - ((i + 1 : Nat) : Int)).toNat = n - (i + 1) by omega]
    congr 1
  rw [this]
  rfl


theorem getD_map {α β : Type} [Inhabited α] [Inhabited β] {f : α → β} {xs : List α} {k : Nat} (h : k < xs.length) : (xs.map f).getD k default = f (xs.getD k default) := by
  rw [List.getD_eq_getElem?_getD, List.getElem?_map, getD_some h]; rfl
theorem le_sz {n m : Nat} (h : n ≤ m) (hm : m ≤ 1000 := by decide) : n ≤ szL := Nat.le_trans h (Nat.le_trans hm (by simp [szL]))
theorem gmem {α : Type} [Inhabited α] {xs : List α} {n : Nat} (h : n < xs.length) : xs.getD n default ∈ xs := List.mem_of_getElem? (getD_some h)
theorem st_ownE {i : Nat} {m : Mo (List D)} {s s1 s2 : ES} {ds : List D} (h1 : m s = .ok ds s1) (h2 : put i (.own ds) s1 = s2) : sOwn i m s = .nx s2 := by rw [st_own h1, h2]
theorem set_I {S : List Int} {k : Nat} {v : Int} : (S.map I).set k (I v) = (S.set k v).map I := by rw [List.map_set]
theorem set_sum : ∀ (l : List Int) (k : Nat) (v : Int), k < l.length → (l.set k (l.getD k default + v)).sum = l.sum + v
  | [], _, _, h => absurd h (Nat.not_lt_zero _)
  | x :: l, 0, v, _ => by simp; omega
  | x :: l, k + 1, v, h => by
    have := set_sum l k v (by simpa using h)
    simp only [List.set_cons_succ, List.getD_cons_succ, List.sum_cons]
    omega
theorem getD_set {l : List Int} {k j : Nat} {v : Int} (hk : k < l.length) : (l.set k v).getD j default = if j = k then v else l.getD j default := by
  rw [List.getD_eq_getElem?_getD, List.getD_eq_getElem?_getD, List.getElem?_set]
  by_cases e : k = j
  · subst e; rw [if_pos rfl, if_pos hk, if_pos rfl]; rfl
  · rw [if_neg e, if_neg fun z => e z.symm]
theorem zip_le {α β : Type} (xs : List α) (ys : List β) : (xs.zip ys).length ≤ xs.length := by rw [List.length_zip]; omega
end Ev
namespace Ev
open PySem L2
theorem sl_takeL {α : Type} {f : α → D} {xs : List α} {k : Nat} : dSl (Li f xs) none (some (k : Int)) = some (Li f (xs.take k)) := by
  show some (PyData.list (cutD (xs.map f) none (some (k : Int)))) = _
  rw [cut_take, ← List.map_take]; rfl
end Ev
namespace Ev
open PySem L2
section
variable {α : Type} {fi : Mo (List D)} {pt : Pat} {body K : ES → SR} {enc : α → D} {P : ES → Prop} {g : α → Option D} {s : ES} {d0 : D} {T : Ext}
theorem for_some : ∀ (xs : List α) (s : ES), P s → (∀ s x, x ∈ xs → P s → ∃ s1, pt (enc x) s = some s1 ∧ ((∃ d, g x = some d ∧ body s1 = .rt d T) ∨ (g x = none ∧ ∃ s2, body s1 = .nx s2 ∧ P s2))) →
    (∃ d, xs.findSome? g = some d ∧ forL pt body (xs.map enc) s = .rt d T) ∨ (xs.findSome? g = none ∧ ∃ s', forL pt body (xs.map enc) s = .nx s' ∧ P s')
  | [], s, p, _ => .inr ⟨rfl, s, rfl, p⟩
  | x :: xs, s, p, h => by
    obtain ⟨s1, e1, q⟩ := h s x (by simp) p
    rw [List.map_cons, forL_eq, e1, List.findSome?_cons]
    dsimp only
    rcases q with ⟨d, e2, e3⟩ | ⟨e2, s2, e3, p2⟩
    · rw [e2, e3]; exact .inl ⟨d, rfl, rfl⟩
    · rw [e2, e3]
      exact for_some xs s2 p2 fun s y hy => h s y (by simp [hy])
theorem st_forS {xs : List α} (P : ES → Prop) (g : α → Option D) {s1 : ES} (h1 : fi s = .ok (xs.map enc) s1) (h0 : P s1)
    (hs : ∀ s x, x ∈ xs → P s → ∃ s1, pt (enc x) s = some s1 ∧ ((∃ d, g x = some d ∧ body s1 = .rt d T) ∨ (g x = none ∧ ∃ s2, body s1 = .nx s2 ∧ P s2)))
    (hK : ∀ s', P s' → K s' = .rt d0 T) : sSeq (sFor fi pt body) K s = .rt ((xs.findSome? g).getD d0) T := by
  rcases for_some xs s1 h0 hs with ⟨d, e1, e2⟩ | ⟨e1, s', e2, p⟩
  · rw [e1]; exact st_seqR (st_for' h1 e2)
  · rw [e1]; exact st_seq' (st_for' h1 e2) (hK s' p)
/-- the last statement of a body: a test that returns d -/
theorem some_if {t : Mo Bool} {u : ES → SR} {s1 s2 : ES} {o : Option D} {k : Bool} {d : D} (h1 : t s1 = .ok k s2) (h2 : u s2 = .rt d T) (ho : o = if k then some d else none) (hP : P s2) :
    (∃ d, o = some d ∧ sIf t u sNx s1 = .rt d T) ∨ (o = none ∧ ∃ s2, sIf t u sNx s1 = .nx s2 ∧ P s2) := by
  cases k with
  | true => exact .inl ⟨d, ho, st_ift h1 rfl h2⟩
  | false => exact .inr ⟨ho, s2, st_no h1 rfl, hP⟩
theorem some_seq {u v : ES → SR} {s1 s2 : ES} {o : Option D} (h1 : u s1 = .nx s2) (h : (∃ d, o = some d ∧ v s2 = .rt d T) ∨ (o = none ∧ ∃ s3, v s2 = .nx s3 ∧ P s3)) :
    (∃ d, o = some d ∧ sSeq u v s1 = .rt d T) ∨ (o = none ∧ ∃ s3, sSeq u v s1 = .nx s3 ∧ P s3) := by
  rw [st_seq h1]; exact h
theorem some_for {xs : List α} {Q : ES → Prop} (P : ES → Prop) (g : α → Option D) {s1 : ES} {o : Option D} (h1 : fi s = .ok (xs.map enc) s1) (h0 : P s1) (ho : o = xs.findSome? g)
    (hs : ∀ s x, x ∈ xs → P s → ∃ s1, pt (enc x) s = some s1 ∧ ((∃ d, g x = some d ∧ body s1 = .rt d T) ∨ (g x = none ∧ ∃ s2, body s1 = .nx s2 ∧ P s2))) (hQ : ∀ s, P s → Q s) :
    (∃ d, o = some d ∧ sFor fi pt body s = .rt d T) ∨ (o = none ∧ ∃ s3, sFor fi pt body s = .nx s3 ∧ Q s3) := by
  rcases for_some xs s1 h0 hs with ⟨d, e1, e2⟩ | ⟨e1, s', e2, p⟩
  · exact .inl ⟨d, ho.trans e1, st_for' h1 e2⟩
  · exact .inr ⟨ho.trans e1, s', st_for' h1 e2, hQ s' p⟩
end
end Ev
set_option Elab.async false
set_option linter.all false
set_option maxRecDepth 100000
set_option maxHeartbeats 4000000
/-! Ew28: cells: made, read, changed -/
namespace Ev
open PySem PySem.Spec PySem.W PyProof.Rows L2

/-! ### making, changing -/
def cellAt (W : Own) (p : Addr) : Own := ⟨fun j => if j = cix W.L then some p else W j, W.L + 1⟩
theorem cellAt_cases {W : Own} {j : Nat} {p a : Addr} (h : cellAt W p j = some a) : (j = cix W.L ∧ a = p) ∨ (j ≠ cix W.L ∧ W j = some a) := by
  dsimp only [cellAt] at h
  split at h
  · rename_i q; cases h; exact .inl ⟨q, rfl⟩
  · exact .inr ⟨by assumption, h⟩
theorem cellAt_self {W : Own} {p : Addr} : cellAt W p (cix W.L) = some p := by dsimp only [cellAt]; rw [if_pos rfl]
theorem cellAt_ne {W : Own} {j : Nat} {p : Addr} (h : j ≠ cix W.L) : cellAt W p j = W j := by dsimp only [cellAt]; rw [if_neg h]
theorem cix_inj {m n : Nat} (h : cix m = cix n) : m = n := by unfold cix at h; omega
theorem blk_cellAt {Z : Addr → Prop} {W : Own} {p a : Addr} (h : blk Z (cellAt W p) a) : blk (zP Z p) W a := by
  rcases h with h | ⟨j, h⟩
  · exact .inl (.inl h)
  · rcases cellAt_cases h with ⟨_, rfl⟩ | ⟨_, h⟩
    · exact .inl (.inr rfl)
    · exact .inr ⟨j, h⟩
section
variable {K : PySem.W.Frag} {XP : XPt} {c : Option (Addr × Addr)} {Z : Addr → Prop} {W W' W0 : Own} {s : ES} {σ : Sl} {H H' H0 : Hp}
def addC (s : ES) (x : Cell) : ES := withC s (s.T.ce ++ [x])
def setC (s : ES) (n : Nat) (x : Cell) : ES := withC s (s.T.ce.set n x)
theorem Rel.newC {p : Addr} {x : Cell} {o : HO} (r : Rel K c (zP Z p) W s σ H) (hz : ¬ Z p) (hc : ∀ a l, c = some (a, l) → Z a ∧ Z l) (hp : H p = some o) (mo : MutO o)
    (hx : ∀ B' W', (∀ a o, H a = some o → NT o → ¬ blk (zP Z p) W a → H a = some o ∧ ¬ B' a) → (∀ m a, m < W.L → W' (cix m) = some a → W (cix m) = some a) → W.L ≤ W'.L → W' (cix W.L) = some p → CellOk K B' W' H W.L x) :
    Rel K c Z (cellAt W p) (addC s x) σ H := by
  have g : ∀ a o, H a = some o → NT o → ¬ blk (zP Z p) W a → H a = some o ∧ ¬ blk Z (cellAt W p) a := fun a o e _ n => ⟨e, fun q => n (blk_cellAt q)⟩
  have cw : ∀ m a, m < W.L → cellAt W p (cix m) = some a → W (cix m) = some a := fun m a hm e => by rw [cellAt_ne (fun z => by have := cix_inj z; omega)] at e; exact e
  refine ⟨r.len, fun j sv e => ?_, fun j k b e1 e2 => ?_, fun j b e => ?_, fun a z => r.zt a (.inl z), hc, r.T, r.tb, r.len1, ?_, fun n y e => ?_⟩
  · have q := r.slot j sv e
    have hj : j < s.σ.length := (List.getElem?_eq_some_iff.mp e).1
    have hj := Nat.lt_of_lt_of_le hj r.len1
    cases sv with
    | val d => obtain ⟨v, h1, h2⟩ := q; exact ⟨v, h1, DV.mono g _ _ h2⟩
    | own ds => obtain ⟨a, xs, h1, h2, h3, h4⟩ := q; exact ⟨a, xs, by rw [cellAt_ne (cix_ne hj).symm]; exact h1, h2, h3, DVs.mono g _ _ h4⟩
    | cur => exact q
    | cel n => obtain ⟨h0, v, h1, h2⟩ := q; exact ⟨Nat.lt_succ_of_lt h0, v, h1, fun a e => h2 a (cw n a h0 e)⟩
  · rcases cellAt_cases e1 with ⟨h1, rfl⟩ | ⟨h1, h2⟩
    · rcases cellAt_cases e2 with ⟨h3, _⟩ | ⟨h3, h4⟩
      · rw [h1, h3]
      · exact ((r.wo k _ h4).1 (.inr rfl)).elim
    · rcases cellAt_cases e2 with ⟨h3, rfl⟩ | ⟨h3, h4⟩
      · exact ((r.wo j _ h2).1 (.inr rfl)).elim
      · exact r.inj _ _ _ h2 h4
  · rcases cellAt_cases e with ⟨h1, rfl⟩ | ⟨h1, h2⟩
    · exact ⟨hz, _, hp, mo⟩
    · exact ⟨fun z => (r.wo j b h2).1 (.inl z), (r.wo j b h2).2⟩
  · show (s.T.ce ++ [x]).length = W.L + 1
    rw [List.length_append, r.cL]; rfl
  · have e : (s.T.ce ++ [x])[n]? = some y := e
    by_cases hn : n < s.T.ce.length
    · rw [List.getElem?_append_left hn] at e
      refine (r.cel n y e).mono g cw (Nat.le_succ _) fun a o q1 q2 => ⟨by rw [cellAt_ne (fun z => by have := cix_inj z; rw [r.cL] at hn; omega)]; exact q1, q2⟩
    · have hl := (List.getElem?_eq_some_iff.mp e).1
      rw [List.length_append, List.length_singleton] at hl
      have hn' : n = s.T.ce.length := by omega
      subst hn'
      rw [List.getElem?_append_right (Nat.le_refl _), Nat.sub_self] at e
      cases e
      rw [r.cL]
      exact hx _ _ g cw (Nat.le_succ _) cellAt_self
theorem Stp.newC {p : Addr} {H0 : Hp} {W0 : Own} (x : Stp c W0 H0 W H) (hp : H0 p = Option.none) : Stp c W0 H0 (cellAt W p) H := ⟨x.keep, x.dom, fun j a e => by
  rcases cellAt_cases e with ⟨h1, rfl⟩ | ⟨h1, h2⟩
  · exact .inr hp
  · exact x.new j a h2, Nat.le_succ_of_le x.lc, fun m a hm e => by
    rw [cellAt_ne (fun z => by have := cix_inj z; have := x.lc; omega)] at e; exact x.cw m a hm e⟩
/-- cell n's thing is changed -/
theorem Rel.setC {n : Nat} {x : Cell} {o : HO} {a : Addr} (r : Rel K c Z W s σ H) (hn : n < s.T.ce.length) (hw : W (cix n) = some a) (mo : MutO o)
    (hx : ∀ H', H' a = some o → (∀ b u, H b = some u → NT u → ¬ blk Z W b → H' b = some u ∧ ¬ blk Z W b) → CellOk K (blk Z W) W H' n x) :
    Rel K c Z W (Ev.setC s n x) σ (upd H a o) ∧ Stp c W H W (upd H a o) := by
  obtain ⟨nz, xs0, ha, hm⟩ := r.wo _ a hw
  have k : ∀ b u, H b = some u → NT u → ¬ blk Z W b → upd H a o b = some u ∧ ¬ blk Z W b := fun b u e _ n' => ⟨by rw [upd_ne (fun z => n' (.inr ⟨cix n, by rw [z]; exact hw⟩))]; exact e, n'⟩
  have wn : ∀ j b, W j = some b → j ≠ cix n → b ≠ a := fun j b e hj z => hj (r.inj _ _ _ (z ▸ e) hw)
  refine ⟨⟨r.len, fun j sv e => ?_, r.inj, fun j b e => ⟨(r.wo j b e).1, ?_⟩, fun b z => ?_, r.cz, ?_, r.tb.updM ha hm, r.len1, ?_, fun m y e => ?_⟩, ⟨fun b u e _ n' _ => by rw [upd_ne (fun z => n' (cix n) (by rw [z]; exact hw))]; exact e, fun b u e => ?_, fun j b e => .inl ⟨j, e⟩, Nat.le_refl _, fun _ _ _ e => e⟩⟩
  · have q := r.slot j sv e
    have hj : j < s.σ.length := (List.getElem?_eq_some_iff.mp e).1
    have hj := Nat.lt_of_lt_of_le hj r.len1
    cases sv with
    | val d => obtain ⟨v, h1, h2⟩ := q; exact ⟨v, h1, DV.mono k _ _ h2⟩
    | own ds => obtain ⟨b, ws, h1, h2, h3, h4⟩ := q; exact ⟨b, ws, h1, h2, by rw [upd_ne (wn j b h1 (cix_ne hj).symm)]; exact h3, DVs.mono k _ _ h4⟩
    | cur => exact q
    | cel n => exact q
  · by_cases hb : b = a
    · subst hb; exact ⟨_, upd_same, mo⟩
    · obtain ⟨_, u, h⟩ := r.wo j b e
      exact ⟨u, by rw [upd_ne hb]; exact h⟩
  · have hb : b ≠ a := fun q => nz (q ▸ z)
    rw [upd_ne hb]; exact r.zt b z
  · have q := r.T
    show CurOk c (upd H a o) s.T.cu
    cases hT : s.T.cu with
    | none => rw [hT] at q; exact q
    | some cu =>
      rw [hT] at q
      obtain ⟨a1, l, h1, h3, h4, h5⟩ := q
      obtain ⟨z1, z2⟩ := r.cz _ _ h1
      have n1 : a1 ≠ a := fun q => nz (by rw [← q]; exact z1)
      have n2 : l ≠ a := fun q => nz (by rw [← q]; exact z2)
      exact ⟨a1, l, h1, h3, by rw [upd_ne n1]; exact h4, by rw [upd_ne n2]; exact h5⟩
  · show (s.T.ce.set n x).length = _
    rw [List.length_set]; exact r.cL
  · have e : (s.T.ce.set n x)[m]? = some y := e
    by_cases hmn : n = m
    · subst hmn
      rw [List.getElem?_set_self hn] at e
      cases e
      exact hx _ upd_same k
    · rw [List.getElem?_set_ne hmn] at e
      exact (r.cel m y e).mono k (fun _ _ _ q => q) (Nat.le_refl _) fun b u q1 q2 => ⟨q1, by rw [upd_ne (wn _ b q1 (fun z => hmn (cix_inj z).symm))]; exact q2⟩
  · by_cases hb : b = a
    · subst hb; exact ⟨_, upd_same⟩
    · exact ⟨u, by rw [upd_ne hb]; exact e⟩
theorem Rel.cel_at (r : Rel K c Z W s σ H) {n : Nat} {x : Cell} (h : s.T.ce[n]? = some x) : n < s.T.ce.length ∧ CellOk K (blk Z W) W H n x := ⟨(List.getElem?_eq_some_iff.mp h).1, r.cel n x h⟩
end

/-! ### items -/
def toAV : Ref → Mo AV
  | .cel n => fun s => .ok (.c n) s
  | q => bnd (dur q) fun d s => .ok (.d d) s
def refOf : AV → Ref
  | .d d => .d d
  | .c n => .cel n
section
variable {β : Type} {K : PySem.W.Frag} {XP : XPt} {c : Option (Addr × Addr)} {Z : Addr → Prop} {W W' W0 : Own} {s : ES} {σ : Sl} {H H' H0 : Hp}
theorem rv_refOf {v : V} {x : AV} (h : AVok K (blk Z W) W H v x) : RV K Z W H σ v (refOf x) := by
  cases x with
  | d d => exact h
  | c n => exact h
theorem AVok.step (r : Rel K c Z W s σ H) (x : Stp c W H W' H') {v : V} {y : AV} (h : AVok K (blk Z W) W H v y) : AVok K (blk Z W') W' H' v y := h.mono (r.over x) x.cw x.lc
theorem bnd_assoc {α γ : Type} (m : Mo α) (k : α → Mo β) (l : β → Mo γ) : bnd (bnd m k) l = bnd m fun a => bnd (k a) l := by
  funext s
  unfold bnd
  cases m s <;> rfl
theorem toAV_get {q : Ref} {k : AV → Mo β} {v : V} (r : Rel K c Z W s σ H) (rv : RV K Z W H σ v q) (h : bnd (toAV q) k s ≠ .stuck) :
    ∃ x s1 W1, Stp c W H W1 H ∧ Rel K c Z W1 s1 σ H ∧ AVok K (blk Z W1) W1 H v x ∧ bnd (toAV q) k s = k x s1 := by
  have dd : ∀ q, bnd (bnd (Ev.dur q) fun d s => Rs.ok (AV.d d) s) k = bnd (Ev.dur q) fun d => k (.d d) := fun q => by rw [bnd_assoc]; rfl
  cases q with
  | cel n => exact ⟨.c n, s, W, .refl, r, rv, rfl⟩
  | d d =>
    unfold toAV at h ⊢
    rw [dd] at h ⊢
    obtain ⟨d, s1, W1, x1, r1, dv, e⟩ := dur_get r rv h
    exact ⟨.d d, s1, W1, x1, r1, dv, e⟩
  | slot i =>
    unfold toAV at h ⊢
    rw [dd] at h ⊢
    obtain ⟨d, s1, W1, x1, r1, dv, e⟩ := dur_get r rv h
    exact ⟨.d d, s1, W1, x1, r1, dv, e⟩
theorem Run.toAV {q : Ref} {k : AV → Mo β} {Q : β → ES → Own → Hp → Prop} {v : V} (r : Rel K c Z W s σ H) (rv : RV K Z W H σ v q) (h : Run K XP c Z W σ H (bnd (Ev.toAV q) k s) Q) :
    ∃ x s1 W1, Stp c W H W1 H ∧ Rel K c Z W1 s1 σ H ∧ AVok K (blk Z W1) W1 H v x ∧ Run K XP c Z W1 σ H (k x s1) Q := by
  obtain ⟨d, s1, W1, x, r1, dv, e⟩ := toAV_get r rv h.ne
  exact ⟨d, s1, W1, x, r1, dv, Run.step x (e ▸ h)⟩
theorem sE_eq {α : Type} {m : Mo α} {k : α → ES → SR} {s : ES} {a : α} {s1 : ES} (e : m s = .ok a s1) : sE m k s = k a s1 := by unfold sE; rw [e]
theorem RunS.toAV {q : Ref} {k : AV → ES → SR} {E : Ends} {v : V} (r : Rel K c Z W s σ H) (rv : RV K Z W H σ v q) (h : RunS K XP c Z W H (sE (Ev.toAV q) k s) E) :
    ∃ x s1 W1, Stp c W H W1 H ∧ Rel K c Z W1 s1 σ H ∧ AVok K (blk Z W1) W1 H v x ∧ RunS K XP c Z W1 H (k x s1) E := by
  have ne : bnd (Ev.toAV q) (fun x s => Rs.ok x s) s ≠ .stuck := fun e => h.ne (by
    unfold bnd at e
    unfold sE
    cases e1 : Ev.toAV q s with
    | ok a s1 => rw [e1] at e; cases e
    | err c T => rw [e1] at e; cases e
    | stuck => rfl)
  obtain ⟨x, s1, W1, st, r1, av, e⟩ := toAV_get r rv ne
  have e' : Ev.toAV q s = .ok x s1 := by
    unfold bnd at e
    cases e1 : Ev.toAV q s with
    | ok a s2 => rw [e1] at e; cases e; rfl
    | err c T => rw [e1] at e; cases e
    | stuck => rw [e1] at e; cases e
  rw [sE_eq e'] at h
  exact ⟨x, s1, W1, st, r1, av, RunS.step st h⟩
def toAVs : List Ref → Mo (List AV)
  | [] => fun s => .ok [] s
  | q :: qs => bnd (toAV q) fun d => bnd (toAVs qs) fun ds s => .ok (d :: ds) s
theorem toAVs_get : ∀ {qs : List Ref} {W : Own} {s : ES} {k : List AV → Mo β} {vs : List V} (r : Rel K c Z W s σ H) (rv : RVs K Z W H σ vs qs) (h : bnd (Ev.toAVs qs) k s ≠ .stuck),
    ∃ ds s1 W1, Stp c W H W1 H ∧ Rel K c Z W1 s1 σ H ∧ AVs K (blk Z W1) W1 H vs ds ∧ bnd (Ev.toAVs qs) k s = k ds s1
  | [], W, s, k, _, r, .nil, h => ⟨[], s, W, .refl, r, .nil, rfl⟩
  | q :: qs, W, s, k, _, r, .cons rv rvs, h => by
    have e : bnd (Ev.toAVs (q :: qs)) k = bnd (Ev.toAV q) (fun d => bnd (Ev.toAVs qs) fun ds => k (d :: ds)) := by
      show bnd (bnd (Ev.toAV q) fun d => bnd (Ev.toAVs qs) fun ds s => .ok (d :: ds) s) k = _
      rw [bnd_assoc]
      congr 1
      funext d
      rw [bnd_assoc]
      rfl
    rw [e] at h ⊢
    obtain ⟨d, s1, W1, x1, r1, dv, e1⟩ := toAV_get r rv h
    rw [e1] at h ⊢
    obtain ⟨ds, s2, W2, x2, r2, dvs, e2⟩ := toAVs_get r1 (rvs.step r x1) h
    exact ⟨d :: ds, s2, W2, x1.trans x2, r2, .cons (dv.step r1 x2) dvs, e2⟩
theorem Run.toAVs {qs : List Ref} {k : List AV → Mo β} {Q : β → ES → Own → Hp → Prop} {vs : List V} (r : Rel K c Z W s σ H) (rv : RVs K Z W H σ vs qs) (h : Run K XP c Z W σ H (bnd (Ev.toAVs qs) k s) Q) :
    ∃ ds s1 W1, Stp c W H W1 H ∧ Rel K c Z W1 s1 σ H ∧ AVs K (blk Z W1) W1 H vs ds ∧ Run K XP c Z W1 σ H (k ds s1) Q := by
  obtain ⟨ds, s1, W1, x, r1, dv, e⟩ := toAVs_get r rv h.ne
  exact ⟨ds, s1, W1, x, r1, dv, Run.step x (e ▸ h)⟩
theorem AVs.len {B : Addr → Prop} {vs : List V} {xs : List AV} (h : AVs K B W H vs xs) : vs.length = xs.length := Paired.length h
theorem AVs.get {B : Addr → Prop} : ∀ {vs : List V} {xs : List AV} {i : Nat} {x : AV}, AVs K B W H vs xs → xs[i]? = some x → ∃ v, vs[i]? = some v ∧ AVok K B W H v x
  | _, _, _, _, .nil, e => by simp at e
  | _, _, 0, _, .cons r _, e => by simp at e; subst e; exact ⟨_, rfl, r⟩
  | _, _, i + 1, x, .cons _ t, e => by
    obtain ⟨u, h1, h2⟩ := AVs.get (i := i) (x := x) t (by simpa using e)
    exact ⟨u, by simpa using h1, h2⟩
theorem AVs.set {B : Addr → Prop} {v : V} {x : AV} (r : AVok K B W H v x) : ∀ {vs : List V} {xs : List AV} (i : Nat), AVs K B W H vs xs → AVs K B W H (vs.set i v) (xs.set i x)
  | _, _, _, .nil => .nil
  | _, _, 0, .cons _ t => .cons r t
  | _, _, i + 1, .cons q t => .cons q (AVs.set r i t)
theorem AVs.app {B : Addr → Prop} : ∀ {vs ws : List V} {xs ys : List AV}, AVs K B W H vs xs → AVs K B W H ws ys → AVs K B W H (vs ++ ws) (xs ++ ys)
  | _, _, _, _, .nil, s => s
  | _, _, _, _, .cons r t, s => .cons r (AVs.app t s)
theorem AVs.eraseIdx {B : Addr → Prop} : ∀ {vs : List V} {xs : List AV} (i : Nat), AVs K B W H vs xs → AVs K B W H (vs.eraseIdx i) (xs.eraseIdx i)
  | _, _, _, .nil => .nil
  | _, _, 0, .cons _ t => t
  | _, _, i + 1, .cons q t => .cons q (AVs.eraseIdx i t)
theorem AVs.take {B : Addr → Prop} : ∀ {vs : List V} {xs : List AV} (n : Nat), AVs K B W H vs xs → AVs K B W H (vs.take n) (xs.take n)
  | _, _, 0, _ => by simpa using Paired.nil
  | _, _, _ + 1, .nil => .nil
  | _, _, n + 1, .cons r t => .cons r (AVs.take n t)
theorem AVs.drop {B : Addr → Prop} : ∀ {vs : List V} {xs : List AV} (n : Nat), AVs K B W H vs xs → AVs K B W H (vs.drop n) (xs.drop n)
  | _, _, 0, r => r
  | _, _, _ + 1, .nil => .nil
  | _, _, n + 1, .cons _ t => AVs.drop n t
theorem AVs.ofD {B : Addr → Prop} : ∀ {vs : List V} {ds : List D}, DVs K B H vs ds → AVs K B W H vs (ds.map .d)
  | _, _, .nil => .nil
  | _, _, .cons r t => .cons r (AVs.ofD t)
theorem AVs.toD {B : Addr → Prop} : ∀ {vs : List V} {ds : List D}, AVs K B W H vs (ds.map .d) → DVs K B H vs ds
  | _, [], .nil => .nil
  | _, _ :: _, .cons r t => .cons r (AVs.toD t)
end

/-! ### new cells -/
def eMC (f : Mo (List D)) : Mo Ref := bnd f fun ds s => .ok (.cel s.T.ce.length) (addC s (.lst (ds.map .d)))
/-- [a, b, ..], items that may be cells -/
def eLstC (fs : Mo (List Ref)) : Mo Ref := bnd fs fun qs => bnd (toAVs qs) fun xs s => if xs.length ≤ szL then .ok (.cel s.T.ce.length) (addC s (.lst xs)) else .stuck
section
variable {X : Cx} {XP : XPt} {pos : Pos} {e : Expr} {es : List Expr} {f : Mo (List D)} {fs : Mo (List Ref)}
theorem rel_new {K : PySem.W.Frag} {c : Option (Addr × Addr)} {Z : Addr → Prop} {W : Own} {s : ES} {σ : Sl} {H : Hp} {p : Addr} {vs : List V} {xs : List AV} (r : Rel K c (zP Z p) W s σ H) (hz : ¬ Z p) (hc : ∀ a l, c = some (a, l) → Z a ∧ Z l) (hp : H p = some (.lst vs)) (av : AVs K (blk (zP Z p) W) W H vs xs) :
    Rel K c Z (cellAt W p) (addC s (.lst xs)) σ H :=
  r.newC hz hc hp True.intro fun B' W' k cw hl hw => ⟨p, vs, hw, hp, AVs.mono k cw hl av⟩
theorem qc_M (h : QM X XP e f) : QE X XP e (eMC f) := PE.imp h fun σ H Q h => by
  obtain ⟨c, Z, W, s, r, h⟩ := h
  refine ⟨c, Z, W, s, r, ?_⟩
  unfold eMC bnd at h
  cases e : f s with
  | ok ds s' =>
    rw [e] at h
    intro p xs W' H' x hp r' hH dvs
    have hz : ¬ Z p := fun z => by obtain ⟨o, e⟩ := r.zt p z; rw [hp] at e; cases e
    refine h _ H' (x.newC hp) (rel_new r' hz r.cz hH (AVs.ofD dvs)) (V.ref p) ⟨?_, fun a e => ?_⟩
    · show s'.T.ce.length < W'.L + 1; rw [r'.cL]; exact Nat.lt_succ_self _
    · rw [r'.cL, cellAt_self] at e; cases e; rfl
  | err code T => rw [e] at h; exact h
  | stuck => rw [e] at h; exact h
/-- a list laid at p, of items that are known -/
theorem new_at {K : PySem.W.Frag} {c : Option (Addr × Addr)} {Z : Addr → Prop} {W : Own} {s : ES} {σ : Sl} {H : Hp} {Q : VK} {vs : List V} {xs : List AV} (r : Rel K c Z W s σ H) (av : AVs K (blk Z W) W H vs xs)
    (h : Run K XP c Z W σ H (.ok (.cel s.T.ce.length) (addC s (.lst xs))) fun q _ W' H' => ∀ v, RV K Z W' H' σ v q → Q v H') {p : Addr} (hp : H p = none) : Q (V.ref p) (upd H p (.lst vs)) := by
  have r1 := r.addP (vs := vs) hp
  have hz : ¬ Z p := fun z => by obtain ⟨o, e⟩ := r.zt p z; rw [hp] at e; cases e
  have g := Grow.upd (o := HO.lst vs) hp
  have k : ∀ a o, H a = some o → NT o → ¬ blk Z W a → upd H p (.lst vs) a = some o ∧ ¬ blk (zP Z p) W a := fun a o e _ n => ⟨g a o e, by
    rintro ((z | rfl) | z)
    · exact n (.inl z)
    · rw [hp] at e; cases e
    · exact n (.inr z)⟩
  refine h _ _ ((g.stp (W := W)).newC hp) (rel_new r1 hz r.cz upd_same (AVs.mono k (fun _ _ _ q => q) (Nat.le_refl _) av)) (V.ref p) ⟨?_, fun a e => ?_⟩
  · show s.T.ce.length < W.L + 1; rw [r.cL]; exact Nat.lt_succ_self _
  · rw [r.cL, cellAt_self] at e; cases e; rfl
theorem qc_lst (h : QA X XP es fs) : QE X XP (.List es pos) (eLstC fs) := PE.imp (pe_lst h) fun σ H Q h => by
  obtain ⟨c, Z, W, s, r, h⟩ := h
  refine ⟨c, Z, W, s, r, h.bind.imp fun qs s1 W1 H1 x1 r1 h1 vs rvs => ?_⟩
  obtain ⟨xs, s2, W2, x2, r2, av, h2⟩ := h1.toAVs r1 rvs
  split at h2
  · rename_i hs
    exact ⟨by rw [av.len, szL_eq]; exact hs, fun p hp => new_at r2 av h2 hp⟩
  · exact h2.elim
end

/-! ### name = e, e a cell or not -/
theorem Rel.putCel {K : PySem.W.Frag} {c : Option (Addr × Addr)} {Z : Addr → Prop} {W : Own} {s : ES} {σ : Sl} {H : Hp} (r : Rel K c Z W s σ H) {i n : Nat} {v : V} (h : n < W.L ∧ ∀ a, W (cix n) = some a → v = V.ref a) : Rel K c Z (unown W i) (Ev.put i (.cel n) s) (σ.set i (some v)) H := by
  have g : ∀ a o, H a = some o → ¬ blk Z W a → ¬ blk Z (unown W i) a := fun a o _ n q => n (blk_unown q)
  refine ⟨by simpa [Ev.put] using r.len, fun j sv e => ?_, fun j k b e1 e2 => r.inj _ _ _ (unown_some e1).2 (unown_some e2).2, fun j b e => r.wo j b (unown_some e).2, r.zt, r.cz, r.T, r.tb, by simpa [Ev.put] using r.len1, r.cL, r.cel.same (fun a o e _ n => ⟨e, g a o e n⟩) (fun m => unown_cix) rfl fun _ _ _ _ e => e⟩
  have e : (s.σ.set i (some (.cel n)))[j]? = some (some sv) := e
  by_cases hj : j = i
  · subst hj
    have hi : j < s.σ.length := by
      have := (List.getElem?_eq_some_iff.mp e).1
      simpa using this
    rw [List.getElem?_set_self hi] at e
    cases e
    exact ⟨h.1, v, by rw [List.getElem?_set_self (by rw [← r.len]; exact hi)], fun a e => h.2 a (unown_some e).2⟩
  · rw [List.getElem?_set_ne (Ne.symm hj)] at e
    have q := (r.slot j sv e).stay hj g
    have es : (σ.set i (some v))[j]? = σ[j]? := List.getElem?_set_ne (Ne.symm hj)
    cases sv with
    | val d => obtain ⟨v', h1, h2⟩ := q; exact ⟨v', es.trans h1, h2⟩
    | own ds => obtain ⟨a, xs, h1, h2, h3⟩ := q; exact ⟨a, xs, h1, es.trans h2, h3⟩
    | cur => obtain ⟨a, l, h1, h2⟩ := q; exact ⟨a, l, h1, es.trans h2⟩
    | cel n => obtain ⟨h0, v', h1, h2⟩ := q; exact ⟨h0, v', es.trans h1, h2⟩
def avS : AV → SV
  | .d d => .val d
  | .c n => .cel n
theorem Rel.putAV {K : PySem.W.Frag} {c : Option (Addr × Addr)} {Z : Addr → Prop} {W : Own} {s : ES} {σ : Sl} {H : Hp} (r : Rel K c Z W s σ H) {i : Nat} {v : V} {x : AV} (h : AVok K (blk Z W) W H v x) : Rel K c Z (unown W i) (Ev.put i (avS x) s) (σ.set i (some v)) H := by
  cases x with
  | d d => exact r.put h
  | c n => exact r.putCel h
def sSetA (i : Nat) (f : Mo Ref) : ES → SR := sE f fun q => sE (toAV q) fun x s => .nx (put i (avS x) s)
section
variable {X : Cx} {XP : XPt} {pos : Pos} {e : Expr} {f : Mo Ref} {st : Stmt}
theorem set_A {i : Nat} {t : TE} (hp : PS X st (tAsg t (gName i))) (imp : ∀ σ H Q, tE X.K XP f σ H Q → t σ H Q) : QS X XP st (sSetA i f) := PS.imp hp fun D σ H ⟨c, Z, W, s, r, h⟩ => imp σ H _
  ⟨c, Z, W, s, r, (h.bind (σ := σ)).imp fun q s1 W1 H1 x1 r1 h1 v rv => by
    obtain ⟨x, s2, W2, x2, r2, av, h2⟩ := h1.toAV r1 rv
    exact h2 _ _ H1 (.unown i) (r2.putAV av)⟩
theorem qs_setA (i : Nat) {x : Str} {pos' : Pos} (hN : X.N.Nodup) (he : QE X XP e f) (hi : X.N[i]? = some x := by rfl) (hx : Loc X.env.scope x := by first | exact Or.inl rfl | exact Or.inr rfl) (hs : swapsWith e (some (.Name x pos')) pos.line X.env = pure false := by rfl)
    (hf : X.fn x = true ∨ X.env.scope.names.lookup x = some .local := by first | exact .inl rfl | exact .inr rfl | assumption) : QS X XP (.Assign [.Name x pos'] e pos) (sSetA i f) := set_A (ps_set hN hi hx he hs hf) fun _ _ _ h => h
end
end Ev
set_option Elab.async false
set_option linter.all false
set_option maxRecDepth 100000
set_option maxHeartbeats 4000000
/-! Ew29: places of lists and dicts read and stored, methods of lists -/
namespace Ev
open PySem PySem.Spec PySem.W PyProof.Rows L2

/-! ### dicts by keys -/
def valA {κ : Type} [DecidableEq κ] (kvs : List (κ × AV)) (k : κ) : Option AV := (kvs.find? fun kv => decide (kv.1 = k)).map (·.2)
def putA {κ : Type} [DecidableEq κ] (kvs : List (κ × AV)) (k : κ) (v : AV) : List (κ × AV) := if (kvs.any fun kv => decide (kv.1 = k)) then kvs.map fun kv => if kv.1 = k then (kv.1, v) else kv else kvs ++ [(k, v)]
def kOf : D → Option Key
  | .int i => some (.inl i)
  | .str x => some (.inr x)
  | _ => none
section
variable {κ : Type} [DecidableEq κ] {K : PySem.W.Frag} {B : Addr → Prop} {W : Own} {H : Hp}
theorem KAs.val (k : κ) : ∀ {vs : List (κ × V)} {xs : List (κ × AV)} {x : AV}, KAs K B W H vs xs → valA xs k = some x → ∃ v, valV vs k = some v ∧ AVok K B W H v x
  | _, _, _, .nil, e => by simp [valA] at e
  | p :: vs, q :: xs, x, .cons h t, e => by
    by_cases hk : q.1 = k
    · have e' : valA (q :: xs) k = some q.2 := by simp [valA, List.find?_cons, hk]
      rw [e'] at e
      cases e
      exact ⟨p.2, valV_pos (h.1.trans hk), h.2⟩
    · have e' : valA (q :: xs) k = valA xs k := by simp [valA, List.find?_cons, hk]
      rw [e'] at e
      obtain ⟨v, e1, e2⟩ := KAs.val k t e
      exact ⟨v, by rw [valV_neg (fun z => hk (h.1.symm.trans z))]; exact e1, e2⟩
theorem KAs.valN (k : κ) : ∀ {vs : List (κ × V)} {xs : List (κ × AV)}, KAs K B W H vs xs → valA xs k = none → valV vs k = none
  | _, _, .nil, e => rfl
  | p :: vs, q :: xs, .cons h t, e => by
    by_cases hk : q.1 = k
    · have e' : valA (q :: xs) k = some q.2 := by simp [valA, List.find?_cons, hk]
      rw [e'] at e
      cases e
    · have e' : valA (q :: xs) k = valA xs k := by simp [valA, List.find?_cons, hk]
      rw [e'] at e
      rw [valV_neg (fun z => hk (h.1.symm.trans z))]
      exact KAs.valN k t e
theorem KAs.any (k : κ) : ∀ {vs : List (κ × V)} {xs : List (κ × AV)}, KAs K B W H vs xs → (vs.any fun kv => decide (kv.1 = k)) = (xs.any fun kv => decide (kv.1 = k))
  | _, _, .nil => rfl
  | p :: vs, q :: xs, .cons h t => by rw [List.any_cons, List.any_cons, h.1, KAs.any k t]
theorem KAs.repl {v : V} {x : AV} (r : AVok K B W H v x) (k : κ) : ∀ {vs : List (κ × V)} {xs : List (κ × AV)}, KAs K B W H vs xs → KAs K B W H (vs.map fun kv => if kv.1 = k then (kv.1, v) else kv) (xs.map fun kv => if kv.1 = k then (kv.1, x) else kv)
  | _, _, .nil => .nil
  | p :: vs, q :: xs, .cons h t => by
    refine .cons ?_ (KAs.repl r k t)
    dsimp only
    by_cases hk : q.1 = k
    · rw [if_pos hk, if_pos (h.1.trans hk)]; exact ⟨h.1, r⟩
    · rw [if_neg hk, if_neg (fun z => hk (h.1.symm.trans z))]; exact h
theorem KAs.app : ∀ {vs ws : List (κ × V)} {xs ys : List (κ × AV)}, KAs K B W H vs xs → KAs K B W H ws ys → KAs K B W H (vs ++ ws) (xs ++ ys)
  | _, _, _, _, .nil, s => s
  | _, _, _, _, .cons r t, s => .cons r (KAs.app t s)
theorem KAs.put {v : V} {x : AV} (r : AVok K B W H v x) (k : κ) {vs : List (κ × V)} {xs : List (κ × AV)} (h : KAs K B W H vs xs) : KAs K B W H (putK vs k v) (putA xs k x) := by
  unfold putK putA
  rw [KAs.any k h]
  split
  · exact KAs.repl r k h
  · exact KAs.app h (.cons ⟨rfl, r⟩ .nil)
theorem KAs.len {vs : List (κ × V)} {xs : List (κ × AV)} (h : KAs K B W H vs xs) : vs.length = xs.length := Paired.length h
theorem kOf_V {v : V} {d : D} {k : Key} (h : DV K B H v d) (e : kOf d = some k) : v = kV k := by
  cases h <;> cases e <;> rfl
theorem kOf_T {v : V} {d : D} {k : Key} (h : TV K B H v d) (e : kOf d = some k) : v = kV k := by
  rcases h with h | ⟨a, xs, ds, rfl, rfl, h3, h4⟩
  · exact kOf_V h e
  · cases e
end
def cGet : Cell → D → Option AV
  | .lst xs, .int i => atI xs i
  | .dct kvs, k => match kOf k with
    | some k => valA kvs k
    | none => none
  | _, _ => none
def cPut : Cell → D → AV → Option Cell
  | .lst xs, .int i, v => match ixN xs.length i with
    | some j => some (.lst (xs.set j v))
    | none => none
  | .dct kvs, k, v => match kOf k with
    | some k => if kvs.length < szL then some (.dct (putA kvs k v)) else none
    | none => none
  | _, _, _ => none

theorem kOf_TV {K : PySem.W.Frag} {B : Addr → Prop} {H : Hp} {v : V} {d : D} {k : Key} (h : TV K B H v d) (e : kOf d = some k) : ∀ B' H', TV K B' H' v d := fun B' H' => by
  unfold kOf at e
  split at e
  · cases h.int; exact .inl (.int _)
  · cases h.str; exact .inl (.str _)
  · cases e
theorem tv_key {K : PySem.W.Frag} {B : Addr → Prop} {H : Hp} {v : V} {d : D} {x : Cell} {a : AV} (e : cGet x d = some a) (h : TV K B H v d) : ∀ B' H', TV K B' H' v d := by
  unfold cGet at e
  split at e
  · exact kOf_TV (k := .inl _) h rfl
  · split at e
    · rename_i hk; exact kOf_TV h hk
    · cases e
  · cases e
/-! ### by values -/
def rIxDc : R2 := fun x y H Q => ∃ a v, x = .ref a ∧ DGet H a y (some v) ∧ Q v H
def rSetDc : V → V → V → Hp → (Hp → Prop) → Prop := fun o i v H Q => ∃ a H', o = .ref a ∧ DPut H a i v H' ∧ Q H'
section
variable {X : Cx}
theorem ix_dict (hu : X.A.units + 1 < cLine) : IxR X rIxDc := by
  intro value slice pins s σ H x y v u Q I rx ry h hsub
  obtain ⟨a, w, rfl, g, q⟩ := h
  obtain rfl : v = Value.ref a := rx
  have hT := dict_typeIs I g
  unfold subscriptTail
  refine wpAny_bind ?_
  rw [getitemInPython_of_ne hT.not_modules]
  refine wpAny_bind (wpAny_specialOf hT PySem.F.slot_dict_getitem.lookup ?_)
  have fin : wpAny (model X.prog X.w) X.A (subscripted slice false (.ref a) u) (fun r s₃ => wpAny (model X.prog X.w) X.A (letTemporaryGo value (.ref a) r >>= fun _ => pure r) (EP X pins σ Q) X.xe s₃) X.xe s := by
    rw [hsub]
    exact wpAny_operating (wpAny_mono (d_getItem hu I g ry fun w' s3 I3 rw' => (⟨w, H, I3, rw', q⟩ : EP X pins σ Q w' s3)) (fun r s₃ h₃ => wpAny_bind (wpAny_letTemporaryGo (wpAny_pure h₃))) fun _ _ x => x)
  first
    | exact wpAny_pure (wpAny_bind fin)
    | exact wpAny_bind (wpAny_pure (wpAny_bind fin))
    | exact wpAny_bind fin
theorem get_dict (hu : X.A.units + 1 < cLine) : PGet X rIxDc := by
  intro pins s σ H o i ov iv Q I ro ri h
  obtain ⟨a, w, rfl, g, q⟩ := h
  obtain rfl : ov = Value.ref a := ro
  exact d_getItem hu I g ri fun w' s3 I3 rw' => ⟨w, H, I3, rw', q⟩
theorem set_dict (hu : X.A.units + 1 < cLine) : PSet X rSetDc := by
  intro pins s σ H o i v ov iv u Q I ro ri rv h
  obtain ⟨a, H', rfl, g, q⟩ := h
  obtain rfl : ov = Value.ref a := ro
  exact d_setItem hu I g ri rv fun s4 I4 => ⟨H', I4, q⟩
theorem PGet.or {t u : V → V → Hp → VK → Prop} (h : PGet X t) (h' : PGet X u) : PGet X (fun o i H Q => t o i H Q ∨ u o i H Q) := by
  intro pins s σ H o i ov iv Q I ro ri q
  rcases q with q | q
  · exact h pins s σ H o i ov iv Q I ro ri q
  · exact h' pins s σ H o i ov iv Q I ro ri q
theorem PSet.or {t u : TSet} (h : PSet X t) (h' : PSet X u) : PSet X (fun o i v H Q => t o i v H Q ∨ u o i v H Q) := by
  intro pins s σ H o i v ov iv w Q I ro ri rv q
  rcases q with q | q
  · exact h pins s σ H o i v ov iv w Q I ro ri rv q
  · exact h' pins s σ H o i v ov iv w Q I ro ri rv q
end
theorem atI_avs {K : PySem.W.Frag} {B : Addr → Prop} {W : Own} {H : Hp} {vs : List V} {xs : List AV} {k : Int} {x : AV} (h : AVs K B W H vs xs) (e : atI xs k = some x) : ∃ v, atI vs k = some v ∧ AVok K B W H v x := by
  unfold atI at e ⊢
  rw [h.len]
  cases e1 : ixN xs.length k with
  | none => rw [e1] at e; cases e
  | some j =>
    rw [e1] at e
    have e : xs[j]? = some x := e
    exact h.get e
/-! ### e[k] -/
def eIxA (f g : Mo Ref) : Mo Ref := bnd f fun q => bnd g fun q2 => bnd (rd q2) fun k s => match q with
  | .cel n => match s.T.ce[n]? with
    | some x => match cGet x k with
      | some a => .ok (refOf a) s
      | none => .stuck
    | none => .stuck
  | q => bnd (rd q) (fun d => lift (dIx d k)) s
section
variable {K : PySem.W.Frag} {XP : XPt} {c : Option (Addr × Addr)} {Z : Addr → Prop} {W W' W0 : Own} {s : ES} {σ : Sl} {H H' H0 : Hp}
theorem cGet_ok {n : Nat} {x : Cell} {k : D} {a : AV} {v kv : V} (hc : CellOk K (blk Z W) W H n x) (hv : ∀ a, W (cix n) = some a → v = V.ref a) (tk : TV K (blk Z W) H kv k) (e : cGet x k = some a) :
    ∃ w, AVok K (blk Z W) W H w a ∧ ∀ Q : VK, Q w H → rIxDc v kv H Q ∨ rGetL v kv H Q := by
  unfold cGet at e
  split at e
  · cases tk.int
    obtain ⟨p, vs, h1, h2, h3⟩ := hc
    cases hv p h1
    obtain ⟨w, e1, e2⟩ := atI_avs h3 e
    exact ⟨w, e2, fun Q q => .inr ⟨p, vs, _, w, rfl, rfl, h2, e1, q⟩⟩
  · split at e
    · rename_i k' hk
      obtain ⟨p, vs, h1, h2, h3⟩ := hc
      cases hv p h1
      obtain ⟨w, e1, e2⟩ := KAs.val k' h3 e
      cases kOf_T tk hk
      refine ⟨w, e2, fun Q q => .inl ⟨p, w, rfl, ?_, q⟩⟩
      have := DGet.k (k := k') h2
      rw [e1] at this
      exact this
    · cases e
  · cases e
/-- a place is stored -/
theorem cPut_ok {n : Nat} {x y : Cell} {k : D} {a : AV} {v kv w : V} (r : Rel K c Z W s σ H) (hx : s.T.ce[n]? = some x) (hv : ∀ a, W (cix n) = some a → v = V.ref a) (tk : TV K (blk Z W) H kv k) (av : AVok K (blk Z W) W H w a) (e : cPut x k a = some y) :
    ∃ H', Rel K c Z W (setC s n y) σ H' ∧ Stp c W H W H' ∧ ∀ Q : Hp → Prop, Q H' → rSetDc v kv w H Q ∨ rSetL v kv w H Q := by
  obtain ⟨hn, hc⟩ := r.cel_at hx
  unfold cPut at e
  split at e
  · split at e
    · rename_i j hj
      cases e
      cases tk.int
      obtain ⟨p, vs, h1, h2, h3⟩ := hc
      cases hv p h1
      obtain ⟨r2, x2⟩ := r.setC (x := .lst _) (o := .lst (vs.set j w)) hn h1 True.intro fun H' hH' k => ⟨p, _, h1, hH', AVs.mono k (fun _ _ _ q => q) (Nat.le_refl _) (h3.set av j)⟩
      exact ⟨_, r2, x2, fun Q q => .inr ⟨p, vs, _, j, rfl, rfl, h2, by rw [h3.len]; exact hj, q⟩⟩
    · cases e
  · split at e
    · rename_i k' hk
      split at e
      · rename_i hz
        cases e
        obtain ⟨p, vs, h1, h2, h3⟩ := hc
        cases hv p h1
        cases kOf_T tk hk
        obtain ⟨r2, x2⟩ := r.setC (x := .dct _) (o := .dK (putK vs k' w)) hn h1 True.intro fun H' hH' k => ⟨p, _, h1, hH', KAs.mono k (fun _ _ _ q => q) (Nat.le_refl _) (h3.put av k')⟩
        exact ⟨_, r2, x2, fun Q q => .inl ⟨p, _, rfl, DPut.k h2 (by rw [h3.len, szL_eq]; exact hz), q⟩⟩
      · cases e
    · cases e
  · cases e
end
section
variable {X : Cx} {XP : XPt} {pos : Pos} {a b : Expr} {f g : Mo Ref}
theorem qe_ixA (hu : X.A.units + 1 < cLine) (ha : QE X XP a f) (hb : QE X XP b g) (hs : PlainIx b := by intro _ _; rfl) : QE X XP (.Subscript a b pos) (eIxA f g) :=
  PE.imp (pe_ix (IxR.or ix_d (IxR.or (ix_dict hu) ix_list)) ha hb hs) fun σ H Q ⟨c, Z, W, s, r, h⟩ =>
  ⟨c, Z, W, s, r, h.bind.imp fun q1 s1 W1 H1 x1 r1 h1 v rv => ⟨c, Z, W1, s1, r1, h1.bind.imp fun q2 s2 W2 H2 x2 r2 h2 u ru => by
    obtain ⟨k, tk, h3⟩ := h2.rd r2 ru
    have rv2 := rv.step r1 x2
    cases q1 with
    | cel n =>
      dsimp only at h3
      split at h3
      · rename_i x hx
        split at h3
        · rename_i y hy
          obtain ⟨hn, hc⟩ := r2.cel_at hx
          obtain ⟨w, aw, im⟩ := cGet_ok hc rv2.2 tk hy
          refine .inr ((im Q (h3 W2 H2 .refl r2 w (rv_refOf aw))).elim .inl fun z => .inr ?_)
          obtain ⟨p, xs, k, v, e1, e2, e3, e4, e5⟩ := z
          exact ⟨p, xs, k, v, e1, e2, SqL.of e3, e4, e5⟩
        · exact h3.elim
      · exact h3.elim
    | d d =>
      obtain ⟨dx, tx, h4⟩ := h3.rd r2 rv2
      obtain ⟨d, hd, h5⟩ := h4.lift
      exact .inl ⟨blk Z W2, dx, k, d, fun a ha => r2.blkT ha, tx, tk, hd, fun v H' gr dv => h5 W2 H' gr.stp (r2.grow gr) v dv⟩
    | slot i =>
      obtain ⟨dx, tx, h4⟩ := h3.rd r2 rv2
      obtain ⟨d, hd, h5⟩ := h4.lift
      exact .inl ⟨blk Z W2, dx, k, d, fun a ha => r2.blkT ha, tx, tk, hd, fun v H' gr dv => h5 W2 H' gr.stp (r2.grow gr) v dv⟩⟩⟩
end
/-! ### o[i] = e, o[i] op= e -/
def putC (q : Ref) (k : D) (a : AV) : ES → SR := fun s => match q with
  | .cel n => match s.T.ce[n]? with
    | some x => match cPut x k a with
      | some y => .nx (setC s n y)
      | none => .stuck
    | none => .stuck
  | _ => .stuck
def sPutA (fo fi f : Mo Ref) : ES → SR := sE f fun q => sE (toAV q) fun a => sE fo fun qo => sE fi fun qi => sE (rd qi) fun k => putC qo k a
def getC (q : Ref) (k : D) : ES → Option D := fun s => match q with
  | .cel n => match s.T.ce[n]? with
    | some x => match cGet x k with
      | some (.d d) => some d
      | _ => none
    | none => none
  | _ => none
def sAugA (p : D → D → Option D) (fo fi f : Mo Ref) : ES → SR := sE fo fun qo => sE fi fun qi => sE (rd qi) fun k s => match getC qo k s with
  | some x => sE f (fun q => sE (rd q) fun y => match p x y with
    | some z => putC qo k (.d z)
    | none => fun _ => .stuck) s
  | none => .stuck
section
variable {X : Cx} {XP : XPt} {pos spos : Pos} {e eo ei : Expr} {f fo fi : Mo Ref}
theorem putC_ok {K : PySem.W.Frag} {c : Option (Addr × Addr)} {Z : Addr → Prop} {W : Own} {s : ES} {σ : Sl} {H : Hp} {E : Ends} {q : Ref} {k : D} {a : AV} {v kv w : V} (r : Rel K c Z W s σ H) (rv : RV K Z W H σ v q) (tk : TV K (blk Z W) H kv k) (av : AVok K (blk Z W) W H w a)
    (h : RunS K XP c Z W H (putC q k a s) E) : rSetDc v kv w H (fun H' => E.nx σ H') ∨ rSetL v kv w H (fun H' => E.nx σ H') := by
  unfold putC at h
  split at h
  · split at h
    · rename_i x hx
      split at h
      · rename_i y hy
        obtain ⟨H', r2, x2, im⟩ := cPut_ok r hx rv.2 tk av hy
        exact im _ (h σ W H' x2 r2)
      · exact h.elim
    · exact h.elim
  · exact h.elim
theorem qs_putA (hu : X.A.units + 1 < cLine) (ho : QE X XP eo fo) (hi : QE X XP ei fi) (he : QE X XP e f)
    (ha : ∀ v, assign (.Subscript eo ei spos) X.env v = (do
      let ov ← holding [v] (eval eo X.env)
      let iv ← holding [v, ov] (eval ei X.env)
      standAt spos
      holding [v, ov, iv] (setItem ov iv v)
      release [v, ov, iv] []) := by intro _; rfl)
    (hs : swapsWithSole [.Subscript eo ei spos] e pos.line X.env = pure false := by rfl) (hw : swappedStores [.Subscript eo ei spos] e X.env = pure none := by rfl)
    (h1 : (assignEach [.Subscript eo ei spos] X.env).map (·.2) = [assign (.Subscript eo ei spos) X.env] := by rfl) : QS X XP (.Assign [.Subscript eo ei spos] e pos) (sPutA fo fi f) :=
  PS.imp (ps_asg he (pg_sub ho hi (PSet.or (set_dict hu) set_list) ha) hs hw h1) fun D σ H ⟨c, Z, W, s, rl, h⟩ =>
  ⟨c, Z, W, s, rl, (h.bind (σ := σ)).imp fun q s1 W1 H1 x1 r1 h1 v rv => by
    obtain ⟨a, s2, W2, x2, r2, av, h2⟩ := h1.toAV r1 rv
    refine ⟨c, Z, W2, s2, r2, (h2.bind (σ := σ)).imp fun qo s3 W3 H3 x3 r3 h3 vo rvo => ⟨c, Z, W3, s3, r3, (h3.bind (σ := σ)).imp fun qi s4 W4 H4 x4 r4 h4 vi rvi => ?_⟩⟩
    obtain ⟨k, tk, h5⟩ := h4.rd r4 rvi
    exact putC_ok r4 (rvo.step r3 x4) tk ((av.step r2 x3).step r3 x4) h5⟩
theorem qs_augA {op : Operator} {pd : D → D → Option D} (hu : X.A.units + 1 < cLine) (hop : OpR X (inplaceOp op) (rOp X.K pd)) (ho : QE X XP eo fo) (hi : QE X XP ei fi) (he : QE X XP e f)
    (ha : ∀ ov iv new, augStore ei ov iv new = (do holding [new, ov, iv] (setItem ov iv new); release [new, ov, iv] []; pure .next) := by intros; rfl) : QS X XP (.AugAssign (.Subscript eo ei spos) op e pos) (sAugA pd fo fi f) :=
  PS.imp (ps_augS ho hi (PGet.or (get_dict hu) get_list) he hop (PSet.or (set_dict hu) set_list) ha) fun D σ H ⟨c, Z, W, s, rl, h⟩ =>
  ⟨c, Z, W, s, rl, (h.bind (σ := σ)).imp fun qo s1 W1 H1 x1 r1 h1 vo rvo => ⟨c, Z, W1, s1, r1, (h1.bind (σ := σ)).imp fun qi s2 W2 H2 x2 r2 h2 vi rvi => by
    obtain ⟨k, tk, h3⟩ := h2.rd r2 rvi
    have rvo2 := rvo.step r1 x2
    split at h3
    · rename_i x hx
      unfold getC at hx
      split at hx
      · rename_i n
        split at hx
        · rename_i y hy
          split at hx
          · rename_i d hd
            cases hx
            obtain ⟨hn, hc⟩ := r2.cel_at hy
            obtain ⟨w, aw, im⟩ := cGet_ok hc rvo2.2 tk hd
            have fin : ∀ (H' : Hp) , H' = H2 → tE X.K XP f σ H' fun y H4 => rOp X.K pd w y H4 fun z H5 => (rSetDc vo vi z H5 fun H6 => D.nx σ H6) ∨ rSetL vo vi z H5 fun H6 => D.nx σ H6 := fun H' eH => by
              subst eH
              refine ⟨c, Z, W2, s2, r2, (h3.bind (σ := σ)).imp fun q5 s5 W5 H5 x5 r5 h5 v5 rv5 => ?_⟩
              obtain ⟨y, ty, h6⟩ := h5.rd r5 rv5
              cases hz : pd x y with
              | none => rw [hz] at h6; exact h6.elim
              | some z =>
                rw [hz] at h6
                have dw : DV X.K (blk Z W5) H5 w x := DV.step r2 x5 aw
                refine ⟨blk Z W5, x, y, z, fun a b => r5.blkT b, .inl dw, ty, hz, fun v H' gr dv => ?_⟩
                have r6 := r5.grow gr
                have h7 := RunS.step (gr.stp (W := W5)) h6
                exact putC_ok (a := .d z) r6 ((rvo2.step r2 x5).step r5 gr.stp) (tv_key hd tk _ _) dv h7
            exact im _ (fin H2 rfl)
          · cases hx
        · cases hx
      · cases hx
    · exact h3.elim⟩⟩
end

/-! ### methods of lists -/
def lstAt (q : Ref) (s : ES) : Option (List AV) := match q with
  | .cel n => match s.T.ce[n]? with
    | some (.lst xs) => some xs
    | _ => none
  | _ => none
abbrev AOp := List AV → List AV → Option (AV × List AV)
def eMethA (op : AOp) (f : Mo Ref) (fs : Mo (List Ref)) : Mo Ref := bnd f fun q s0 => match lstAt q s0, q with
  | some _, .cel n => bnd fs (fun qs => bnd (toAVs qs) fun as s => match lstAt (.cel n) s with
    | some xs => match op xs as with
      | some (r, ys) => .ok (refOf r) (setC s n (.lst ys))
      | none => .stuck
    | none => .stuck) s0
  | _, _ => .stuck
def AMethOk (K : PySem.W.Frag) (op : AOp) (r : V → List V → Hp → VK → Prop) : Prop :=
  ∀ (H : Hp) (Q : VK) (B : Addr → Prop) (W : Own) (a : Addr) (vs us : List V) (xs as ys : List AV) (d : AV), H a = some (.lst vs) → AVs K B W H vs xs → AVs K B W H us as → op xs as = some (d, ys) →
    (∀ v ws, AVok K B W H v d → AVs K B W H ws ys → Q v (upd H a (.lst ws))) → r (.ref a) us H Q
theorem lstAt_ok {K : PySem.W.Frag} {c : Option (Addr × Addr)} {Z : Addr → Prop} {W : Own} {s : ES} {σ : Sl} {H : Hp} {q : Ref} {v : V} {xs : List AV} (r : Rel K c Z W s σ H) (rv : RV K Z W H σ v q) (e : lstAt q s = some xs) :
    ∃ n a vs, q = .cel n ∧ n < s.T.ce.length ∧ W (cix n) = some a ∧ v = V.ref a ∧ H a = some (.lst vs) ∧ AVs K (blk Z W) W H vs xs := by
  unfold lstAt at e
  split at e
  · split at e
    · rename_i hx
      cases e
      obtain ⟨hn, a, vs, h1, h2, h3⟩ := r.cel_at hx
      exact ⟨_, a, vs, rfl, hn, h1, rv.2 a h1, h2, h3⟩
    · cases e
  · cases e
section
variable {X : Cx} {XP : XPt} {e o : Expr} {es : List Expr} {f : Mo Ref} {fs : Mo (List Ref)} {name : Str} {apos cpos : Pos} {id : String} {r : V → List V → Hp → VK → Prop} {op : AOp}
theorem meth_fin (hop : AMethOk X.K op r) {c : Option (Addr × Addr)} {Z : Addr → Prop} {W : Own} {s : ES} {σ : Sl} {H : Hp} {Q : VK} {n : Nat} {v : V} {as : List AV} {us : List V} (rl : Rel X.K c Z W s σ H) (rv : RV X.K Z W H σ v (.cel n)) (au : AVs X.K (blk Z W) W H us as)
    (h : Run X.K XP c Z W σ H (match lstAt (.cel n) s with
      | some xs => match op xs as with
        | some (r, ys) => .ok (refOf r) (setC s n (.lst ys))
        | none => .stuck
      | none => .stuck) fun q _ W' H' => ∀ v, RV X.K Z W' H' σ v q → Q v H') : r v us H Q := by
  split at h
  · rename_i xs hx
    obtain ⟨m, a, vs, em, hm, h1, hv, h2, h3⟩ := lstAt_ok rl rv hx
    cases em
    subst hv
    split at h
    · rename_i d ys ho
      refine hop H Q (blk Z W) W a vs us xs as ys d h2 h3 au ho fun v ws dv dws => ?_
      obtain ⟨r2, x2⟩ := rl.setC (x := .lst ys) (o := .lst ws) hm h1 True.intro fun H' hH' k => ⟨a, _, h1, hH', AVs.mono k (fun _ _ _ q => q) (Nat.le_refl _) dws⟩
      exact h W _ x2 r2 v (rv_refOf (AVok.step rl x2 dv))
    · exact h.elim
  · exact h.elim
theorem qe_methA (slot : Slot "list" name id) (hty : typeOf (.builtin id) = pure (.type "method_descriptor")) (hm : MtR X id r) (hop : AMethOk X.K op r) (ho : QE X XP o f) (ha : QA X XP (e :: es) fs)
    (hbase : attributeBase o name X.env (eval o X.env) = eval o X.env := by rfl)
    (hfew : ((backTo cpos (starEach (e :: es) X.env)).all (fun x => !x.1) && (backToKw cpos (keywordEach [] X.env)).all (fun x => x.1.isSome)
      && decide ((e :: es).length + ([] : List Keyword).length + (if ([] : List Keyword).isEmpty then 0 else 1) < 30)) = true := by rfl)
    (hline : (apos.endLine == cpos.line) = true := by rfl) (hs : starEach (e :: es) X.env = (false, eval e X.env) :: starEach es X.env := by rfl) (hplain : (backTo cpos (starEach es X.env)).any (·.1) = false := by rfl) :
    QE X XP (.Call (.Attribute o name apos) (e :: es) [] cpos) (eMethA op f fs) :=
  PE.imp (pe_bm PySem.F.plainAttrs_list slot hty hm ho ha hbase hfew hline hs hplain) fun σ H Q ⟨c, Z, W, s, rl, h⟩ =>
  ⟨c, Z, W, s, rl, h.bind.imp fun q s1 W1 H1 x1 r1 h1 v rv => by
    split at h1
    · rename_i xs n hx
      obtain ⟨m, a, vs, em, hm', g1, hv, g2, g3⟩ := lstAt_ok r1 rv hx
      cases em
      refine ⟨by subst hv; exact .inl ⟨rfl, vs, SqL.of g2⟩, c, Z, W1, s1, r1, h1.bind.imp fun qs s2 W2 H2 x2 r2 h3 us rus => ?_⟩
      obtain ⟨as, s3, W3, x3, r3, au, h4⟩ := h3.toAVs r2 rus
      exact meth_fin hop r3 ((rv.step r1 x2).step r2 x3) au h4
    · exact h1.elim⟩
theorem qe_methA0 (slot : Slot "list" name id) (hty : typeOf (.builtin id) = pure (.type "method_descriptor")) (hm : MtR X id r) (hop : AMethOk X.K op r) (ho : QE X XP o f)
    (hbase : attributeBase o name X.env (eval o X.env) = eval o X.env := by rfl) (hline : (apos.endLine == cpos.line) = true := by rfl) :
    QE X XP (.Call (.Attribute o name apos) [] [] cpos) (eMethA op f aNil) :=
  PE.imp (pe_bm0 PySem.F.plainAttrs_list slot hty hm ho hbase hline) fun σ H Q ⟨c, Z, W, s, rl, h⟩ =>
  ⟨c, Z, W, s, rl, h.bind.imp fun q s1 W1 H1 x1 r1 h1 v rv => by
    split at h1
    · rename_i xs n hx
      obtain ⟨m, a, vs, em, hm', g1, hv, g2, g3⟩ := lstAt_ok r1 rv hx
      cases em
      refine ⟨by subst hv; exact .inl ⟨rfl, vs, SqL.of g2⟩, ?_⟩
      exact meth_fin hop r1 rv .nil h1
    · exact h1.elim⟩
end
def aAppend : AOp := fun xs as => match as with
  | [a] => if xs.length < szL then some (.d .none, xs ++ [a]) else none
  | _ => none
def aPop : AOp := fun xs as => match as with
  | [] => match xs[xs.length - 1]? with
    | some d => some (d, xs.dropLast)
    | none => none
  | _ => none
def aPopAt : AOp := fun xs as => match as with
  | [.d (.int i)] => if -(2 ^ 63) ≤ i ∧ i < 2 ^ 63 then match seqIndex? i xs.length with
    | some k => match xs[k]? with
      | some d => some (d, xs.eraseIdx k)
      | none => none
    | none => none else none
  | _ => none
def aInsert : AOp := fun xs as => match as with
  | [.d (.int i), a] => if xs.length < szL ∧ 0 ≤ i ∧ i < 2 ^ 63 then some (.d .none, xs.take i.toNat ++ [a] ++ xs.drop i.toNat) else none
  | _ => none
section
variable {K : PySem.W.Frag}
theorem ma_append : AMethOk K aAppend rAppend := by
  intro H Q B W a vs us xs as ys d ha hv hu ho q
  unfold aAppend at ho
  split at ho
  · split at ho
    · rename_i hz
      cases ho
      cases hu with
      | cons h1 h2 =>
        cases h2
        exact ⟨a, vs, _, rfl, rfl, ha, by rw [hv.len, szL_eq]; exact hz, q _ _ (show AVok K B W H .non (.d .none) from DV.non) (hv.app (.cons h1 .nil))⟩
    · cases ho
  · cases ho
theorem ma_pop : AMethOk K aPop rPop := by
  intro H Q B W a vs us xs as ys d ha hv hu ho q
  unfold aPop at ho
  split at ho
  · split at ho
    · rename_i hz
      cases ho
      cases hu
      obtain ⟨v, e, dv⟩ := hv.get hz
      exact ⟨a, vs, v, rfl, rfl, ha, by rw [hv.len]; exact e, q _ _ dv (by rw [List.dropLast_eq_take, List.dropLast_eq_take, hv.len]; exact hv.take _)⟩
    · cases ho
  · cases ho
theorem ma_popAt : AMethOk K aPopAt rPopAt := by
  intro H Q B W a vs us xs as ys d ha hv hu ho q
  unfold aPopAt at ho
  split at ho
  · split at ho
    · rename_i hz
      split at ho
      · rename_i k hk
        split at ho
        · rename_i d' hd
          cases ho
          cases hu with
          | cons h1 h2 =>
            cases h2
            have h1 : DV K B H _ (.int _) := h1
            cases h1
            obtain ⟨v, e, dv⟩ := hv.get hd
            exact ⟨a, vs, _, k, v, rfl, rfl, ha, hz.1, hz.2, by rw [hv.len]; exact hk, e, q _ _ dv (hv.eraseIdx _)⟩
        · cases ho
      · cases ho
    · cases ho
  · cases ho
theorem ma_insert : AMethOk K aInsert (fun x vs H Q => ∃ (l : Addr) (xs : List V) (i : Int) (y : V), x = .ref l ∧ vs = [.int i, y] ∧ H l = some (.lst xs) ∧ xs.length < sizeLine ∧ 0 ≤ i ∧ i < 2 ^ 63 ∧
    Q .non (upd H l (.lst (xs.take i.toNat ++ [y] ++ xs.drop i.toNat)))) := by
  intro H Q B W a vs us xs as ys d ha hv hu ho q
  unfold aInsert at ho
  split at ho
  · split at ho
    · rename_i hz
      cases ho
      cases hu with
      | cons h1 h2 =>
        cases h2 with
        | cons h2 h3 =>
          cases h3
          have h1 : DV K B H _ (.int _) := h1
          cases h1
          exact ⟨a, vs, _, _, rfl, rfl, ha, by rw [hv.len, szL_eq]; exact hz.1, hz.2.1, hz.2.2, q _ _ (show AVok K B W H .non (.d .none) from DV.non) (((hv.take _).app (.cons h2 .nil)).app (hv.drop _))⟩
    · cases ho
  · cases ho
end
end Ev
set_option Elab.async false
set_option linter.all false
set_option maxRecDepth 100000
set_option maxHeartbeats 4000000
/-! Ew30: walks over cells; comprehensions of cells -/
namespace Ev
open PySem PySem.Spec PySem.W PyProof.Rows L2

/-- what is walked: how many turns at most; the item at a turn, by the state -/
structure Itm where
  len : Nat
  get : Nat → ES → Option (Option AV)
def ItA (K : PySem.W.Frag) (c : Option (Addr × Addr)) (Z : Addr → Prop) (J : It) (W1 : Own) (H1 : Hp) (it : Itm) : Prop :=
  ∀ (i : Nat) (Zk : Addr → Prop) (Wk : Own) (sk : ES) (σk : Sl) (Hk : Hp), Stp c W1 H1 Wk Hk → Rel K c Zk Wk sk σk Hk → (∀ a, Zk a → Z a ∨ H1 a = none) →
    (it.get i sk = some none → J.stop i Hk) ∧ ∀ x, it.get i sk = some (some x) → J.go i Hk ∧ ∀ v H', J.yld i Hk v H' → Grow Hk H' ∧ AVok K (blk Zk Wk) Wk H' v x
def tIA (K : PySem.W.Frag) (XP : XPt) (f : Mo Itm) : TI := fun σ H R => ∃ c Z W s, Rel K c Z W s σ H ∧ Run K XP c Z W σ H (f s) fun it _ W' H' => ∀ J, ItA K c Z J W' H' it → R J H'
def QIA (X : Cx) (XP : XPt) (tg iter : Expr) (f : Mo Itm) : Prop := PI X tg iter (tIA X.K XP f)
def iD (fi : Mo (List D)) : Mo Itm := bnd fi fun ds s => .ok ⟨ds.length, fun i _ => if i = ds.length then some none else (ds[i]?).map fun d => some (.d d)⟩ s
def iCl (f : Mo Ref) : Mo Itm := bnd f fun q s => match lstAt q s with
  | some xs => .ok ⟨xs.length, fun i s => (lstAt q s).map (·[i]?)⟩ s
  | none => .stuck
section
variable {X : Cx} {XP : XPt} {tg iter : Expr}
theorem qia_D {fi : Mo (List PyData)} (h : QI X XP tg iter fi) : QIA X XP tg iter (iD fi) := PI.imp h fun σ H R ⟨c, Z, W, s, r, h⟩ =>
  ⟨c, Z, W, s, r, h.bind.imp fun ds s1 W1 H1 x1 r1 h1 J ij => by
    refine h1 W1 H1 .refl r1 J fun i Zk Wk sk σk Hk xk rk hz => ?_
    have kp : ∀ b o, H1 b = some o → NT o → ¬ blk Z W1 b → Hk b = some o := fun b o e t n => (r1.over xk b o e t n).1
    refine ⟨fun e => ?_, fun x e => ?_⟩
    · have e : (if i = ds.length then some none else (ds[i]?).map fun d => some (AV.d d)) = some none := e
      split at e
      · rename_i hi; rw [hi]; exact ij.stop _ kp
      · rw [Option.map_eq_some_iff] at e
        obtain ⟨d, _, e⟩ := e
        cases e
    · have e : (if i = ds.length then some none else (ds[i]?).map fun d => some (AV.d d)) = some (some x) := e
      split at e
      · cases e
      rw [Option.map_eq_some_iff] at e
      obtain ⟨d, e0, e2⟩ := e
      cases e2
      refine ⟨ij.go i d _ kp e0, fun v H' y => ?_⟩
      obtain ⟨gr, dvB⟩ := ij.yld i _ _ _ _ kp e0 y
      refine ⟨gr, dvB _ (fun a b => rk.blkT b) fun a b => ?_⟩
      rcases b with z | ⟨j, z⟩
      · exact (hz a z).elim (fun q => .inl (.inl q)) .inr
      · rcases xk.new j a z with ⟨j', z'⟩ | z'
        · exact .inl (.inr ⟨j', z'⟩)
        · exact .inr z'⟩
theorem qia_C {l : Expr} {f : Mo Ref} (hl : QE X XP l f) : QIA X XP tg l (iCl f) := PI.imp (pi_list hl) fun σ H R ⟨c, Z, W, s, r, h⟩ =>
  ⟨c, Z, W, s, r, h.bind.imp fun q s1 W1 H1 x1 r1 h1 v rv => by
    split at h1
    · rename_i xs hx
      obtain ⟨n, a, vs, rfl, hn, g1, rfl, g2, g3⟩ := lstAt_ok r1 rv hx
      refine ⟨a, rfl, ⟨vs, SqL.of g2⟩, h1 W1 H1 .refl r1 _ fun i Zk Wk sk σk Hk xk rk hz => ?_⟩
      have nL : n < W1.L := rv.1
      have at' : ∀ xs', lstAt (.cel n) sk = some xs' → ∃ vs', Hk a = some (.lst vs') ∧ AVs X.K (blk Zk Wk) Wk Hk vs' xs' := fun xs' e => by
        unfold lstAt at e
        split at e
        · rename_i n' hq
          split at e
          · rename_i hx'
            cases e
            cases hq
            obtain ⟨_, a', vs', k1, k2, k3⟩ := rk.cel_at hx'
            have := xk.cw n a' nL k1
            rw [g1] at this
            cases this
            exact ⟨vs', k2, k3⟩
          · cases e
        · rename_i hq; exact (hq n rfl).elim
      refine ⟨fun e => ?_, fun x e => ?_⟩
      · have e : (lstAt (.cel n) sk).map (·[i]?) = some none := e
        rw [Option.map_eq_some_iff] at e
        obtain ⟨xs', e1, e2⟩ := e
        obtain ⟨vs', k1, k2⟩ := at' xs' e1
        exact ⟨vs', SqL.of k1, by rw [k2.len]; exact List.getElem?_eq_none_iff.mp e2⟩
      · have e : (lstAt (.cel n) sk).map (·[i]?) = some (some x) := e
        rw [Option.map_eq_some_iff] at e
        obtain ⟨xs', e1, e2⟩ := e
        obtain ⟨vs', k1, k2⟩ := at' xs' e1
        obtain ⟨w, e3, aw⟩ := k2.get e2
        refine ⟨⟨vs', w, SqL.of k1, e3⟩, fun u H' y => ?_⟩
        obtain ⟨rfl, y⟩ := y
        have := y vs' (SqL.of k1)
        rw [e3] at this
        cases this
        exact ⟨.refl, aw⟩
    · exact h1.elim⟩
end

/-! ### targets -/
abbrev PatA := AV → ES → Option ES
def tGtA (K : PySem.W.Frag) (vs : List Nat) (pt : PatA) : TG := fun v σ H Q => ∃ c Z W s x s', Rel K c Z W s σ H ∧ AVok K (blk Z W) W H v x ∧ pt x s = some s' ∧ ∀ σ' W', Stp c W H W' H → Rel K c Z W' s' σ' H → Agree vs σ σ' → Q σ' H
def QGA (X : Cx) (tg : Expr) (vs : List Nat) (pt : PatA) : Prop := PG X tg (tGtA X.K vs pt)
def pNameA (i : Nat) : PatA := fun x s => some (put i (avS x) s)
def pD (pt : Pat) : PatA := fun x s => match x with
  | .d d => pt d s
  | .c _ => none
section
variable {X : Cx} {pos : Pos} {vs : List Nat}
theorem qga_name (i : Nat) {x : Str} (hN : X.N.Nodup) (hi : X.N[i]? = some x := by rfl) (hx : Loc X.env.scope x := by first | exact Or.inl rfl | exact Or.inr rfl) (hf : X.fn x = true ∨ X.env.scope.names.lookup x = some .local := by first | exact .inl rfl | exact .inr rfl | assumption) :
    QGA X (.Name x pos) [i] (pNameA i) := PG.imp (pg_name hN hi hx hf) fun v σ H Q ⟨c, Z, W, s, d, s', r, dv, hp, h⟩ => by
  cases hp
  refine h _ _ (.unown i) (r.putAV dv) ⟨by simp, fun j hj => ?_⟩
  rw [List.getElem?_set_ne (fun e => hj (by simp [e]))]
theorem qga_D {tg : Expr} {pt : Pat} (h : QG X tg vs pt) : QGA X tg vs (pD pt) := PG.imp h fun v σ H Q ⟨c, Z, W, s, x, s', r, av, hp, h⟩ => by
  cases x with
  | d d => exact ⟨c, Z, W, s, d, s', r, av, hp, h⟩
  | c n => cases hp
end

/-! ### for -/
def forA (pt : PatA) (body : ES → SR) (it : Itm) : Nat → Nat → ES → SR
  | 0, i, s => match it.get i s with
    | some none => .nx s
    | _ => .stuck
  | k + 1, i, s => match it.get i s with
    | none => .stuck
    | some none => .nx s
    | some (some x) => match pt x s with
      | none => .stuck
      | some s1 => match body s1 with
        | .nx s2 => forA pt body it k (i + 1) s2
        | .ct s2 => forA pt body it k (i + 1) s2
        | .bk s2 => .nx s2
        | .rt d T => .rt d T
        | .rc n T => .rc n T
        | .err c T => .err c T
        | .stuck => .stuck
def sForA (fi : Mo Itm) (pt : PatA) (body : ES → SR) : ES → SR := sE fi fun it s => forA pt body it it.len 0 s
theorem qs_forA {X : Cx} {XP : XPt} {pos : Pos} {tg iter : Expr} {body : List Stmt} {fi : Mo Itm} {vs : List Nat} {pt : PatA} {g : ES → SR} (hp : PassesOwn (model X.prog X.w) X.A X.env X.xe) (hc : X.calm = true) (hi : QIA X XP tg iter fi) (hg : QGA X tg vs pt) (hb : QSs X XP body g)
    (hs : ∀ x, foldedSetIterable iter X.env x = pure x := by intro _; rfl) : QS X XP (.For tg iter body [] pos) (sForA fi pt g) := PS.imp (ps_for hp hc hi hg hb hs) fun E σ H ⟨c, Z, W, s, r, h⟩ => by
  refine ⟨c, Z, W, s, r, h.bind.imp fun it s1 W1 H1 x1 r1 h1 J ij => ?_⟩
  refine ⟨fun i m σ' H' => ∃ Wk sk, Stp c W1 H1 Wk H' ∧ Rel X.K c Z Wk sk σ' H' ∧ RunS X.K XP c Z Wk H' (forA pt g it m i sk) E,
    ⟨_, W1, s1, .refl, r1, h1⟩, ?_⟩
  rintro i m σ2 H2 ⟨Wk, sk, xk, rk, hk⟩
  obtain ⟨stop, go⟩ := ij i Z Wk sk σ2 H2 xk rk fun a z => .inl z
  cases ea : it.get i sk with
  | none =>
    cases m with
    | zero => unfold forA at hk; rw [ea] at hk; exact hk.elim
    | succ m => unfold forA at hk; rw [ea] at hk; exact hk.elim
  | some ox =>
    cases ox with
    | none =>
      have hk : RunS X.K XP c Z Wk H2 (.nx sk) E := by
        cases m with
        | zero => unfold forA at hk; rw [ea] at hk; exact hk
        | succ m => unfold forA at hk; rw [ea] at hk; exact hk
      exact .inl ⟨stop ea, hk _ Wk _ .refl rk⟩
    | some x =>
      cases m with
      | zero => unfold forA at hk; rw [ea] at hk; exact hk.elim
      | succ m =>
        unfold forA at hk
        rw [ea] at hk
        dsimp only at hk
        obtain ⟨g1, g2⟩ := go x ea
        refine .inr ⟨g1, fun σ' H' => ∃ m', m' < m + 1 ∧ ∃ Wk sk, Stp c W1 H1 Wk H' ∧ Rel X.K c Z Wk sk σ' H' ∧ RunS X.K XP c Z Wk H' (forA pt g it m' (i + 1) sk) E, fun σ' H' h => h, fun v H3 y => ?_⟩
        obtain ⟨gr, av⟩ := g2 v H3 y
        have rk3 := rk.grow gr
        cases e1 : pt x sk with
        | none => rw [e1] at hk; exact hk.elim
        | some s4 =>
          rw [e1] at hk
          dsimp only at hk
          refine ⟨c, Z, Wk, sk, _, s4, rk3, av, e1, fun σ4 W4 x4 r4 _ => ⟨c, Z, W4, s4, r4, ?_⟩⟩
          have x5 : Stp c W1 H1 W4 H3 := xk.trans (gr.stp.trans x4)
          have hk4 := RunS.step (gr.stp.trans x4) hk
          cases e2 : g s4 with
          | nx s6 =>
            rw [e2] at hk4
            exact fun σ6 W6 H6 x6 r6 => ⟨m, Nat.lt_succ_self _, W6, s6, x5.trans x6, r6, RunS.step x6 hk4⟩
          | ct s6 =>
            rw [e2] at hk4
            exact fun σ6 W6 H6 x6 r6 => ⟨m, Nat.lt_succ_self _, W6, s6, x5.trans x6, r6, RunS.step x6 hk4⟩
          | bk s6 => rw [e2] at hk4; exact hk4
          | rt d T => rw [e2] at hk4; exact hk4
          | rc n T => rw [e2] at hk4; exact hk4
          | err cd T => rw [e2] at hk4; exact hk4
          | stuck => rw [e2] at hk4; exact hk4

/-! ### lists of items that are made -/
def RunMA (K : PySem.W.Frag) (XP : XPt) (c : Option (Addr × Addr)) (Z : Addr → Prop) (W : Own) (σ : Sl) (H : Hp) (res : Rs (List AV)) (Q : VK) : Prop :=
  match res with
  | .ok xs s' => ∀ p vs W' H', Stp c W H W' H' → H p = none → Rel K c (zP Z p) W' s' σ H' → H' p = some (.lst vs) → AVs K (blk (zP Z p) W') W' H' vs xs → Q (V.ref p) H'
  | .err code T => ErrOk K XP c W H code T
  | .stuck => False
def tMkA (K : PySem.W.Frag) (XP : XPt) (f : Mo (List AV)) : TE := fun σ H Q => ∃ c Z W s, Rel K c Z W s σ H ∧ RunMA K XP c Z W σ H (f s) Q
def QMA (X : Cx) (XP : XPt) (e : Expr) (f : Mo (List AV)) : Prop := PE X e (tMkA X.K XP f)
/-- a new cell -/
def eMA (f : Mo (List AV)) : Mo Ref := bnd f fun xs s => .ok (.cel s.T.ce.length) (addC s (.lst xs))
/-- all items data -/
def mAD (f : Mo (List AV)) : Mo (List D) := bnd f fun xs s => match avD xs with
  | some ds => .ok ds s
  | none => .stuck
section
variable {K : PySem.W.Frag} {XP : XPt} {c : Option (Addr × Addr)} {Z Z' : Addr → Prop} {W W' W1 : Own} {s s1 : ES} {σ : Sl} {H H1 : Hp} {Q : VK}
theorem RunMA.step {res : Rs (List AV)} (x : Stp c W H W1 H1) (h : RunMA K XP c Z W σ H res Q) : RunMA K XP c Z W1 σ H1 res Q := by
  cases res with
  | ok ds s' =>
    intro p xs W' H' y hp
    refine h p xs W' H' (x.trans y) ?_
    cases e : H p with
    | none => rfl
    | some o => obtain ⟨o', e'⟩ := x.dom p o e; rw [hp] at e'; cases e'
  | err code T => exact ErrOk.step x h
  | stuck => exact h
theorem RunMA.bind {α : Type} {m : Mo α} {k : α → Mo (List AV)} (h : RunMA K XP c Z W σ H (bnd m k s) Q) : Run K XP c Z W σ H (m s) fun a s1 W1 H1 => RunMA K XP c Z W1 σ H1 (k a s1) Q := by
  unfold bnd at h
  cases e : m s with
  | ok a s1 => rw [e] at h; exact fun W' H' y r => RunMA.step y h
  | err code T => rw [e] at h; exact h
  | stuck => rw [e] at h; exact h
theorem mk_A {f : Mo (List AV)} (h : tE K XP (eMA f) σ H Q) : tMkA K XP f σ H Q := by
  obtain ⟨c, Z, W, s, r, h⟩ := h
  refine ⟨c, Z, W, s, r, ?_⟩
  unfold eMA bnd at h
  cases e : f s with
  | ok ds s' =>
    rw [e] at h
    intro p xs W' H' x hp r' hH avs
    have hz : ¬ Z p := fun z => by obtain ⟨o, e⟩ := r.zt p z; rw [hp] at e; cases e
    refine h _ H' (x.newC hp) (rel_new r' hz r.cz hH avs) (V.ref p) ⟨?_, fun a e => ?_⟩
    · show s'.T.ce.length < W'.L + 1; rw [r'.cL]; exact Nat.lt_succ_self _
    · rw [r'.cL, cellAt_self] at e; cases e; rfl
  | err code T => rw [e] at h; exact h
  | stuck => rw [e] at h; exact h
theorem mk_AD {f : Mo (List AV)} (h : tMk K XP (mAD f) σ H Q) : tMkA K XP f σ H Q := by
  obtain ⟨c, Z, W, s, r, h⟩ := h
  refine ⟨c, Z, W, s, r, ?_⟩
  unfold mAD bnd at h
  cases e : f s with
  | ok xs s' =>
    rw [e] at h
    dsimp only at h
    cases ed : avD xs with
    | none => rw [ed] at h; exact h.elim
    | some ds =>
      rw [ed] at h
      intro p vs W' H' x hp r' hH avs
      exact h p vs W' H' x hp r' hH (avD_ok ed avs)
  | err code T => rw [e] at h; exact h
  | stuck => rw [e] at h; exact h
end
theorem QMA.qc {X : Cx} {XP : XPt} {e : Expr} {f : Mo (List AV)} (h : QMA X XP e f) : QE X XP e (eMA f) := PE.imp h fun σ H Q h => mk_A h
theorem QMA.qm {X : Cx} {XP : XPt} {e : Expr} {f : Mo (List AV)} (h : QMA X XP e f) : QM X XP e (mAD f) := PE.imp h fun σ H Q h => mk_AD h

/-! ### comprehensions -/
def compA (vs : List Nat) (pt : PatA) (tst : Mo Bool) (elt : Mo Ref) (it : Itm) : Nat → Nat → Mo (List AV)
  | 0, i => fun s => match it.get i s with
    | some none => .ok [] s
    | _ => .stuck
  | k + 1, i => fun s => match it.get i s with
    | none => .stuck
    | some none => .ok [] s
    | some (some x) => match pt x s with
      | none => .stuck
      | some s1 => bnd tst (fun b => if b then bnd elt fun q => bnd (toAV q) fun y => fun s2 => bnd (compA vs pt tst elt it k (i + 1)) (fun ys s3 => .ok (y :: ys) s3) (wipeE vs s2)
          else fun s2 => compA vs pt tst elt it k (i + 1) (wipeE vs s2)) s1
def mCompA (vs : List Nat) (fi : Mo Itm) (pt : PatA) (tst : Mo Bool) (elt : Mo Ref) : Mo (List AV) := bnd fi fun it s => match compA vs pt tst elt it it.len 0 (wipeE vs s) with
  | .ok ys s' => if ys.length ≤ szL then .ok ys (backE vs s s') else .stuck
  | _ => .stuck
section
variable {X : Cx} {XP : XPt} {pos : Pos} {elt tg iter : Expr} {ifs : List Expr} {fi : Mo Itm} {pt : PatA} {ft : Mo Bool} {fe : Mo Ref} {us : List Nat}
theorem comp_impA {K : PySem.W.Frag} (vs : List Nat) (hu : ∀ i ∈ us, i ∈ vs) (σ : Sl) (H : Hp) (Q : VK) (h : tMkA K XP (mCompA vs fi pt ft fe) σ H Q) : tLc (tIA K XP fi) (tGtA K us pt) (tT K XPF ft) (tE K XPF fe) vs σ H Q := by
  obtain ⟨c, Z, W, s, r, h⟩ := h
  refine ⟨c, Z, W, s, r, h.bind.imp fun it s1 W1 H1 x1 r1 h1 J ij D hD => ?_⟩
  cases ec : compA vs pt ft fe it it.len 0 (wipeE vs s1) with
  | err cd T => rw [ec] at h1; exact h1.elim
  | stuck => rw [ec] at h1; exact h1.elim
  | ok ysF sF =>
  rw [ec] at h1
  dsimp only at h1
  have hsm : ysF.length ≤ szL := by
    by_cases hh : ysF.length ≤ szL
    · exact hh
    · rw [if_neg hh] at h1; exact h1.elim
  rw [if_pos hsm] at h1
  have hsz : ysF.length ≤ sizeLine := by rw [szL_eq]; exact hsm
  have hnc : ∀ a l, c = some (a, l) → D ≠ a ∧ D ≠ l := fun a l e => by
    obtain ⟨z1, z2⟩ := r1.cz a l e
    constructor
    · rintro rfl; obtain ⟨o, q⟩ := r1.zt _ z1; rw [hD] at q; cases q
    · rintro rfl; obtain ⟨o, q⟩ := r1.zt _ z2; rw [hD] at q; cases q
  have hnC : ¬ isC c D := fun ⟨l, e⟩ => (hnc D l e).1 rfl
  refine ⟨fun i m H' => ∃ Wk sk acc ys xs, Stp c W1 H1 Wk H' ∧ Rel K c (zP Z D) Wk sk (wipe σ vs) H' ∧ compA vs pt ft fe it m i sk = .ok ys sF ∧ acc ++ ys = ysF ∧ H' D = some (.lst xs) ∧ AVs K (blk (zP Z D) Wk) Wk H' xs acc,
    ⟨_, W1, wipeE vs s1, [], ysF, [], (Grow.upd hD).stp, (r1.addP hD).wipe vs, ec, rfl, upd_same, .nil⟩, ?_⟩
  rintro i m H2 ⟨Wk, sk, acc, ys, xs, xk, rk, hk, hacc, hxs, avs⟩
  have zk : ∀ a, zP Z D a → Z a ∨ H1 a = none := fun a z => z.elim .inl fun e => .inr (e ▸ hD)
  obtain ⟨stop, go⟩ := ij i (zP Z D) Wk sk _ H2 xk rk zk
  cases ea : it.get i sk with
  | none =>
    cases m with
    | zero => unfold compA at hk; rw [ea] at hk; cases hk
    | succ m => unfold compA at hk; rw [ea] at hk; cases hk
  | some ox =>
  cases ox with
  | none =>
    have hk : Rs.ok [] sk = Rs.ok ys sF := by
      cases m with
      | zero => unfold compA at hk; rw [ea] at hk; exact hk
      | succ m => unfold compA at hk; rw [ea] at hk; exact hk
    cases hk
    rw [List.append_nil] at hacc
    subst hacc
    exact .inl ⟨stop ea, h1 D xs Wk H2 xk hD (Rel.back r1 xk rk (fun a z => .inl z) fun a z => z.elim .inl fun e => .inr (e ▸ hD)) hxs avs⟩
  | some x0 =>
  cases m with
  | zero => unfold compA at hk; rw [ea] at hk; cases hk
  | succ m =>
  unfold compA at hk
  rw [ea] at hk
  dsimp only at hk
  obtain ⟨g1, g2⟩ := go x0 ea
  refine .inr ⟨g1, fun H' => ∃ m', m' < m + 1 ∧ ∃ Wk sk acc ys xs, Stp c W1 H1 Wk H' ∧ Rel K c (zP Z D) Wk sk (wipe σ vs) H' ∧ compA vs pt ft fe it m' (i + 1) sk = .ok ys sF ∧ acc ++ ys = ysF ∧ H' D = some (.lst xs) ∧ AVs K (blk (zP Z D) Wk) Wk H' xs acc, fun H' h => h, fun x H3 y => ?_⟩
  obtain ⟨gr, av⟩ := g2 x H3 y
  have rk3 := rk.grow gr
  cases e1 : pt x0 sk with
  | none => rw [e1] at hk; cases hk
  | some s4 =>
  rw [e1] at hk
  dsimp only at hk
  refine ⟨c, zP Z D, Wk, sk, _, s4, rk3, av, e1, fun σ4 W4 x4 r4 ag => ⟨wipe_agree ag hu, c, zP Z D, W4, s4, r4, ?_⟩⟩
  have hw := wipe_agree ag hu
  have x5 : Stp c W1 H1 W4 H3 := xk.trans (gr.stp.trans x4)
  have avs3 : AVs K (blk (zP Z D) Wk) Wk H3 xs acc := AVs.step rk gr.stp avs
  have avs4 : AVs K (blk (zP Z D) W4) W4 H3 xs acc := AVs.step rk3 x4 avs3
  have hxs4 : H3 D = some (.lst xs) := gr _ _ hxs
  have nD : ∀ {W' : Own} {s' : ES} {σ' : Sl} {H' : Hp}, Rel K c (zP Z D) W' s' σ' H' → ∀ i, W' i ≠ some D := fun r i e => (r.wo i D e).1 (.inr rfl)
  unfold bnd at hk
  cases e2 : ft s4 with
  | err cd T => rw [e2] at hk; cases hk
  | stuck => rw [e2] at hk; cases hk
  | ok b s5 =>
  rw [e2] at hk
  dsimp only at hk
  intro W5 H5 x6 r5
  have x7 := x5.trans x6
  have hxs5 : H5 D = some (.lst xs) := x6.keep _ _ hxs4 nt_lst (nD r4) hnC
  have avs5 := AVs.step r4 x6 avs4
  cases b with
  | false =>
    refine iteF ⟨m, Nat.lt_succ_self _, W5, _, acc, ys, xs, x7, r5.rewipe hw, ?_, hacc, hxs5, avs5⟩
    simpa using hk
  | true =>
    refine iteT ⟨c, zP Z D, W5, s5, r5, ?_⟩
    simp only [if_true] at hk
    cases e3 : fe s5 with
    | err cd T => rw [e3] at hk; cases hk
    | stuck => rw [e3] at hk; cases hk
    | ok q s6 =>
    rw [e3] at hk
    dsimp only at hk
    intro W6 H6 x8 r6 v rv
    have x9 := x7.trans x8
    have hxs6 : H6 D = some (.lst xs) := x8.keep _ _ hxs5 nt_lst (nD r5) hnC
    have avs6 := AVs.step r5 x8 avs5
    have hk' : bnd (toAV q) (fun y => fun s2 => bnd (compA vs pt ft fe it m (i + 1)) (fun ys s3 => .ok (y :: ys) s3) (wipeE vs s2)) s6 = Rs.ok ys sF := hk
    obtain ⟨yv, s7, W7, x10, r7, avy, e4⟩ := toAV_get r6 rv (by rw [hk']; intro z; cases z)
    rw [e4] at hk'
    unfold bnd at hk'
    cases e5 : compA vs pt ft fe it m (i + 1) (wipeE vs s7) with
    | err cd T => rw [e5] at hk'; cases hk'
    | stuck => rw [e5] at hk'; cases hk'
    | ok ys' s8 =>
    rw [e5] at hk'
    cases hk'
    have avs7 := AVs.step r6 x10 avs6
    have hlen : xs.length = acc.length := avs7.len
    refine ⟨xs, hxs6, ?_, m, Nat.lt_succ_self _, W7, _, acc ++ [yv], ys', xs ++ [v], (x9.trans x10).updP hD, ((r7.rewipe hw).setZ hxs6 (.inr rfl) hnc), e5, by rw [List.append_assoc]; exact hacc, upd_same, ?_⟩
    · rw [hlen]
      have : acc.length + (ys'.length + 1) = ysF.length := by rw [← hacc]; simp
      omega
    · have kk : ∀ a u, H6 a = some u → NT u → ¬ blk (zP Z D) W7 a → upd H6 D (.lst (xs ++ [v])) a = some u ∧ ¬ blk (zP Z D) W7 a := fun a u e _ n => ⟨by rw [upd_ne (fun z => n (.inl (.inr z)))]; exact e, n⟩
      exact AVs.mono kk (fun _ _ _ q => q) (Nat.le_refl _) (avs7.app (.cons avy .nil))
theorem qma_comp {scope : Scope} (own : List (Str × Nat)) (hc : X.calm = true) (hN : X.N.Nodup) (hi : QIA X XP tg iter fi) (ok : BlkOk X.N X.env.scope scope own) (hu : ∀ i ∈ us, i ∈ own.map (·.2))
    (hg : ∀ (s : Shared) (H : Hp) (C : Addr) (cl : List (Str × Addr)) (fp : List Addr), QGA (X.blk s H scope (compEnvC scope cl C X.env) fp) tg us pt)
    (ht : ∀ (s : Shared) (H : Hp) (C : Addr) (cl : List (Str × Addr)) (fp : List Addr), QTs (X.blk s H scope (compEnvC scope cl C X.env) fp) XPF ifs ft)
    (he : ∀ (s : Shared) (H : Hp) (C : Addr) (cl : List (Str × Addr)) (fp : List Addr), QE (X.blk s H scope (compEnvC scope cl C X.env) fp) XPF elt fe)
    (hs : ∀ x, foldedSetIterable iter X.env x = pure x := by intro _; rfl) : QMA X XP (.ListComp elt [⟨tg, iter, ifs, 0⟩] scope pos) (mCompA (own.map (·.2)) fi pt ft fe) :=
  PE.imp (pe_lc (g := tGtA X.K us pt) (tt := tT X.K XPF ft) (te := tE X.K XPF fe) hc hN hi ok hg ht he hs) fun σ H Q h => comp_impA _ hu σ H Q h
theorem ps_compA {i : Nat} {y : Str} {py spos : Pos} {scope : Scope} (own : List (Str × Nat)) (hc : X.calm = true) (hN : X.N.Nodup) (hy : X.N[i]? = some y) (hyl : X.env.scope.names.lookup y = some .local)
    (hsw : swapsWith (.ListComp elt [⟨tg, iter, ifs, 0⟩] scope pos) (some (.Name y py)) spos.line X.env = pure true) (hi : QIA X XP tg iter fi) (ok : BlkOk X.N X.env.scope scope own) (hu : ∀ i ∈ us, i ∈ own.map (·.2))
    (hg : ∀ (s : Shared) (H : Hp) (C : Addr) (cl : List (Str × Addr)) (fp : List Addr), QGA (X.blk s H scope (compEnvC scope cl C X.env) fp) tg us pt)
    (ht : ∀ (s : Shared) (H : Hp) (C : Addr) (cl : List (Str × Addr)) (fp : List Addr), QTs (X.blk s H scope (compEnvC scope cl C X.env) fp) XPF ifs ft)
    (he : ∀ (s : Shared) (H : Hp) (C : Addr) (cl : List (Str × Addr)) (fp : List Addr), QE (X.blk s H scope (compEnvC scope cl C X.env) fp) XPF elt fe)
    (hs : ∀ x, foldedSetIterable iter X.env x = pure x := by intro _; rfl) : PS X (.Assign [.Name y py] (.ListComp elt [⟨tg, iter, ifs, 0⟩] scope pos) spos) (tAsg (tMkA X.K XP (mCompA (own.map (·.2)) fi pt ft fe)) (gName i)) :=
  PS.imp (ps_setLc (g := tGtA X.K us pt) (tt := tT X.K XPF ft) (te := tE X.K XPF fe) hc hN hy hyl hsw hi ok hg ht he hs) fun D σ H h => comp_impA _ hu σ H _ h
/-- name = [..], a new cell -/
theorem qs_compA (i : Nat) {y : Str} {py spos : Pos} {scope : Scope} (own : List (Str × Nat)) (hc : X.calm = true) (hN : X.N.Nodup) (hi : QIA X XP tg iter fi) (ok : BlkOk X.N X.env.scope scope own) (hu : ∀ i ∈ us, i ∈ own.map (·.2))
    (hg : ∀ (s : Shared) (H : Hp) (C : Addr) (cl : List (Str × Addr)) (fp : List Addr), QGA (X.blk s H scope (compEnvC scope cl C X.env) fp) tg us pt)
    (ht : ∀ (s : Shared) (H : Hp) (C : Addr) (cl : List (Str × Addr)) (fp : List Addr), QTs (X.blk s H scope (compEnvC scope cl C X.env) fp) XPF ifs ft)
    (he : ∀ (s : Shared) (H : Hp) (C : Addr) (cl : List (Str × Addr)) (fp : List Addr), QE (X.blk s H scope (compEnvC scope cl C X.env) fp) XPF elt fe)
    (hy : X.N[i]? = some y := by rfl) (hyl : X.env.scope.names.lookup y = some .local := by rfl)
    (hsw : swapsWith (.ListComp elt [⟨tg, iter, ifs, 0⟩] scope pos) (some (.Name y py)) spos.line X.env = pure true := by exact sw_true rfl rfl rfl (by decide +kernel))
    (hs : ∀ x, foldedSetIterable iter X.env x = pure x := by intro _; rfl) : QS X XP (.Assign [.Name y py] (.ListComp elt [⟨tg, iter, ifs, 0⟩] scope pos) spos) (sSetA i (eMA (mCompA (own.map (·.2)) fi pt ft fe))) :=
  set_A (ps_compA own hc hN hy hyl hsw hi ok hu hg ht he hs) fun _ _ _ h => mk_A h
/-- name = [..], a value that stays -/
theorem qs_compAV (i : Nat) {y : Str} {py spos : Pos} {scope : Scope} (own : List (Str × Nat)) (hc : X.calm = true) (hN : X.N.Nodup) (hi : QIA X XP tg iter fi) (ok : BlkOk X.N X.env.scope scope own) (hu : ∀ i ∈ us, i ∈ own.map (·.2))
    (hg : ∀ (s : Shared) (H : Hp) (C : Addr) (cl : List (Str × Addr)) (fp : List Addr), QGA (X.blk s H scope (compEnvC scope cl C X.env) fp) tg us pt)
    (ht : ∀ (s : Shared) (H : Hp) (C : Addr) (cl : List (Str × Addr)) (fp : List Addr), QTs (X.blk s H scope (compEnvC scope cl C X.env) fp) XPF ifs ft)
    (he : ∀ (s : Shared) (H : Hp) (C : Addr) (cl : List (Str × Addr)) (fp : List Addr), QE (X.blk s H scope (compEnvC scope cl C X.env) fp) XPF elt fe)
    (hy : X.N[i]? = some y := by rfl) (hyl : X.env.scope.names.lookup y = some .local := by rfl)
    (hsw : swapsWith (.ListComp elt [⟨tg, iter, ifs, 0⟩] scope pos) (some (.Name y py)) spos.line X.env = pure true := by exact sw_true rfl rfl rfl (by decide +kernel))
    (hs : ∀ x, foldedSetIterable iter X.env x = pure x := by intro _; rfl) : QS X XP (.Assign [.Name y py] (.ListComp elt [⟨tg, iter, ifs, 0⟩] scope pos) spos) (sSet i (eM (mAD (mCompA (own.map (·.2)) fi pt ft fe)))) :=
  set_val (ps_compA own hc hN hy hyl hsw hi ok hu hg ht he hs) fun _ _ _ h => mk_AD (mk_val h)
end
end Ev
set_option Elab.async false
set_option linter.all false
set_option maxRecDepth 100000
set_option maxHeartbeats 4000000
/-! Ev31: len of cells; reckoning with cells -/
namespace Ev
open PySem PySem.Spec PySem.W PyProof.Rows L2
def lenC : Cell → Option Nat
  | .lst xs => some xs.length
  | _ => none
/-- len(e), e a cell or not -/
def eLenA (f : Mo Ref) : Mo Ref := bnd f fun q s => match q with
  | .cel n => match s.T.ce[n]? with
    | some (.lst xs) => .ok (.d (.int (xs.length : Int))) s
    | _ => .stuck
  | q => bnd (rd q) (fun d => lift (dLen d)) s
section
variable {X : Cx} {XP : XPt} {p pos : Pos} {a : Expr} {f : Mo Ref}
theorem qe_lenA (hm : X.mg "len" = none) (ha : QE X XP a f) (hg : Gl X "len" := by rfl) (he : starEach [a] X.env = [(false, eval a X.env)] := by rfl) : QE X XP (.Call (.Name "len" p) [a] [] pos) (eLenA f) :=
  PE.imp (pe_callB (CallR.or call_len (cr_len (X := X))) hg hm (by decide +kernel) (pa_cons ha pa_nil he) (by decide) (by decide) he rfl) fun σ H Q ⟨c, Z, W, s, r, h⟩ =>
  ⟨c, Z, W, s, r, h.bind.imp fun q s1 W1 H1 x1 r1 h1 v rv => by
    cases q with
    | cel n =>
      dsimp only at h1
      split at h1
      · rename_i xs hx
        obtain ⟨hn, a, vs, g1, g2, g3⟩ := r1.cel_at hx
        cases rv.2 a g1
        refine .inl ⟨_, vs.length, rfl, .inl ⟨vs, SqL.of g2, rfl⟩, ?_⟩
        rw [g3.len]
        exact h1 W1 H1 .refl r1 _ (.int _)
      · exact h1.elim
    | d d =>
      obtain ⟨dx, tx, h4⟩ := h1.rd r1 rv
      obtain ⟨d, hd, h5⟩ := h4.lift
      exact .inr ⟨v, blk Z W1, dx, d, rfl, fun a ha => r1.blkT ha, tx, hd, fun v H' gr dv => h5 W1 H' gr.stp (r1.grow gr) v dv⟩
    | slot i =>
      obtain ⟨dx, tx, h4⟩ := h1.rd r1 rv
      obtain ⟨d, hd, h5⟩ := h4.lift
      exact .inr ⟨v, blk Z W1, dx, d, rfl, fun a ha => r1.blkT ha, tx, hd, fun v H' gr dv => h5 W1 H' gr.stp (r1.grow gr) v dv⟩⟩
end
end Ev
set_option Elab.async false
set_option linter.all false
set_option maxRecDepth 100000
set_option maxHeartbeats 4000000
/-! Ew32: an executor; fractions of a common denominator -/
namespace Ev
open PySem L2
abbrev vv (d : D) : Option SV := some (.val d)
abbrev oo (ds : List D) : Option SV := some (.own ds)
theorem st_setE' {i : Nat} {f : Mo Ref} {d : D} {s s1 s2 : ES} (h1 : f s = .ok (.d d) s1) (h2 : put i (.val d) s1 = s2) : sSet i f s = .nx s2 := by rw [← h2]; exact st_set h1
theorem st_retE' {f : Mo Ref} {d : D} {s s1 : ES} {T : Ext} (h1 : f s = .ok (.d d) s1) (h2 : s1.T = T) : sRet f s = .rt d T := by rw [← h2]; exact st_ret h1
theorem seq_end {u v : ES → SR} {s s1 : ES} {r : SR} (h1 : u s = .nx s1) (h2 : v s1 = r) : sSeq u v s = r := st_seq' h1 h2
theorem fr0 {q : Rat} : dIx (Fr q) (.int 0) = some (I q.num) := rfl
theorem fr1 {q : Rat} : dIx (Fr q) (.int 1) = some (I (q.den : Int)) := rfl
theorem ix_p2a {α β : Type} {f : α → D} {g : β → D} {p : α × β} : dIx (P2 f g p) (.int 0) = some (f p.1) := rfl
theorem ix_p2b {α β : Type} {f : α → D} {g : β → D} {p : α × β} : dIx (P2 f g p) (.int 1) = some (g p.2) := rfl
theorem ix_pa {a b : D} : dIx (.tuple [a, b]) (.int 0) = some a := rfl
theorem ix_pb {a b : D} : dIx (.tuple [a, b]) (.int 1) = some b := rfl
/-! ### a row of fractions of one denominator -/
/-- q times N is whole -/
def Mu (N : Nat) (q : Rat) : Prop := ∃ a : Int, q * (N : Rat) = (a : Rat)
theorem Mu.int {a : Int} {N : Nat} : Mu N (a : Rat) := ⟨a * (N : Int), by rw [Rat.intCast_mul]; rfl⟩
theorem Mu.mono {N M : Nat} {q : Rat} (h : Mu N q) (d : N ∣ M) : Mu M q := by
  obtain ⟨a, e⟩ := h
  obtain ⟨k, rfl⟩ := d
  refine ⟨a * (k : Int), ?_⟩
  rw [Rat.intCast_mul, ← e, Rat.natCast_mul, Rat.mul_assoc]
  rfl
theorem Mu.add {N : Nat} {p q : Rat} (h : Mu N p) (k : Mu N q) : Mu N (p + q) := by
  obtain ⟨a, e⟩ := h
  obtain ⟨b, f⟩ := k
  exact ⟨a + b, by rw [Rat.add_mul, e, f, Rat.intCast_add]⟩
theorem Mu.neg {N : Nat} {p : Rat} (h : Mu N p) : Mu N (-p) := by
  obtain ⟨a, e⟩ := h
  exact ⟨-a, by rw [Rat.neg_mul, e, Rat.intCast_neg]⟩
theorem Mu.sub {N : Nat} {p q : Rat} (h : Mu N p) (k : Mu N q) : Mu N (p - q) := by
  rw [Rat.sub_eq_add_neg]; exact h.add k.neg
theorem Mu.mul {N M : Nat} {p q : Rat} (h : Mu N p) (k : Mu M q) : Mu (N * M) (p * q) := by
  obtain ⟨a, e⟩ := h
  obtain ⟨b, f⟩ := k
  refine ⟨a * b, ?_⟩
  rw [Rat.intCast_mul, ← e, ← f, Rat.natCast_mul]
  grind
theorem Mu.over {a : Int} {N : Nat} (h : 0 < N) : Mu N ((a : Rat) / (N : Rat)) := by
  refine ⟨a, ?_⟩
  have : (N : Rat) ≠ 0 := by
    intro e
    have := Rat.natCast_inj.mp (show ((N : Nat) : Rat) = ((0 : Nat) : Rat) from e)
    omega
  rw [Rat.div_def, Rat.mul_assoc, Rat.inv_mul_cancel _ this, Rat.mul_one]
theorem nat_ne0 {N : Nat} (h : 0 < N) : (N : Rat) ≠ 0 := by
  intro e
  have := Rat.natCast_inj.mp (show ((N : Nat) : Rat) = ((0 : Nat) : Rat) from e)
  omega
theorem Mu.bt {N M n : Nat} {q : Rat} (h : Mu N q) (hN : 0 < N) (hb : -(M : Rat) ≤ q ∧ q ≤ (M : Rat)) (hn : M * N < 2 ^ n) (hn2 : N < 2 ^ n) : Bt n q := by
  obtain ⟨a, e⟩ := h
  have hq : q = mkRat a N := by
    rw [← Rat.divInt_ofNat, Rat.divInt_eq_div]
    have h0 := nat_ne0 hN
    have : q = (a : Rat) * ((N : Rat))⁻¹ := by rw [← e, Rat.mul_assoc, Rat.mul_inv_cancel _ h0, Rat.mul_one]
    rw [this, Rat.div_def]
    rfl
  rw [hq]
  refine Bt.mk' (by omega) ?_ hn2
  have hNr : (0 : Rat) ≤ (N : Rat) := by
    have := Rat.natCast_le_natCast.mpr (Nat.zero_le N)
    exact this
  have h1 : (a : Rat) ≤ ((M * N : Nat) : Rat) := by
    rw [← e, Rat.natCast_mul]
    exact Rat.mul_le_mul_of_nonneg_right hb.2 hNr
  have h2 : ((-(M * N : Nat) : Int) : Rat) ≤ (a : Rat) := by
    rw [← e, Rat.intCast_neg]
    have := Rat.mul_le_mul_of_nonneg_right hb.1 hNr
    have e2 : -(((M * N : Nat) : Int) : Rat) = -(M : Rat) * (N : Rat) := by
      rw [Rat.neg_mul, ← Rat.natCast_mul]; rfl
    rw [e2]; exact this
  have h1' : a ≤ ((M * N : Nat) : Int) := Rat.intCast_le_intCast.mp h1
  have h2' := Rat.intCast_le_intCast.mp h2
  omega
end Ev
set_option Elab.async false
set_option linter.all false
set_option maxRecDepth 100000
set_option maxHeartbeats 4000000
/-! Ew33: what the program's fractions answer -/
namespace Ev
namespace FrK
open PySem L2 Ev
local macro_rules | `(tactic| trivial) => `(tactic| repeat' (first
  | with_reducible exact ev_c | with_reducible exact ev_nil | with_reducible exact du_nil | with_reducible exact o_none
  | ((with_reducible apply ev_var); rfl) | ((with_reducible apply ev_own); rfl)
  | with_reducible apply st_seq' | with_reducible apply st_asg | with_reducible apply st_set | with_reducible apply st_ret | with_reducible apply st_own | with_reducible apply st_expr
  | with_reducible apply ev_cons | with_reducible apply du_cons
  | ((with_reducible apply ev_unO); (· ((with_reducible apply ev_own); rfl)); (· rfl)) | with_reducible apply ev_un
  | with_reducible apply ev_bin | with_reducible apply ev_sl | with_reducible apply o_some | with_reducible apply ev_tup | with_reducible apply ev_call | with_reducible apply ev_M' | with_reducible apply ev_M
  | with_reducible apply te_cmp | with_reducible apply te_not | with_reducible apply te_bool | with_reducible apply te_tru | with_reducible apply ev_chain
  | with_reducible apply Ev.comp_map | with_reducible apply Ev.comp_filter
  | with_reducible apply w_r1 | with_reducible apply w_seq | with_reducible apply w_zip' | with_reducible apply w_enum'
  | with_reducible exact seq_tu | with_reducible exact seq_li
  | with_reducible exact sl_take | with_reducible exact sl_drop | with_reducible exact add_nn | with_reducible exact add_n1 | with_reducible exact len_tu | with_reducible exact len_li | with_reducible exact tup_li | with_reducible exact tup_tu
  | with_reducible exact in_tuN | with_reducible exact lt_nn
  | with_reducible apply ix_rng | with_reducible apply ix_tu' | with_reducible apply ix_li' | with_reducible apply ix_tu0 | with_reducible apply ix_li0 | with_reducible apply sub_n1
  | (intro x hx; (try replace hx := List.mem_range.mp hx); refine ⟨_, rfl, rfl, ?_, fun hy => ?_⟩) | (intro x hx; (try replace hx := List.mem_range.mp hx); refine ⟨_, rfl, rfl, ?_⟩)
  | ((with_reducible apply small_of_le); simp [szL])
  | with_reducible exact sum_li | with_reducible exact all_li | with_reducible exact sum_tuI | with_reducible exact sum_liI
  | ((with_reducible refine (?_ : @Eq (Option ES) _ _)); rfl) | ((with_reducible refine (?_ : @Eq ES _ _)); rfl) | ((with_reducible refine (?_ : fYes _ = _)); rfl)
  | ((with_reducible first | refine (?_ : dAdd (.int _) (.int _) = _) | refine (?_ : dSub (.int _) (.int _) = _) | refine (?_ : dLt (.int _) (.int _) = _) | refine (?_ : dLe (.int _) (.int _) = _) | refine (?_ : dGt (.int _) (.int _) = _) | refine (?_ : dGe (.int _) (.int _) = _) | refine (?_ : dIs _ .none = _) | refine (?_ : dIsNot _ .none = _) | refine (?_ : dLen _ = _) | refine (?_ : seqOf _ = _)); rfl)
  | ((with_reducible first | refine (?_ : @LT.lt Nat _ _ _) | refine (?_ : @LE.le Nat _ _ _)); first | omega | (simp only [List.length_range, List.length_map]; unfold szL; omega))))
def g_fraction : ES → SR := (sSeq (sIf (fCmp dEq (eVar 1) (eC (.int 0))) sStk sNx)
  (sSeq (sIf (fCmp dLt (eVar 1) (eC (.int 0))) (sSeq (sSet 0 (eUn dNeg (eVar 0)))
  (sSet 1 (eUn dNeg (eVar 1)))) sNx)
  (sSeq (sSet 2 (eBin dGcd (eVar 0) (eVar 1)))
  (sRet (eTup (aCons (eBin dDiv (eVar 0) (eVar 2)) (aCons (eBin dDiv (eVar 1) (eVar 2)) aNil)))))))
def F_fraction : Fn := mkFn 3 2 g_fraction
def g_plus : ES → SR := (sRet (eCall F_fraction (aCons (eBin dAdd (eBin dMul (eBin dIx (eVar 0) (eC (.int 0))) (eBin dIx (eVar 1) (eC (.int 1)))) (eBin dMul (eBin dIx (eVar 1) (eC (.int 0))) (eBin dIx (eVar 0) (eC (.int 1))))) (aCons (eBin dMul (eBin dIx (eVar 0) (eC (.int 1))) (eBin dIx (eVar 1) (eC (.int 1)))) aNil))))
def F_plus : Fn := mkFn 2 2 g_plus
def g_minus : ES → SR := (sRet (eCall F_fraction (aCons (eBin dSub (eBin dMul (eBin dIx (eVar 0) (eC (.int 0))) (eBin dIx (eVar 1) (eC (.int 1)))) (eBin dMul (eBin dIx (eVar 1) (eC (.int 0))) (eBin dIx (eVar 0) (eC (.int 1))))) (aCons (eBin dMul (eBin dIx (eVar 0) (eC (.int 1))) (eBin dIx (eVar 1) (eC (.int 1)))) aNil))))
def F_minus : Fn := mkFn 2 2 g_minus
def g_times : ES → SR := (sRet (eCall F_fraction (aCons (eBin dMul (eBin dIx (eVar 0) (eC (.int 0))) (eBin dIx (eVar 1) (eC (.int 0)))) (aCons (eBin dMul (eBin dIx (eVar 0) (eC (.int 1))) (eBin dIx (eVar 1) (eC (.int 1)))) aNil))))
def F_times : Fn := mkFn 2 2 g_times
def g_over : ES → SR := (sRet (eCall F_fraction (aCons (eBin dMul (eBin dIx (eVar 0) (eC (.int 0))) (eBin dIx (eVar 1) (eC (.int 1)))) (aCons (eBin dMul (eBin dIx (eVar 0) (eC (.int 1))) (eBin dIx (eVar 1) (eC (.int 0)))) aNil))))
def F_over : Fn := mkFn 2 2 g_over
def g_compare : ES → SR := (sSeq (sSet 2 (eBin dMul (eBin dIx (eVar 0) (eC (.int 0))) (eBin dIx (eVar 1) (eC (.int 1)))))
  (sSeq (sSet 3 (eBin dMul (eBin dIx (eVar 1) (eC (.int 0))) (eBin dIx (eVar 0) (eC (.int 1)))))
  (sSeq (sIf (fCmp dLt (eVar 2) (eVar 3)) (sRet (eUn dNeg (eC (.int 1)))) sNx)
  (sSeq (sIf (fCmp dGt (eVar 2) (eVar 3)) (sRet (eC (.int 1))) sNx)
  (sRet (eC (.int 0)))))))
def F_compare : Fn := mkFn 4 2 g_compare
def g_total : ES → SR := (sSeq (sSet 1 (eC (.tuple [(.int 0), (.int 1)])))
  (sSeq (sFor (iSeq (eVar 0)) (pName 2) (sSet 1 (eCall F_plus (aCons (eVar 1) (aCons (eVar 2) aNil)))))
  (sRet (eVar 1))))
def F_total : Fn := mkFn 3 1 g_total
theorem f_fraction {a b : Int} {n : Nat} (hb : b ≠ 0) (hs : b.natAbs < 2 ^ n) (hn : n ≤ 8999 := by decide) : F_fraction [I a, I b] = .ok (Fr ((a : Rat) / (b : Rat))) := by
  have key : ∀ (a b : Int), 0 < b → b.natAbs < 2 ^ 8999 → ∀ s2 : Option SV, (sSeq (sSet 2 (eBin dGcd (eVar 0) (eVar 1))) (sRet (eTup (aCons (eBin dDiv (eVar 0) (eVar 2)) (aCons (eBin dDiv (eVar 1) (eVar 2)) aNil))))) ⟨[some (.val (I a)), some (.val (I b)), s2], T0⟩ = .rt (Fr ((a : Rat) / (b : Rat))) T0 := by
    intro a b hb hs s2
    obtain ⟨h1, h2⟩ := gcd_lt (a := a) (show b ≠ 0 by omega) hs
    apply st_seq'
    · apply st_setE
      · apply ev_bin
        · trivial
        · trivial
        · rfl
      · rfl
    rw [show Fr ((a : Rat) / (b : Rat)) = .tuple [I (a / ((Nat.gcd a.natAbs b.natAbs : Nat) : Int)), I (b / ((Nat.gcd a.natAbs b.natAbs : Nat) : Int))] by unfold Fr; rw [num_pos hb, den_pos hb]]
    apply st_retE
    · apply ev_tup
      · apply ev_cons
        · apply ev_bin
          · trivial
          · trivial
          · exact div_ii h1 h2
        · apply ev_cons
          · apply ev_bin
            · trivial
            · trivial
            · exact div_ii h1 h2
          · trivial
      · exact du_cons (du_cons du_nil)
      · rfl
    · rfl
  have hs : b.natAbs < 2 ^ 8999 := Nat.lt_of_lt_of_le hs (two_mono hn)
  unfold F_fraction
  apply fn_ok (T := T0)
  · rfl
  unfold g_fraction
  apply st_seq'
  · apply st_no
    · apply te_cmp
      · trivial
      · trivial
      · exact eq_enc enc_I (a := b) (b := 0)
    · simpa using hb
  rcases Int.lt_or_lt_of_ne hb with h | h
  · apply st_seq'
    · apply st_ift
      · apply te_cmp
        · trivial
        · trivial
        · rfl
      · simpa using h
      · apply st_seq'
        · exact st_set (ev_un (ev_var rfl) rfl)
        · exact st_set (ev_un (ev_var rfl) rfl)
    · rw [← neg_over hb]
      exact key (-a) (-b) (by omega) (by rw [Int.natAbs_neg]; exact hs) _
  · apply st_seq'
    · apply st_no
      · apply te_cmp
        · trivial
        · trivial
        · rfl
      · simp; omega
    · exact key a b h hs _
section
variable {m n : Nat} {p q : Rat}
theorem cast_dens : ((p.den : Int) * (q.den : Int)).natAbs = p.den * q.den := by rw [← Int.natCast_mul, Int.natAbs_natCast]
theorem dens_ne : ((p.den : Int) * (q.den : Int)) ≠ 0 := by
  have := den0 p
  have := den0 q
  exact Int.mul_ne_zero (by omega) (by omega)
theorem abs_den (h : Bt n q) : ((q.den : Nat) : Int).natAbs < 2 ^ n := by rw [Int.natAbs_natCast]; exact h.den
theorem f_plus (hp : Bt m p) (hq : Bt n q) (h : m + n ≤ 8999) : F_plus [Fr p, Fr q] = .ok (Fr (p + q)) := by
  unfold F_plus
  apply fn_ok (T := T0)
  · rfl
  unfold g_plus
  apply st_retE
  · apply ev_call
    · apply ev_cons
      · apply ev_bin
        · apply ev_bin
          · exact ev_bin (ev_var rfl) ev_c fr0
          · exact ev_bin (ev_var rfl) ev_c fr1
          · exact mul_ii hp.num (abs_den hq) (by omega)
        · apply ev_bin
          · exact ev_bin (ev_var rfl) ev_c fr0
          · exact ev_bin (ev_var rfl) ev_c fr1
          · exact mul_ii hq.num (abs_den hp) (by omega)
        · rfl
      · apply ev_cons
        · apply ev_bin
          · exact ev_bin (ev_var rfl) ev_c fr1
          · exact ev_bin (ev_var rfl) ev_c fr1
          · exact mul_ii (abs_den hp) (abs_den hq) (by omega)
        · trivial
    · exact du_cons (du_cons du_nil)
    · rw [← add_cross]
      exact f_fraction dens_ne (by rw [cast_dens]; exact dens_lt hp hq) h
  · rfl
theorem f_minus (hp : Bt m p) (hq : Bt n q) (h : m + n ≤ 8999) : F_minus [Fr p, Fr q] = .ok (Fr (p - q)) := by
  unfold F_minus
  apply fn_ok (T := T0)
  · rfl
  unfold g_minus
  apply st_retE
  · apply ev_call
    · apply ev_cons
      · apply ev_bin
        · apply ev_bin
          · exact ev_bin (ev_var rfl) ev_c fr0
          · exact ev_bin (ev_var rfl) ev_c fr1
          · exact mul_ii hp.num (abs_den hq) (by omega)
        · apply ev_bin
          · exact ev_bin (ev_var rfl) ev_c fr0
          · exact ev_bin (ev_var rfl) ev_c fr1
          · exact mul_ii hq.num (abs_den hp) (by omega)
        · rfl
      · apply ev_cons
        · apply ev_bin
          · exact ev_bin (ev_var rfl) ev_c fr1
          · exact ev_bin (ev_var rfl) ev_c fr1
          · exact mul_ii (abs_den hp) (abs_den hq) (by omega)
        · trivial
    · exact du_cons (du_cons du_nil)
    · rw [← sub_cross]
      exact f_fraction dens_ne (by rw [cast_dens]; exact dens_lt hp hq) h
  · rfl
theorem f_times (hp : Bt m p) (hq : Bt n q) (h : m + n ≤ 8999) : F_times [Fr p, Fr q] = .ok (Fr (p * q)) := by
  unfold F_times
  apply fn_ok (T := T0)
  · rfl
  unfold g_times
  apply st_retE
  · apply ev_call
    · apply ev_cons
      · apply ev_bin
        · exact ev_bin (ev_var rfl) ev_c fr0
        · exact ev_bin (ev_var rfl) ev_c fr0
        · exact mul_ii hp.num hq.num (by omega)
      · apply ev_cons
        · apply ev_bin
          · exact ev_bin (ev_var rfl) ev_c fr1
          · exact ev_bin (ev_var rfl) ev_c fr1
          · exact mul_ii (abs_den hp) (abs_den hq) (by omega)
        · trivial
    · exact du_cons (du_cons du_nil)
    · rw [← mul_cross]
      exact f_fraction dens_ne (by rw [cast_dens]; exact dens_lt hp hq) h
  · rfl
theorem f_over (h0 : q ≠ 0) (hp : Bt m p) (hq : Bt n q) (h : m + n ≤ 8999) : F_over [Fr p, Fr q] = .ok (Fr (p / q)) := by
  unfold F_over
  apply fn_ok (T := T0)
  · rfl
  unfold g_over
  apply st_retE
  · apply ev_call
    · apply ev_cons
      · apply ev_bin
        · exact ev_bin (ev_var rfl) ev_c fr0
        · exact ev_bin (ev_var rfl) ev_c fr1
        · exact mul_ii hp.num (abs_den hq) (by omega)
      · apply ev_cons
        · apply ev_bin
          · exact ev_bin (ev_var rfl) ev_c fr1
          · exact ev_bin (ev_var rfl) ev_c fr0
          · exact mul_ii (abs_den hp) hq.num (by omega)
        · trivial
    · exact du_cons (du_cons du_nil)
    · rw [← div_cross _ _ h0]
      have := den0 p
      have hn : q.num ≠ 0 := fun e => h0 (Rat.num_eq_zero.mp e)
      exact f_fraction (Int.mul_ne_zero (by omega) hn) (by rw [Int.natAbs_mul, Int.natAbs_natCast]; exact pow_mul_lt hp.den hq.num) h
  · rfl
theorem f_compare (hp : Bt m p) (hq : Bt n q) (h : m + n ≤ 8999) : F_compare [Fr p, Fr q] = .ok (I (cmpR p q)) := by
  unfold F_compare
  apply fn_ok (T := T0)
  · rfl
  unfold g_compare
  apply st_seq' (s1 := ⟨[some (.val (Fr p)), some (.val (Fr q)), some (.val (I (p.num * q.den))), none], T0⟩)
  · apply st_setE
    · apply ev_bin
      · exact ev_bin (ev_var rfl) ev_c fr0
      · exact ev_bin (ev_var rfl) ev_c fr1
      · exact mul_ii hp.num (abs_den hq) (by omega)
    · rfl
  apply st_seq' (s1 := ⟨[some (.val (Fr p)), some (.val (Fr q)), some (.val (I (p.num * q.den))), some (.val (I (q.num * p.den)))], T0⟩)
  · apply st_setE
    · apply ev_bin
      · exact ev_bin (ev_var rfl) ev_c fr0
      · exact ev_bin (ev_var rfl) ev_c fr1
      · exact mul_ii hq.num (abs_den hp) (by omega)
    · rfl
  unfold cmpR
  by_cases h1 : p < q
  · rw [if_pos h1]
    have h1' := (Rat.lt_iff p q).mp h1
    apply st_seqR
    apply st_ift
    · exact te_cmp (ev_var rfl) (ev_var rfl) rfl
    · simpa using h1'
    · exact st_retE (ev_un ev_c rfl) rfl
  · rw [if_neg h1]
    have h1' : ¬ p.num * q.den < q.num * p.den := fun z => h1 ((Rat.lt_iff p q).mpr z)
    apply st_seq'
    · apply st_no
      · exact te_cmp (ev_var rfl) (ev_var rfl) rfl
      · simpa using h1'
    by_cases h2 : q < p
    · rw [if_pos h2]
      have h2' := (Rat.lt_iff q p).mp h2
      apply st_seqR
      apply st_ift
      · exact te_cmp (ev_var rfl) (ev_var rfl) rfl
      · simpa using h2'
      · exact st_retE ev_c rfl
    · rw [if_neg h2]
      have h2' : ¬ q.num * p.den < p.num * q.den := fun z => h2 ((Rat.lt_iff q p).mpr z)
      apply st_seq'
      · apply st_no
        · exact te_cmp (ev_var rfl) (ev_var rfl) rfl
        · simpa using h2'
      · exact st_retE ev_c rfl
theorem f_total {xs : List Rat} {d : D} (hd : seqOf d = some (xs.map Fr)) (hs : ∀ k (hk : k < xs.length), ∃ m n, Bt m (xs.take k).sum ∧ Bt n xs[k] ∧ m + n ≤ 8999) : F_total [d] = .ok (Fr xs.sum) := by
  unfold F_total
  apply fn_ok (T := T0)
  · rfl
  unfold g_total
  apply st_seq' (s1 := ⟨[some (.val d), some (.val (Fr 0)), none], T0⟩)
  · exact st_setE ev_c rfl
  refine st_forP (xs := xs) (enc := Fr) (fun p s => ∃ a2, s = ⟨[some (.val d), some (.val (Fr p.sum)), a2], T0⟩) (w_seq (ev_var rfl) hd) ⟨none, rfl⟩ ?_ ?_
  · rintro p x q s e ⟨a2, rfl⟩
    have hk : p.length < xs.length := by rw [e]; simp
    obtain ⟨m, n, h1, h2, h3⟩ := hs p.length hk
    have e1 : xs.take p.length = p := by rw [e]; simp
    have e2 : xs[p.length] = x := by simp [e]
    rw [e1] at h1
    rw [e2] at h2
    refine for_stp (s1 := ⟨[some (.val d), some (.val (Fr p.sum)), some (.val (Fr x))], T0⟩) rfl (st_setE (ev_call (ev_cons (ev_var rfl) (ev_cons (ev_var rfl) ev_nil)) (du_cons (du_cons du_nil)) (f_plus h1 h2 h3)) rfl) ⟨some (.val (Fr x)), ?_⟩
    rw [List.sum_append, List.sum_cons, List.sum_nil, Rat.add_zero]
    rfl
  · rintro s ⟨a2, rfl⟩
    exact st_retE (ev_var rfl) rfl
end

section
theorem f_totalR {n : Nat} {hh : Nat → Rat} (hs : ∀ k, k < n → ∃ m m', Bt m (sumQ hh k) ∧ Bt m' (hh k) ∧ m + m' ≤ 8999) : F_total [Li (fun k => Fr (hh k)) (List.range n)] = .ok (Fr (sumQ hh n)) := by
  unfold F_total
  apply fn_ok (T := T0)
  · rfl
  unfold g_total
  apply st_seq'
  · exact st_setE ev_c rfl
  refine st_forR (n := n) (enc := fun k => Fr (hh k)) (fun k s => ∃ a2, s = ⟨[some (.val (Li (fun k => Fr (hh k)) (List.range n))), some (.val (Fr (sumQ hh k))), a2], T0⟩) (w_seq (ev_var rfl) seq_li) ⟨none, rfl⟩ ?_ ?_
  · rintro k s hk ⟨a2, rfl⟩
    obtain ⟨m, m', h1, h2, h3⟩ := hs k hk
    exact for_stp rfl (st_setE (ev_call (ev_cons (ev_var rfl) (ev_cons (ev_var rfl) ev_nil)) (du_cons (du_cons du_nil)) (f_plus h1 h2 h3)) rfl) ⟨some (.val (Fr (hh k))), rfl⟩
  · rintro s ⟨a2, rfl⟩
    exact st_retE (ev_var rfl) rfl
end
end FrK
end Ev
set_option Elab.async false
set_option linter.all false
set_option maxRecDepth 100000
set_option maxHeartbeats 4000000
/-! Ew34: loops that only check; loops that append -/
namespace Ev
open PySem L2
section
variable {α : Type} {fi : Mo (List D)} {pt : Pat} {body K : ES → SR} {enc : α → D} {xs : List α} {s s1 : ES} {r : SR}
theorem for_chk {P : ES → Prop} : ∀ (xs : List α) (s : ES), P s → (∀ s x, x ∈ xs → P s → ∃ s1 s2, pt (enc x) s = some s1 ∧ (body s1 = .nx s2 ∨ body s1 = .ct s2) ∧ P s2) → ∃ s', forL pt body (xs.map enc) s = .nx s' ∧ P s'
  | [], s, p, _ => ⟨s, rfl, p⟩
  | x :: xs, s, p, h => by
    obtain ⟨s1, s2, e1, e2, p2⟩ := h s x (by simp) p
    obtain ⟨s', e3, p3⟩ := for_chk xs s2 p2 fun s y hy => h s y (by simp [hy])
    refine ⟨s', ?_, p3⟩
    rw [List.map_cons, forL_eq, e1]
    dsimp only
    rcases e2 with e2 | e2 <;> rw [e2] <;> exact e3
theorem st_forT (P : ES → Prop) (h1 : fi s = .ok (xs.map enc) s1) (h0 : P s1) (hs : ∀ s x, x ∈ xs → P s → ∃ s1 s2, pt (enc x) s = some s1 ∧ (body s1 = .nx s2 ∨ body s1 = .ct s2) ∧ P s2) : ∃ s', sFor fi pt body s = .nx s' ∧ True := by
  obtain ⟨s', e, p⟩ := for_chk xs s1 h0 hs
  exact ⟨s', st_for' h1 e, True.intro⟩
theorem st_forK (P : ES → Prop) (h1 : fi s = .ok (xs.map enc) s1) (h0 : P s1) (hs : ∀ s x, x ∈ xs → P s → ∃ s1 s2, pt (enc x) s = some s1 ∧ (body s1 = .nx s2 ∨ body s1 = .ct s2) ∧ P s2) (k : ∀ s', P s' → K s' = r) : sSeq (sFor fi pt body) K s = r := by
  obtain ⟨s', e, p⟩ := for_chk xs s1 h0 hs
  exact st_seq' (st_for' h1 e) (k s' p)
/-- by the part that is done -/
theorem st_forPK (P : List α → ES → Prop) (h1 : fi s = .ok (xs.map enc) s1) (h0 : P [] s1) (hs : ∀ p x q s, xs = p ++ x :: q → P p s → ∃ s1 s2, pt (enc x) s = some s1 ∧ (body s1 = .nx s2 ∨ body s1 = .ct s2) ∧ P (p ++ [x]) s2) (k : ∀ s', P xs s' → K s' = r) : sSeq (sFor fi pt body) K s = r := by
  obtain ⟨s', e, p⟩ := for_pre xs [] s1 h0 hs
  exact st_seq' (st_for' h1 e) (k s' p)
end
theorem append_map {α : Type} {f : α → D} {p : List α} {x : α} {d : D} (hd : d = f x) (h : p.length < szL) : opAppend (p.map f) [d] = some (.none, (p ++ [x]).map f) := by
  subst hd; exact app_li h
theorem seqX {u v : ES → SR} {s s1 : ES} {Q : ES → Prop} (h1 : u s = .nx s1) (h2 : ∃ s', v s1 = .nx s' ∧ Q s') : ∃ s', sSeq u v s = .nx s' ∧ Q s' := st_seqN h1 h2

/-- it goes on, and then P -/
def Nx (P : ES → Prop) (r : SR) : Prop := ∃ s2, r = .nx s2 ∧ P s2
section
variable {P : ES → Prop} {u v : ES → SR} {s s1 : ES} {pt : Pat} {d : D}
theorem nx_seq (h1 : u s = .nx s1) (h2 : Nx P (v s1)) : Nx P (sSeq u v s) := by rw [st_seq h1]; exact h2
theorem nx_of (h1 : u s = .nx s1) (h2 : P s1) : Nx P (u s) := ⟨s1, h1, h2⟩
theorem for_nx (h1 : pt d s = some s1) (h2 : Nx P (v s1)) : ∃ s1 s2, pt d s = some s1 ∧ (v s1 = .nx s2 ∨ v s1 = .ct s2) ∧ P s2 := by
  obtain ⟨s2, e, p⟩ := h2
  exact ⟨s1, s2, h1, .inl e, p⟩
theorem nx_seqN {Q : ES → Prop} (h1 : Nx Q (u s)) (h2 : ∀ s1, Q s1 → Nx P (v s1)) : Nx P (sSeq u v s) := by
  obtain ⟨s1, e, q⟩ := h1
  exact nx_seq e (h2 s1 q)
theorem st_seqNx {Q : ES → Prop} {r : SR} (h1 : Nx Q (u s)) (h2 : ∀ s1, Q s1 → v s1 = r) : sSeq u v s = r := by
  obtain ⟨s1, e, q⟩ := h1
  exact st_seq' e (h2 s1 q)
theorem nx_ifT {t : Mo Bool} (h1 : t s = .ok true s1) (h2 : Nx P (u s1)) : Nx P (sIf t u v s) := by rw [st_ifT h1]; exact h2
theorem nx_ifF {t : Mo Bool} (h1 : t s = .ok false s1) (h2 : Nx P (v s1)) : Nx P (sIf t u v s) := by rw [st_ifF h1]; exact h2
theorem nx_imp {r : SR} {Q : ES → Prop} (h : Nx P r) (f : ∀ s, P s → Q s) : Nx Q r := by
  obtain ⟨s2, e, p⟩ := h
  exact ⟨s2, e, f s2 p⟩
end
section
variable {fi : Mo (List D)} {pt : Pat} {body : ES → SR} {enc : Nat → D} {n : Nat} {s s1 : ES}
theorem nx_forR (P : Nat → ES → Prop) (h1 : fi s = .ok ((List.range n).map enc) s1) (h0 : P 0 s1) (hs : ∀ k s, k < n → P k s → ∃ s1 s2, pt (enc k) s = some s1 ∧ (body s1 = .nx s2 ∨ body s1 = .ct s2) ∧ P (k + 1) s2) : Nx (P n) (sFor fi pt body s) := by
  obtain ⟨s', e, p⟩ := st_forRN P h1 h0 hs
  exact ⟨s', e, p⟩
end
section
variable {α : Type} {fi : Mo (List D)} {pt : Pat} {body : ES → SR} {enc : α → D} {xs : List α} {s s1 : ES}
theorem nx_forP (P : List α → ES → Prop) (h1 : fi s = .ok (xs.map enc) s1) (h0 : P [] s1) (hs : ∀ p x q s, xs = p ++ x :: q → P p s → ∃ s1 s2, pt (enc x) s = some s1 ∧ (body s1 = .nx s2 ∨ body s1 = .ct s2) ∧ P (p ++ [x]) s2) : Nx (P xs) (sFor fi pt body s) := by
  obtain ⟨s', e, p⟩ := for_pre xs [] s1 h0 hs
  exact ⟨s', st_for' h1 e, p⟩
end
end Ev
set_option Elab.async false
set_option linter.all false
set_option maxRecDepth 100000
set_option maxHeartbeats 4000000
/-! Ew35: reckoning with cells: rows copied, read, stored, walked -/
namespace Ev
open PySem L2
/-- without the outer value of the own names -/
theorem comp_mapB {α : Type} {vs : List Nat} {fi : Mo (List D)} {pt : Pat} {elt : Mo Ref} {enc out : α → D} {s s1 s2 : ES} {xs : List α} (h1 : fi s = .ok (xs.map enc) s1) (hl : xs.length ≤ szL) (hb : backE vs s1 (wipeE vs s1) = s2)
    (h : ∀ x ∈ xs, ∃ s2, pt (enc x) (wipeE vs s1) = some s2 ∧ wipeE vs s2 = wipeE vs s1 ∧ elt s2 = .ok (.d (out x)) s2) : mComp vs fi pt fYes elt s = .ok (xs.map out) s2 := by
  unfold mComp bnd
  rw [h1]
  dsimp only
  rw [compL_filterMap (out := fun x => some (out x)) xs fun x hx => ?_]
  · dsimp only
    have e : xs.filterMap (fun x => some (out x)) = xs.map out := by
      clear h1 hl h
      induction xs with
      | nil => rfl
      | cons x xs ih => simp
    rw [e, if_pos (small_of_le (by simpa using hl)), hb]
  · obtain ⟨s2, e1, e2, e3⟩ := h x hx
    unfold cstep
    rw [e1]
    dsimp only [fYes]
    unfold bnd
    rw [e3]
    dsimp only [dur]
    rw [e2]
abbrev itD (ds : List D) : Itm := ⟨ds.length, fun i _ => if i = ds.length then some none else (ds[i]?).map fun d => some (.d d)⟩
section
variable {vs : List Nat} {pt : PatA} {elt : Mo Ref} {w : List (Option SV)} {cu : Option Cur}
theorem compA_new {ds : List D} {cf : D → Cell} (h : ∀ d ∈ ds, ∀ ce, ∃ s1 s2, pt (.d d) ⟨w, ⟨cu, ce⟩⟩ = some s1 ∧ elt s1 = .ok (.cel ce.length) s2 ∧ wipeE vs s2 = ⟨w, ⟨cu, ce ++ [cf d]⟩⟩) :
    ∀ (k i : Nat) (ce : List Cell), i + k = ds.length → compA vs pt fYes elt (itD ds) k i ⟨w, ⟨cu, ce⟩⟩ = .ok ((List.range' ce.length k).map .c) ⟨w, ⟨cu, ce ++ (ds.drop i).map cf⟩⟩
  | 0, i, ce, hi => by
    have hi : i = ds.length := by omega
    subst hi
    unfold compA
    show (match (if ds.length = ds.length then some none else _ : Option (Option AV)) with
      | some none => Rs.ok [] (⟨w, ⟨cu, ce⟩⟩ : ES)
      | _ => .stuck) = _
    rw [if_pos rfl, List.drop_length]
    simp
  | k + 1, i, ce, hi => by
    have hlt : i < ds.length := by omega
    have ed : ds[i]? = some ds[i] := List.getElem?_eq_getElem hlt
    obtain ⟨s1, s2, e1, e2, e3⟩ := h ds[i] (List.getElem_mem hlt) ce
    unfold compA
    have eg : (itD ds).get i ⟨w, ⟨cu, ce⟩⟩ = some (some (.d ds[i])) := by
      show (if i = ds.length then some none else (ds[i]?).map fun d => some (AV.d d)) = _
      rw [if_neg (by omega), ed]; rfl
    rw [eg]
    dsimp only
    rw [e1]
    dsimp only [fYes, bnd]
    rw [if_pos rfl]
    dsimp only [bnd]
    rw [e2]
    dsimp only [toAV]
    rw [e3, compA_new h k (i + 1) (ce ++ [cf ds[i]]) (by omega)]
    rw [List.length_append, List.length_singleton, List.range'_succ, List.map_cons, List.drop_eq_getElem_cons hlt, List.map_cons, List.append_assoc]
    rfl
theorem iD_ok {fi : Mo (List D)} {s s1 : ES} {ds : List D} (h : fi s = .ok ds s1) : iD fi s = .ok (itD ds) s1 := by
  unfold iD bnd; rw [h]
/-- [a new cell for x in ..] -/
theorem mcompA_new {α : Type} {fi : Mo (List D)} {s : ES} {σ : List (Option SV)} {ce : List Cell} {xs : List α} {enc : α → D} {cf : D → Cell} (h1 : fi s = .ok (xs.map enc) ⟨σ, ⟨cu, ce⟩⟩) (hl : xs.length ≤ szL) (hb : backS σ (wipeS σ vs) vs = σ)
    (h : ∀ x ∈ xs, ∀ ce, ∃ s1 s2, pt (.d (enc x)) ⟨wipeS σ vs, ⟨cu, ce⟩⟩ = some s1 ∧ elt s1 = .ok (.cel ce.length) s2 ∧ wipeE vs s2 = ⟨wipeS σ vs, ⟨cu, ce ++ [cf (enc x)]⟩⟩) :
    mCompA vs (iD fi) pt fYes elt s = .ok ((List.range' ce.length xs.length).map .c) ⟨σ, ⟨cu, ce ++ xs.map fun x => cf (enc x)⟩⟩ := by
  unfold mCompA
  unfold bnd
  rw [iD_ok h1]
  dsimp only
  have : wipeE vs ⟨σ, ⟨cu, ce⟩⟩ = ⟨wipeS σ vs, ⟨cu, ce⟩⟩ := rfl
  rw [this, compA_new (cf := cf) (w := wipeS σ vs) (ds := xs.map enc) (fun d hd ce => ?_) (xs.map enc).length 0 ce (by omega)]
  · dsimp only
    rw [if_pos (by simpa using hl), List.drop_zero, List.map_map, List.length_map]
    show Rs.ok _ (backE vs _ _) = _
    unfold backE
    dsimp only
    rw [hb]
    rfl
  · obtain ⟨x, hx, rfl⟩ := List.mem_map.mp hd
    exact h x hx ce
/-- a walk over a cell -/
abbrev itC (n L : Nat) : Itm := ⟨L, fun i s => (lstAt (.cel n) s).map (·[i]?)⟩
theorem itC_get {n L i : Nat} {s : ES} {xs : List AV} (hx : lstAt (.cel n) s = some xs) : (itC n L).get i s = some xs[i]? := by
  show (lstAt (.cel n) s).map (·[i]?) = _
  rw [hx]; rfl
theorem compA_cel {n L : Nat} {xs : List AV} {out : Nat → D} {s : ES} (hx : lstAt (.cel n) s = some xs) (h : ∀ i x, xs[i]? = some x → ∃ s1, pt x s = some s1 ∧ elt s1 = .ok (.d (out i)) s1 ∧ wipeE vs s1 = s) :
    ∀ (k i : Nat), i + k = xs.length → compA vs pt fYes elt (itC n L) k i s = .ok ((List.range' i k).map fun i => .d (out i)) s
  | 0, i, hi => by
    unfold compA
    rw [itC_get hx, List.getElem?_eq_none (by omega)]
    rfl
  | k + 1, i, hi => by
    have hlt : i < xs.length := by omega
    obtain ⟨s1, e1, e2, e3⟩ := h i xs[i] (List.getElem?_eq_getElem hlt)
    unfold compA
    rw [itC_get hx, List.getElem?_eq_getElem hlt]
    dsimp only
    rw [e1]
    dsimp only [fYes, bnd]
    rw [if_pos rfl]
    dsimp only [bnd]
    rw [e2]
    dsimp only [toAV, dur, bnd]
    rw [e3, compA_cel hx h k (i + 1) (by omega)]
    rfl
theorem avD_map : ∀ (ds : List D), avD (ds.map .d) = some ds
  | [] => rfl
  | d :: ds => by show (match avD (ds.map .d) with | some ds => some (d :: ds) | none => none) = _; rw [avD_map ds]
theorem mcompA_cel {f : Mo Ref} {n m : Nat} {xs : List AV} {out : Nat → D} {s s1 s2 : ES} (h1 : f s = .ok (.cel n) s1) (hx : lstAt (.cel n) (wipeE vs s1) = some xs) (hx1 : lstAt (.cel n) s1 = some xs) (hm : xs.length = m) (hl : m ≤ szL) (hb : backE vs s1 (wipeE vs s1) = s2)
    (h : ∀ i x, xs[i]? = some x → ∃ s3, pt x (wipeE vs s1) = some s3 ∧ elt s3 = .ok (.d (out i)) s3 ∧ wipeE vs s3 = wipeE vs s1) : mAD (mCompA vs (iCl f) pt fYes elt) s = .ok ((List.range m).map out) s2 := by
  subst hm
  unfold mAD bnd mCompA
  unfold bnd iCl
  unfold bnd
  rw [h1]
  dsimp only
  rw [hx1]
  dsimp only
  rw [compA_cel hx h xs.length 0 (by omega)]
  dsimp only
  rw [if_pos (by simpa using hl), hb]
  have : (List.range' 0 xs.length).map (fun i => AV.d (out i)) = ((List.range xs.length).map out).map .d := by
    rw [List.map_map, List.range_eq_range']; rfl
  rw [this]
  dsimp only
  rw [avD_map]
end
section
variable {s s1 s2 s3 s4 : ES} {f g h : Mo Ref}
theorem ev_celV {i n : Nat} (h : s.σ[i]? = some (some (.cel n))) : eVar i s = .ok (.cel n) s := by unfold eVar; rw [h]
theorem ev_MC {m : Mo (List D)} {ds : List D} (h : m s = .ok ds s1) : eMC m s = .ok (.cel s1.T.ce.length) (addC s1 (.lst (ds.map .d))) := by unfold eMC bnd; rw [h]
theorem ev_MA {m : Mo (List AV)} {xs : List AV} (h : m s = .ok xs s1) : eMA m s = .ok (.cel s1.T.ce.length) (addC s1 (.lst xs)) := by unfold eMA bnd; rw [h]
theorem st_setC {i n : Nat} (h1 : f s = .ok (.cel n) s1) (h2 : put i (.cel n) s1 = s2) : sSetA i f s = .nx s2 := by
  unfold sSetA sE; rw [h1]; dsimp only [toAV]; rw [← h2]; rfl
theorem st_setAd {i : Nat} {d : D} (h1 : f s = .ok (.d d) s1) (h2 : put i (.val d) s1 = s2) : sSetA i f s = .nx s2 := by
  unfold sSetA sE; rw [h1]; dsimp only [toAV, dur, bnd]; rw [← h2]; rfl
theorem ev_ixC {n : Nat} {k : D} {x : Cell} {a : AV} (h1 : f s = .ok (.cel n) s1) (h2 : g s1 = .ok (.d k) s2) (h3 : s2.T.ce[n]? = some x) (h4 : cGet x k = some a) : eIxA f g s = .ok (refOf a) s2 := by
  unfold eIxA bnd; rw [h1]; dsimp only; rw [h2]; dsimp only [rd]; rw [h3]; dsimp only; rw [h4]
theorem ev_lenC {n : Nat} {xs : List AV} (h1 : f s = .ok (.cel n) s1) (h3 : s1.T.ce[n]? = some (.lst xs)) : eLenA f s = .ok (.d (Nn xs.length)) s1 := by
  unfold eLenA bnd; rw [h1]; dsimp only; rw [h3]
theorem st_putC {n : Nat} {k d : D} {x y : Cell} (h1 : h s = .ok (.d d) s1) (h2 : f s1 = .ok (.cel n) s2) (h3 : g s2 = .ok (.d k) s3) (h4 : s3.T.ce[n]? = some x) (h5 : cPut x k (.d d) = some y) (h6 : setC s3 n y = s4) : sPutA f g h s = .nx s4 := by
  unfold sPutA sE; rw [h1]; dsimp only [toAV, dur, bnd]; rw [h2]; dsimp only; rw [h3]; dsimp only [rd]; unfold putC; dsimp only; rw [h4]; dsimp only; rw [h5]; dsimp only; rw [h6]
theorem ev_unC {n : Nat} {xs : List D} {pu : D → Option D} {r : D} (h1 : f s = .ok (.cel n) s1) (h2 : s1.T.ce[n]? = some (.lst (xs.map .d))) (h3 : pu (.list xs) = some r) : eUn pu f s = .ok (.d r) s1 := by
  unfold eUn bnd; rw [h1]; dsimp only [rd]; rw [h2]; dsimp only; rw [avD_map]; unfold lift; dsimp only; rw [h3]
theorem cGet_nat {xs : List AV} {k : Nat} {a : AV} (h : xs[k]? = some a) : cGet (.lst xs) (Nn k) = some a := by
  show atI xs (k : Int) = some a
  have hl := (List.getElem?_eq_some_iff.mp h).1
  unfold atI
  rw [ixN_nat hl]
  exact h
theorem cPut_nat {xs : List AV} {k : Nat} {a : AV} (h : k < xs.length) : cPut (.lst xs) (Nn k) a = some (.lst (xs.set k a)) := by
  show (match ixN xs.length (k : Int) with | some j => some (Cell.lst (xs.set j a)) | none => none) = _
  rw [ixN_nat h]
end
end Ev
set_option Elab.async false
set_option linter.all false
set_option maxRecDepth 100000
set_option maxHeartbeats 4000000
/-! Ew36: dicts: displays, get, a walk over the items; range with a step -/
namespace Ev
open PySem PySem.Spec PySem.W PyProof.Rows L2

def kD : Key → D
  | .inl i => .int i
  | .inr x => .str x
def mergeA (xs more : List (Key × AV)) : List (Key × AV) := more.foldl (fun acc kv => putA acc kv.1 kv.2) xs
theorem KAs.merge {K : PySem.W.Frag} {B : Addr → Prop} {W : Own} {H : Hp} : ∀ {more : List (Key × V)} {rs : List (Key × AV)} {kvs : List (Key × V)} {xs : List (Key × AV)}, KAs K B W H more rs → KAs K B W H kvs xs → KAs K B W H (mergeK kvs more) (mergeA xs rs)
  | _, _, _, _, .nil, q => q
  | p :: more, r :: rs, kvs, xs, .cons h t, q => by
    have e : KAs K B W H (putK kvs p.1 p.2) (putA xs r.1 r.2) := by
      have := KAs.put h.2 p.1 q
      rw [← h.1]; exact this
    exact show KAs K B W H (mergeK (putK kvs p.1 p.2) more) (mergeA (putA xs r.1 r.2) rs) from KAs.merge t e
def dctAt (q : Ref) (s : ES) : Option (List (Key × AV)) := match q with
  | .cel n => match s.T.ce[n]? with
    | some (.dct xs) => some xs
    | _ => none
  | _ => none
theorem dctAt_ok {K : PySem.W.Frag} {c : Option (Addr × Addr)} {Z : Addr → Prop} {W : Own} {s : ES} {σ : Sl} {H : Hp} {q : Ref} {v : V} {xs : List (Key × AV)} (r : Rel K c Z W s σ H) (rv : RV K Z W H σ v q) (e : dctAt q s = some xs) :
    ∃ n a vs, q = .cel n ∧ n < s.T.ce.length ∧ W (cix n) = some a ∧ v = V.ref a ∧ H a = some (.dK vs) ∧ KAs K (blk Z W) W H vs xs := by
  unfold dctAt at e
  split at e
  · split at e
    · rename_i hx
      cases e
      obtain ⟨hn, a, vs, h1, h2, h3⟩ := r.cel_at hx
      exact ⟨_, a, vs, rfl, hn, h1, rv.2 a h1, h2, h3⟩
    · cases e
  · cases e

/-! ### {} -/
def eDnew : Mo Ref := fun s => .ok (.cel s.T.ce.length) (addC s (.dct []))
section
variable {X : Cx} {XP : XPt} {pos : Pos}
theorem newD_at {K : PySem.W.Frag} {c : Option (Addr × Addr)} {Z : Addr → Prop} {W W' : Own} {s' : ES} {σ : Sl} {H H' : Hp} {Q : VK} {kvs : List (Key × V)} {xs : List (Key × AV)} {p : Addr} (hp : H p = none) (hz : ¬ Z p) (hc : ∀ a l, c = some (a, l) → Z a ∧ Z l)
    (x : Stp c W H W' H') (r : Rel K c (zP Z p) W' s' σ H') (hH : H' p = some (.dK kvs)) (av : KAs K (blk (zP Z p) W') W' H' kvs xs)
    (h : Run K XP c Z W σ H (.ok (.cel s'.T.ce.length) (addC s' (.dct xs))) fun q _ W' H' => ∀ v, RV K Z W' H' σ v q → Q v H') : Q (V.ref p) H' := by
  refine h _ _ (x.newC hp) (r.newC (x := .dct xs) hz hc hH True.intro fun B' W'' k cw hl hw => ⟨p, kvs, hw, hH, KAs.mono k cw hl av⟩) (V.ref p) ⟨?_, fun a e => ?_⟩
  · show s'.T.ce.length < W'.L + 1; rw [r.cL]; exact Nat.lt_succ_self _
  · rw [r.cL, cellAt_self] at e; cases e; rfl
theorem qe_dnew : QE X XP (.Dict [] [] pos) eDnew := PE.imp pe_dnewK fun σ H Q ⟨c, Z, W, s, r, h⟩ p hp => by
  have hz : ¬ Z p := fun z => by obtain ⟨o, e⟩ := r.zt p z; rw [hp] at e; cases e
  exact newD_at hp hz r.cz (Grow.upd hp).stp (r.addD (kvs := []) hp) upd_same .nil h
end
/-! ### {k: v, ..} -/
def eDPairs : List (Mo Ref × Mo Ref) → Mo (List (Key × AV))
  | [] => fun s => .ok [] s
  | (fk, fv) :: L => bnd fk fun q => bnd (rd q) fun d => match kOf d with
    | none => fun _ => .stuck
    | some k => bnd fv fun q => bnd (toAV q) fun x => bnd (eDPairs L) fun xs s => .ok ((k, x) :: xs) s
def eDct (L : List (Mo Ref × Mo Ref)) : Mo Ref := bnd (eDPairs L) fun xs s => .ok (.cel s.T.ce.length) (addC s (.dct (mergeA [] xs)))
section
variable {K : PySem.W.Frag} {XP : XPt} {c : Option (Addr × Addr)} {Z : Addr → Prop} {σ : Sl}
theorem dpairs_run : ∀ (L : List (Mo Ref × Mo Ref)) (s : ES) (W : Own) (H : Hp) (Q : List (V × V) → Hp → Prop), Rel K c Z W s σ H →
    Run K XP c Z W σ H (eDPairs L s) (fun xs s' W' H' => xs.length = L.length → ∀ kvs, KAs K (blk Z W') W' H' kvs xs → Q (kvs.map fun kv => (kV kv.1, kv.2)) H') → tPairs (L.map fun kf => (tE K XP kf.1, tE K XP kf.2)) σ H Q
  | [], s, W, H, Q, r, h => h W H .refl r rfl [] .nil
  | (fk, fv) :: L, s, W, H, Q, r, h => by
    unfold eDPairs at h
    refine ⟨c, Z, W, s, r, (h.bind (σ := σ)).imp fun q1 s1 W1 H1 x1 r1 h1 v rv => ?_⟩
    obtain ⟨d, td, h2⟩ := h1.rd r1 rv
    cases hk : kOf d with
    | none => rw [hk] at h2; exact h2.elim
    | some k =>
      rw [hk] at h2
      obtain rfl := kOf_T td hk
      refine ⟨c, Z, W1, s1, r1, (h2.bind (σ := σ)).imp fun q2 s2 W2 H2 x2 r2 h3 u ru => ?_⟩
      obtain ⟨x, s3, W3, x3, r3, av, h4⟩ := h3.toAV r2 ru
      refine dpairs_run L s3 W3 H2 _ r3 ((h4.bind (σ := σ)).imp fun xs s4 W4 H4 x4 r4 h5 hl kvs kas => ?_)
      exact h5 W4 H4 .refl r4 (by rw [List.length_cons, List.length_cons, hl]) ((k, u) :: kvs) (.cons ⟨rfl, av.step r3 x4⟩ kas)
end
section
variable {X : Cx} {XP : XPt} {pos : Pos} {keys : List (Option Expr)} {values : List Expr} {L : List (Mo Ref × Mo Ref)}
theorem qe_dct (hp : PPs X pos keys values (L.map fun kf => (tE X.K XP kf.1, tE X.K XP kf.2))) (hall : keys.all (·.isSome) = true) (hl : keys.length = values.length) (h0 : keys ≠ []) (h15 : keys.length ≤ 15) (hL : L.length ≤ 15) :
    QE X XP (.Dict keys values pos) (eDct L) := PE.imp (pe_disp hp hall hl h0 h15) fun σ H Q h => by
  obtain ⟨c, Z, W, s, r, h⟩ := h
  intro p hpn
  have hz : ¬ Z p := fun z => by obtain ⟨o, e⟩ := r.zt p z; rw [hpn] at e; cases e
  have g : Grow H (upd H p (.dK [])) := Grow.upd hpn
  have hc : ∀ a l, c = some (a, l) → p ≠ a ∧ p ≠ l := fun a l e => by
    obtain ⟨z1, z2⟩ := r.cz a l e
    refine ⟨fun z => ?_, fun z => ?_⟩
    · obtain ⟨o, q⟩ := r.zt a z1; rw [← z, hpn] at q; cases q
    · obtain ⟨o, q⟩ := r.zt l z2; rw [← z, hpn] at q; cases q
  have nC : ¬ isC c p := fun ⟨l, e⟩ => (hc p l e).1 rfl
  have r1 : Rel X.K c (zP Z p) W s σ (upd H p (.dK [])) := r.addD hpn
  have zp : zP Z p p := .inr rfl
  unfold eDct bnd at h
  refine dpairs_run L s W _ _ r1 ?_
  cases e : eDPairs L s with
  | ok xs s' =>
    rw [e] at h
    dsimp only at h
    intro W2 H2 x2 r2 hlen kvs kas
    have hp2 : H2 p = some (.dK []) := x2.keep p _ upd_same nt_dK (fun j e => (r1.wo j p e).1 zp) nC
    refine ⟨hp2, kvs, rfl, by rw [kas.len, hlen]; exact hL, ?_⟩
    have r3 : Rel X.K c (zP Z p) W2 s' σ (upd H2 p (.dK (mergeK [] kvs))) := r2.setD hp2 zp hc
    have kas3 : KAs X.K (blk (zP Z p) W2) W2 (upd H2 p (.dK (mergeK [] kvs))) kvs xs := kas.mono (fun a o e _ n => ⟨by rw [upd_ne (fun z => n (.inl (by rw [z]; exact zp)))]; exact e, n⟩) (fun _ _ _ e => e) (Nat.le_refl _)
    exact newD_at hpn hz r.cz (Stp.updP (g.stp.trans x2) hpn) r3 upd_same (KAs.merge kas3 .nil) h
  | err code T => rw [e] at h; exact ErrOk.step g.stp h
  | stuck => rw [e] at h; exact h
end
/-! ### d.get(k, x), d.get(k) -/
def eDGet2 (fo fk fx : Mo Ref) : Mo Ref := bnd fo fun q s0 => match dctAt q s0 with
  | some _ => bnd fk (fun qk => bnd (rd qk) fun d => match kOf d with
    | none => fun _ => .stuck
    | some k => bnd fx fun qx => bnd (toAV qx) fun x s => match dctAt q s with
      | some kvs => .ok (refOf ((valA kvs k).getD x)) s
      | none => .stuck) s0
  | none => .stuck
def eDGet1 (fo fk : Mo Ref) : Mo Ref := bnd fo fun q s0 => match dctAt q s0 with
  | some _ => bnd fk (fun qk => bnd (rd qk) fun d => match kOf d with
    | none => fun _ => .stuck
    | some k => fun s => match dctAt q s with
      | some kvs => .ok (refOf ((valA kvs k).getD (.d .none))) s
      | none => .stuck) s0
  | none => .stuck
theorem isD_K {H : Hp} {a : Addr} {vs : List (Key × V)} (h : H a = some (.dK vs)) : IsD H a := .inl ⟨vs, .inl h⟩
theorem getD_ok {K : PySem.W.Frag} {B : Addr → Prop} {W : Own} {H : Hp} {vs : List (Key × V)} {kvs : List (Key × AV)} {k : Key} {z : V} {x : AV} (h : KAs K B W H vs kvs) (hx : AVok K B W H z x) : AVok K B W H ((valV vs k).getD z) ((valA kvs k).getD x) := by
  cases e : valA kvs k with
  | some y => obtain ⟨v, e1, e2⟩ := KAs.val k h e; rw [e1]; exact e2
  | none => rw [KAs.valN k h e]; exact hx
section
variable {X : Cx} {XP : XPt} {o e f : Expr} {apos cpos : Pos} {fo fk fx : Mo Ref}
theorem qe_dget2 (hu : X.A.units + 1 < cLine) (ho : QE X XP o fo) (he : QE X XP e fk) (hf : QE X XP f fx) (m : M2 X o "get" apos e f cpos) : QE X XP (.Call (.Attribute o "get" apos) [e, f] [] cpos) (eDGet2 fo fk fx) :=
  PE.imp (pe_dget2 hu ho he hf m) fun σ H Q ⟨c, Z, W, s, r, h⟩ => ⟨c, Z, W, s, r, h.bind.imp fun q s1 W1 H1 x1 r1 h1 v rv => by
    split at h1
    · rename_i xs hx
      obtain ⟨n, a, vs, rfl, hn, g1, rfl, g2, g3⟩ := dctAt_ok r1 rv hx
      refine ⟨a, rfl, isD_K g2, c, Z, W1, s1, r1, h1.bind.imp fun q2 s2 W2 H2 x2 r2 h2 u ru => ?_⟩
      obtain ⟨d, td, h3⟩ := h2.rd r2 ru
      cases hk : kOf d with
      | none => rw [hk] at h3; exact h3.elim
      | some k =>
        rw [hk] at h3
        obtain rfl := kOf_T td hk
        refine ⟨c, Z, W2, s2, r2, h3.bind.imp fun q3 s3 W3 H3 x3 r3 h4 w rw' => ?_⟩
        obtain ⟨x, s4, W4, x4, r4, av, h5⟩ := h4.toAV r3 rw'
        split at h5
        · rename_i kvs hk2
          obtain ⟨n', a', vs', e', hn', g1', hv', g2', g3'⟩ := dctAt_ok r4 ((((rv.step r1 x2).step r2 x3)).step r3 x4) hk2
          cases e'
          cases hv'
          exact ⟨_, DGet.k g2', h5 W4 H3 .refl r4 _ (rv_refOf (getD_ok g3' av))⟩
        · exact h5.elim
    · exact h1.elim⟩
theorem qe_dget1 (hu : X.A.units + 1 < cLine) (ho : QE X XP o fo) (he : QE X XP e fk) (m : M1 X o "get" apos e cpos) : QE X XP (.Call (.Attribute o "get" apos) [e] [] cpos) (eDGet1 fo fk) :=
  PE.imp (pe_dget1 hu ho he m) fun σ H Q ⟨c, Z, W, s, r, h⟩ => ⟨c, Z, W, s, r, h.bind.imp fun q s1 W1 H1 x1 r1 h1 v rv => by
    split at h1
    · rename_i xs hx
      obtain ⟨n, a, vs, rfl, hn, g1, rfl, g2, g3⟩ := dctAt_ok r1 rv hx
      refine ⟨a, rfl, isD_K g2, c, Z, W1, s1, r1, h1.bind.imp fun q2 s2 W2 H2 x2 r2 h2 u ru => ?_⟩
      obtain ⟨d, td, h3⟩ := h2.rd r2 ru
      cases hk : kOf d with
      | none => rw [hk] at h3; exact h3.elim
      | some k =>
        rw [hk] at h3
        dsimp only at h3
        obtain rfl := kOf_T td hk
        split at h3
        · rename_i kvs hk2
          obtain ⟨n', a', vs', e', hn', g1', hv', g2', g3'⟩ := dctAt_ok r2 (rv.step r1 x2) hk2
          cases e'
          cases hv'
          exact ⟨_, DGet.k g2', h3 W2 H2 .refl r2 _ (rv_refOf (getD_ok g3' (show AVok X.K _ _ _ .non (.d .none) from DV.non)))⟩
        · exact h3.elim
    · exact h1.elim⟩
end
/-! ### range(a, b, -1) -/
def rngD (hi lo : Int) : List D := (List.range (hi - lo).toNat).map fun i => .int (hi - (i : Nat))
def iR3 (f g h : Mo Ref) : Mo (List D) := bnd f fun q => bnd g fun q2 => bnd h fun q3 => bnd (rd q) fun d => bnd (rd q2) fun d2 => bnd (rd q3) fun d3 => match d, d2, d3 with
  | .int i, .int j, .int k => fun s => if decide (k = -1) && (inLine i && inLine j) then .ok (rngD i j) s else .stuck
  | _, _, _ => fun _ => .stuck
section
variable {X : Cx} {XP : XPt} {tg : Expr}
theorem it_rngD {K : PySem.W.Frag} {B : Addr → Prop} {H0 : Hp} {hi lo : Int} : ItOk K (Itc hi (-1) (hi - lo).toNat) B H0 (rngD hi lo) := by
  unfold rngD
  generalize (hi - lo).toNat = n
  refine ⟨fun H k => ?_, fun i d H k e => ?_, fun i d H x H' k e y => ?_⟩
  · show n ≤ _
    rw [List.length_map, List.length_range]; exact Nat.le_refl _
  · have := (List.getElem?_eq_some_iff.mp e).1
    rw [List.length_map, List.length_range] at this
    exact this
  · obtain ⟨rfl, rfl⟩ := y
    have hi := (List.getElem?_eq_some_iff.mp e).1
    rw [List.length_map, List.length_range] at hi
    rw [List.getElem?_map, List.getElem?_range hi] at e
    cases e
    refine ⟨.refl, fun B' hb hn => ?_⟩
    have : ∀ h : Int, h + (i : Nat) * (-1) = h - (i : Nat) := fun h => by omega
    rw [this]; exact .int _
theorem qi_rng3 {a b e : Expr} {f g h : Mo Ref} {p pos : Pos} (hm : X.mg "range" = none) (ha : QE X XP a f) (hb : QE X XP b g) (he : QE X XP e h) (hg : Gl X "range" := by rfl) (hs : starEach [a, b, e] X.env = (false, eval a X.env) :: starEach [b, e] X.env := by rfl) (hs1 : starEach [b, e] X.env = (false, eval b X.env) :: starEach [e] X.env := by rfl) (hs2 : starEach [e] X.env = [(false, eval e X.env)] := by rfl)
    (hpl : (backTo pos (starEach [b, e] X.env)).any (·.1) = false := by rfl) : QI X XP tg (.Call (.Name "range" p) [a, b, e] [] pos) (iR3 f g h) :=
  PI.imp (pi_range3 hg hm (pa_cons ha (pa_cons hb (pa_cons he pa_nil hs2) hs1) hs) hs hpl) fun σ H R ⟨c, Z, W, s, r, h⟩ => ⟨c, Z, W, s, r, h.bind.imp fun q s1 W1 H1 x1 r1 h1 v rv => ⟨c, Z, W1, s1, r1, h1.bind.imp fun q2 s2 W2 H2 x2 r2 h2 v2 rv2 => ⟨c, Z, W2, s2, r2, h2.bind.imp fun q3 s3 W3 H3 x3 r3 h3 v3 rv3 => by
    obtain ⟨d, t, h4⟩ := h3.rd r3 ((rv.step r1 x2).step r2 x3)
    obtain ⟨d2, t2, h5⟩ := h4.rd r3 (rv2.step r2 x3)
    obtain ⟨d3, t3, h6⟩ := h5.rd r3 rv3
    cases d <;> try exact h6.elim
    rename_i i
    cases d2 <;> try exact h6.elim
    rename_i j
    cases d3 <;> try exact h6.elim
    rename_i k
    have h7 : Run X.K XP c Z W3 σ H3 (if decide (k = -1) && (inLine i && inLine j) then .ok (rngD i j) s3 else .stuck) _ := h6
    split at h7
    · rename_i hj
      rw [Bool.and_eq_true, Bool.and_eq_true, decide_eq_true_eq] at hj
      obtain ⟨hk, hj1, hj2⟩ := hj
      subst hk
      obtain ⟨a1, a2⟩ := inLine_of hj1
      obtain ⟨a3, a4⟩ := inLine_of hj2
      cases t.int
      cases t2.int
      cases t3.int
      exact ⟨i, j, -1, _, rfl, RgC.neg a1 a2 a3 a4, h7 W3 H3 .refl r3 _ it_rngD⟩
    · exact h7.elim⟩⟩⟩
end
/-! ### for .. in x.items(), x gone afterwards -/
def itItems (kvs : List (Key × AV)) : Itm := ⟨kvs.length, fun i _ => match kvs[i]? with
  | none => some none
  | some (k, .d d) => some (some (.d (.tuple [kD k, d])))
  | some (_, .c _) => none⟩
def sForIt (i : Nat) (pt : PatA) (body : ES → SR) : ES → SR := fun s => match s.σ[i]? with
  | some (some (.cel n)) => match s.T.ce[n]? with
    | some (.dct kvs) => match forA pt body (itItems kvs) kvs.length 0 (setC s n .gone) with
      | .nx s' => .nx s'
      | _ => .stuck
    | _ => .stuck
  | _ => .stuck
theorem nt_frz {o : Obj} {u : HO} : NT (.frz o u) := fun _ h => by cases h
theorem TabOk.updF {K : PySem.W.Frag} {H : Hp} {a : Addr} {od : Obj} {kvs : List (Key × V)} {o : HO} (t : TabOk K H) (h : H a = some (.frz od (.dK kvs))) : TabOk K (L2.upd H a o) := fun p hp => by
  obtain ⟨ps, h1, h2, h3⟩ := t p hp
  refine ⟨ps, by rw [upd_ne (fun z => by rw [z, h] at h1; cases h1)]; exact h1, h2, fun pos cv hc => ?_⟩
  obtain ⟨c, e1, e2⟩ := h3 pos cv hc
  exact ⟨c, e1, by rw [upd_ne (fun z => by rw [z, h] at e2; cases e2)]; exact e2⟩
section
variable {K : PySem.W.Frag} {XP : XPt} {c : Option (Addr × Addr)} {Z : Addr → Prop} {W W' W1 : Own} {σ : Sl} {H H' H1 : Hp} {s : ES}
theorem Rel.lockC {n : Nat} {a : Addr} {o o' : HO} (r : Rel K c Z W s σ H) (hw : W (cix n) = some a) (ho : H a = some o) (hm : MutO o) : Rel K c (zP Z a) (Ev.ungo W n) (Ev.setC s n .gone) σ (upd H a o') ∧
    ∀ b u, H b = some u → NT u → ¬ blk Z W b → upd H a o' b = some u ∧ ¬ blk (zP Z a) (Ev.ungo W n) b := by
  have nz := (r.wo _ a hw).1
  have g : ∀ b u, H b = some u → NT u → ¬ blk Z W b → upd H a o' b = some u ∧ ¬ blk (zP Z a) (Ev.ungo W n) b := fun b u e _ nb => by
    have hb : b ≠ a := fun z => nb (.inr ⟨cix n, by rw [z]; exact hw⟩)
    refine ⟨by rw [upd_ne hb]; exact e, ?_⟩
    rintro ((z | z) | ⟨j, z⟩)
    · exact nb (.inl z)
    · exact hb z
    · exact nb (.inr ⟨j, (ungo_some z).2⟩)
  have wn : ∀ j b, Ev.ungo W n j = some b → b ≠ a := fun j b e z => (ungo_some e).1 (r.inj _ _ _ (z ▸ (ungo_some e).2) hw)
  refine ⟨⟨r.len, fun j sv e => ?_, fun j k b e1 e2 => r.inj _ _ _ (ungo_some e1).2 (ungo_some e2).2, fun j b e => ⟨?_, ?_⟩, fun b z => ?_, fun a' l e => ⟨.inl (r.cz a' l e).1, .inl (r.cz a' l e).2⟩, ?_, r.tb.updM ho hm, r.len1, ?_, fun m x e => ?_⟩, g⟩
  · have e : s.σ[j]? = some (some sv) := e
    have q := r.slot j sv e
    have hj : j < s.σ.length := (List.getElem?_eq_some_iff.mp e).1
    have hj := Nat.lt_of_lt_of_le hj r.len1
    cases sv with
    | val d => obtain ⟨v, h1, h2⟩ := q; exact ⟨v, h1, DV.mono g _ _ h2⟩
    | own ds =>
      obtain ⟨b, ws, h1, h2, h3, h4⟩ := q
      have e1 : Ev.ungo W n j = some b := by rw [ungo_ne (cix_ne hj).symm]; exact h1
      exact ⟨b, ws, e1, h2, by rw [upd_ne (wn j b e1)]; exact h3, DVs.mono g _ _ h4⟩
    | cur => exact q
    | cel m => obtain ⟨h0, v, h1, h2⟩ := q; exact ⟨h0, v, h1, fun a e => h2 a (ungo_some e).2⟩
  · rintro (z | z)
    · exact (r.wo j b (ungo_some e).2).1 z
    · exact wn j b e z
  · obtain ⟨_, u, h1, h2⟩ := r.wo j b (ungo_some e).2
    exact ⟨u, by rw [upd_ne (wn j b e)]; exact h1, h2⟩
  · by_cases hb : b = a
    · exact ⟨o', by rw [hb]; exact upd_same⟩
    · rcases z with z | z
      · rw [upd_ne hb]; exact r.zt b z
      · exact (hb z).elim
  · have q := r.T
    show CurOk c (upd H a o') s.T.cu
    cases hT : s.T.cu with
    | none => rw [hT] at q; exact q
    | some cu =>
      rw [hT] at q
      obtain ⟨a1, l, h1, h3, h4, h5⟩ := q
      obtain ⟨z1, z2⟩ := r.cz _ _ h1
      have n1 : a1 ≠ a := fun q => nz (by rw [← q]; exact z1)
      have n2 : l ≠ a := fun q => nz (by rw [← q]; exact z2)
      exact ⟨a1, l, h1, h3, by rw [upd_ne n1]; exact h4, by rw [upd_ne n2]; exact h5⟩
  · show (s.T.ce.set n .gone).length = _
    rw [List.length_set]; exact r.cL
  · have e : (s.T.ce.set n .gone)[m]? = some x := e
    by_cases hm : n = m
    · subst hm
      rw [List.getElem?_set_self (by simpa using (List.getElem?_eq_some_iff.mp e).1)] at e
      cases e
      exact True.intro
    · rw [List.getElem?_set_ne hm] at e
      refine (r.cel m x e).mono g (fun m a _ q => (ungo_some q).2) (Nat.le_refl _) fun b u q1 q2 => ?_
      have e1 : Ev.ungo W n (cix m) = some b := by rw [ungo_ne (fun z => hm (cix_inj z).symm)]; exact q1
      exact ⟨e1, by rw [upd_ne (wn _ b e1)]; exact q2⟩
theorem Rel.unlockC {a : Addr} {od : Obj} {vs : List (Key × V)} {o : HO} (r : Rel K c (zP Z a) W s σ H) (hz : ¬ Z a) (hc : ∀ a l, c = some (a, l) → Z a ∧ Z l) (ha : H a = some (.frz od (.dK vs))) : Rel K c Z W s σ (upd H a o) := by
  have za : zP Z a a := .inr rfl
  have k : ∀ b u, H b = some u → NT u → ¬ blk (zP Z a) W b → upd H a o b = some u ∧ ¬ blk Z W b := fun b u e _ n => ⟨by rw [upd_ne (fun z => n (.inl (by rw [z]; exact za)))]; exact e, by
    rintro (z | z)
    · exact n (.inl (.inl z))
    · exact n (.inr z)⟩
  have nw : ∀ i b, W i = some b → b ≠ a := fun i b e z => (r.wo i b e).1 (by rw [z]; exact za)
  refine ⟨r.len, fun i sv e => ?_, r.inj, fun i b e => ⟨fun z => (r.wo i b e).1 (.inl z), (r.wo i b e).2.elim fun u q => ⟨u, by rw [upd_ne (nw i b e)]; exact q⟩⟩, fun b z => ?_, hc, ?_, r.tb.updF ha, r.len1, r.cL, r.cel.same k (fun _ => rfl) rfl fun m b u q e => by rw [upd_ne (nw _ b q)]; exact e⟩
  · have q := r.slot i sv e
    cases sv with
    | val d => obtain ⟨v, h1, h2⟩ := q; exact ⟨v, h1, DV.mono k _ _ h2⟩
    | own ds => obtain ⟨b, xs, h1, h2, h3, h4⟩ := q; exact ⟨b, xs, h1, h2, by rw [upd_ne (nw i b h1)]; exact h3, DVs.mono k _ _ h4⟩
    | cur => exact q
    | cel n => exact q
  · rw [upd_ne (fun q => hz (by rw [← q]; exact z))]; exact r.zt b (.inl z)
  · have q := r.T
    cases hT : s.T.cu with
    | none => rw [hT] at q; exact q
    | some cu =>
      rw [hT] at q
      obtain ⟨a1, l, h1, h3, h4, h5⟩ := q
      obtain ⟨z1, z2⟩ := hc _ _ h1
      exact ⟨a1, l, h1, h3, by rw [upd_ne (fun q => hz (by rw [← q]; exact z1))]; exact h4, by rw [upd_ne (fun q => hz (by rw [← q]; exact z2))]; exact h5⟩
theorem Stp.lockC {n : Nat} {a : Addr} {o o' u : HO} (hw : W (cix n) = some a) (ha : H a = some u) (x : Stp c (Ev.ungo W n) (upd H a o) W' H') : Stp c W H W' (upd H' a o') := by
  refine ⟨fun b v h1 nt h2 h3 => ?_, fun b v h => ?_, fun i b e => ?_, x.lc, fun m b hm e => (ungo_some (x.cw m b hm e)).2⟩
  · have hb : b ≠ a := fun z => h2 (cix n) (by rw [z]; exact hw)
    rw [upd_ne hb]
    exact x.keep b v (by rw [upd_ne hb]; exact h1) nt (fun i e => h2 i (ungo_some e).2) h3
  · by_cases hb : b = a
    · exact ⟨o', by rw [hb]; exact upd_same⟩
    · obtain ⟨v', h'⟩ := x.dom b v (by rw [upd_ne hb]; exact h)
      exact ⟨v', by rw [upd_ne hb]; exact h'⟩
  · rcases x.new i b e with ⟨j, e'⟩ | e'
    · exact .inl ⟨j, (ungo_some e').2⟩
    · by_cases hb : b = a
      · rw [hb, upd_same] at e'; cases e'
      · rw [upd_ne hb] at e'; exact .inr e'
theorem ItA.items {a : Addr} {od : Obj} {vs : List (Key × V)} {kvs : List (Key × AV)} (r1 : Rel K c Z W1 s σ H1) (ha : H1 a = some (.frz od (.dK vs))) (hn : ∀ i, W1 i ≠ some a) (nC : ¬ isC c a) (kas : KAs K (blk Z W1) W1 H1 vs kvs) :
    ItA K c Z (Iti a od vs) W1 H1 (itItems kvs) := by
  intro i Zk Wk sk σk Hk xk rk hz
  have hk : Hk a = some (.frz od (.dK vs)) := xk.keep a _ ha nt_frz hn nC
  have kp : ∀ b o, H1 b = some o → NT o → ¬ blk Z W1 b → Hk b = some o ∧ ¬ blk Zk Wk b := fun b o e t n => ⟨(r1.over xk b o e t n).1, by
    rintro (q | q)
    · exact (hz b q).elim (fun q => n (.inl q)) fun q => by rw [e] at q; cases q
    · exact (r1.over xk b o e t n).2 (.inr q)⟩
  have kas' : KAs K (blk Zk Wk) Wk Hk vs kvs := kas.mono kp xk.cw xk.lc
  refine ⟨fun e => ?_, fun x e => ?_⟩
  · refine ⟨hk, ?_⟩
    rw [kas'.len]
    have e : (match kvs[i]? with
      | none => some none
      | some (k, .d d) => some (some (AV.d (.tuple [kD k, d])))
      | some (_, .c _) => none) = some none := e
    split at e
    · rename_i hi; exact List.getElem?_eq_none_iff.mp hi
    · cases e
    · cases e
  · have e : (match kvs[i]? with
      | none => some none
      | some (k, .d d) => some (some (AV.d (.tuple [kD k, d])))
      | some (_, .c _) => none) = some (some x) := e
    split at e
    · cases e
    · rename_i k d hi
      cases e
      obtain ⟨hi1, hi2⟩ := List.getElem?_eq_some_iff.mp hi
      refine ⟨⟨hk, by rw [kas'.len]; exact hi1⟩, fun v H' y => ?_⟩
      obtain ⟨T, k', w, e1, rfl, hT, rfl⟩ := y
      have gr : Grow Hk (upd Hk T (.tup [kV k', w])) := Grow.upd hT
      have pr : ∀ {vs : List (Key × V)} {kvs : List (Key × AV)} {i : Nat}, KAs K (blk Zk Wk) Wk Hk vs kvs → vs[i]? = some (k', w) → kvs[i]? = some (k, .d d) → k' = k ∧ DV K (blk Zk Wk) Hk w d := by
        intro vs kvs i q
        induction q generalizing i with
        | nil => intro z; simp at z
        | cons h t ih =>
          cases i with
          | zero => intro z1 z2; simp at z1 z2; subst z1 z2; exact h
          | succ i => intro z1 z2; exact ih (by simpa using z1) (by simpa using z2)
      obtain ⟨rfl, dv⟩ := pr kas' e1 hi
      refine ⟨gr, ?_⟩
      show DV K (blk Zk Wk) _ (V.ref T) (.tuple [kD k', d])
      refine .tup (.inl ⟨upd_same, fun q => ?_⟩) (.cons ?_ (.cons (DV.mono (fun a o e _ n => ⟨gr a o e, n⟩) _ _ dv) .nil))
      · obtain ⟨o, q⟩ := rk.blkT q; rw [hT] at q; cases q
      · cases k' with
        | inl i => exact .int i
        | inr z => exact .str z
    · cases e
end
section
variable {X : Cx} {XP : XPt} {pos : Pos} {tg iter : Expr} {body : List Stmt} {vs : List Nat} {pt : PatA} {g : ES → SR}
theorem ps_forA_gen {wi : TI} (mono : ∀ σ H (R R' : It → Hp → Prop), (∀ J H, R J H → R' J H) → wi σ H R → wi σ H R') (hp : PassesOwn (model X.prog X.w) X.A X.env X.xe) (hc : X.calm = true) (hi : PI X tg iter wi) (hg : QGA X tg vs pt) (hb : QSs X XP body g)
    (hs : ∀ x, foldedSetIterable iter X.env x = pure x := by intro _; rfl) : PS X (.For tg iter body [] pos) (fun E σ H => wi σ H fun J H1 => ∃ c Z W1 s1 it, Rel X.K c Z W1 s1 σ H1 ∧ ItA X.K c Z J W1 H1 it ∧ RunS X.K XP c Z W1 H1 (forA pt g it it.len 0 s1) E) := PS.imp (ps_for hp hc hi hg hb hs) fun E σ H h => by
  refine mono σ H _ _ (fun J H1 h => ?_) h
  obtain ⟨c, Z, W1, s1, it, r1, ij, h1⟩ := h
  refine ⟨fun i m σ' H' => ∃ Wk sk, Stp c W1 H1 Wk H' ∧ Rel X.K c Z Wk sk σ' H' ∧ RunS X.K XP c Z Wk H' (forA pt g it m i sk) E,
    ⟨_, W1, s1, .refl, r1, h1⟩, ?_⟩
  rintro i m σ2 H2 ⟨Wk, sk, xk, rk, hk⟩
  obtain ⟨stop, go⟩ := ij i Z Wk sk σ2 H2 xk rk fun a z => .inl z
  cases ea : it.get i sk with
  | none =>
    cases m with
    | zero => unfold forA at hk; rw [ea] at hk; exact hk.elim
    | succ m => unfold forA at hk; rw [ea] at hk; exact hk.elim
  | some ox =>
    cases ox with
    | none =>
      have hk : RunS X.K XP c Z Wk H2 (.nx sk) E := by
        cases m with
        | zero => unfold forA at hk; rw [ea] at hk; exact hk
        | succ m => unfold forA at hk; rw [ea] at hk; exact hk
      exact .inl ⟨stop ea, hk _ Wk _ .refl rk⟩
    | some x =>
      cases m with
      | zero => unfold forA at hk; rw [ea] at hk; exact hk.elim
      | succ m =>
        unfold forA at hk
        rw [ea] at hk
        dsimp only at hk
        obtain ⟨g1, g2⟩ := go x ea
        refine .inr ⟨g1, fun σ' H' => ∃ m', m' < m + 1 ∧ ∃ Wk sk, Stp c W1 H1 Wk H' ∧ Rel X.K c Z Wk sk σ' H' ∧ RunS X.K XP c Z Wk H' (forA pt g it m' (i + 1) sk) E, fun σ' H' h => h, fun v H3 y => ?_⟩
        obtain ⟨gr, av⟩ := g2 v H3 y
        have rk3 := rk.grow gr
        cases e1 : pt x sk with
        | none => rw [e1] at hk; exact hk.elim
        | some s4 =>
          rw [e1] at hk
          dsimp only at hk
          refine ⟨c, Z, Wk, sk, _, s4, rk3, av, e1, fun σ4 W4 x4 r4 _ => ⟨c, Z, W4, s4, r4, ?_⟩⟩
          have x5 : Stp c W1 H1 W4 H3 := xk.trans (gr.stp.trans x4)
          have hk4 := RunS.step (gr.stp.trans x4) hk
          cases e2 : g s4 with
          | nx s6 =>
            rw [e2] at hk4
            exact fun σ6 W6 H6 x6 r6 => ⟨m, Nat.lt_succ_self _, W6, s6, x5.trans x6, r6, RunS.step x6 hk4⟩
          | ct s6 =>
            rw [e2] at hk4
            exact fun σ6 W6 H6 x6 r6 => ⟨m, Nat.lt_succ_self _, W6, s6, x5.trans x6, r6, RunS.step x6 hk4⟩
          | bk s6 => rw [e2] at hk4; exact hk4
          | rt d T => rw [e2] at hk4; exact hk4
          | rc n T => rw [e2] at hk4; exact hk4
          | err cd T => rw [e2] at hk4; exact hk4
          | stuck => rw [e2] at hk4; exact hk4
theorem qs_forIt {elts : List Expr} {kk : Nat} {tpos p apos cpos : Pos} {x : Str} (i : Nat) (hp : PassesOwn (model X.prog X.w) X.A X.env X.xe) (hc : X.calm = true) (hN : X.N[i]? = some x) (hv : Vis X.env.scope x) (hg : QGA X (.Tuple elts kk tpos) vs pt) (hb : QSs X XP body g)
    (hd : (x == ("__debug__" : Str)) = false := by decide) (hcd : (x == ("__classdict__" : Str)) = false := by decide)
    (hbase : attributeBase (.Name x p) "items" X.env (eval (.Name x p) X.env) = eval (.Name x p) X.env := by rfl) (hline : (apos.endLine == cpos.line) = true := by rfl)
    (hs : ∀ y, foldedSetIterable (.Call (.Attribute (.Name x p) "items" apos) [] [] cpos) X.env y = pure y := by intro _; rfl) :
    QS X XP (.For (.Tuple elts kk tpos) (.Call (.Attribute (.Name x p) "items" apos) [] [] cpos) body [] pos) (sForIt i pt g) :=
  PS.imp (ps_lock (ps_forA_gen (XP := XP) (wi := iItems (tVar i)) (fun σ H R R' im h => by
    obtain ⟨v, h1, d, o, kvs, h2, h3, h4⟩ := h
    exact ⟨v, h1, d, o, kvs, h2, h3, im _ _ h4⟩) hp hc (pi_items (pe_var hN hv hd hcd) hbase hline) hg hb hs)) fun E σ H ⟨c, Z, W, s, r, h⟩ => by
  unfold sForIt at h
  split at h
  · rename_i n hi
    split at h
    · rename_i kvs hn
      obtain ⟨hl, a, ws, h1, h2, h3⟩ := r.cel_at hn
      obtain ⟨hnL, v, hv1, hv2⟩ := r.slot i _ hi
      cases hv2 a h1
      have nz := (r.wo _ a h1).1
      have nC : ¬ isC c a := fun ⟨l, e⟩ => nz (r.cz _ _ e).1
      refine ⟨a, .dK ws, h2, True.intro, fun od => ⟨V.ref a, hv1, a, od, ws, rfl, upd_same, c, zP Z a, Ev.ungo W n, setC s n .gone, itItems kvs, ?_⟩⟩
      obtain ⟨r1, gk⟩ := r.lockC (o' := .frz od (.dK ws)) h1 h2 True.intro
      have hna : ∀ j, Ev.ungo W n j ≠ some a := fun j e => (r1.wo j a e).1 (.inr rfl)
      refine ⟨r1, ItA.items r1 upd_same hna nC (h3.mono gk (fun m a _ q => (ungo_some q).2) (Nat.le_refl _)), ?_⟩
      show RunS X.K XP c (zP Z a) (Ev.ungo W n) _ (forA pt g (itItems kvs) kvs.length 0 (setC s n .gone)) _
      cases e : forA pt g (itItems kvs) kvs.length 0 (setC s n .gone) with
      | nx s' =>
        rw [e] at h
        intro σ' W' H' x r'
        have ha' : H' a = some (.frz od (.dK ws)) := x.keep a _ upd_same nt_frz hna nC
        exact ⟨ha', h σ' W' _ (x.lockC h1 h2) (r'.unlockC nz r.cz ha')⟩
      | ct s' => rw [e] at h; exact h.elim
      | bk s' => rw [e] at h; exact h.elim
      | rt d T => rw [e] at h; exact h.elim
      | rc n T => rw [e] at h; exact h.elim
      | err cd T => rw [e] at h; exact h.elim
      | stuck => rw [e] at h; exact h.elim
    · exact h.elim
  · exact h.elim
end
/-! ### min(a, b), max(a, b) of tuples -/
def dMin2V : D → D → Option D
  | .int i, .int j => some (.int (if j < i then j else i))
  | .tuple a, .tuple b => if canLt [.tuple a, .tuple b] then some (if PySem.W.dataLt (.tuple b) (.tuple a) then .tuple b else .tuple a) else none
  | _, _ => none
section
variable {prog : Program} {w : World} {A : Around} {E : Value → Shared → Prop} {s : Shared}
theorem min_two_data {a b : Value} {x y : PyData} {as bs : List Addr} {Q : Value → Shared → Prop} (hh : A.handled = none) (ra : Reads s.heap a x as) (rb : Reads s.heap b y bs) (al : AlikeAll [x, y]) (hu : A.units + 1 + PyData.depthAll [x, y] < cLine)
    (h : ∀ h' tk, (∀ b o, s.heap.get? b = some o → h'.get? b = some o) → Q (if PySem.W.dataLt y x = true then b else a) { s with heap := h', toks := tk }) :
    wpAny (model prog w) A (call (.builtin "min") [a, b]) Q E s := by
  have hname : (toString "min" ++ toString ".loop" : String) = "min.loop" := by decide
  refine call_function_tree F.kind_min F.plain_min F.entry_min (F.args_min2 _ _) ?_
  show wpAny _ A.in1 (Builtin.Builtins.bindParams "min" ["key", "default"] 0 ⟨[], []⟩ >>= _) _ _ s
  refine wpAny_bind (wpAny_of_eq (show Builtin.Builtins.bindParams "min" ["key", "default"] 0 ⟨[], []⟩ = pure [none, none] from rfl) ?_)
  show wpAny _ A.in1 (newTuple [a, b] >>= _) _ _ s
  refine wpAny_bind (wpAny_newObj_type ?_)
  have hT : (s.heap.push { cls := .type "tuple", data := .seq #[a, b] }).IsTuple s.heap.objs.size #[a, b] := ⟨_, Heap.get?_push_size _ rfl, rfl, 0, rfl⟩
  have hr : ReadsAll s.heap (#[a, b] : Array Value).toList [x, y] (as ++ (bs ++ [])) := .cons ra (.cons rb .nil)
  refine wpAny_bind (iter_tupleW (A := A.in1) (s := { s with heap := s.heap.push { cls := .type "tuple", data := .seq #[a, b] } }) hh hT fun s₂ e W st hfp hw hk => ?_)
  refine wpAny_bind (wpAny_newObj_type ?_)
  have hSf : s₂.heap.objs.size ∉ _ := fun hm => Nat.lt_irrefl _ (hfp _ hm)
  have hk0 : ∀ b o, s.heap.get? b = some o → s₂.heap.get? b = some o := fun b o e => hk b o (Heap.get?_push_of_some _ e)
  rw [hname]
  refine wpAny_pure ⟨plainId_quiet F.plain_min_loop _, codeAny_min_loop_firstH W s.heap (fun b o e => hw b o (Heap.get?_push_of_some _ e)) _ (cmpIn_lt (A := A.in1) hr al (by show A.units + 1 + _ < _; exact hu)) s₂.heap.objs.size hSf (fresh_in hk0) _ (by show 0 < 2; decide) (fun b o e => Heap.get?_push_of_some _ (hk0 b o e)) (W.frame 0 s₂ _ s₂.toks st (Nat.le_refl _) fun b _ o e => Heap.get?_push_of_some _ e) (Heap.get?_push_size _ rfl) fun v s' hP hm => ?_⟩
  obtain ⟨h', tk, rfl, hk'⟩ := moved_old e rfl (Moved.drop_new (tk := s₂.toks) hm (Nat.le_refl _))
  have hv : (if PySem.W.dataLt y x = true then b else a) = v := by
    have hP : (#[a, b] : Array Value)[argBest (fun i j => PySem.W.dataLt ([x, y].getD i .none) ([x, y].getD j .none)) 1]? = some v := hP
    cases hc : PySem.W.dataLt y x <;> simp [argBest, hc] at hP <;> simp [hP]
  rw [← hv]
  exact h h' tk fun b o e => hk' b o (Heap.get?_push_of_some _ e)
end
theorem cr_min2V {X : Cx} (hc : X.calm = true) (hu : X.A.units + 65 < cLine) : CallR X (.builtin "min") (rC2 X.K dMin2V) := by
  intro pins s σ H xs us Q I r h
  obtain ⟨x, y, B, dx, dy, d, rfl, hb, tx, ty, hd, q⟩ := h
  unfold dMin2V at hd
  split at hd
  · cases hd
    cases tx.int
    cases ty.int
    exact call_min2 hc pins s σ H _ us Q I r ⟨_, _, rfl, q _ _ .refl (.int _)⟩
  · split at hd
    · rename_i ds es hcl
      cases hd
      obtain ⟨al, hdp⟩ := canLt_of hcl
      obtain ⟨u, w', rfl, r1, r2⟩ := vals2 r
      obtain ⟨as, ra⟩ := Dp.reads I _ x u tx.dp r1
      obtain ⟨bs, rb⟩ := Dp.reads I _ y w' ty.dp r2
      refine min_two_data (I.ok.hd hc) ra rb al (by omega) fun h' tk k => ?_
      have I2 := I.kept (t' := tk) k
      by_cases hz : PySem.W.dataLt (.tuple es) (.tuple ds) = true
      · rw [if_pos hz] at q ⊢
        refine ⟨y, H, I2, r2, q _ _ .refl ?_⟩
        rcases ty with t | ⟨_, _, _, _, z, _⟩
        · exact t
        · cases z
      · rw [if_neg hz] at q ⊢
        refine ⟨x, H, I2, r1, q _ _ .refl ?_⟩
        rcases tx with t | ⟨_, _, _, _, z, _⟩
        · exact t
        · cases z
    · cases hd
  · cases hd
end Ev
set_option Elab.async false
set_option linter.all false
set_option maxRecDepth 100000
set_option maxHeartbeats 4000000
/-! Ew37: reckoning with dicts whose keys are ints -/
namespace Ev
open PySem L2
section
variable {β : Type}
def getI (kvs : List (Int × β)) (k : Int) : Option β := (kvs.find? fun q => decide (q.1 = k)).map (·.2)
def putI (kvs : List (Int × β)) (k : Int) (v : β) : List (Int × β) := if (kvs.any fun q => decide (q.1 = k)) then kvs.map fun q => if q.1 = k then (q.1, v) else q else kvs ++ [(k, v)]
theorem getI_nil {k : Int} : getI ([] : List (Int × β)) k = none := rfl
theorem getI_pos {q : Int × β} {r : List (Int × β)} {k : Int} (e : q.1 = k) : getI (q :: r) k = some q.2 := by simp [getI, List.find?_cons, e]
theorem getI_neg {q : Int × β} {r : List (Int × β)} {k : Int} (e : ¬ q.1 = k) : getI (q :: r) k = getI r k := by simp [getI, List.find?_cons, e]
theorem getI_any (k : Int) : ∀ kvs : List (Int × β), (kvs.any fun q => decide (q.1 = k)) = (getI kvs k).isSome
  | [] => rfl
  | q :: r => by
    by_cases e : q.1 = k
    · rw [List.any_cons, decide_eq_true e, getI_pos e]; rfl
    · rw [List.any_cons, decide_eq_false e, getI_neg e, getI_any k r]; rfl
theorem getI_map (k j : Int) (y : β) : ∀ kvs : List (Int × β), getI (kvs.map fun q => if q.1 = k then (q.1, y) else q) j = (getI kvs j).map fun x => if j = k then y else x
  | [] => rfl
  | q :: r => by
    rw [List.map_cons]
    by_cases e : q.1 = j
    · rw [getI_pos e]
      by_cases e2 : q.1 = k
      · rw [if_pos e2, getI_pos (q := (q.1, y)) e, Option.map_some, if_pos (e.symm.trans e2)]
      · rw [if_neg e2, getI_pos e, Option.map_some, if_neg (fun z => e2 (e.trans z))]
    · rw [getI_neg e, getI_neg (by split <;> exact e), getI_map k j y r]
theorem getI_snoc (k j : Int) (y : β) : ∀ kvs : List (Int × β), getI kvs k = none → getI (kvs ++ [(k, y)]) j = if j = k then some y else getI kvs j
  | [], _ => by
    rw [List.nil_append]
    by_cases e : j = k
    · rw [if_pos e, getI_pos (by exact e.symm)]
    · rw [if_neg e, getI_neg (fun z => e z.symm)]
  | q :: r, h => by
    by_cases e2 : q.1 = k
    · rw [getI_pos e2] at h; cases h
    rw [getI_neg e2] at h
    rw [List.cons_append]
    by_cases e : q.1 = j
    · rw [getI_pos e, getI_pos e, if_neg (fun z => e2 (e.trans z))]
    · rw [getI_neg e, getI_neg e, getI_snoc k j y r h]
theorem getI_put (kvs : List (Int × β)) (k j : Int) (y : β) : getI (putI kvs k y) j = if j = k then some y else getI kvs j := by
  unfold putI
  rw [getI_any]
  cases h : getI kvs k with
  | none => rw [if_neg (by simp)]; exact getI_snoc k j y kvs h
  | some x =>
    rw [if_pos (by simp), getI_map]
    by_cases e : j = k
    · subst e; rw [h, if_pos rfl]; simp
    · rw [if_neg e]; cases getI kvs j <;> simp [e]
theorem len_putI (kvs : List (Int × β)) (k : Int) (v : β) : (putI kvs k v).length ≤ kvs.length + 1 := by
  unfold putI
  split
  · rw [List.length_map]; omega
  · rw [List.length_append]; simp
theorem keys_putI (kvs : List (Int × β)) (k : Int) (v : β) (h : (kvs.map (·.1)).Nodup) : ((putI kvs k v).map (·.1)).Nodup := by
  unfold putI
  by_cases ha : (kvs.any fun q => decide (q.1 = k)) = true
  · rw [if_pos ha, List.map_map]
    have : (fun q : Int × β => (if q.1 = k then (q.1, v) else q).1) = (·.1) := by funext q; split <;> rfl
    show (kvs.map fun q : Int × β => (if q.1 = k then (q.1, v) else q).1).Nodup
    rw [this]; exact h
  · rw [if_neg ha, List.map_append, List.nodup_append]
    refine ⟨h, by simp, fun a ha1 b hb e => ?_⟩
    simp at hb
    subst hb
    subst e
    obtain ⟨q, hq, e⟩ := List.mem_map.mp ha1
    exact ha (List.any_eq_true.mpr ⟨q, hq, decide_eq_true e⟩)
theorem getI_mem : ∀ {kvs : List (Int × β)} {k : Int} {v : β}, getI kvs k = some v → (k, v) ∈ kvs
  | [], k, v, h => by cases h
  | q :: r, k, v, h => by
    by_cases e : q.1 = k
    · rw [getI_pos e] at h; cases h; subst e; exact List.mem_cons_self
    · rw [getI_neg e] at h; exact List.mem_cons_of_mem _ (getI_mem h)
theorem mem_getI : ∀ {kvs : List (Int × β)} {k : Int} {v : β}, (kvs.map (·.1)).Nodup → (k, v) ∈ kvs → getI kvs k = some v
  | q :: r, k, v, hn, h => by
    rw [List.map_cons, List.nodup_cons] at hn
    rcases List.mem_cons.mp h with rfl | h
    · exact getI_pos rfl
    · have : ¬ q.1 = k := fun e => hn.1 (List.mem_map.mpr ⟨(k, v), h, e.symm⟩)
      rw [getI_neg this]
      exact mem_getI hn.2 h
/-- such a dict, its values by f -/
def DKv (f : β → D) (kvs : List (Int × β)) : List (Key × AV) := kvs.map fun q => (.inl q.1, .d (f q.2))
theorem valA_DK {f : β → D} {k : Int} : ∀ {kvs : List (Int × β)}, valA (DKv f kvs) (.inl k) = (getI kvs k).map fun v => .d (f v)
  | [] => rfl
  | q :: r => by
    have hv : ∀ (x : Key × AV) (t : List (Key × AV)), valA (x :: t) (.inl k) = if x.1 = .inl k then some x.2 else valA t (.inl k) := fun x t => by
      unfold valA
      by_cases e : x.1 = .inl k
      · simp [List.find?_cons, e]
      · simp [List.find?_cons, e]
    show valA ((.inl q.1, .d (f q.2)) :: DKv f r) (.inl k) = _
    rw [hv]
    by_cases e : q.1 = k
    · rw [if_pos (by rw [e]), getI_pos e]; rfl
    · rw [if_neg (fun z => e (by cases z; rfl)), getI_neg e, valA_DK]
theorem putA_DK {f : β → D} {k : Int} {v : β} {kvs : List (Int × β)} : putA (DKv f kvs) (.inl k) (.d (f v)) = DKv f (putI kvs k v) := by
  unfold putA putI DKv
  have e1 : ((kvs.map fun q => ((.inl q.1 : Key), AV.d (f q.2))).any fun kv => decide (kv.1 = .inl k)) = kvs.any fun q => decide (q.1 = k) := by
    rw [List.any_map]
    congr 1
    funext q
    show decide ((Sum.inl q.1 : Key) = Sum.inl k) = _
    rw [Bool.eq_iff_iff, decide_eq_true_iff, decide_eq_true_iff]
    exact ⟨fun z => by cases z; rfl, fun z => by rw [z]⟩
  rw [e1]
  split
  · rw [List.map_map, List.map_map]
    refine List.map_congr_left fun q _ => ?_
    dsimp only [Function.comp]
    by_cases e : q.1 = k
    · rw [if_pos e, if_pos (by rw [e])]
    · rw [if_neg e, if_neg (fun z => e (by cases z; rfl))]
  · rw [List.map_append]; rfl
theorem DK_len {f : β → D} {kvs : List (Int × β)} : (DKv f kvs).length = kvs.length := by unfold DKv; simp
end
section
variable {s s0 s1 s2 : ES} {fo fk fx : Mo Ref}
theorem ev_dnew : eDnew s = .ok (.cel s.T.ce.length) (addC s (.dct [])) := rfl
theorem ev_dct {L : List (Mo Ref × Mo Ref)} {xs : List (Key × AV)} (h : eDPairs L s = .ok xs s1) : eDct L s = .ok (.cel s1.T.ce.length) (addC s1 (.dct (mergeA [] xs))) := by
  unfold eDct bnd; rw [h]
theorem ev_dpairs_nil : eDPairs [] s = .ok [] s := rfl
theorem ev_dpairs_cons {L : List (Mo Ref × Mo Ref)} {xs : List (Key × AV)} {d x : D} {k : Key} (h1 : fk s = .ok (.d d) s0) (hk : kOf d = some k) (h2 : fx s0 = .ok (.d x) s1) (h3 : eDPairs L s1 = .ok xs s2) : eDPairs ((fk, fx) :: L) s = .ok ((k, .d x) :: xs) s2 := by
  show (bnd fk fun q => bnd (rd q) fun d => match kOf d with
    | none => fun _ => .stuck
    | some k => bnd fx fun q => bnd (toAV q) fun x => bnd (eDPairs L) fun xs s => .ok ((k, x) :: xs) s) s = _
  unfold bnd
  rw [h1]
  dsimp only [rd]
  rw [hk]
  dsimp only
  rw [h2]
  dsimp only [toAV, dur, bnd]
  rw [h3]
theorem ev_dget2 {n : Nat} {kvs kvs2 : List (Key × AV)} {d x : D} {k : Key} (h1 : fo s = .ok (.cel n) s0) (h2 : s0.T.ce[n]? = some (.dct kvs)) (h3 : fk s0 = .ok (.d d) s1) (hk : kOf d = some k) (h4 : fx s1 = .ok (.d x) s2) (h5 : s2.T.ce[n]? = some (.dct kvs2)) :
    eDGet2 fo fk fx s = .ok (refOf ((valA kvs2 k).getD (.d x))) s2 := by
  unfold eDGet2 bnd
  rw [h1]
  dsimp only
  rw [show dctAt (.cel n) s0 = some kvs by unfold dctAt; dsimp only; rw [h2]]
  dsimp only
  rw [h3]
  dsimp only [rd]
  rw [hk]
  dsimp only
  rw [h4]
  dsimp only [toAV, dur, bnd]
  rw [show dctAt (.cel n) s2 = some kvs2 by unfold dctAt; dsimp only; rw [h5]]
theorem ev_dget1 {n : Nat} {kvs kvs2 : List (Key × AV)} {d : D} {k : Key} (h1 : fo s = .ok (.cel n) s0) (h2 : s0.T.ce[n]? = some (.dct kvs)) (h3 : fk s0 = .ok (.d d) s1) (hk : kOf d = some k) (h5 : s1.T.ce[n]? = some (.dct kvs2)) :
    eDGet1 fo fk s = .ok (refOf ((valA kvs2 k).getD (.d .none))) s1 := by
  unfold eDGet1 bnd
  rw [h1]
  dsimp only
  rw [show dctAt (.cel n) s0 = some kvs by unfold dctAt; dsimp only; rw [h2]]
  dsimp only
  rw [h3]
  dsimp only [rd]
  rw [hk]
  dsimp only
  rw [show dctAt (.cel n) s1 = some kvs2 by unfold dctAt; dsimp only; rw [h5]]
theorem cPut_dK {β : Type} {f : β → D} {kvs : List (Int × β)} {k : Int} {v : β} (h : kvs.length < szL) : cPut (.dct (DKv f kvs)) (.int k) (.d (f v)) = some (.dct (DKv f (putI kvs k v))) := by
  show (if (DKv f kvs).length < szL then some (Cell.dct (putA (DKv f kvs) (.inl k) (.d (f v)))) else none) = _
  rw [DK_len, if_pos h, putA_DK]
end
/-! ### a walk over the items -/
section
variable {pt : Pat} {body : ES → SR}
theorem forA_items {β : Type} {f : β → D} {kvs : List (Int × β)} : ∀ (k i : Nat) (s : ES), i + k = kvs.length → forA (pD pt) body (itItems (DKv f kvs)) k i s = forL pt body ((kvs.drop i).map fun q => .tuple [.int q.1, f q.2]) s
  | 0, i, s, h => by
    have hi : (DKv f kvs)[i]? = none := List.getElem?_eq_none (by rw [DK_len]; omega)
    rw [List.drop_of_length_le (by omega)]
    unfold forA itItems
    dsimp only
    rw [hi]; rfl
  | k + 1, i, s, h => by
    have hlt : i < kvs.length := by omega
    have hi : (DKv f kvs)[i]? = some (.inl kvs[i].1, .d (f kvs[i].2)) := by unfold DKv; rw [List.getElem?_map, List.getElem?_eq_getElem hlt]; rfl
    rw [List.drop_eq_getElem_cons hlt, List.map_cons, forL_eq]
    have e : (itItems (DKv f kvs)).get i s = some (some (.d (.tuple [.int kvs[i].1, f kvs[i].2]))) := by
      unfold itItems
      dsimp only
      rw [hi]; rfl
    unfold forA
    rw [e]
    dsimp only [pD]
    cases e1 : pt (.tuple [.int kvs[i].1, f kvs[i].2]) s with
    | none => rfl
    | some s1 =>
      dsimp only
      cases e2 : body s1 with
      | nx s2 => exact forA_items k (i + 1) s2 (by omega)
      | ct s2 => exact forA_items k (i + 1) s2 (by omega)
      | bk s2 => rfl
      | rt d T => rfl
      | rc n T => rfl
      | err c T => rfl
      | stuck => rfl
theorem st_forIt {β : Type} {f : β → D} {kvs : List (Int × β)} {i n : Nat} {s s' : ES} (h1 : s.σ[i]? = some (some (.cel n))) (h2 : s.T.ce[n]? = some (.dct (DKv f kvs))) (h3 : forL pt body (kvs.map fun q => .tuple [.int q.1, f q.2]) (setC s n .gone) = .nx s') : sForIt i (pD pt) body s = .nx s' := by
  unfold sForIt
  rw [h1]
  dsimp only
  rw [h2]
  dsimp only
  have := forA_items (pt := pt) (body := body) (f := f) (kvs := kvs) kvs.length 0 (setC s n .gone) (by omega)
  rw [List.drop_zero, h3] at this
  rw [DK_len, this]
end
/-! ### orders -/
theorem Ordb.flip {β : Type} {lt : β → β → Bool} (O : Ordb lt) : Ordb (fun a b => lt b a) := ⟨O.irr, fun a b c h1 h2 => O.tr _ _ _ h2 h1, fun a b => by rcases O.tot b a with h | h | h; exact .inl h; exact .inr (.inl h.symm); exact .inr (.inr h)⟩
theorem lst_min {α : Type} [Inhabited α] {lt : α → α → Bool} (O : Ordb lt) {xs : List α} : ∀ y ∈ xs, lt y (lst lt xs) = false := fun y hy => by
  have := amx_le (key := fun x : α => x) O.flip y hy
  have e : amx (fun a b => lt b a) (fun x : α => x) xs = lst lt xs := by cases xs <;> rfl
  rw [e] at this
  exact this
end Ev
set_option linter.all false
set_option maxRecDepth 100000
namespace k57_whole_lots
open PySem PySem.Spec PyProof.Rows L2 Ev
def g_check_needs : ES → SR := (sSeq (sIf (fNot (fBool (eChain dLe dLe (eC (.int 1)) (eUn dLen (eVar 0)) (eC (.int 10))))) (sRaise "days") sNx)
  (sSeq (sIf (fCmp dLt (eUn dMin (eVar 0)) (eC (.int 0))) (sRaise "need") sNx)
  (sIf (fOr (fCmp dLt (eBin dMin2 (eVar 1) (eVar 2)) (eC (.int 0))) (fCmp dLt (eVar 3) (eC (.int 0)))) (sRaise "cost") sNx)))
def F_check_needs : Fn := mkFn 4 4 g_check_needs
def g_cost_in : ES → SR := (sSeq (sSet 4 (eC (.int 0)))
  (sSeq (sSet 5 (eC (.int 0)))
  (sSeq (sFor (iZip (aCons (eVar 0) (aCons (eVar 3) aNil))) (pTup 2 (psCons (pName 6) (psCons (pName 7) psNil))) (sSeq (sAug 4 iAdd (eBin dSub (eVar 7) (eVar 6)))
  (sSeq (sIf (fCmp dLt (eVar 4) (eC (.int 0))) (sRet (eC .none)) sNx)
  (sAug 5 iAdd (eBin dAdd (eIf (fCmp dGt (eVar 7) (eC (.int 0))) (eVar 1) (eC (.int 0))) (eBin dMul (eVar 2) (eVar 4)))))))
  (sRet (eVar 5)))))
def F_cost_in : Fn := mkFn 8 4 g_cost_in
def g_cost : ES → SR := (sSeq (sExpr (eCall F_check_needs (aCons (eVar 0) (aCons (eVar 1) (aCons (eVar 2) (aCons (eC (.int 0)) aNil))))))
  (sSeq (sIf (fOr (fCmp dNe (eUn dLen (eVar 3)) (eUn dLen (eVar 0))) (fCmp dLt (eUn dMin (eVar 3)) (eC (.int 0)))) (sRaise "made") sNx)
  (sRet (eCall F_cost_in (aCons (eVar 0) (aCons (eVar 1) (aCons (eVar 2) (aCons (eVar 3) aNil))))))))
def F_cost : Fn := mkFn 4 4 g_cost
abbrev e1_run_cost : Mo Ref := (eBin dMul (eBin dMul (eVar 2) (eBin dSub (eVar 5) (eVar 3))) (eBin dIx (eVar 0) (eVar 5)))
def g_run_cost : ES → SR := (sRet (eBin dAdd (eVar 1) (eUn dSum (eM (mComp [5] (iR2 (eVar 3) (eVar 4)) (pName 5) fYes e1_run_cost)))))
def F_run_cost : Fn := mkFn 6 5 g_run_cost
abbrev e1_floors : Mo Ref := (eBin dAdd (eCall F_run_cost (aCons (eVar 0) (aCons (eVar 1) (aCons (eVar 2) (aCons (eVar 4) (aCons (eVar 6) aNil)))))) (eBin dIx (eVar 3) (eVar 6)))
def g_floors : ES → SR := (sSeq (sOwn 3 (mBin dMulM (eM (mLst (aCons (eC (.int 0)) aNil))) (eBin dAdd (eUn dLen (eVar 0)) (eC (.int 1)))))
  (sSeq (sFor (iR3 (eBin dSub (eUn dLen (eVar 0)) (eC (.int 1))) (eUn dNeg (eC (.int 1))) (eUn dNeg (eC (.int 1)))) (pName 4) (sSeq (sOwn 5 (mComp [6] (iR2 (eBin dAdd (eVar 4) (eC (.int 1))) (eBin dAdd (eUn dLen (eVar 0)) (eC (.int 1)))) (pName 6) fYes e1_floors))
  (sSeq (sIf (fCmp dEq (eBin dIx (eVar 0) (eVar 4)) (eC (.int 0))) (sExpr (eMethN 5 opAppend (aCons (eBin dIx (eVar 3) (eBin dAdd (eVar 4) (eC (.int 1)))) aNil))) sNx)
  (sPutIx 3 (eUn dMin (eVar 5)) (eVar 4)))))
  (sRet (eVar 3))))
def F_floors : Fn := mkFn 7 3 g_floors
def g_best : ES → SR := (sSeq (sExpr (eCall F_check_needs (aCons (eVar 0) (aCons (eVar 1) (aCons (eVar 2) (aCons (eC (.int 0)) aNil))))))
  (sSeq (sSet 3 (eCall F_floors (aCons (eVar 0) (aCons (eVar 1) (aCons (eVar 2) aNil)))))
  (sSeq (sOwn 4 (mBin dMulM (eM (mLst (aCons (eC (.int 0)) aNil))) (eUn dLen (eVar 0))))
  (sSeq (sSet 5 (eC (.int 0)))
  (sSeq (sWhile 200 (fCmp dLt (eVar 5) (eUn dLen (eVar 0))) (sSeq (sIf (fAnd (fCmp dEq (eBin dIx (eVar 0) (eVar 5)) (eC (.int 0))) (fCmp dEq (eBin dIx (eVar 3) (eVar 5)) (eBin dIx (eVar 3) (eBin dAdd (eVar 5) (eC (.int 1)))))) (sSeq (sAug 5 iAdd (eC (.int 1)))
  sCt) sNx)
  (sFor (iR2 (eBin dAdd (eVar 5) (eC (.int 1))) (eBin dAdd (eUn dLen (eVar 0)) (eC (.int 1)))) (pName 6) (sIf (fCmp dEq (eBin dAdd (eCall F_run_cost (aCons (eVar 0) (aCons (eVar 1) (aCons (eVar 2) (aCons (eVar 5) (aCons (eVar 6) aNil)))))) (eBin dIx (eVar 3) (eVar 6))) (eBin dIx (eVar 3) (eVar 5))) (sSeq (sPutIx 4 (eUn dSum (eSl (eVar 0) (oSome (eVar 5)) (oSome (eVar 6)))) (eVar 5))
  (sSeq (sSet 5 (eVar 6))
  sBk)) sNx))))
  (sRet (eTup (aCons (eBin dIx (eVar 3) (eC (.int 0))) (aCons (eUn dTup (eVar 4)) aNil)))))))))
def F_best : Fn := mkFn 7 3 g_best
def g_all_floors : ES → SR := (sSeq (sExpr (eCall F_check_needs (aCons (eVar 0) (aCons (eVar 1) (aCons (eVar 2) (aCons (eC (.int 0)) aNil))))))
  (sRet (eUn dTup (eCall F_floors (aCons (eVar 0) (aCons (eVar 1) (aCons (eVar 2) aNil)))))))
def F_all_floors : Fn := mkFn 3 3 g_all_floors
def g_takes_floors : ES → SR := (sSeq (sExpr (eCall F_check_needs (aCons (eVar 0) (aCons (eVar 1) (aCons (eVar 2) (aCons (eC (.int 0)) aNil))))))
  (sSeq (sSet 4 (eUn dLen (eVar 0)))
  (sSeq (sIf (fOr (fCmp dNe (eUn dLen (eVar 3)) (eBin dAdd (eVar 4) (eC (.int 1)))) (fCmp dGt (eBin dIx (eVar 3) (eVar 4)) (eC (.int 0)))) (sRet (eC (.bool false))) sNx)
  (sSeq (sFor (iR1 (eVar 4)) (pName 5) (sSeq (sIf (fAnd (fCmp dEq (eBin dIx (eVar 0) (eVar 5)) (eC (.int 0))) (fCmp dGt (eBin dIx (eVar 3) (eVar 5)) (eBin dIx (eVar 3) (eBin dAdd (eVar 5) (eC (.int 1)))))) (sRet (eC (.bool false))) sNx)
  (sFor (iR2 (eBin dAdd (eVar 5) (eC (.int 1))) (eBin dAdd (eVar 4) (eC (.int 1)))) (pName 6) (sIf (fCmp dGt (eBin dIx (eVar 3) (eVar 5)) (eBin dAdd (eCall F_run_cost (aCons (eVar 0) (aCons (eVar 1) (aCons (eVar 2) (aCons (eVar 5) (aCons (eVar 6) aNil)))))) (eBin dIx (eVar 3) (eVar 6)))) (sRet (eC (.bool false))) sNx))))
  (sRet (eC (.bool true)))))))
def F_takes_floors : Fn := mkFn 7 4 g_takes_floors
def g_with_room : ES → SR := (sSeq (sExpr (eCall F_check_needs (aCons (eVar 0) (aCons (eVar 1) (aCons (eVar 2) (aCons (eVar 3) aNil))))))
  (sSeq (sSetA 4 (eDct [((eC (.int 0)), (eTup (aCons (eC (.int 0)) (aCons (eTup aNil) aNil))))]))
  (sSeq (sFor (iSeq (eVar 0)) (pName 5) (sSeq (sSetA 6 eDnew)
  (sSeq (sForIt 4 (pD (pTup 2 (psCons (pName 7) (psCons (pTup 2 (psCons (pName 8) (psCons (pName 9) psNil))) psNil)))) (sFor (iR1 (eBin dAdd (eVar 3) (eC (.int 1)))) (pName 10) (sSeq (sSet 11 (eBin dSub (eBin dAdd (eVar 7) (eVar 10)) (eVar 5)))
  (sIf (fBool (eChain dLe dLe (eC (.int 0)) (eVar 11) (eUn dSum (eVar 0)))) (sSeq (sSet 12 (eTup (aCons (eBin dAdd (eBin dAdd (eVar 8) (eIf (fCmp dGt (eVar 10) (eC (.int 0))) (eVar 1) (eC (.int 0)))) (eBin dMul (eVar 2) (eVar 11))) (aCons (eBin dAdd (eVar 9) (eTup (aCons (eVar 10) aNil))) aNil))))
  (sPutA (eVar 6) (eVar 11) (eBin dMin2V (eDGet2 (eVar 6) (eVar 11) (eVar 12)) (eVar 12)))) sNx))))
  (sSetA 4 (eVar 6)))))
  (sRet (eDGet1 (eVar 4) (eC (.int 0)))))))
def F_with_room : Fn := mkFn 13 4 g_with_room
def g_shortage : ES → SR := (sSeq (sExpr (eCall F_check_needs (aCons (eVar 0) (aCons (eC (.int 0)) (aCons (eC (.int 0)) (aCons (eVar 1) aNil))))))
  (sSeq (sSet 2 (eC (.int 0)))
  (sSeq (sFor (iEnum (aCons (eVar 0) aNil)) (pTup 2 (psCons (pName 3) (psCons (pName 4) psNil))) (sSeq (sAug 2 iAdd (eVar 4))
  (sIf (fCmp dGt (eVar 2) (eBin dMul (eVar 1) (eBin dAdd (eVar 3) (eC (.int 1))))) (sRet (eTup (aCons (eVar 3) (aCons (eBin dSub (eVar 2) (eBin dMul (eVar 1) (eBin dAdd (eVar 3) (eC (.int 1))))) aNil)))) sNx)))
  (sRet (eC .none)))))
def F_shortage : Fn := mkFn 5 2 g_shortage
def g_u_law_cost : ES → SR := (sSeq (sSet 4 (eC (.int 0)))
  (sSeq (sSet 5 (eC (.int 0)))
  (sSeq (sFor (iR1 (eUn dLen (eVar 0))) (pName 6) (sSeq (sSet 4 (eBin dSub (eBin dAdd (eVar 4) (eBin dIx (eVar 3) (eVar 6))) (eBin dIx (eVar 0) (eVar 6))))
  (sSeq (sIf (fCmp dLt (eVar 4) (eC (.int 0))) (sRet (eC .none)) sNx)
  (sSet 5 (eBin dAdd (eBin dAdd (eVar 5) (eIf (fCmp dGt (eBin dIx (eVar 3) (eVar 6)) (eC (.int 0))) (eVar 1) (eC (.int 0)))) (eBin dMul (eVar 2) (eVar 4)))))))
  (sRet (eVar 5)))))
def F_u_law_cost : Fn := mkFn 7 4 g_u_law_cost
abbrev e1_u_law_ways : Mo Ref := (eBin dAdd (eVar 5) (eTup (aCons (eVar 6) aNil)))
def g_u_law_ways : ES → SR := (sSeq (sSet 2 (eM (mLst (aCons (eTup aNil) aNil))))
  (sSeq (sFor (iR1 (eVar 0)) (pName 3) (sSeq (sSet 4 (eM (mLst aNil)))
  (sSeq (sFor (iSeq (eVar 2)) (pName 5) (sSet 4 (eBin dAdd (eVar 4) (eM (mComp [6] (iR1 (eBin dAdd (eVar 1) (eC (.int 1)))) (pName 6) fYes e1_u_law_ways)))))
  (sSet 2 (eVar 4)))))
  (sRet (eVar 2))))
def F_u_law_ways : Fn := mkFn 7 2 g_u_law_ways
abbrev e1_u_law_run : Mo Ref := (eBin dMul (eBin dMul (eVar 2) (eBin dSub (eVar 5) (eVar 3))) (eBin dIx (eVar 0) (eVar 5)))
def g_u_law_run : ES → SR := (sRet (eBin dAdd (eVar 1) (eUn dSum (eM (mComp [5] (iR2 (eVar 3) (eVar 4)) (pName 5) fYes e1_u_law_run)))))
def F_u_law_run : Fn := mkFn 6 5 g_u_law_run
abbrev e1_u_law_floors : Mo Ref := (eBin dAdd (eCall F_u_law_run (aCons (eVar 0) (aCons (eVar 1) (aCons (eVar 2) (aCons (eVar 4) (aCons (eVar 6) aNil)))))) (eBin dIx (eVar 3) (eBin dSub (eBin dSub (eVar 6) (eVar 4)) (eC (.int 1)))))
def g_u_law_floors : ES → SR := (sSeq (sSet 3 (eM (mLst (aCons (eC (.int 0)) aNil))))
  (sSeq (sFor (iR3 (eBin dSub (eUn dLen (eVar 0)) (eC (.int 1))) (eUn dNeg (eC (.int 1))) (eUn dNeg (eC (.int 1)))) (pName 4) (sSeq (sSet 5 (eM (mComp [6] (iR2 (eBin dAdd (eVar 4) (eC (.int 1))) (eBin dAdd (eUn dLen (eVar 0)) (eC (.int 1)))) (pName 6) fYes e1_u_law_floors)))
  (sSet 3 (eBin dAdd (eM (mLst (aCons (eUn dMin (eBin dAdd (eVar 5) (eIf (fCmp dEq (eBin dIx (eVar 0) (eVar 4)) (eC (.int 0))) (eM (mLst (aCons (eBin dIx (eVar 3) (eC (.int 0))) aNil))) (eM (mLst aNil))))) aNil))) (eVar 3)))))
  (sRet (eUn dTup (eVar 3)))))
def F_u_law_floors : Fn := mkFn 7 3 g_u_law_floors
abbrev e1_u_law_right : Mo Ref := (eVar 5)
def g_u_law_right : ES → SR := (sSeq (sIf (fOr (fCmp dNe (eUn dLen (eVar 3)) (eBin dAdd (eUn dLen (eVar 0)) (eC (.int 1)))) (fCmp dGt (eBin dIx (eVar 3) (eUn dNeg (eC (.int 1)))) (eC (.int 0)))) (sRet (eC (.bool false))) sNx)
  (sSeq (sFor (iR1 (eUn dLen (eVar 0))) (pName 4) (sSeq (sIf (fAnd (fCmp dEq (eBin dIx (eVar 0) (eVar 4)) (eC (.int 0))) (fCmp dGt (eBin dIx (eVar 3) (eVar 4)) (eBin dIx (eVar 3) (eBin dAdd (eVar 4) (eC (.int 1)))))) (sRet (eC (.bool false))) sNx)
  (sIf (fCmp dGt (eUn dLen (eM (mComp [5] (iR2 (eBin dAdd (eVar 4) (eC (.int 1))) (eBin dAdd (eUn dLen (eVar 0)) (eC (.int 1)))) (pName 5) (fCmp dGt (eBin dIx (eVar 3) (eVar 4)) (eBin dAdd (eCall F_u_law_run (aCons (eVar 0) (aCons (eVar 1) (aCons (eVar 2) (aCons (eVar 4) (aCons (eVar 5) aNil)))))) (eBin dIx (eVar 3) (eVar 5)))) e1_u_law_right))) (eC (.int 0))) (sRet (eC (.bool false))) sNx)))
  (sRet (eC (.bool true)))))
def F_u_law_right : Fn := mkFn 6 4 g_u_law_right
def g_u_law_wrong : ES → SR := (sSeq (sFor (iSeq (eM (mLst (aCons (eTup (aCons (eTup aNil) (aCons (eC (.int 1)) (aCons (eC (.int 1)) (aCons (eC (.str "days")) aNil))))) (aCons (eTup (aCons (eBin dMul (eTup (aCons (eC (.int 0)) aNil)) (eC (.int 11))) (aCons (eC (.int 1)) (aCons (eC (.int 1)) (aCons (eC (.str "days")) aNil))))) (aCons (eTup (aCons (eBin dMul (eTup (aCons (eC (.int 0)) aNil)) (eC (.int 10))) (aCons (eC (.int 0)) (aCons (eC (.int 0)) (aCons (eC .none) aNil))))) (aCons (eTup (aCons (eTup (aCons (eUn dNeg (eC (.int 1))) aNil)) (aCons (eC (.int 1)) (aCons (eC (.int 1)) (aCons (eC (.str "need")) aNil))))) (aCons (eTup (aCons (eTup (aCons (eC (.int 1)) aNil)) (aCons (eUn dNeg (eC (.int 1))) (aCons (eC (.int 1)) (aCons (eC (.str "cost")) aNil))))) (aCons (eTup (aCons (eTup (aCons (eC (.int 1)) aNil)) (aCons (eC (.int 1)) (aCons (eUn dNeg (eC (.int 1))) (aCons (eC (.str "cost")) aNil))))) aNil))))))))) (pTup 4 (psCons (pName 0) (psCons (pName 1) (psCons (pName 2) (psCons (pName 3) psNil))))) (sSeq (sSet 4 (eTold (eCall F_best (aCons (eVar 0) (aCons (eVar 1) (aCons (eVar 2) aNil))))))
  (sIf (fCmp dNe (eIf (fTru (eIsStr (eVar 4))) (eVar 4) (eC .none)) (eVar 3)) (sRet (eC (.bool false))) sNx)))
  (sRet (eAndV (eBin dEq (eTold (eCall F_cost (aCons (eTup (aCons (eC (.int 1)) aNil)) (aCons (eC (.int 1)) (aCons (eC (.int 1)) (aCons (eTup aNil) aNil)))))) (eC (.str "made"))) (eAndV (eBin dEq (eTold (eCall F_cost (aCons (eTup (aCons (eC (.int 1)) aNil)) (aCons (eC (.int 1)) (aCons (eC (.int 1)) (aCons (eTup (aCons (eUn dNeg (eC (.int 1))) aNil)) aNil)))))) (eC (.str "made"))) (eBin dEq (eTold (eCall F_with_room (aCons (eTup (aCons (eC (.int 1)) aNil)) (aCons (eC (.int 1)) (aCons (eC (.int 1)) (aCons (eUn dNeg (eC (.int 1))) aNil)))))) (eC (.str "cost")))))))
def F_u_law_wrong : Fn := mkFn 5 0 g_u_law_wrong
abbrev e1_law : Mo Ref := (eTup (aCons (eVar 12) (aCons (eBin dSub (eUn dSum (eSl (eVar 2) oNone (oSome (eBin dAdd (eVar 12) (eC (.int 1)))))) (eBin dMul (eVar 17) (eBin dAdd (eVar 12) (eC (.int 1))))) aNil)))
abbrev e2_law : Mo Ref := (eTup (aCons (eVar 20) (aCons (eVar 16) aNil)))
abbrev e3_law : Mo Ref := (eVar 11)
abbrev e4_law : Mo Ref := (eVar 20)
abbrev e5_law : Mo Ref := (eTup (aCons (eVar 7) (aCons (eCall F_u_law_cost (aCons (eVar 2) (aCons (eVar 3) (aCons (eVar 4) (aCons (eVar 7) aNil))))) aNil)))
abbrev e6_law : Mo Ref := (eTake 1 (eC (.int 3)))
def g_law : ES → SR := (sSeq (sSet 2 (eUn dTup (eM (mComp [12] (iR1 (eBin dAdd (eC (.int 1)) (eTake 1 (eC (.int 4))))) (pName 12) fYes e6_law))))
  (sSeq (sSet 3 (eTake 1 (eC (.int 7))))
  (sSeq (sSet 4 (eTake 1 (eC (.int 3))))
  (sSeq (sSet 5 (eM (mComp [7] (iSeq (eCall F_u_law_ways (aCons (eUn dLen (eVar 2)) (aCons (eBin dMin2 (eC (.int 4)) (eUn dSum (eVar 2))) aNil)))) (pName 7) fYes e5_law)))
  (sSeq (sAsg (eCall F_best (aCons (eVar 2) (aCons (eVar 3) (aCons (eVar 4) aNil)))) (pTup 2 (psCons (pName 6) (psCons (pName 7) psNil))))
  (sSeq (sIf (fOr (fCmp dNe (eCall F_u_law_cost (aCons (eVar 2) (aCons (eVar 3) (aCons (eVar 4) (aCons (eVar 7) aNil))))) (eVar 6)) (fOr (fCmp dNe (eCall F_cost (aCons (eVar 2) (aCons (eVar 3) (aCons (eVar 4) (aCons (eVar 7) aNil))))) (eVar 6)) (fCmp dGt (eUn dLen (eM (mComp [16, 20] (iSeq (eVar 5)) (pTup 2 (psCons (pName 16) (psCons (pName 20) psNil))) (fAnd (fCmp dIsNot (eVar 20) (eC .none)) (fCmp dLt (eVar 20) (eVar 6))) e4_law))) (eC (.int 0))))) (sRet (eC (.bool false))) sNx)
  (sSeq (sSet 8 (eCall F_u_law_floors (aCons (eVar 2) (aCons (eVar 3) (aCons (eVar 4) aNil)))))
  (sSeq (sIf (fOr (fCmp dNe (eCall F_all_floors (aCons (eVar 2) (aCons (eVar 3) (aCons (eVar 4) aNil)))) (eVar 8)) (fOr (fCmp dNe (eBin dIx (eVar 8) (eC (.int 0))) (eVar 6)) (fCmp dIsNot (eCall F_takes_floors (aCons (eVar 2) (aCons (eVar 3) (aCons (eVar 4) (aCons (eVar 8) aNil))))) (eC (.bool true))))) (sRet (eC (.bool false))) sNx)
  (sSeq (sOwn 9 (mBin dMulM (eM (mLst (aCons (eC (.int 0)) aNil))) (eUn dLen (eVar 2))))
  (sSeq (sSet 10 (eC (.int 0)))
  (sSeq (sWhile 200 (fCmp dLt (eVar 10) (eUn dLen (eVar 2))) (sIf (fAnd (fCmp dEq (eBin dIx (eVar 2) (eVar 10)) (eC (.int 0))) (fCmp dEq (eBin dIx (eVar 8) (eVar 10)) (eBin dIx (eVar 8) (eBin dAdd (eVar 10) (eC (.int 1)))))) (sSet 10 (eBin dAdd (eVar 10) (eC (.int 1)))) (sSeq (sSet 11 (eBin dIx (eM (mComp [11] (iR2 (eBin dAdd (eVar 10) (eC (.int 1))) (eBin dAdd (eUn dLen (eVar 2)) (eC (.int 1)))) (pName 11) (fCmp dEq (eBin dAdd (eCall F_u_law_run (aCons (eVar 2) (aCons (eVar 3) (aCons (eVar 4) (aCons (eVar 10) (aCons (eVar 11) aNil)))))) (eBin dIx (eVar 8) (eVar 11))) (eBin dIx (eVar 8) (eVar 10))) e3_law)) (eC (.int 0))))
  (sSeq (sPutIx 9 (eUn dSum (eSl (eVar 2) (oSome (eVar 10)) (oSome (eVar 11)))) (eVar 10))
  (sSet 10 (eVar 11))))))
  (sSeq (sIf (fCmp dNe (eVar 7) (eUn dTup (eVar 9))) (sRet (eC (.bool false))) sNx)
  (sSeq (sFor (iR1 (eC (.int 4))) (pName 12) (sSeq (sOwn 13 (mUn dLstM (eVar 8)))
  (sSeq (sSet 14 (eTake 1 (eUn dLen (eVar 13))))
  (sSeq (sPutIx 13 (eBin dAdd (eBin dIx (eVar 13) (eVar 14)) (eBin dIx (eM (mLst (aCons (eC (.int 1)) (aCons (eUn dNeg (eC (.int 1))) aNil)))) (eTake 1 (eC (.int 2))))) (eVar 14))
  (sSeq (sSet 15 (eCall F_u_law_right (aCons (eVar 2) (aCons (eVar 3) (aCons (eVar 4) (aCons (eVar 13) aNil))))))
  (sSeq (sIf (fOr (fCmp dNe (eCall F_takes_floors (aCons (eVar 2) (aCons (eVar 3) (aCons (eVar 4) (aCons (eUn dTup (eVar 13)) aNil))))) (eVar 15)) (fAnd (fTru (eVar 15)) (fCmp dGt (eBin dIx (eVar 13) (eC (.int 0))) (eVar 6)))) (sRet (eC (.bool false))) sNx)
  (sSeq (sSet 16 (eBin dIx (eVar 5) (eTake 1 (eUn dLen (eVar 5)))))
  (sIf (fCmp dNe (eCall F_cost (aCons (eVar 2) (aCons (eVar 3) (aCons (eVar 4) (aCons (eBin dIx (eVar 16) (eC (.int 0))) aNil))))) (eBin dIx (eVar 16) (eC (.int 1)))) (sRet (eC (.bool false))) sNx))))))))
  (sSeq (sSet 17 (eTake 1 (eC (.int 4))))
  (sSeq (sSet 18 (eM (mComp [16, 20] (iSeq (eVar 5)) (pTup 2 (psCons (pName 16) (psCons (pName 20) psNil))) (fAnd (fCmp dIsNot (eVar 20) (eC .none)) (fAnd (fCmp dLe (eUn dMax (eVar 16)) (eVar 17)) (fCmp dEq (eUn dSum (eVar 16)) (eUn dSum (eVar 2))))) e2_law)))
  (sSeq (sIf (fCmp dNe (eCall F_with_room (aCons (eVar 2) (aCons (eVar 3) (aCons (eVar 4) (aCons (eVar 17) aNil))))) (eIf (fCmp dGt (eUn dLen (eVar 18)) (eC (.int 0))) (eUn dMin (eVar 18)) (eC .none))) (sRet (eC (.bool false))) sNx)
  (sSeq (sSet 19 (eM (mComp [12] (iR1 (eUn dLen (eVar 2))) (pName 12) (fCmp dGt (eUn dSum (eSl (eVar 2) oNone (oSome (eBin dAdd (eVar 12) (eC (.int 1)))))) (eBin dMul (eVar 17) (eBin dAdd (eVar 12) (eC (.int 1))))) e1_law)))
  (sRet (eAndV (eBin dEq (eCall F_shortage (aCons (eVar 2) (aCons (eVar 17) aNil))) (eIf (fCmp dGt (eUn dLen (eVar 19)) (eC (.int 0))) (eBin dIx (eVar 19) (eC (.int 0))) (eC .none))) (eAndV (eBin dEq (eBin dGt (eUn dLen (eVar 19)) (eC (.int 0))) (eBin dEq (eUn dLen (eVar 18)) (eC (.int 0)))) (eCall0 F_u_law_wrong)))))))))))))))))))))
end k57_whole_lots
set_option Elab.async false
set_option linter.all false
set_option maxRecDepth 100000
set_option maxHeartbeats 0
namespace k57_whole_lots
open PySem L2 Ev
structure CT (ns : List Int) (s h : Int) : Prop where
  n1 : 1 ≤ ns.length
  n4 : ns.length ≤ 4
  lo : ∀ a ∈ ns, 0 ≤ a
  hi : ∀ a ∈ ns, a ≤ 2
  s0 : 0 ≤ s
  h0 : 0 ≤ h
  s6 : s ≤ 6
  h2 : h ≤ 2
abbrev na (ns : List Int) (k : Nat) : Int := ns.getD k default
def Rc (ns : List Int) (s h : Int) (d m : Nat) : Int := s + ((List.range m).map fun i : Nat => h * (i : Int) * na ns (d + i)).sum
theorem mul_s {i j : Int} (hi : i.natAbs ≤ 1000) (hj : j.natAbs ≤ 1000) : dMul (I i) (I j) = some (I (i * j)) := mul_ii (m := 10) (n := 10) (by omega) (by omega) (by decide)
theorem mul_b {a b : Int} {m n : Nat} (ha : a.natAbs ≤ m) (hb : b.natAbs ≤ n) : (a * b).natAbs ≤ m * n := by rw [Int.natAbs_mul]; exact Nat.mul_le_mul ha hb
theorem w_r2 {f g : Mo Ref} {s s1 s2 : ES} {d e : Nat} (h1 : f s = .ok (.d (Nn d)) s1) (h2 : g s1 = .ok (.d (Nn e)) s2) (hd : d < 4611686018427387904) (he : e < 4611686018427387904) : iR2 f g s = .ok ((List.range (e - d)).map fun i : Nat => Nn (d + i)) s2 := by
  unfold iR2 bnd
  rw [h1]
  dsimp only
  rw [h2]
  dsimp only [rd]
  unfold dRng2
  dsimp only
  rw [inLine_nat hd, inLine_nat he]
  show Rs.ok (rngL (d : Int) (e : Int)) s2 = _
  unfold rngL
  have : ((e : Int) - (d : Int)).toNat = e - d := by omega
  rw [this]
  rfl
theorem w_r3 {f g h : Mo Ref} {s s1 s2 s3 : ES} {n : Nat} (h1 : f s = .ok (.d (I ((n : Int) - 1))) s1) (h2 : g s1 = .ok (.d (I (-1))) s2) (h3 : h s2 = .ok (.d (I (-1))) s3) (hn : n < 1000000) : iR3 f g h s = .ok ((List.range n).map fun k => Nn (n - 1 - k)) s3 := by
  unfold iR3 bnd
  rw [h1]
  dsimp only
  rw [h2]
  dsimp only
  rw [h3]
  dsimp only [rd]
  have e1 : inLine ((n : Int) - 1) = true := by
    unfold inLine
    rw [Bool.and_eq_true, decide_eq_true_eq, decide_eq_true_eq]
    have : (2 : Int) ^ 62 = 4611686018427387904 := by decide
    omega
  rw [e1, show inLine (-1) = true by decide]
  show Rs.ok (rngD ((n : Int) - 1) (-1)) s3 = _
  unfold rngD
  have : (((n : Int) - 1) - -1).toNat = n := by omega
  rw [this]
  congr 1
  refine List.map_congr_left fun k hk => ?_
  have hk := List.mem_range.mp hk
  have : ((n : Int) - 1 - (k : Nat)) = ((n - 1 - k : Nat) : Int) := by omega
  rw [this]
section
variable {ns : List Int} {s h : Int} (C : CT ns s h)
include C
theorem CT.ne : ns ≠ [] := by intro e; have := C.n1; rw [e] at this; simp at this
theorem CT.na0 (k : Nat) : 0 ≤ na ns k ∧ na ns k ≤ 2 := by
  unfold na
  rcases Nat.lt_or_ge k ns.length with h | h
  · rw [List.getD_eq_getElem?_getD, List.getElem?_eq_getElem h]
    exact ⟨C.lo _ (List.getElem_mem h), C.hi _ (List.getElem_mem h)⟩
  · rw [List.getD_eq_getElem?_getD, List.getElem?_eq_none h]; decide
theorem f_check {r : Int} (hr : 0 ≤ r) : F_check_needs [Tu I ns, I s, I h, I r] = .ok .none := by
  have n1 := C.n1
  have n4 := C.n4
  unfold F_check_needs
  refine fn_nxE (Q := fun _ => True) rfl ?_
  unfold g_check_needs
  apply st_seqN
  · refine st_no (te_not (k := true) (te_bool (ev_chain (k := true) (l := true) ev_c (ev_un (ev_var rfl) len_tu) ev_c ?_ ?_))) rfl
    · show some (PyData.bool (decide ((1 : Int) ≤ (ns.length : Int)))) = _; rw [decide_eq_true (by omega)]
    · show some (PyData.bool (decide ((ns.length : Int) ≤ 10))) = _; rw [decide_eq_true (by omega)]
  apply st_seqN
  · refine st_no (te_cmp (ev_un (ev_var rfl) (min_tu enc_I lt_I C.ne)) ev_c (k := false) ?_) rfl
    have := C.lo _ (lst_mem (lf := fun a b => decide (a < b)) C.ne)
    show some (PyData.bool (decide (_ < (0 : Int)))) = _
    rw [decide_eq_false (by omega)]
  apply ex_nx
  refine st_no (k := false || false) (te_or (te_cmp (ev_bin (ev_var rfl) (ev_var rfl) (r := I (if h < s then h else s)) rfl) ev_c ?_) fun _ => te_cmp (ev_var rfl) ev_c ?_) rfl
  · have := C.s0
    have := C.h0
    show some (PyData.bool (decide ((if h < s then h else s) < (0 : Int)))) = _
    rw [decide_eq_false (by split <;> omega)]
  · show some (PyData.bool (decide (r < (0 : Int)))) = _
    rw [decide_eq_false (by omega)]
theorem mul_h {x : Int} (hx : x.natAbs ≤ 100) : dMul (I h) (I x) = some (I (h * x)) := by
  have := C.h0
  have := C.h2
  exact mul_s (by omega) (by omega)
theorem mul_hn {x : Int} (hx : x.natAbs ≤ 100) (k : Nat) : dMul (I (h * x)) (I (na ns k)) = some (I (h * x * na ns k)) := by
  have := C.h0
  have := C.h2
  have := C.na0 k
  have := mul_b (a := h) (b := x) (m := 2) (n := 100) (by omega) hx
  exact mul_s (by omega) (by omega)
theorem run_eq {d e : Nat} (he : e ≤ ns.length) : s + ((List.range (e - d)).map fun i : Nat => h * (((d + i : Nat) : Int) - (d : Int)) * na ns (d + i)).sum = Rc ns s h d (e - d) := by
  unfold Rc
  congr 2
  refine List.map_congr_left fun i _ => ?_
  have : (((d + i : Nat) : Int) - (d : Int)) = (i : Int) := by omega
  rw [this]
theorem f_run {d e : Nat} (he : e ≤ ns.length) (hd : d ≤ ns.length) : F_run_cost [Tu I ns, I s, I h, Nn d, Nn e] = .ok (I (Rc ns s h d (e - d))) := by
  have n4 := C.n4
  unfold F_run_cost
  apply fn_ok (T := T0)
  · rfl
  unfold g_run_cost
  refine st_retE' (ev_bin (ev_var rfl) (ev_un (ev_M' (xs := List.range (e - d)) (f := fun i : Nat => I (h * (((d + i : Nat) : Int) - (d : Int)) * na ns (d + i))) (Ev.comp_map (enc := fun i => Nn (d + i)) (w_r2 (ev_var rfl) (ev_var rfl) (by omega) (by omega)) (by simp [szL]; omega) rfl fun i hi => ?_)) sum_li) ?_) rfl
  · have hi := List.mem_range.mp hi
    exact ⟨_, rfl, rfl, ev_bin (a := I (h * (((d + i : Nat) : Int) - (d : Int)))) (ev_bin (b := I (((d + i : Nat) : Int) - (d : Int))) (ev_var rfl) (ev_bin (ev_var rfl) (ev_var rfl) rfl) (mul_h C (by omega))) (ev_bin (ev_var rfl) (ev_var rfl) (ix_tu' (by omega))) (mul_hn C (by omega) _)⟩
  · rw [← run_eq C he]; rfl
theorem f_lrun {d e : Nat} (he : e ≤ ns.length) (hd : d ≤ ns.length) : F_u_law_run [Tu I ns, I s, I h, Nn d, Nn e] = .ok (I (Rc ns s h d (e - d))) := by
  have n4 := C.n4
  unfold F_u_law_run
  apply fn_ok (T := T0)
  · rfl
  unfold g_u_law_run
  refine st_retE' (ev_bin (ev_var rfl) (ev_un (ev_M' (xs := List.range (e - d)) (f := fun i : Nat => I (h * (((d + i : Nat) : Int) - (d : Int)) * na ns (d + i))) (Ev.comp_map (enc := fun i => Nn (d + i)) (w_r2 (ev_var rfl) (ev_var rfl) (by omega) (by omega)) (by simp [szL]; omega) rfl fun i hi => ?_)) sum_li) ?_) rfl
  · have hi := List.mem_range.mp hi
    exact ⟨_, rfl, rfl, ev_bin (a := I (h * (((d + i : Nat) : Int) - (d : Int)))) (ev_bin (b := I (((d + i : Nat) : Int) - (d : Int))) (ev_var rfl) (ev_bin (ev_var rfl) (ev_var rfl) rfl) (mul_h C (by omega))) (ev_bin (ev_var rfl) (ev_var rfl) (ix_tu' (by omega))) (mul_hn C (by omega) _)⟩
  · rw [← run_eq C he]; rfl
end
end k57_whole_lots
set_option Elab.async false
set_option linter.all false
set_option maxRecDepth 100000
set_option maxHeartbeats 0
namespace k57_whole_lots
open PySem L2 Ev
def ops (ns : List Int) (s h : Int) (d : Nat) (rows : List Int) (m : Nat) : List Int := (List.range m).map (fun j => Rc ns s h d (j + 1) + rows.getD j default) ++ (if na ns d = 0 then [rows.getD 0 default] else [])
def TT (ns : List Int) (s h : Int) : Nat → List Int
  | 0 => [0]
  | k + 1 => lst ltI (ops ns s h (ns.length - 1 - k) (TT ns s h k) (k + 1)) :: TT ns s h k
theorem TT_succ {ns : List Int} {s h : Int} {k : Nat} : TT ns s h (k + 1) = lst ltI (ops ns s h (ns.length - 1 - k) (TT ns s h k) (k + 1)) :: TT ns s h k := rfl
theorem TT_len {ns : List Int} {s h : Int} : ∀ k, (TT ns s h k).length = k + 1
  | 0 => rfl
  | k + 1 => by unfold TT; rw [List.length_cons, TT_len k]
theorem ops_ne {ns : List Int} {s h : Int} {d : Nat} {rows : List Int} {m : Nat} : ops ns s h d rows (m + 1) ≠ [] := by
  unfold ops
  intro e
  have := congrArg List.length e
  simp at this
theorem rep_tail {xs : List Int} {m j : Nat} : (List.replicate m (0 : Int) ++ xs).getD (m + j) default = xs.getD j default := by
  rw [List.getD_eq_getElem?_getD, List.getD_eq_getElem?_getD, List.getElem?_append_right (by simp)]
  simp
theorem rep_set {xs : List Int} {m : Nat} {v : Int} : (List.replicate (m + 1) (0 : Int) ++ xs).set m v = List.replicate m 0 ++ v :: xs := by
  induction m with
  | zero => rfl
  | succ m ih => rw [List.replicate_succ, List.cons_append, List.set_cons_succ, ih, List.replicate_succ]; rfl
theorem set_mapI {xs : List Int} {k : Nat} {v : Int} : (xs.map I).set k (I v) = (xs.set k v).map I := by rw [List.map_set]
theorem rep_list {n : Nat} : ((List.range (n + 1)).map fun _ => I 0) = (List.replicate n (0 : Int) ++ TT ns s h 0).map I := by
  unfold TT
  rw [show List.replicate n (0 : Int) ++ [0] = List.replicate (n + 1) 0 by rw [List.replicate_succ']]
  rw [List.map_replicate]
  apply List.ext_getElem?
  intro k
  rw [List.getElem?_map]
  by_cases hk : k < n + 1
  · rw [List.getElem?_range hk, List.getElem?_replicate, if_pos hk]; rfl
  · rw [List.getElem?_eq_none (by simp; omega), List.getElem?_replicate, if_neg hk]; rfl
theorem mono2 {a b c : Int} (h : a = b) : dAdd (I c) (I a) = some (I (c + b)) := by rw [h]; rfl
section
variable {ns : List Int} {s h : Int} (C : CT ns s h)
include C
theorem f_floors : F_floors [Tu I ns, I s, I h] = .ok (Li I (TT ns s h ns.length)) := by
  have n1 := C.n1
  have n4 := C.n4
  unfold F_floors
  apply fn_ok (T := T0)
  · rfl
  unfold g_floors
  apply st_seq' (s1 := ⟨[vv (Tu I ns), vv (I s), vv (I h), oo ((List.replicate ns.length (0 : Int) ++ TT ns s h 0).map I), none, none, none], T0⟩)
  · rw [← rep_list (n := ns.length)]
    exact st_own (m_bin (ev_M' (xs := [(0 : Int)]) (f := I) (m_lst (ev_cons ev_c ev_nil) (du_cons du_nil) (by simp [szL]))) (ev_bin (ev_un (ev_var rfl) len_tu) ev_c (r := Nn (ns.length + 1)) rfl) (rep_range (by simp [szL]; omega)))
  refine st_forR (n := ns.length) (enc := fun k => Nn (ns.length - 1 - k)) (fun k z => ∃ a4 a5, z = ⟨[vv (Tu I ns), vv (I s), vv (I h), oo ((List.replicate (ns.length - k) (0 : Int) ++ TT ns s h k).map I), a4, a5, none], T0⟩)
    (w_r3 (ev_bin (ev_un (ev_var rfl) len_tu) ev_c rfl) (ev_un ev_c rfl) (ev_un ev_c rfl) (by omega)) ⟨none, none, rfl⟩ ?_ ?_
  · rintro k z hk ⟨a4, a5, rfl⟩
    have ed : ns.length - 1 - k < ns.length := by omega
    generalize hd : ns.length - 1 - k = d at ed
    have hdk : d + 1 = ns.length - k := by omega
    have hd2 : ns.length - k = d + 1 := by omega
    have hm : ns.length + 1 - (d + 1) = k + 1 := by omega
    rw [hd2]
    have at' : ∀ j, j ≤ k → dIx (.list ((List.replicate (d + 1) (0 : Int) ++ TT ns s h k).map I)) (Nn (d + 1 + j)) = some (I ((TT ns s h k).getD j default)) := fun j hj => by
      have := ix_li' (f := I) (xs := List.replicate (d + 1) (0 : Int) ++ TT ns s h k) (n := d + 1 + j) (by rw [List.length_append, List.length_replicate, TT_len]; omega)
      rw [rep_tail] at this
      exact this
    refine for_nx (s1 := ⟨[vv (Tu I ns), vv (I s), vv (I h), oo ((List.replicate (d + 1) (0 : Int) ++ TT ns s h k).map I), vv (Nn d), a5, none], T0⟩) (by show some _ = some _; rfl) ?_
    refine nx_seqN (Q := fun z => z = ⟨[vv (Tu I ns), vv (I s), vv (I h), oo ((List.replicate (d + 1) (0 : Int) ++ TT ns s h k).map I), vv (Nn d), oo (((List.range (k + 1)).map (fun j => Rc ns s h d (j + 1) + (TT ns s h k).getD j default)).map I), none], T0⟩) ?_ ?_
    · refine nx_of (st_own (s1 := ⟨[vv (Tu I ns), vv (I s), vv (I h), oo ((List.replicate (d + 1) (0 : Int) ++ TT ns s h k).map I), vv (Nn d), a5, none], T0⟩) ?_) rfl
      rw [List.map_map]
      refine Ev.comp_map (xs := List.range (k + 1)) (enc := fun j => Nn (d + 1 + j)) (out := fun j => I (Rc ns s h d (j + 1) + (TT ns s h k).getD j default)) ?_ (by simp [szL]; omega) rfl ?_
      · rw [← hm]
        exact w_r2 (ev_bin (ev_var rfl) ev_c rfl) (ev_bin (ev_un (ev_var rfl) len_tu) ev_c rfl) (by omega) (by omega)
      · intro j hj
        have hj := List.mem_range.mp hj
        refine ⟨_, rfl, rfl, ev_bin (ev_call (ev_cons (ev_var rfl) (ev_cons (ev_var rfl) (ev_cons (ev_var rfl) (ev_cons (ev_var rfl) (ev_cons (ev_var rfl) ev_nil))))) (du_cons (du_cons (du_cons (du_cons (du_cons du_nil))))) (f_run C (d := d) (e := d + 1 + j) (by omega) (by omega))) (ev_binO (ev_own rfl) (ev_var rfl) rfl (at' j (by omega))) ?_⟩
        rw [show d + 1 + j - d = j + 1 by omega]
        rfl
    rintro z rfl
    refine nx_seqN (Q := fun z => z = ⟨[vv (Tu I ns), vv (I s), vv (I h), oo ((List.replicate (d + 1) (0 : Int) ++ TT ns s h k).map I), vv (Nn d), oo ((ops ns s h d (TT ns s h k) (k + 1)).map I), none], T0⟩) ?_ ?_
    · have t : fCmp dEq (eBin dIx (eVar 0) (eVar 4)) (eC (.int 0)) (⟨[vv (Tu I ns), vv (I s), vv (I h), oo ((List.replicate (d + 1) (0 : Int) ++ TT ns s h k).map I), vv (Nn d), oo (((List.range (k + 1)).map (fun j => Rc ns s h d (j + 1) + (TT ns s h k).getD j default)).map I), none], T0⟩ : ES) = .ok (decide (na ns d = 0)) ⟨[vv (Tu I ns), vv (I s), vv (I h), oo ((List.replicate (d + 1) (0 : Int) ++ TT ns s h k).map I), vv (Nn d), oo (((List.range (k + 1)).map (fun j => Rc ns s h d (j + 1) + (TT ns s h k).getD j default)).map I), none], T0⟩ := te_cmp (ev_bin (ev_var rfl) (ev_var rfl) (ix_tu' (f := I) (xs := ns) (n := d) (by omega))) ev_c (eq_enc enc_I (a := na ns d) (b := 0))
      unfold ops
      by_cases hz : na ns d = 0
      · rw [if_pos hz]
        refine nx_ifT (decide_eq_true hz ▸ t) (nx_of (st_expr (ev_meth rfl (ev_cons (ev_binO (ev_own rfl) (ev_bin (ev_var rfl) ev_c rfl) rfl (at' 0 (by omega))) ev_nil) (du_cons du_nil) rfl (append_map rfl (by simp [szL]; omega)))) rfl)
      · rw [if_neg hz, List.append_nil]
        exact nx_ifF (decide_eq_false hz ▸ t) (nx_of (u := sNx) rfl rfl)
    rintro z rfl
    refine nx_of (st_putix (n := d) (d := I (lst ltI (ops ns s h d (TT ns s h k) (k + 1)))) (ev_unO (ev_own rfl) rfl (min_li enc_I lt_I ops_ne)) rfl (ev_var rfl) rfl (by rw [List.length_map, List.length_append, List.length_replicate]; omega) rfl) ⟨vv (Nn d), oo ((ops ns s h d (TT ns s h k) (k + 1)).map I), ?_⟩
    rw [show ns.length - (k + 1) = d by omega]
    show (⟨[vv (Tu I ns), vv (I s), vv (I h), oo ((((List.replicate (d + 1) (0 : Int) ++ TT ns s h k).map I)).set d (I (lst ltI (ops ns s h d (TT ns s h k) (k + 1))))), vv (Nn d), oo ((ops ns s h d (TT ns s h k) (k + 1)).map I), none], T0⟩ : ES) = _
    rw [set_mapI, rep_set, TT_succ, hd]
  · rintro z ⟨a4, a5, rfl⟩
    rw [Nat.sub_self]
    exact st_retO (ev_own rfl) rfl
theorem f_all : F_all_floors [Tu I ns, I s, I h] = .ok (Tu I (TT ns s h ns.length)) := by
  unfold F_all_floors
  apply fn_ok (T := T0)
  · rfl
  unfold g_all_floors
  apply st_seq'
  · exact st_expr (ev_call (ev_cons (ev_var rfl) (ev_cons (ev_var rfl) (ev_cons (ev_var rfl) (ev_cons ev_c ev_nil)))) (du_cons (du_cons (du_cons (du_cons du_nil)))) (f_check C (by decide)))
  · exact st_retE' (ev_un (ev_call (ev_cons (ev_var rfl) (ev_cons (ev_var rfl) (ev_cons (ev_var rfl) ev_nil))) (du_cons (du_cons (du_cons du_nil))) (f_floors C)) tup_li) rfl
theorem f_lfloors : F_u_law_floors [Tu I ns, I s, I h] = .ok (Tu I (TT ns s h ns.length)) := by
  have n1 := C.n1
  have n4 := C.n4
  unfold F_u_law_floors
  apply fn_ok (T := T0)
  · rfl
  unfold g_u_law_floors
  apply st_seq' (s1 := ⟨[vv (Tu I ns), vv (I s), vv (I h), vv (Li I (TT ns s h 0)), none, none, none], T0⟩)
  · exact st_setE' (ev_M' (xs := [(0 : Int)]) (f := I) (m_lst (ev_cons ev_c ev_nil) (du_cons du_nil) (by simp [szL]))) rfl
  refine st_forR (n := ns.length) (enc := fun k => Nn (ns.length - 1 - k)) (fun k z => ∃ a4 a5, z = ⟨[vv (Tu I ns), vv (I s), vv (I h), vv (Li I (TT ns s h k)), a4, a5, none], T0⟩)
    (w_r3 (ev_bin (ev_un (ev_var rfl) len_tu) ev_c rfl) (ev_un ev_c rfl) (ev_un ev_c rfl) (by omega)) ⟨none, none, rfl⟩ ?_ ?_
  · rintro k z hk ⟨a4, a5, rfl⟩
    have ed : ns.length - 1 - k < ns.length := by omega
    generalize hd : ns.length - 1 - k = d at ed
    have hm : ns.length + 1 - (d + 1) = k + 1 := by omega
    have at' : ∀ j, j ≤ k → dIx (Li I (TT ns s h k)) (Nn j) = some (I ((TT ns s h k).getD j default)) := fun j hj => ix_li' (by rw [TT_len]; omega)
    refine for_nx (s1 := ⟨[vv (Tu I ns), vv (I s), vv (I h), vv (Li I (TT ns s h k)), vv (Nn d), a5, none], T0⟩) rfl ?_
    refine nx_seqN (Q := fun z => z = ⟨[vv (Tu I ns), vv (I s), vv (I h), vv (Li I (TT ns s h k)), vv (Nn d), vv (Li I ((List.range (k + 1)).map (fun j => Rc ns s h d (j + 1) + (TT ns s h k).getD j default))), none], T0⟩) ?_ ?_
    · refine nx_of (st_setE' (s1 := ⟨[vv (Tu I ns), vv (I s), vv (I h), vv (Li I (TT ns s h k)), vv (Nn d), a5, none], T0⟩) (ev_M' ?_) rfl) rfl
      rw [List.map_map]
      refine Ev.comp_map (xs := List.range (k + 1)) (enc := fun j => Nn (d + 1 + j)) (out := fun j => I (Rc ns s h d (j + 1) + (TT ns s h k).getD j default)) ?_ (by simp [szL]; omega) rfl ?_
      · rw [← hm]
        exact w_r2 (ev_bin (ev_var rfl) ev_c rfl) (ev_bin (ev_un (ev_var rfl) len_tu) ev_c rfl) (by omega) (by omega)
      · intro j hj
        have hj := List.mem_range.mp hj
        refine ⟨_, rfl, rfl, ev_bin (ev_call (ev_cons (ev_var rfl) (ev_cons (ev_var rfl) (ev_cons (ev_var rfl) (ev_cons (ev_var rfl) (ev_cons (ev_var rfl) ev_nil))))) (du_cons (du_cons (du_cons (du_cons (du_cons du_nil))))) (f_lrun C (d := d) (e := d + 1 + j) (by omega) (by omega))) (ev_bin (ev_var rfl) (ev_bin (ev_bin (ev_var rfl) (ev_var rfl) rfl) ev_c (r := Nn j) ?_) (at' j (by omega))) ?_⟩
        · show some (PyData.int (((d + 1 + j : Nat) : Int) - (d : Int) - 1)) = _
          rw [show ((d + 1 + j : Nat) : Int) - (d : Int) - 1 = (j : Int) by omega]
        · rw [show d + 1 + j - d = j + 1 by omega]
          rfl
    rintro z rfl
    have t : fCmp dEq (eBin dIx (eVar 0) (eVar 4)) (eC (.int 0)) (⟨[vv (Tu I ns), vv (I s), vv (I h), vv (Li I (TT ns s h k)), vv (Nn d), vv (Li I ((List.range (k + 1)).map (fun j => Rc ns s h d (j + 1) + (TT ns s h k).getD j default))), none], T0⟩ : ES) = .ok (decide (na ns d = 0)) ⟨[vv (Tu I ns), vv (I s), vv (I h), vv (Li I (TT ns s h k)), vv (Nn d), vv (Li I ((List.range (k + 1)).map (fun j => Rc ns s h d (j + 1) + (TT ns s h k).getD j default))), none], T0⟩ :=
      te_cmp (ev_bin (ev_var rfl) (ev_var rfl) (ix_tu' (f := I) (xs := ns) (n := d) (by omega))) ev_c (eq_enc enc_I (a := na ns d) (b := 0))
    refine nx_of (st_setE' (s1 := ⟨[vv (Tu I ns), vv (I s), vv (I h), vv (Li I (TT ns s h k)), vv (Nn d), vv (Li I ((List.range (k + 1)).map (fun j => Rc ns s h d (j + 1) + (TT ns s h k).getD j default))), none], T0⟩) (ev_bin (s1 := ⟨[vv (Tu I ns), vv (I s), vv (I h), vv (Li I (TT ns s h k)), vv (Nn d), vv (Li I ((List.range (k + 1)).map (fun j => Rc ns s h d (j + 1) + (TT ns s h k).getD j default))), none], T0⟩) (a := Li I [lst ltI (ops ns s h d (TT ns s h k) (k + 1))]) (ev_M' (m_lst (ev_cons (ev_un (a := Li I (ops ns s h d (TT ns s h k) (k + 1))) ?_ (min_li enc_I lt_I ops_ne)) ev_nil) (du_cons du_nil) (by simp [szL]))) (ev_var rfl) (add_li (xs := [_]) (ys := TT ns s h k) (by simp [szL, TT_len]; omega))) rfl) ⟨vv (Nn d), vv (Li I ((List.range (k + 1)).map (fun j => Rc ns s h d (j + 1) + (TT ns s h k).getD j default))), ?_⟩
    · unfold ops
      by_cases hz : na ns d = 0
      · rw [if_pos hz]
        exact ev_bin (ev_var rfl) (ev_ifT (decide_eq_true hz ▸ t) (ev_M' (xs := [_]) (f := I) (m_lst (ev_cons (ev_bin (ev_var rfl) ev_c (at' 0 (by omega))) ev_nil) (du_cons du_nil) (by simp [szL])))) (add_li (xs := (List.range (k + 1)).map (fun j => Rc ns s h d (j + 1) + (TT ns s h k).getD j default)) (by simp [szL]; omega))
      · rw [if_neg hz]
        exact ev_bin (ev_var rfl) (ev_ifF (decide_eq_false hz ▸ t) (ev_M' (xs := []) (f := I) (m_lst ev_nil du_nil (by simp [szL])))) (add_li (xs := (List.range (k + 1)).map (fun j => Rc ns s h d (j + 1) + (TT ns s h k).getD j default)) (ys := []) (by simp [szL]; omega))
    · rw [TT_succ, hd]; rfl
  · rintro z ⟨a4, a5, rfl⟩
    exact st_retE' (ev_un (ev_var rfl) tup_li) rfl
end
end k57_whole_lots
set_option Elab.async false
set_option linter.all false
set_option maxRecDepth 100000
set_option maxHeartbeats 0
namespace k57_whole_lots
open PySem L2 Ev
abbrev rv (r : List Int) (d : Nat) : Int := r.getD d default
def bad1 (ns r : List Int) (d : Nat) : Bool := decide (na ns d = 0) && decide (rv r (d + 1) < rv r d)
def bad2 (ns : List Int) (s h : Int) (r : List Int) (d j : Nat) : Bool := decide (Rc ns s h d (j + 1) + rv r (d + 1 + j) < rv r d)
def bad (ns : List Int) (s h : Int) (r : List Int) (d : Nat) : Bool := bad1 ns r d || (List.range (ns.length - d)).any (bad2 ns s h r d)
def RT (ns : List Int) (s h : Int) (r : List Int) : Bool := !decide (0 < rv r ns.length) && !(List.range ns.length).any (bad ns s h r)
theorem find_bool {α : Type} {t : α → Bool} : ∀ {xs : List α}, ((xs.find? t).map fun _ => PyData.bool false).getD (.bool true) = .bool (!xs.any t)
  | [] => rfl
  | x :: xs => by
    cases h : t x with
    | true => rw [List.find?_cons_of_pos h, List.any_cons, h]; rfl
    | false => rw [List.find?_cons_of_neg (by simp [h]), List.any_cons, h, find_bool]; rfl
theorem ix_m1 {r : List Int} {n : Nat} (h : r.length = n + 1) : dIx (Tu I r) (I (-1)) = some (I (rv r n)) := by
  have e : r = r.take n ++ [rv r n] := by
    have h1 := List.take_append_drop n r
    have h2 : r.drop n = [rv r n] := by
      rw [List.drop_eq_getElem_cons (by omega), List.drop_eq_nil_of_le (by omega)]
      unfold rv
      rw [List.getD_eq_getElem?_getD, List.getElem?_eq_getElem (by omega)]; rfl
    rw [h2] at h1
    exact h1.symm
  have : Tu I r = .tuple ((r.take n).map I ++ [I (rv r n)]) := by
    conv => lhs; rw [e]
    unfold Tu
    rw [List.map_append]; rfl
  rw [this]
  exact ix_last
theorem gt_ii {a b : Int} : dGt (I a) (I b) = some (.bool (decide (b < a))) := rfl
section
variable {ns : List Int} {s h : Int} (C : CT ns s h) {r : List Int} (hr : r.length = ns.length + 1)
include C hr
theorem f_takes : F_takes_floors [Tu I ns, I s, I h, Tu I r] = .ok (.bool (RT ns s h r)) := by
  have n1 := C.n1
  have n4 := C.n4
  unfold F_takes_floors
  apply fn_ok (T := T0)
  · rfl
  unfold g_takes_floors
  apply st_seq'
  · exact st_expr (ev_call (ev_cons (ev_var rfl) (ev_cons (ev_var rfl) (ev_cons (ev_var rfl) (ev_cons ev_c ev_nil)))) (du_cons (du_cons (du_cons (du_cons du_nil)))) (f_check C (by decide)))
  apply st_seq' (s1 := ⟨[vv (Tu I ns), vv (I s), vv (I h), vv (Tu I r), vv (Nn ns.length), none, none], T0⟩)
  · exact st_setE' (ev_un (ev_var rfl) len_tu) rfl
  have t0 : fOr (fCmp dNe (eUn dLen (eVar 3)) (eBin dAdd (eVar 4) (eC (.int 1)))) (fCmp dGt (eBin dIx (eVar 3) (eVar 4)) (eC (.int 0))) (⟨[vv (Tu I ns), vv (I s), vv (I h), vv (Tu I r), vv (Nn ns.length), none, none], T0⟩ : ES) = .ok (false || decide (0 < rv r ns.length)) ⟨[vv (Tu I ns), vv (I s), vv (I h), vv (Tu I r), vv (Nn ns.length), none, none], T0⟩ :=
    te_or (te_cmp (ev_un (ev_var rfl) len_tu) (ev_bin (ev_var rfl) ev_c add_n1) (ne_nn hr)) fun _ => te_cmp (ev_bin (ev_var rfl) (ev_var rfl) (ix_tu' (by omega))) ev_c gt_ii
  rw [Bool.false_or] at t0
  unfold RT
  by_cases h0 : 0 < rv r ns.length
  · rw [decide_eq_true h0] at t0 ⊢
    exact st_seqR (by rw [st_ifT t0]; exact st_retE' ev_c rfl)
  rw [decide_eq_false h0] at t0 ⊢
  apply st_seq' (s1 := ⟨[vv (Tu I ns), vv (I s), vv (I h), vv (Tu I r), vv (Nn ns.length), none, none], T0⟩)
  · rw [st_ifF t0]; rfl
  rw [Bool.not_false, Bool.true_and, ← find_bool]
  refine st_forF (xs := List.range ns.length) (enc := Nn) (fun z => ∃ a5 a6, z = ⟨[vv (Tu I ns), vv (I s), vv (I h), vv (Tu I r), vv (Nn ns.length), a5, a6], T0⟩) (bad ns s h r) (fun _ => .bool false) (w_r1 (ev_var rfl) (by omega)) ⟨_, _, rfl⟩ ?_ ?_
  · rintro z d hd ⟨a5, a6, rfl⟩
    have hd := List.mem_range.mp hd
    refine ⟨⟨[vv (Tu I ns), vv (I s), vv (I h), vv (Tu I r), vv (Nn ns.length), vv (Nn d), a6], T0⟩, rfl, ?_⟩
    have t1 : fAnd (fCmp dEq (eBin dIx (eVar 0) (eVar 5)) (eC (.int 0))) (fCmp dGt (eBin dIx (eVar 3) (eVar 5)) (eBin dIx (eVar 3) (eBin dAdd (eVar 5) (eC (.int 1))))) (⟨[vv (Tu I ns), vv (I s), vv (I h), vv (Tu I r), vv (Nn ns.length), vv (Nn d), a6], T0⟩ : ES) = .ok (bad1 ns r d) ⟨[vv (Tu I ns), vv (I s), vv (I h), vv (Tu I r), vv (Nn ns.length), vv (Nn d), a6], T0⟩ :=
      te_and (te_cmp (ev_bin (ev_var rfl) (ev_var rfl) (ix_tu' (f := I) (xs := ns) (n := d) (by omega))) ev_c (eq_enc enc_I (a := na ns d) (b := 0))) fun _ => te_cmp (ev_bin (ev_var rfl) (ev_var rfl) (ix_tu' (by omega))) (ev_bin (ev_var rfl) (ev_bin (ev_var rfl) ev_c add_n1) (ix_tu' (by omega))) gt_ii
    unfold bad
    cases hb : bad1 ns r d with
    | true =>
      rw [hb] at t1
      exact .inl ⟨rfl, st_seqR (by rw [st_ifT t1]; exact st_retE' ev_c rfl)⟩
    | false =>
      rw [hb] at t1
      rw [Bool.false_or, st_seq (by rw [st_ifF t1]; rfl)]
      have hi : iR2 (eBin dAdd (eVar 5) (eC (.int 1))) (eBin dAdd (eVar 4) (eC (.int 1))) (⟨[vv (Tu I ns), vv (I s), vv (I h), vv (Tu I r), vv (Nn ns.length), vv (Nn d), a6], T0⟩ : ES) = .ok ((List.range (ns.length - d)).map fun j => Nn (d + 1 + j)) ⟨[vv (Tu I ns), vv (I s), vv (I h), vv (Tu I r), vv (Nn ns.length), vv (Nn d), a6], T0⟩ := by
        rw [show ns.length - d = ns.length + 1 - (d + 1) by omega]
        exact w_r2 (ev_bin (ev_var rfl) ev_c rfl) (ev_bin (ev_var rfl) ev_c rfl) (by omega) (by omega)
      rw [st_for hi]
      refine (for_find (T := T0) (pt := pName 6) (body := sIf (fCmp dGt (eBin dIx (eVar 3) (eVar 5)) (eBin dAdd (eCall F_run_cost (aCons (eVar 0) (aCons (eVar 1) (aCons (eVar 2) (aCons (eVar 5) (aCons (eVar 6) aNil)))))) (eBin dIx (eVar 3) (eVar 6)))) (sRet (eC (.bool false))) sNx)
        (P := fun z => ∃ a6, z = ⟨[vv (Tu I ns), vv (I s), vv (I h), vv (Tu I r), vv (Nn ns.length), vv (Nn d), a6], T0⟩) (t := bad2 ns s h r d) (v := fun _ => .bool false) (enc := fun j => Nn (d + 1 + j)) (List.range (ns.length - d)) _ ⟨a6, rfl⟩ ?_).elim (fun ⟨x, e1, e2⟩ => ?_) (fun ⟨e1, s', e2, a6', he⟩ => ?_)
      rotate_left
      · refine .inl ⟨?_, e2⟩
        exact List.any_eq_true.mpr ⟨x, List.mem_of_find?_eq_some e1, List.find?_some e1⟩
      · subst he
        refine .inr ⟨?_, _, .inl e2, _, _, rfl⟩
        rw [List.any_eq_false]
        exact List.find?_eq_none.mp e1
      · rintro z j hj ⟨b6, rfl⟩
        have hj := List.mem_range.mp hj
        refine ⟨⟨[vv (Tu I ns), vv (I s), vv (I h), vv (Tu I r), vv (Nn ns.length), vv (Nn d), vv (Nn (d + 1 + j))], T0⟩, rfl, ?_⟩
        have t2 : fCmp dGt (eBin dIx (eVar 3) (eVar 5)) (eBin dAdd (eCall F_run_cost (aCons (eVar 0) (aCons (eVar 1) (aCons (eVar 2) (aCons (eVar 5) (aCons (eVar 6) aNil)))))) (eBin dIx (eVar 3) (eVar 6))) (⟨[vv (Tu I ns), vv (I s), vv (I h), vv (Tu I r), vv (Nn ns.length), vv (Nn d), vv (Nn (d + 1 + j))], T0⟩ : ES) = .ok (bad2 ns s h r d j) ⟨[vv (Tu I ns), vv (I s), vv (I h), vv (Tu I r), vv (Nn ns.length), vv (Nn d), vv (Nn (d + 1 + j))], T0⟩ := by
          refine te_cmp (ev_bin (ev_var rfl) (ev_var rfl) (ix_tu' (by omega))) (ev_bin (ev_call (ev_cons (ev_var rfl) (ev_cons (ev_var rfl) (ev_cons (ev_var rfl) (ev_cons (ev_var rfl) (ev_cons (ev_var rfl) ev_nil))))) (du_cons (du_cons (du_cons (du_cons (du_cons du_nil))))) (f_run C (d := d) (e := d + 1 + j) (by omega) (by omega))) (ev_bin (ev_var rfl) (ev_var rfl) (ix_tu' (by omega))) rfl) ?_
          rw [show d + 1 + j - d = j + 1 by omega]
          exact gt_ii
        exact find_stp (α := Nat) rfl (fun hb => by rw [hb] at t2; rw [st_ifT t2]; exact st_retE' ev_c rfl) (fun hb => by rw [hb] at t2; rw [st_ifF t2]; rfl) ⟨_, rfl⟩
  · rintro z ⟨a5, a6, rfl⟩
    exact st_retE' ev_c rfl
theorem f_rightG {dr : D} (hlen : dLen dr = some (.int (r.length : Int))) (hix : ∀ k, k < r.length → dIx dr (.int (k : Int)) = some (I (rv r k))) (hm1 : dIx dr (I (-1)) = some (I (rv r ns.length))) : F_u_law_right [Tu I ns, I s, I h, dr] = .ok (.bool (RT ns s h r)) := by
  have n1 := C.n1
  have n4 := C.n4
  unfold F_u_law_right
  apply fn_ok (T := T0)
  · rfl
  unfold g_u_law_right
  have t0 : fOr (fCmp dNe (eUn dLen (eVar 3)) (eBin dAdd (eUn dLen (eVar 0)) (eC (.int 1)))) (fCmp dGt (eBin dIx (eVar 3) (eUn dNeg (eC (.int 1)))) (eC (.int 0))) (⟨[vv (Tu I ns), vv (I s), vv (I h), vv dr, none, none], T0⟩ : ES) = .ok (false || decide (0 < rv r ns.length)) ⟨[vv (Tu I ns), vv (I s), vv (I h), vv dr, none, none], T0⟩ :=
    te_or (te_cmp (ev_un (ev_var rfl) hlen) (ev_bin (ev_un (ev_var rfl) len_tu) ev_c add_n1) (ne_nn hr)) fun _ => te_cmp (ev_bin (ev_var rfl) (ev_un ev_c (r := I (-1)) rfl) hm1) ev_c gt_ii
  rw [Bool.false_or] at t0
  unfold RT
  by_cases h0 : 0 < rv r ns.length
  · rw [decide_eq_true h0] at t0 ⊢
    exact st_seqR (by show sIf _ _ _ (⟨[vv (Tu I ns), vv (I s), vv (I h), vv dr, none, none], T0⟩ : ES) = _; rw [st_ifT t0]; exact st_retE' ev_c rfl)
  rw [decide_eq_false h0] at t0 ⊢
  apply st_seq' (s1 := ⟨[vv (Tu I ns), vv (I s), vv (I h), vv dr, none, none], T0⟩)
  · show sIf _ _ _ (⟨[vv (Tu I ns), vv (I s), vv (I h), vv dr, none, none], T0⟩ : ES) = _; rw [st_ifF t0]; rfl
  rw [Bool.not_false, Bool.true_and, ← find_bool]
  refine st_forF (xs := List.range ns.length) (enc := Nn) (fun z => ∃ a4, z = ⟨[vv (Tu I ns), vv (I s), vv (I h), vv dr, a4, none], T0⟩) (bad ns s h r) (fun _ => .bool false) (w_r1 (ev_un (ev_var rfl) len_tu) (by omega)) ⟨_, rfl⟩ ?_ ?_
  · rintro z d hd ⟨a4, rfl⟩
    have hd := List.mem_range.mp hd
    refine ⟨⟨[vv (Tu I ns), vv (I s), vv (I h), vv dr, vv (Nn d), none], T0⟩, rfl, ?_⟩
    have t1 : fAnd (fCmp dEq (eBin dIx (eVar 0) (eVar 4)) (eC (.int 0))) (fCmp dGt (eBin dIx (eVar 3) (eVar 4)) (eBin dIx (eVar 3) (eBin dAdd (eVar 4) (eC (.int 1))))) (⟨[vv (Tu I ns), vv (I s), vv (I h), vv dr, vv (Nn d), none], T0⟩ : ES) = .ok (bad1 ns r d) ⟨[vv (Tu I ns), vv (I s), vv (I h), vv dr, vv (Nn d), none], T0⟩ :=
      te_and (te_cmp (ev_bin (ev_var rfl) (ev_var rfl) (ix_tu' (f := I) (xs := ns) (n := d) (by omega))) ev_c (eq_enc enc_I (a := na ns d) (b := 0))) fun _ => te_cmp (ev_bin (ev_var rfl) (ev_var rfl) (hix _ (by omega))) (ev_bin (ev_var rfl) (ev_bin (ev_var rfl) ev_c add_n1) (hix _ (by omega))) gt_ii
    unfold bad
    cases hb : bad1 ns r d with
    | true =>
      rw [hb] at t1
      exact .inl ⟨rfl, st_seqR (by rw [st_ifT t1]; exact st_retE' ev_c rfl)⟩
    | false =>
      rw [hb] at t1
      rw [Bool.false_or, st_seq (by rw [st_ifF t1]; rfl)]
      have t2 : fCmp dGt (eUn dLen (eM (mComp [5] (iR2 (eBin dAdd (eVar 4) (eC (.int 1))) (eBin dAdd (eUn dLen (eVar 0)) (eC (.int 1)))) (pName 5) (fCmp dGt (eBin dIx (eVar 3) (eVar 4)) (eBin dAdd (eCall F_u_law_run (aCons (eVar 0) (aCons (eVar 1) (aCons (eVar 2) (aCons (eVar 4) (aCons (eVar 5) aNil)))))) (eBin dIx (eVar 3) (eVar 5)))) e1_u_law_right))) (eC (.int 0)) (⟨[vv (Tu I ns), vv (I s), vv (I h), vv dr, vv (Nn d), none], T0⟩ : ES)
          = .ok ((List.range (ns.length - d)).any (bad2 ns s h r d)) ⟨[vv (Tu I ns), vv (I s), vv (I h), vv dr, vv (Nn d), none], T0⟩ := by
        refine te_cmp (ev_un (ev_M' (xs := (List.range (ns.length - d)).filter (bad2 ns s h r d)) (f := fun j => Nn (d + 1 + j)) (Ev.comp_filter (enc := fun j => Nn (d + 1 + j)) ?_ (by simp [szL]; omega) rfl fun j hj => ⟨_, rfl, rfl, ?_, fun _ => ev_var rfl⟩)) len_li) ev_c ?_
        · rw [show ns.length - d = ns.length + 1 - (d + 1) by omega]
          exact w_r2 (ev_bin (ev_var rfl) ev_c rfl) (ev_bin (ev_un (ev_var rfl) len_tu) ev_c rfl) (by omega) (by omega)
        · have hj := List.mem_range.mp hj
          refine te_cmp (ev_bin (ev_var rfl) (ev_var rfl) (hix _ (by omega))) (ev_bin (ev_call (ev_cons (ev_var rfl) (ev_cons (ev_var rfl) (ev_cons (ev_var rfl) (ev_cons (ev_var rfl) (ev_cons (ev_var rfl) ev_nil))))) (du_cons (du_cons (du_cons (du_cons (du_cons du_nil))))) (f_lrun C (d := d) (e := d + 1 + j) (by omega) (by omega))) (ev_bin (ev_var rfl) (ev_var rfl) (hix _ (by omega))) rfl) ?_
          rw [show d + 1 + j - d = j + 1 by omega]
          exact gt_ii
        · rw [show dGt (.int (((List.range (ns.length - d)).filter (bad2 ns s h r d)).length : Int)) (.int 0) = some (.bool (decide ((0 : Int) < (((List.range (ns.length - d)).filter (bad2 ns s h r d)).length : Int)))) from rfl]
          congr 2
          rw [Bool.eq_iff_iff, decide_eq_true_iff, List.any_eq_true]
          constructor
          · intro hq
            obtain ⟨x, hx⟩ := List.exists_mem_of_length_pos (by omega : 0 < ((List.range (ns.length - d)).filter (bad2 ns s h r d)).length)
            exact ⟨x, (List.mem_filter.mp hx).1, (List.mem_filter.mp hx).2⟩
          · rintro ⟨x, h1, h2⟩
            have := List.length_pos_of_mem (List.mem_filter.mpr ⟨h1, h2⟩)
            omega
      exact find_stp (α := Nat) rfl (fun hb => by rw [hb] at t2; rw [st_ifT t2]; exact st_retE' ev_c rfl) (fun hb => by rw [hb] at t2; rw [st_ifF t2]; rfl) ⟨_, rfl⟩
  · rintro z ⟨a4, rfl⟩
    exact st_retE' ev_c rfl
theorem f_right : F_u_law_right [Tu I ns, I s, I h, Li I r] = .ok (.bool (RT ns s h r)) := f_rightG C hr len_li (fun k hk => ix_li' hk) (ix_m1 hr)
end
end k57_whole_lots
set_option Elab.async false
set_option linter.all false
set_option maxRecDepth 100000
set_option maxHeartbeats 0
namespace k57_whole_lots
open PySem L2 Ev
theorem for_opt {α β : Type} {pt : Pat} {body : ES → SR} {enc : α → D} {step : β → α → Option β} {St : Nat → β → ES → Prop} {v : D} {T : Ext} : ∀ (xs : List α) (k : Nat) (b : β) (s : ES), St k b s →
    (∀ j b s x, j < k + xs.length → x ∈ xs → St j b s → ∃ s1, pt (enc x) s = some s1 ∧ ((∃ b' s2, step b x = some b' ∧ body s1 = .nx s2 ∧ St (j + 1) b' s2) ∨ (step b x = none ∧ body s1 = .rt v T))) →
    (∃ b' s', xs.foldlM step b = some b' ∧ forL pt body (xs.map enc) s = .nx s' ∧ St (k + xs.length) b' s') ∨ (xs.foldlM step b = none ∧ forL pt body (xs.map enc) s = .rt v T)
  | [], k, b, s, p, _ => .inl ⟨b, s, rfl, rfl, p⟩
  | x :: xs, k, b, s, p, h => by
    obtain ⟨s1, e1, q⟩ := h k b s x (by simp) (by simp) p
    rw [List.map_cons, forL_eq, e1]
    dsimp only
    rcases q with ⟨b', s2, e2, e3, p2⟩ | ⟨e2, e3⟩
    · rw [e3]
      dsimp only
      have := for_opt xs (k + 1) b' s2 p2 fun j b s y hj hy => h j b s y (by rw [List.length_cons]; omega) (by simp [hy])
      rcases this with ⟨b2, s', h1, h2, h3⟩ | ⟨h1, h2⟩
      · exact .inl ⟨b2, s', by rw [List.foldlM_cons, e2]; exact h1, h2, by rw [List.length_cons]; rw [show k + (xs.length + 1) = k + 1 + xs.length by omega]; exact h3⟩
      · exact .inr ⟨by rw [List.foldlM_cons, e2]; exact h1, h2⟩
    · rw [e3]
      exact .inr ⟨by rw [List.foldlM_cons, e2]; rfl, rfl⟩
theorem st_augv {i : Nat} {p : D → D → Option D} {f : Mo Ref} {s s1 s2 : ES} {x y z : D} (h0 : s.σ[i]? = some (some (.val x))) (h1 : f s = .ok (.d y) s1) (hp : p x y = some z) (h2 : put i (.val z) s1 = s2) : sAug i p f s = .nx s2 := by
  unfold sAug sE
  rw [h0]
  dsimp only
  rw [h1]
  dsimp only [rd]
  rw [hp]
  dsimp only
  rw [h2]
def cs (ns : List Int) (s h : Int) (ms : List Int) (b : Int × Int) (k : Nat) : Option (Int × Int) :=
  if b.1 + (na ms k - na ns k) < 0 then none else some (b.1 + (na ms k - na ns k), b.2 + ((if 0 < na ms k then s else 0) + h * (b.1 + (na ms k - na ns k))))
def CO (ns : List Int) (s h : Int) (ms : List Int) : Option Int := ((List.range ns.length).foldlM (cs ns s h ms) (0, 0)).map (·.2)
def oI : Option Int → D
  | some c => I c
  | none => .none
structure MD (ns ms : List Int) : Prop where
  len : ms.length = ns.length
  lo : ∀ a ∈ ms, 0 ≤ a
  hi : ∀ a ∈ ms, a ≤ 10
theorem MD.at {ns ms : List Int} (M : MD ns ms) (k : Nat) : 0 ≤ na ms k ∧ na ms k ≤ 10 := by
  unfold na
  rcases Nat.lt_or_ge k ms.length with h | h
  · rw [List.getD_eq_getElem?_getD, List.getElem?_eq_getElem h]
    exact ⟨M.lo _ (List.getElem_mem h), M.hi _ (List.getElem_mem h)⟩
  · rw [List.getD_eq_getElem?_getD, List.getElem?_eq_none h]; decide
section
variable {ns : List Int} {s h : Int} (C : CT ns s h) {ms : List Int} (M : MD ns ms)
include C M
abbrev StC (ns : List Int) (s h : Int) (ms : List Int) (k : Nat) (b : Int × Int) : Prop := 0 ≤ b.1 ∧ b.1 ≤ 10 * k ∧ True
theorem f_cost_in : F_cost_in [Tu I ns, I s, I h, Tu I ms] = .ok (oI (CO ns s h ms)) := by
  have n1 := C.n1
  have n4 := C.n4
  unfold F_cost_in
  apply fn_ok (T := T0)
  · rfl
  unfold g_cost_in
  apply st_seq' (s1 := ⟨[vv (Tu I ns), vv (I s), vv (I h), vv (Tu I ms), vv (I 0), none, none, none], T0⟩)
  · exact st_setE' ev_c rfl
  apply st_seq' (s1 := ⟨[vv (Tu I ns), vv (I s), vv (I h), vv (Tu I ms), vv (I 0), vv (I 0), none, none], T0⟩)
  · exact st_setE' ev_c rfl
  have hz : iZip (aCons (eVar 0) (aCons (eVar 3) aNil)) (⟨[vv (Tu I ns), vv (I s), vv (I h), vv (Tu I ms), vv (I 0), vv (I 0), none, none], T0⟩ : ES) = .ok ((List.range ns.length).map fun k => P2 I I (na ns k, na ms k)) ⟨[vv (Tu I ns), vv (I s), vv (I h), vv (Tu I ms), vv (I 0), vv (I 0), none, none], T0⟩ := by
    rw [w_zip' (ev_cons (ev_var rfl) (ev_cons (ev_var rfl) ev_nil)) (du_cons (du_cons du_nil)) (seq_tu (f := I) (xs := ns)) (seq_tu (f := I) (xs := ms)), zip_range rfl M.len, List.map_map]
    rfl
  have key := for_opt (pt := pTup 2 (psCons (pName 6) (psCons (pName 7) psNil))) (body := (sSeq (sAug 4 iAdd (eBin dSub (eVar 7) (eVar 6)))
  (sSeq (sIf (fCmp dLt (eVar 4) (eC (.int 0))) (sRet (eC .none)) sNx)
  (sAug 5 iAdd (eBin dAdd (eIf (fCmp dGt (eVar 7) (eC (.int 0))) (eVar 1) (eC (.int 0))) (eBin dMul (eVar 2) (eVar 4))))))) (enc := fun k => P2 I I (na ns k, na ms k)) (step := cs ns s h ms) (v := .none) (T := T0)
    (St := fun k b z => (0 ≤ b.1 ∧ b.1 ≤ 10 * k) ∧ ∃ a6 a7, z = ⟨[vv (Tu I ns), vv (I s), vv (I h), vv (Tu I ms), vv (I b.1), vv (I b.2), a6, a7], T0⟩) (List.range ns.length) 0 (0, 0) ⟨[vv (Tu I ns), vv (I s), vv (I h), vv (Tu I ms), vv (I 0), vv (I 0), none, none], T0⟩ ⟨⟨by decide, by decide⟩, none, none, rfl⟩ (by
      rintro j b z k hj hk ⟨⟨b1, b2⟩, a6, a7, rfl⟩
      rw [List.length_range] at hj
      have m1 := M.at k
      have m2 := C.na0 k
      refine ⟨⟨[vv (Tu I ns), vv (I s), vv (I h), vv (Tu I ms), vv (I b.1), vv (I b.2), vv (I (na ns k)), vv (I (na ms k))], T0⟩, rfl, ?_⟩
      have a1 : sAug 4 iAdd (eBin dSub (eVar 7) (eVar 6)) (⟨[vv (Tu I ns), vv (I s), vv (I h), vv (Tu I ms), vv (I b.1), vv (I b.2), vv (I (na ns k)), vv (I (na ms k))], T0⟩ : ES) = .nx ⟨[vv (Tu I ns), vv (I s), vv (I h), vv (Tu I ms), vv (I (b.1 + (na ms k - na ns k))), vv (I b.2), vv (I (na ns k)), vv (I (na ms k))], T0⟩ := rfl
      have t1 : fCmp dLt (eVar 4) (eC (.int 0)) (⟨[vv (Tu I ns), vv (I s), vv (I h), vv (Tu I ms), vv (I (b.1 + (na ms k - na ns k))), vv (I b.2), vv (I (na ns k)), vv (I (na ms k))], T0⟩ : ES) = .ok (decide (b.1 + (na ms k - na ns k) < 0)) ⟨[vv (Tu I ns), vv (I s), vv (I h), vv (Tu I ms), vv (I (b.1 + (na ms k - na ns k))), vv (I b.2), vv (I (na ns k)), vv (I (na ms k))], T0⟩ := rfl
      have t2 : fCmp dGt (eVar 7) (eC (.int 0)) (⟨[vv (Tu I ns), vv (I s), vv (I h), vv (Tu I ms), vv (I (b.1 + (na ms k - na ns k))), vv (I b.2), vv (I (na ns k)), vv (I (na ms k))], T0⟩ : ES) = .ok (decide (0 < na ms k)) ⟨[vv (Tu I ns), vv (I s), vv (I h), vv (Tu I ms), vv (I (b.1 + (na ms k - na ns k))), vv (I b.2), vv (I (na ns k)), vv (I (na ms k))], T0⟩ := rfl
      unfold cs
      by_cases hn : b.1 + (na ms k - na ns k) < 0
      · right
        rw [decide_eq_true hn] at t1
        exact ⟨if_pos hn, by rw [st_seq a1]; exact st_seqR (by rw [st_ifT t1]; exact st_retE' ev_c rfl)⟩
      · left
        rw [decide_eq_false hn] at t1
        refine ⟨_, _, if_neg hn, ?_, ⟨⟨by show 0 ≤ b.1 + _; omega, by show b.1 + _ ≤ 10 * ((j + 1 : Nat) : Int); omega⟩, vv (I (na ns k)), vv (I (na ms k)), rfl⟩⟩
        rw [st_seq a1, st_seq (by rw [st_ifF t1]; rfl)]
        have e1 : eBin dAdd (eIf (fCmp dGt (eVar 7) (eC (.int 0))) (eVar 1) (eC (.int 0))) (eBin dMul (eVar 2) (eVar 4)) (⟨[vv (Tu I ns), vv (I s), vv (I h), vv (Tu I ms), vv (I (b.1 + (na ms k - na ns k))), vv (I b.2), vv (I (na ns k)), vv (I (na ms k))], T0⟩ : ES) = .ok (.d (I ((if 0 < na ms k then s else 0) + h * (b.1 + (na ms k - na ns k))))) ⟨[vv (Tu I ns), vv (I s), vv (I h), vv (Tu I ms), vv (I (b.1 + (na ms k - na ns k))), vv (I b.2), vv (I (na ns k)), vv (I (na ms k))], T0⟩ := by
          have mm := mul_h C (x := b.1 + (na ms k - na ns k)) (by omega)
          by_cases hp : 0 < na ms k
          · rw [if_pos hp]
            rw [decide_eq_true hp] at t2
            exact ev_bin (ev_ifT t2 (ev_var rfl)) (ev_bin (ev_var rfl) (ev_var rfl) mm) rfl
          · rw [if_neg hp]
            rw [decide_eq_false hp] at t2
            exact ev_bin (ev_ifF t2 ev_c) (ev_bin (ev_var rfl) (ev_var rfl) mm) rfl
        exact st_augv rfl e1 rfl rfl)
  rcases key with ⟨b', z, e1, e2, _, a6, a7, rfl⟩ | ⟨e1, e2⟩
  · have e : CO ns s h ms = some b'.2 := by unfold CO; rw [e1]; rfl
    rw [e]
    apply st_seq' (st_for' hz e2)
    exact st_retE' (ev_var rfl) rfl
  · have e : CO ns s h ms = none := by unfold CO; rw [e1]; rfl
    rw [e]
    exact st_seqR (st_for' hz e2)
theorem f_lcost : F_u_law_cost [Tu I ns, I s, I h, Tu I ms] = .ok (oI (CO ns s h ms)) := by
  have n1 := C.n1
  have n4 := C.n4
  unfold F_u_law_cost
  apply fn_ok (T := T0)
  · rfl
  unfold g_u_law_cost
  apply st_seq' (s1 := ⟨[vv (Tu I ns), vv (I s), vv (I h), vv (Tu I ms), vv (I 0), none, none], T0⟩)
  · exact st_setE' ev_c rfl
  apply st_seq' (s1 := ⟨[vv (Tu I ns), vv (I s), vv (I h), vv (Tu I ms), vv (I 0), vv (I 0), none], T0⟩)
  · exact st_setE' ev_c rfl
  have hz : iR1 (eUn dLen (eVar 0)) (⟨[vv (Tu I ns), vv (I s), vv (I h), vv (Tu I ms), vv (I 0), vv (I 0), none], T0⟩ : ES) = .ok ((List.range ns.length).map Nn) ⟨[vv (Tu I ns), vv (I s), vv (I h), vv (Tu I ms), vv (I 0), vv (I 0), none], T0⟩ := w_r1 (ev_un (ev_var rfl) len_tu) (by omega)
  have key := for_opt (pt := pName 6) (body := (sSeq (sSet 4 (eBin dSub (eBin dAdd (eVar 4) (eBin dIx (eVar 3) (eVar 6))) (eBin dIx (eVar 0) (eVar 6))))
  (sSeq (sIf (fCmp dLt (eVar 4) (eC (.int 0))) (sRet (eC .none)) sNx)
  (sSet 5 (eBin dAdd (eBin dAdd (eVar 5) (eIf (fCmp dGt (eBin dIx (eVar 3) (eVar 6)) (eC (.int 0))) (eVar 1) (eC (.int 0)))) (eBin dMul (eVar 2) (eVar 4))))))) (enc := Nn) (step := cs ns s h ms) (v := .none) (T := T0)
    (St := fun k b z => (0 ≤ b.1 ∧ b.1 ≤ 10 * k) ∧ ∃ a6, z = ⟨[vv (Tu I ns), vv (I s), vv (I h), vv (Tu I ms), vv (I b.1), vv (I b.2), a6], T0⟩) (List.range ns.length) 0 (0, 0) ⟨[vv (Tu I ns), vv (I s), vv (I h), vv (Tu I ms), vv (I 0), vv (I 0), none], T0⟩ ⟨⟨by decide, by decide⟩, none, rfl⟩ (by
      rintro j b z k hj hk ⟨⟨b1, b2⟩, a6, rfl⟩
      rw [List.length_range] at hj
      have hk := List.mem_range.mp hk
      have m1 := M.at k
      have m2 := C.na0 k
      have ml := M.len
      refine ⟨⟨[vv (Tu I ns), vv (I s), vv (I h), vv (Tu I ms), vv (I b.1), vv (I b.2), vv (Nn k)], T0⟩, rfl, ?_⟩
      have a1 : sSet 4 (eBin dSub (eBin dAdd (eVar 4) (eBin dIx (eVar 3) (eVar 6))) (eBin dIx (eVar 0) (eVar 6))) (⟨[vv (Tu I ns), vv (I s), vv (I h), vv (Tu I ms), vv (I b.1), vv (I b.2), vv (Nn k)], T0⟩ : ES) = .nx ⟨[vv (Tu I ns), vv (I s), vv (I h), vv (Tu I ms), vv (I (b.1 + (na ms k - na ns k))), vv (I b.2), vv (Nn k)], T0⟩ :=
        st_setE' (ev_bin (ev_bin (ev_var rfl) (ev_bin (ev_var rfl) (ev_var rfl) (ix_tu' (by omega))) rfl) (ev_bin (ev_var rfl) (ev_var rfl) (ix_tu' (by omega))) rfl) (by rw [← Int.add_sub_assoc]; rfl)
      have t1 : fCmp dLt (eVar 4) (eC (.int 0)) (⟨[vv (Tu I ns), vv (I s), vv (I h), vv (Tu I ms), vv (I (b.1 + (na ms k - na ns k))), vv (I b.2), vv (Nn k)], T0⟩ : ES) = .ok (decide (b.1 + (na ms k - na ns k) < 0)) ⟨[vv (Tu I ns), vv (I s), vv (I h), vv (Tu I ms), vv (I (b.1 + (na ms k - na ns k))), vv (I b.2), vv (Nn k)], T0⟩ := rfl
      have t2 : fCmp dGt (eBin dIx (eVar 3) (eVar 6)) (eC (.int 0)) (⟨[vv (Tu I ns), vv (I s), vv (I h), vv (Tu I ms), vv (I (b.1 + (na ms k - na ns k))), vv (I b.2), vv (Nn k)], T0⟩ : ES) = .ok (decide (0 < na ms k)) ⟨[vv (Tu I ns), vv (I s), vv (I h), vv (Tu I ms), vv (I (b.1 + (na ms k - na ns k))), vv (I b.2), vv (Nn k)], T0⟩ := te_cmp (ev_bin (ev_var rfl) (ev_var rfl) (ix_tu' (by omega))) ev_c gt_ii
      unfold cs
      by_cases hn : b.1 + (na ms k - na ns k) < 0
      · right
        rw [decide_eq_true hn] at t1
        exact ⟨if_pos hn, by rw [st_seq a1]; exact st_seqR (by rw [st_ifT t1]; exact st_retE' ev_c rfl)⟩
      · left
        rw [decide_eq_false hn] at t1
        refine ⟨_, _, if_neg hn, ?_, ⟨⟨by show 0 ≤ b.1 + _; omega, by show b.1 + _ ≤ 10 * ((j + 1 : Nat) : Int); omega⟩, vv (Nn k), rfl⟩⟩
        rw [st_seq a1, st_seq (by rw [st_ifF t1]; rfl)]
        have mm := mul_h C (x := b.1 + (na ms k - na ns k)) (by omega)
        refine st_setE' (s1 := ⟨[vv (Tu I ns), vv (I s), vv (I h), vv (Tu I ms), vv (I (b.1 + (na ms k - na ns k))), vv (I b.2), vv (Nn k)], T0⟩) (d := I (b.2 + ((if 0 < na ms k then s else 0) + h * (b.1 + (na ms k - na ns k))))) ?_ rfl
        rw [← Int.add_assoc]
        by_cases hp : 0 < na ms k
        · rw [if_pos hp]
          rw [decide_eq_true hp] at t2
          exact ev_bin (ev_bin (ev_var rfl) (ev_ifT t2 (ev_var rfl)) rfl) (ev_bin (ev_var rfl) (ev_var rfl) mm) rfl
        · rw [if_neg hp]
          rw [decide_eq_false hp] at t2
          exact ev_bin (ev_bin (ev_var rfl) (ev_ifF t2 ev_c) rfl) (ev_bin (ev_var rfl) (ev_var rfl) mm) rfl)
  rcases key with ⟨b', z, e1, e2, _, a6, rfl⟩ | ⟨e1, e2⟩
  · have e : CO ns s h ms = some b'.2 := by unfold CO; rw [e1]; rfl
    rw [e]
    apply st_seq' (st_for' hz e2)
    exact st_retE' (ev_var rfl) rfl
  · have e : CO ns s h ms = none := by unfold CO; rw [e1]; rfl
    rw [e]
    exact st_seqR (st_for' hz e2)
theorem f_cost : F_cost [Tu I ns, I s, I h, Tu I ms] = .ok (oI (CO ns s h ms)) := by
  have n1 := C.n1
  have hne : ms ≠ [] := by intro e; have := M.len; rw [e] at this; simp at this; omega
  unfold F_cost
  apply fn_ok (T := T0)
  · rfl
  unfold g_cost
  apply st_seq'
  · exact st_expr (ev_call (ev_cons (ev_var rfl) (ev_cons (ev_var rfl) (ev_cons (ev_var rfl) (ev_cons ev_c ev_nil)))) (du_cons (du_cons (du_cons (du_cons du_nil)))) (f_check C (by decide)))
  apply st_seq'
  · refine st_no (k := false || false) (te_or (te_cmp (ev_un (ev_var rfl) len_tu) (ev_un (ev_var rfl) len_tu) (ne_nn M.len)) fun _ => te_cmp (ev_un (ev_var rfl) (min_tu enc_I lt_I hne)) ev_c ?_) rfl
    have := M.lo _ (lst_mem (lf := fun a b => decide (a < b)) hne)
    show some (PyData.bool (decide (_ < (0 : Int)))) = _
    rw [decide_eq_false (by omega)]
  exact st_retE' (ev_call (ev_cons (ev_var rfl) (ev_cons (ev_var rfl) (ev_cons (ev_var rfl) (ev_cons (ev_var rfl) ev_nil)))) (du_cons (du_cons (du_cons (du_cons du_nil)))) (f_cost_in C M)) rfl
end
end k57_whole_lots
set_option Elab.async false
set_option linter.all false
set_option maxRecDepth 100000
set_option maxHeartbeats 0
namespace k57_whole_lots
open PySem L2 Ev
abbrev Td (ns : List Int) (s h : Int) (d : Nat) : Int := rv (TT ns s h ns.length) d
theorem TT_at {ns : List Int} {s h : Int} (m : Nat) : ∀ d, rv (TT ns s h (m + d)) d = rv (TT ns s h m) 0
  | 0 => rfl
  | d + 1 => by
    rw [show m + (d + 1) = (m + d) + 1 by omega, TT_succ]
    show rv (TT ns s h (m + d)) d = _
    exact TT_at m d
section
variable {ns : List Int} {s h : Int}
theorem Td_n : Td ns s h ns.length = 0 := by
  have := TT_at (ns := ns) (s := s) (h := h) 0 ns.length
  rw [Nat.zero_add] at this
  exact this
theorem Td_k {d : Nat} (hd : d ≤ ns.length) : Td ns s h d = rv (TT ns s h (ns.length - d)) 0 := by
  have := TT_at (ns := ns) (s := s) (h := h) (ns.length - d) d
  rw [Nat.sub_add_cancel hd] at this
  exact this
theorem Td_lst {d : Nat} (hd : d < ns.length) : Td ns s h d = lst ltI ((List.range (ns.length - d)).map (fun j => Rc ns s h d (j + 1) + Td ns s h (d + 1 + j)) ++ (if na ns d = 0 then [Td ns s h (d + 1)] else [])) := by
  obtain ⟨k, hk⟩ : ∃ k, ns.length - d = k + 1 := ⟨ns.length - d - 1, by omega⟩
  rw [Td_k (Nat.le_of_lt hd), hk, TT_succ, show ns.length - 1 - k = d by omega]
  show lst ltI (ops ns s h d (TT ns s h k) (k + 1)) = _
  unfold ops
  have e : ∀ j, j ≤ k → (TT ns s h k).getD j default = Td ns s h (d + 1 + j) := fun j hj => by
    rw [Td_k (by omega), show ns.length - (d + 1 + j) = k - j by omega]
    have := TT_at (ns := ns) (s := s) (h := h) (k - j) j
    rw [Nat.sub_add_cancel hj] at this
    exact this
  rw [e 0 (Nat.zero_le _)]
  congr 2
  refine List.map_congr_left fun j hj => ?_
  rw [e j (by have := List.mem_range.mp hj; omega)]
theorem Td_run {d j : Nat} (h1 : d + 1 + j ≤ ns.length) : Td ns s h d ≤ Rc ns s h d (j + 1) + Td ns s h (d + 1 + j) := by
  rw [Td_lst (by omega)]
  refine lst_le _ ?_
  rw [List.mem_append]
  exact .inl (List.mem_map.mpr ⟨j, List.mem_range.mpr (by omega), rfl⟩)
theorem Td_skip {d : Nat} (hd : d < ns.length) (hz : na ns d = 0) : Td ns s h d ≤ Td ns s h (d + 1) := by
  rw [Td_lst hd]
  refine lst_le _ ?_
  rw [List.mem_append, if_pos hz]
  exact .inr (List.mem_singleton.mpr rfl)
theorem Td_or {d : Nat} (hd : d < ns.length) : (∃ j, d + 1 + j ≤ ns.length ∧ Td ns s h d = Rc ns s h d (j + 1) + Td ns s h (d + 1 + j)) ∨ (na ns d = 0 ∧ Td ns s h d = Td ns s h (d + 1)) := by
  have := lst_mem (lf := ltI) (xs := (List.range (ns.length - d)).map (fun j => Rc ns s h d (j + 1) + Td ns s h (d + 1 + j)) ++ (if na ns d = 0 then [Td ns s h (d + 1)] else [])) (by
    intro e
    have := congrArg List.length e
    simp at this
    omega)
  rw [← Td_lst hd, List.mem_append] at this
  rcases this with h1 | h1
  · obtain ⟨j, hj, e⟩ := List.mem_map.mp h1
    have := List.mem_range.mp hj
    exact .inl ⟨j, by omega, e.symm⟩
  · split at h1
    · rename_i hz
      exact .inr ⟨hz, List.mem_singleton.mp h1⟩
    · cases h1
theorem RT_le {r : List Int} (hr : RT ns s h r = true) : ∀ m d, d + m = ns.length → rv r d ≤ Td ns s h d := by
  unfold RT at hr
  rw [Bool.and_eq_true, Bool.not_eq_true', Bool.not_eq_true', decide_eq_false_iff_not, List.any_eq_false] at hr
  intro m
  induction m using Nat.strongRecOn with
  | ind m ih =>
    intro d hd
    cases m with
    | zero =>
      have e : d = ns.length := by omega
      subst e
      rw [Td_n]; have := hr.1; omega
    | succ m =>
      have hb := hr.2 d (List.mem_range.mpr (by omega))
      unfold bad bad1 bad2 at hb
      rw [Bool.not_eq_true, Bool.or_eq_false_iff, Bool.and_eq_false_iff, decide_eq_false_iff_not, decide_eq_false_iff_not, List.any_eq_false] at hb
      rcases Td_or (ns := ns) (s := s) (h := h) (d := d) (by omega) with ⟨j, hj, e⟩ | ⟨hz, e⟩
      · have h1 := hb.2 j (List.mem_range.mpr (by omega))
        rw [decide_eq_true_iff] at h1
        have h2 := ih (m - j) (by omega) (d + 1 + j) (by omega)
        omega
      · have h2 := ih m (by omega) (d + 1) (by omega)
        rcases hb.1 with h1 | h1
        · exact absurd hz h1
        · omega
theorem RT_self : RT ns s h (TT ns s h ns.length) = true := by
  unfold RT
  rw [Bool.and_eq_true, Bool.not_eq_true', Bool.not_eq_true', decide_eq_false_iff_not, List.any_eq_false]
  refine ⟨by have : rv (TT ns s h ns.length) ns.length = 0 := Td_n; omega, fun d hd => ?_⟩
  have hd := List.mem_range.mp hd
  unfold bad bad1 bad2
  rw [Bool.not_eq_true, Bool.or_eq_false_iff, Bool.and_eq_false_iff, decide_eq_false_iff_not, decide_eq_false_iff_not, List.any_eq_false]
  refine ⟨?_, fun j hj => ?_⟩
  · by_cases hz : na ns d = 0
    · have : rv (TT ns s h ns.length) d ≤ rv (TT ns s h ns.length) (d + 1) := Td_skip (s := s) (h := h) hd hz
      right; omega
    · exact .inl hz
  · have hj := List.mem_range.mp hj
    have : rv (TT ns s h ns.length) d ≤ Rc ns s h d (j + 1) + rv (TT ns s h ns.length) (d + 1 + j) := Td_run (ns := ns) (s := s) (h := h) (d := d) (j := j) (by omega)
    rw [decide_eq_true_iff]
    omega
/-! ### sums of needs -/
def Sm (ns : List Int) : Nat → Nat → Int
  | d, 0 => 0
  | d, j + 1 => na ns d + Sm ns (d + 1) j
def Rr (ns : List Int) (h : Int) : Nat → Nat → Int → Int
  | d, 0, o => 0
  | d, j + 1, o => h * o * na ns d + Rr ns h (d + 1) j (o + 1)
def Hs (ns : List Int) (h : Int) : Nat → Nat → Int → Int
  | d, 0, l => 0
  | d, j + 1, l => h * (l - na ns d) + Hs ns h (d + 1) j (l - na ns d)
def Zs (ns : List Int) (h : Int) : Nat → Nat → Int
  | d, 0 => 0
  | d, j + 1 => h * Sm ns (d + 1) j + Zs ns h (d + 1) j
theorem Rr_sum : ∀ (m d : Nat) (o : Int), ((List.range m).map fun i : Nat => h * ((i : Int) + o) * na ns (d + i)).sum = Rr ns h d m o
  | 0, d, o => rfl
  | m + 1, d, o => by
    rw [List.range_succ_eq_map, List.map_cons, List.sum_cons, List.map_map]
    unfold Rr
    rw [← Rr_sum m (d + 1) (o + 1)]
    congr 1
    · rw [show ((0 : Nat) : Int) + o = o by omega]; rfl
    · congr 1
      refine List.map_congr_left fun i _ => ?_
      show h * (((i + 1 : Nat) : Int) + o) * na ns (d + (i + 1)) = h * ((i : Int) + (o + 1)) * na ns (d + 1 + i)
      rw [show ((i + 1 : Nat) : Int) + o = (i : Int) + (o + 1) by omega, show d + (i + 1) = d + 1 + i by omega]
theorem Rc_eq {d m : Nat} : Rc ns s h d m = s + Rr ns h d m 0 := by
  unfold Rc
  rw [← Rr_sum]
  congr 2
theorem Rr_up : ∀ (m d : Nat) (o : Int), Rr ns h d m (o + 1) = Rr ns h d m o + h * Sm ns d m
  | 0, d, o => by simp [Rr, Sm]
  | m + 1, d, o => by
    unfold Rr Sm
    rw [Rr_up m (d + 1) (o + 1)]
    grind
theorem Rc_succ {d m : Nat} : Rc ns s h d (m + 1) = s + Rr ns h (d + 1) m 1 := by
  rw [Rc_eq]
  show s + (h * 0 * na ns d + Rr ns h (d + 1) m (0 + 1)) = _
  rw [Int.mul_zero, Int.zero_mul, Int.zero_add]; try rfl
theorem ZR : ∀ (m a : Nat), h * Sm ns a m + Zs ns h a m = Rr ns h a m 1
  | 0, a => by simp [Zs, Sm, Rr]
  | m + 1, a => by
    have h1 := ZR m (a + 1)
    have h2 := Rr_up (ns := ns) (h := h) m (a + 1) 1
    show h * (na ns a + Sm ns (a + 1) m) + (h * Sm ns (a + 1) m + Zs ns h (a + 1) m) = h * 1 * na ns a + Rr ns h (a + 1) m (1 + 1)
    rw [h2]
    grind
end
section
variable {ns : List Int} {s h : Int} (C : CT ns s h)
include C
theorem Sm_pos : ∀ (m d : Nat), 0 ≤ Sm ns d m
  | 0, d => by simp [Sm]
  | m + 1, d => by have := Sm_pos m (d + 1); have := C.na0 d; show 0 ≤ na ns d + Sm ns (d + 1) m; omega
theorem hmul {x y : Int} (hxy : x ≤ y) : h * x ≤ h * y := Int.mul_le_mul_of_nonneg_left hxy C.h0
theorem hpos {x : Int} (hx : 0 ≤ x) : 0 ≤ h * x := Int.mul_nonneg C.h0 hx
theorem Rr_pos : ∀ (m d : Nat) (o : Int), 0 ≤ o → 0 ≤ Rr ns h d m o
  | 0, d, o, _ => by simp [Rr]
  | m + 1, d, o, ho => by
    have h1 := Rr_pos m (d + 1) (o + 1) (by omega)
    have h2 := Int.mul_nonneg (hpos C ho) (C.na0 d).1
    show 0 ≤ h * o * na ns d + Rr ns h (d + 1) m (o + 1)
    omega
theorem Hs_pos : ∀ (j d : Nat) (l : Int), Sm ns d j ≤ l → 0 ≤ Hs ns h d j l
  | 0, d, l, _ => by simp [Hs]
  | j + 1, d, l, hl => by
    have hl : na ns d + Sm ns (d + 1) j ≤ l := hl
    have h1 := Hs_pos j (d + 1) (l - na ns d) (by omega)
    have h2 := hpos C (x := l - na ns d) (by have := Sm_pos C j (d + 1); omega)
    show 0 ≤ h * (l - na ns d) + Hs ns h (d + 1) j (l - na ns d)
    omega
theorem Hs_Rr : ∀ (j d : Nat) (l : Int), Sm ns d j ≤ l → Rr ns h d j 1 ≤ h * l + Hs ns h d j l
  | 0, d, l, hl => by
    have := hpos C (x := l) hl
    simp only [Rr, Hs]; omega
  | j + 1, d, l, hl => by
    have hl : na ns d + Sm ns (d + 1) j ≤ l := hl
    have h1 := Hs_Rr j (d + 1) (l - na ns d) (by omega)
    have h2 := Rr_up (ns := ns) (h := h) j (d + 1) 1
    have h3 := hmul C hl
    rw [Int.mul_add] at h3
    show h * 1 * na ns d + Rr ns h (d + 1) j (1 + 1) ≤ h * l + (h * (l - na ns d) + Hs ns h (d + 1) j (l - na ns d))
    rw [h2, Int.mul_one]
    omega
theorem Td_zero : ∀ (j d : Nat), d + j ≤ ns.length → Sm ns d j ≤ 0 → Td ns s h d ≤ Td ns s h (d + j)
  | 0, d, _, _ => Int.le_refl _
  | j + 1, d, hd, hs => by
    have hs : na ns d + Sm ns (d + 1) j ≤ 0 := hs
    have h1 := Sm_pos C j (d + 1)
    have h2 := C.na0 d
    have h3 := Td_skip (ns := ns) (s := s) (h := h) (d := d) (by omega) (by omega)
    have h4 := Td_zero j (d + 1) (by omega) (by omega)
    rw [show d + (j + 1) = d + 1 + j by omega]
    omega
/-- no way costs less -/
theorem cs_low {ms : List Int} (M : ∀ k, 0 ≤ na ms k) : ∀ (m d : Nat) (l p l' c : Int), d + m = ns.length → 0 ≤ l → (List.range' d m).foldlM (cs ns s h ms) (l, p) = some (l', c) → ∃ j, j ≤ m ∧ Sm ns d j ≤ l ∧ p + Hs ns h d j l + Td ns s h (d + j) ≤ c
  | 0, d, l, p, l', c, hd, hl, e => by
    have e : some (l, p) = some (l', c) := e
    cases e
    refine ⟨0, Nat.le_refl _, hl, ?_⟩
    rw [Nat.add_zero] at hd ⊢
    rw [hd, Td_n]
    simp [Hs]
  | m + 1, d, l, p, l', c, hd, hl, e => by
    rw [List.range'_succ, List.foldlM_cons] at e
    unfold cs at e
    dsimp only at e
    by_cases hn : l + (na ms d - na ns d) < 0
    · rw [if_pos hn] at e; cases e
    rw [if_neg hn] at e
    obtain ⟨j, h1, h2, h3⟩ := cs_low M m (d + 1) _ _ l' c (by omega) (by omega) e
    have hm := M d
    by_cases hp : 0 < na ms d
    · rw [if_pos hp] at h3
      refine ⟨0, Nat.zero_le _, hl, ?_⟩
      have t := Td_run (ns := ns) (s := s) (h := h) (d := d) (j := j) (by omega)
      have q := Hs_Rr C j (d + 1) _ h2
      rw [Rc_succ] at t
      show p + 0 + Td ns s h d ≤ c
      omega
    · rw [if_neg hp] at h3
      have e0 : l + (na ms d - na ns d) = l - na ns d := by omega
      rw [e0] at h2 h3
      refine ⟨j + 1, by omega, ?_, ?_⟩
      · show na ns d + Sm ns (d + 1) j ≤ l
        omega
      · show p + (h * (l - na ns d) + Hs ns h (d + 1) j (l - na ns d)) + Td ns s h (d + (j + 1)) ≤ c
        rw [show d + (j + 1) = d + 1 + j by omega]
        omega
theorem CO_low {ms : List Int} (M : ∀ k, 0 ≤ na ms k) {c : Int} (e : CO ns s h ms = some c) : Td ns s h 0 ≤ c := by
  unfold CO at e
  rw [Option.map_eq_some_iff] at e
  obtain ⟨⟨l', c'⟩, e1, e2⟩ := e
  cases e2
  rw [List.range_eq_range'] at e1
  obtain ⟨j, h1, h2, h3⟩ := cs_low C M ns.length 0 0 0 l' c' (by omega) (Int.le_refl _) e1
  have h4 := Hs_pos C j 0 0 h2
  have h5 := Td_zero C j 0 (by omega) h2
  show Td ns s h 0 ≤ c'
  omega
end
end k57_whole_lots
set_option Elab.async false
set_option linter.all false
set_option maxRecDepth 100000
set_option maxHeartbeats 0
namespace k57_whole_lots
open PySem L2 Ev
/-- no run begins here -/
def cN (ns : List Int) (s h : Int) (d : Nat) : Bool := decide (na ns d = 0) && decide (Td ns s h d = Td ns s h (d + 1))
def hit (ns : List Int) (s h : Int) (d j : Nat) : Bool := decide (Rc ns s h d (j + 1) + Td ns s h (d + 1 + j) = Td ns s h d)
def jx (ns : List Int) (s h : Int) (d : Nat) : Nat := ((List.range (ns.length - d)).find? (hit ns s h d)).getD 0
def pl (ns : List Int) (s h : Int) : Nat → Nat → List Int
  | 0, d => []
  | f + 1, d => if d < ns.length then (if cN ns s h d then 0 :: pl ns s h f (d + 1) else Sm ns d (jx ns s h d + 1) :: (List.replicate (jx ns s h d) 0 ++ pl ns s h f (d + 1 + jx ns s h d))) else []
section
variable {ns : List Int} {s h : Int}
theorem jx_some {d : Nat} (hd : d < ns.length) (hc : cN ns s h d = false) : ∃ j, (List.range (ns.length - d)).find? (hit ns s h d) = some j := by
  cases e : (List.range (ns.length - d)).find? (hit ns s h d) with
  | some j => exact ⟨j, rfl⟩
  | none =>
    exfalso
    have hn := List.find?_eq_none.mp e
    rcases Td_or (ns := ns) (s := s) (h := h) hd with ⟨j, hj, e1⟩ | ⟨hz, e1⟩
    · exact hn j (List.mem_range.mpr (by omega)) (decide_eq_true e1.symm)
    · unfold cN at hc
      rw [decide_eq_true hz, decide_eq_true e1] at hc
      cases hc
theorem jx_at {d : Nat} (hd : d < ns.length) (hc : cN ns s h d = false) : (List.range (ns.length - d)).find? (hit ns s h d) = some (jx ns s h d) ∧ d + 1 + jx ns s h d ≤ ns.length ∧ Rc ns s h d (jx ns s h d + 1) + Td ns s h (d + 1 + jx ns s h d) = Td ns s h d := by
  obtain ⟨j, e⟩ := jx_some hd hc
  have e2 : jx ns s h d = j := by unfold jx; rw [e]; rfl
  rw [e2]
  have h1 := List.mem_of_find?_eq_some e
  have h1 := List.mem_range.mp h1
  have h2 := List.find?_some e
  exact ⟨e, by omega, of_decide_eq_true h2⟩
theorem pl_len : ∀ (f d : Nat), d ≤ ns.length → ns.length - d ≤ f → (pl ns s h f d).length = ns.length - d
  | 0, d, hd, hf => by
    show ([] : List Int).length = _
    simp; omega
  | f + 1, d, hd, hf => by
    unfold pl
    by_cases hl : d < ns.length
    · rw [if_pos hl]
      cases hc : cN ns s h d with
      | true =>
        rw [if_pos rfl, List.length_cons, pl_len f (d + 1) (by omega) (by omega)]; omega
      | false =>
        obtain ⟨_, h1, _⟩ := jx_at hl hc
        rw [if_neg (by simp), List.length_cons, List.length_append, List.length_replicate, pl_len f _ (by omega) (by omega)]; omega
    · rw [if_neg hl]; simp; omega
theorem na_drop {ms : List Int} {d i : Nat} {x : Int} {r : List Int} (e : ms.drop d = x :: r) : na ms d = x ∧ ms.drop (d + 1) = r := by
  have h1 : ms[d]? = some x := by
    have := List.getElem?_drop (xs := ms) (i := d) (j := 0)
    rw [e] at this
    simpa using this.symm
  refine ⟨by unfold na; rw [List.getD_eq_getElem?_getD, h1]; rfl, ?_⟩
  rw [← List.drop_drop, e]; rfl
end
section
variable {ns : List Int} {s h : Int} (C : CT ns s h)
include C
theorem Sm_zero : ∀ (j d : Nat), Sm ns d j ≤ 0 → Sm ns d j = 0 := fun j d hj => by have := Sm_pos C j d; omega
theorem zeros_cs {ms : List Int} : ∀ (j a : Nat) (p : Int), (∀ i, i < j → na ms (a + i) = 0) → (List.range' a j).foldlM (cs ns s h ms) (Sm ns a j, p) = some (0, p + Zs ns h a j)
  | 0, a, p, _ => by show some (Sm ns a 0, p) = _; simp [Sm, Zs]
  | j + 1, a, p, hz => by
    have h0 := hz 0 (by omega)
    rw [Nat.add_zero] at h0
    rw [List.range'_succ, List.foldlM_cons]
    have e : cs ns s h ms (Sm ns a (j + 1), p) a = some (Sm ns (a + 1) j, p + h * Sm ns (a + 1) j) := by
      unfold cs
      dsimp only
      have e1 : Sm ns a (j + 1) + (na ms a - na ns a) = Sm ns (a + 1) j := by
        show na ns a + Sm ns (a + 1) j + (na ms a - na ns a) = _
        omega
      rw [e1, h0, if_neg (by have := Sm_pos C j (a + 1); omega), if_neg (by omega), Int.zero_add]
    rw [e]
    show (List.range' (a + 1) j).foldlM (cs ns s h ms) (Sm ns (a + 1) j, p + h * Sm ns (a + 1) j) = _
    rw [zeros_cs j (a + 1) _ fun i hi => by rw [show a + 1 + i = a + (i + 1) by omega]; exact hz (i + 1) (by omega)]
    show some (0, p + h * Sm ns (a + 1) j + Zs ns h (a + 1) j) = some (0, p + (h * Sm ns (a + 1) j + Zs ns h (a + 1) j))
    rw [Int.add_assoc]
theorem Sm_run_pos {d : Nat} (hd : d < ns.length) (hc : cN ns s h d = false) : 0 < Sm ns d (jx ns s h d + 1) := by
  obtain ⟨_, h1, h2⟩ := jx_at hd hc
  have h3 := Sm_pos C (jx ns s h d + 1) d
  rcases Int.lt_or_le 0 (Sm ns d (jx ns s h d + 1)) with h4 | h4
  · exact h4
  exfalso
  have h5 : na ns d + Sm ns (d + 1) (jx ns s h d) ≤ 0 := h4
  have h6 := Sm_pos C (jx ns s h d) (d + 1)
  have h7 := C.na0 d
  have h8 := Td_skip (ns := ns) (s := s) (h := h) hd (by omega)
  have h9 := Td_zero C (s := s) (h := h) (jx ns s h d) (d + 1) h1 (by omega)
  have h10 := Rr_pos C (jx ns s h d) (d + 1) 1 (by decide)
  have h11 := C.s0
  rw [Rc_succ] at h2
  unfold cN at hc
  rw [decide_eq_true (by omega : na ns d = 0), decide_eq_true (by omega : Td ns s h d = Td ns s h (d + 1))] at hc
  cases hc
theorem plan_cs {ms : List Int} : ∀ (f d : Nat) (p : Int), d ≤ ns.length → ns.length - d ≤ f → ms.drop d = pl ns s h f d → (List.range' d (ns.length - d)).foldlM (cs ns s h ms) (0, p) = some (0, p + Td ns s h d)
  | 0, d, p, hd, hf, e => by
    have : d = ns.length := by omega
    subst this
    rw [Nat.sub_self, Td_n, Int.add_zero]
    rfl
  | f + 1, d, p, hd, hf, e => by
    by_cases hl : d < ns.length
    · rw [show ns.length - d = (ns.length - (d + 1)) + 1 by omega, List.range'_succ, List.foldlM_cons]
      unfold pl at e
      rw [if_pos hl] at e
      cases hc : cN ns s h d with
      | true =>
        rw [hc, if_pos rfl] at e
        obtain ⟨m1, m2⟩ := na_drop (i := 0) e
        unfold cN at hc
        rw [Bool.and_eq_true, decide_eq_true_iff, decide_eq_true_iff] at hc
        have e2 : cs ns s h ms (0, p) d = some (0, p) := by
          unfold cs
          dsimp only
          rw [m1, hc.1]
          simp
        rw [e2]
        show (List.range' (d + 1) (ns.length - (d + 1))).foldlM (cs ns s h ms) (0, p) = _
        rw [plan_cs f (d + 1) p (by omega) (by omega) m2, hc.2]
      | false =>
        rw [hc, if_neg (by simp)] at e
        obtain ⟨m1, m2⟩ := na_drop (i := 0) e
        obtain ⟨_, h1, h2⟩ := jx_at hl hc
        have hp := Sm_run_pos C hl hc
        generalize jx ns s h d = j at *
        have m3 : ∀ i, i < j → na ms (d + 1 + i) = 0 := fun i hi => by
          unfold na
          have := List.getElem?_drop (xs := ms) (i := d + 1) (j := i)
          rw [m2, List.getElem?_append_left (by simpa using hi), List.getElem?_replicate, if_pos hi] at this
          rw [List.getD_eq_getElem?_getD, ← this]; rfl
        have m4 : ms.drop (d + 1 + j) = pl ns s h f (d + 1 + j) := by
          rw [← List.drop_drop, m2, List.drop_append_of_le_length (by simp)]
          simp
        have e2 : cs ns s h ms (0, p) d = some (Sm ns (d + 1) j, p + (s + h * Sm ns (d + 1) j)) := by
          unfold cs
          dsimp only
          have e1 : 0 + (na ms d - na ns d) = Sm ns (d + 1) j := by
            rw [m1]
            show 0 + (na ns d + Sm ns (d + 1) j - na ns d) = _
            omega
          rw [e1, if_neg (by have := Sm_pos C j (d + 1); omega), m1, if_pos hp]
        rw [e2]
        show (List.range' (d + 1) (ns.length - (d + 1))).foldlM (cs ns s h ms) (Sm ns (d + 1) j, p + (s + h * Sm ns (d + 1) j)) = _
        rw [show ns.length - (d + 1) = j + (ns.length - (d + 1 + j)) by omega, ← List.range'_append_1, List.foldlM_append, zeros_cs C j (d + 1) _ m3]
        show (List.range' (d + 1 + j) (ns.length - (d + 1 + j))).foldlM (cs ns s h ms) (0, _) = _
        rw [plan_cs f (d + 1 + j) _ h1 (by omega) m4, ← h2, Rc_succ, ← ZR]
        congr 2
        omega
    · have : d = ns.length := by omega
      subst this
      rw [Nat.sub_self, Td_n, Int.add_zero]
      rfl
theorem plan_cost : CO ns s h (pl ns s h ns.length 0) = some (Td ns s h 0) := by
  unfold CO
  rw [List.range_eq_range']
  have := plan_cs C (ms := pl ns s h ns.length 0) ns.length 0 0 (Nat.zero_le _) (by omega) rfl
  rw [Nat.sub_zero, Int.zero_add] at this
  rw [this]; rfl
end
end k57_whole_lots
set_option Elab.async false
set_option linter.all false
set_option maxRecDepth 100000
set_option maxHeartbeats 0
namespace k57_whole_lots
open PySem L2 Ev
theorem for_bk {α : Type} {pt : Pat} {body : ES → SR} {enc : α → D} {t : α → Bool} {P : ES → Prop} {Q : α → ES → Prop} : ∀ (xs : List α) (s : ES), P s → (∀ s x, x ∈ xs → P s → ∃ s1, pt (enc x) s = some s1 ∧ ((t x = true ∧ ∃ s2, body s1 = .bk s2 ∧ Q x s2) ∨ (t x = false ∧ ∃ s2, body s1 = .nx s2 ∧ P s2))) → ∀ x, xs.find? t = some x → ∃ s', forL pt body (xs.map enc) s = .nx s' ∧ Q x s'
  | [], s, p, h, x, e => by cases e
  | y :: xs, s, p, h, x, e => by
    obtain ⟨s1, e1, q⟩ := h s y (by simp) p
    rw [List.map_cons, forL_eq, e1]
    dsimp only
    rcases q with ⟨ht, s2, e2, q2⟩ | ⟨ht, s2, e2, p2⟩
    · rw [List.find?_cons_of_pos ht] at e
      cases e
      rw [e2]
      exact ⟨s2, rfl, q2⟩
    · rw [List.find?_cons_of_neg (by simp [ht])] at e
      rw [e2]
      exact for_bk xs s2 p2 (fun s z hz => h s z (by simp [hz])) x e
theorem while_wf {ft : Mo Bool} {g : ES → SR} {α : Type} {P : α → ES → Prop} {μ : α → Nat} {Q : ES → Prop} (h : ∀ a s, P a s → (ft s = .ok false s ∧ Q s) ∨ (ft s = .ok true s ∧ ∃ a' s2, (g s = .nx s2 ∨ g s = .ct s2) ∧ P a' s2 ∧ μ a' < μ a)) :
    ∀ (n : Nat) (a : α) (s : ES), P a s → μ a < n → ∃ s', whileF ft g n s = .nx s' ∧ Q s'
  | 0, a, s, _, hn => absurd hn (Nat.not_lt_zero _)
  | n + 1, a, s, p, hn => by
    unfold whileF sE
    rcases h a s p with ⟨e1, q⟩ | ⟨e1, a', s2, e2, p2, hm⟩
    · rw [e1]
      exact ⟨s, rfl, q⟩
    · rw [e1]
      dsimp only
      rw [if_pos rfl]
      obtain ⟨s', e3, q⟩ := while_wf h n a' s2 p2 (by omega)
      refine ⟨s', ?_, q⟩
      rcases e2 with e2 | e2 <;> rw [e2] <;> exact e3
theorem sl_both {α : Type} {f : α → D} {xs : List α} {a b : Nat} (hab : a ≤ b) (hb : b ≤ xs.length) : dSl (Tu f xs) (some (a : Int)) (some (b : Int)) = some (Tu f ((xs.drop a).take (b - a))) := by
  show some (PyData.tuple (cutD (xs.map f) (some (a : Int)) (some (b : Int)))) = _
  unfold cutD
  rw [HT.sIx_nat, HT.sIx_nat, List.length_map, Nat.min_eq_left hb, Nat.min_eq_left (by omega), ← List.map_drop, ← List.map_take]
  rfl
theorem Sm_sum {ns : List Int} : ∀ (m d : Nat), d + m ≤ ns.length → ((ns.drop d).take m).sum = Sm ns d m
  | 0, d, _ => by simp [Sm]
  | m + 1, d, h => by
    rw [List.drop_eq_getElem_cons (by omega), List.take_succ_cons, List.sum_cons, Sm_sum m (d + 1) (by omega)]
    show ns[d] + Sm ns (d + 1) m = na ns d + Sm ns (d + 1) m
    unfold na
    rw [List.getD_eq_getElem?_getD, List.getElem?_eq_getElem (by omega)]
    rfl
/-- how far the plan is made -/
def Pm (ns : List Int) (s h : Int) (m : List Int) (d : Nat) : Prop := m.length = ns.length ∧ d ≤ ns.length ∧ m.drop d = List.replicate (ns.length - d) 0 ∧ ∃ f, ns.length - d ≤ f ∧ m.take d ++ pl ns s h f d = pl ns s h ns.length 0
theorem Pm_0 {ns : List Int} {s h : Int} : Pm ns s h (List.replicate ns.length 0) 0 := ⟨by simp, Nat.zero_le _, by simp, ns.length, by omega, by simp⟩
theorem Pm_end {ns : List Int} {s h : Int} {m : List Int} {d : Nat} (p : Pm ns s h m d) (hd : ¬ d < ns.length) : m = pl ns s h ns.length 0 := by
  obtain ⟨h1, h2, h3, f, h4, h5⟩ := p
  have : d = ns.length := by omega
  subst this
  rw [← h5]
  have e : pl ns s h f ns.length = [] := by
    cases f with
    | zero => rfl
    | succ f => unfold pl; rw [if_neg (by omega)]
  rw [e, List.append_nil, List.take_of_length_le (by omega)]
theorem take_succ0 {m : List Int} {d k : Nat} (h : m.drop d = List.replicate (k + 1) 0) : m.take (d + 1) = m.take d ++ [0] ∧ m.drop (d + 1) = List.replicate k 0 := by
  have h1 : m[d]? = some 0 := by
    have := List.getElem?_drop (xs := m) (i := d) (j := 0)
    rw [h] at this
    simpa using this.symm
  refine ⟨by rw [List.take_add_one, h1]; rfl, ?_⟩
  rw [← List.drop_drop, h, List.replicate_succ]; rfl
theorem Pm_skip {ns : List Int} {s h : Int} {m : List Int} {d : Nat} (p : Pm ns s h m d) (hd : d < ns.length) (hc : cN ns s h d = true) : Pm ns s h m (d + 1) := by
  obtain ⟨h1, h2, h3, f, h4, h5⟩ := p
  rw [show ns.length - d = (ns.length - (d + 1)) + 1 by omega] at h3
  obtain ⟨t1, t2⟩ := take_succ0 h3
  obtain ⟨f, rfl⟩ : ∃ g, f = g + 1 := ⟨f - 1, by omega⟩
  refine ⟨h1, by omega, t2, f, by omega, ?_⟩
  rw [← h5, t1]
  conv => rhs; unfold pl
  rw [if_pos hd, hc, if_pos rfl, List.append_assoc]; rfl
theorem take_rep {m : List Int} {d k j : Nat} (h : m.drop d = List.replicate (j + k) 0) : m.take (d + j) = m.take d ++ List.replicate j 0 ∧ m.drop (d + j) = List.replicate k 0 := by
  refine ⟨?_, ?_⟩
  · rw [List.take_add, h]
    simp
  · rw [← List.drop_drop, h]
    simp
theorem Pm_run {ns : List Int} {s h : Int} {m : List Int} {d : Nat} (p : Pm ns s h m d) (hd : d < ns.length) (hc : cN ns s h d = false) : Pm ns s h (m.set d (Sm ns d (jx ns s h d + 1))) (d + 1 + jx ns s h d) := by
  obtain ⟨_, hj, _⟩ := jx_at hd hc
  obtain ⟨h1, h2, h3, f, h4, h5⟩ := p
  obtain ⟨f, rfl⟩ : ∃ g, f = g + 1 := ⟨f - 1, by omega⟩
  conv at h5 => lhs; unfold pl
  rw [if_pos hd, hc, if_neg (by simp)] at h5
  generalize jx ns s h d = j at *
  rw [show ns.length - d = (j + (ns.length - (d + 1 + j))) + 1 by omega] at h3
  obtain ⟨t1, t2⟩ := take_succ0 h3
  have e1 : (m.set d (Sm ns d (j + 1))).drop (d + 1) = List.replicate (j + (ns.length - (d + 1 + j))) 0 := by
    rw [List.drop_set_of_lt (by omega), t2]
  have e2 : (m.set d (Sm ns d (j + 1))).take (d + 1) = m.take d ++ [Sm ns d (j + 1)] := by
    rw [List.take_add_one, List.getElem?_set_self (by omega), List.take_set_of_le (by omega)]; rfl
  obtain ⟨t3, t4⟩ := take_rep e1
  refine ⟨by rw [List.length_set]; exact h1, hj, t4, f, by omega, ?_⟩
  rw [t3, e2, ← h5]
  simp
theorem cN_t {ns : List Int} {s h : Int} {d : Nat} (hd : d < ns.length) {t : Mo Bool} : True := True.intro
section
variable {ns : List Int} {s h : Int} (C : CT ns s h)
include C
theorem f_best : F_best [Tu I ns, I s, I h] = .ok (.tuple [I (Td ns s h 0), Tu I (pl ns s h ns.length 0)]) := by
  have n1 := C.n1
  have n4 := C.n4
  have tl := TT_len (ns := ns) (s := s) (h := h) ns.length
  unfold F_best
  apply fn_ok (T := T0)
  · rfl
  unfold g_best
  apply st_seq'
  · exact st_expr (ev_call (ev_cons (ev_var rfl) (ev_cons (ev_var rfl) (ev_cons (ev_var rfl) (ev_cons ev_c ev_nil)))) (du_cons (du_cons (du_cons (du_cons du_nil)))) (f_check C (by decide)))
  apply st_seq' (s1 := ⟨[vv (Tu I ns), vv (I s), vv (I h), vv (Li I (TT ns s h ns.length)), none, none, none], T0⟩)
  · exact st_setE' (ev_call (ev_cons (ev_var rfl) (ev_cons (ev_var rfl) (ev_cons (ev_var rfl) ev_nil))) (du_cons (du_cons (du_cons du_nil))) (f_floors C)) rfl
  apply st_seq' (s1 := ⟨[vv (Tu I ns), vv (I s), vv (I h), vv (Li I (TT ns s h ns.length)), oo ((List.replicate ns.length (0 : Int)).map I), none, none], T0⟩)
  · rw [show (List.replicate ns.length (0 : Int)).map I = (List.range ns.length).map fun _ => I 0 by
      rw [List.map_replicate]
      apply List.ext_getElem?
      intro k
      rw [List.getElem?_map, List.getElem?_replicate]
      by_cases hk : k < ns.length
      · rw [List.getElem?_range hk, if_pos hk]; rfl
      · rw [List.getElem?_eq_none (by simp; omega), if_neg hk]; rfl]
    exact st_own (m_bin (ev_M' (xs := [(0 : Int)]) (f := I) (m_lst (ev_cons ev_c ev_nil) (du_cons du_nil) (by simp [szL]))) (ev_un (ev_var rfl) len_tu) (rep_range (by simp [szL]; omega)))
  apply st_seq' (s1 := ⟨[vv (Tu I ns), vv (I s), vv (I h), vv (Li I (TT ns s h ns.length)), oo ((List.replicate ns.length (0 : Int)).map I), vv (Nn 0), none], T0⟩)
  · exact st_setE' ev_c rfl
  refine st_seqNx (Q := fun z => ∃ d a6, z = ⟨[vv (Tu I ns), vv (I s), vv (I h), vv (Li I (TT ns s h ns.length)), oo ((pl ns s h ns.length 0).map I), vv (Nn d), a6], T0⟩) ?_ ?_
  · refine while_wf (P := fun d z => ∃ m a6, Pm ns s h m d ∧ z = ⟨[vv (Tu I ns), vv (I s), vv (I h), vv (Li I (TT ns s h ns.length)), oo (m.map I), vv (Nn d), a6], T0⟩) (μ := fun d => ns.length - d) ?_ 200 0 _ ⟨_, none, Pm_0, rfl⟩ (by omega)
    rintro d z ⟨m, a6, hm, rfl⟩
    have t0 : fCmp dLt (eVar 5) (eUn dLen (eVar 0)) (⟨[vv (Tu I ns), vv (I s), vv (I h), vv (Li I (TT ns s h ns.length)), oo (m.map I), vv (Nn d), a6], T0⟩ : ES) = .ok (decide (d < ns.length)) ⟨[vv (Tu I ns), vv (I s), vv (I h), vv (Li I (TT ns s h ns.length)), oo (m.map I), vv (Nn d), a6], T0⟩ := te_cmp (ev_var rfl) (ev_un (ev_var rfl) len_tu) lt_nn
    by_cases hd : d < ns.length
    · rw [decide_eq_true hd] at t0
      refine .inr ⟨t0, ?_⟩
      have t1 : fAnd (fCmp dEq (eBin dIx (eVar 0) (eVar 5)) (eC (.int 0))) (fCmp dEq (eBin dIx (eVar 3) (eVar 5)) (eBin dIx (eVar 3) (eBin dAdd (eVar 5) (eC (.int 1))))) (⟨[vv (Tu I ns), vv (I s), vv (I h), vv (Li I (TT ns s h ns.length)), oo (m.map I), vv (Nn d), a6], T0⟩ : ES) = .ok (cN ns s h d) ⟨[vv (Tu I ns), vv (I s), vv (I h), vv (Li I (TT ns s h ns.length)), oo (m.map I), vv (Nn d), a6], T0⟩ :=
        te_and (te_cmp (ev_bin (ev_var rfl) (ev_var rfl) (ix_tu' (f := I) (xs := ns) (n := d) (by omega))) ev_c (eq_enc enc_I (a := na ns d) (b := 0))) fun _ => te_cmp (ev_bin (ev_var rfl) (ev_var rfl) (ix_li' (by omega))) (ev_bin (ev_var rfl) (ev_bin (ev_var rfl) ev_c add_n1) (ix_li' (by omega))) (eq_enc enc_I)
      cases hc : cN ns s h d with
      | true =>
        rw [hc] at t1
        refine ⟨d + 1, ⟨[vv (Tu I ns), vv (I s), vv (I h), vv (Li I (TT ns s h ns.length)), oo (m.map I), vv (Nn (d + 1)), a6], T0⟩, .inr ?_, ⟨m, a6, Pm_skip hm hd hc, rfl⟩, by omega⟩
        unfold sSeq
        rw [st_ifT t1]
        rfl
      | false =>
        rw [hc] at t1
        obtain ⟨j1, j2, j3⟩ := jx_at hd hc
        have hi : iR2 (eBin dAdd (eVar 5) (eC (.int 1))) (eBin dAdd (eUn dLen (eVar 0)) (eC (.int 1))) (⟨[vv (Tu I ns), vv (I s), vv (I h), vv (Li I (TT ns s h ns.length)), oo (m.map I), vv (Nn d), a6], T0⟩ : ES) = .ok ((List.range (ns.length - d)).map fun j => Nn (d + 1 + j)) ⟨[vv (Tu I ns), vv (I s), vv (I h), vv (Li I (TT ns s h ns.length)), oo (m.map I), vv (Nn d), a6], T0⟩ := by
          rw [show ns.length - d = ns.length + 1 - (d + 1) by omega]
          exact w_r2 (ev_bin (ev_var rfl) ev_c rfl) (ev_bin (ev_un (ev_var rfl) len_tu) ev_c rfl) (by omega) (by omega)
        obtain ⟨z, e, hz⟩ := for_bk (pt := pName 6) (body := (sIf (fCmp dEq (eBin dAdd (eCall F_run_cost (aCons (eVar 0) (aCons (eVar 1) (aCons (eVar 2) (aCons (eVar 5) (aCons (eVar 6) aNil)))))) (eBin dIx (eVar 3) (eVar 6))) (eBin dIx (eVar 3) (eVar 5))) (sSeq (sPutIx 4 (eUn dSum (eSl (eVar 0) (oSome (eVar 5)) (oSome (eVar 6)))) (eVar 5))
  (sSeq (sSet 5 (eVar 6))
  sBk)) sNx)) (enc := fun j => Nn (d + 1 + j)) (t := hit ns s h d) (P := fun z => ∃ a6, z = ⟨[vv (Tu I ns), vv (I s), vv (I h), vv (Li I (TT ns s h ns.length)), oo (m.map I), vv (Nn d), a6], T0⟩)
          (Q := fun j z => ∃ a6, z = ⟨[vv (Tu I ns), vv (I s), vv (I h), vv (Li I (TT ns s h ns.length)), oo ((m.set d (Sm ns d (j + 1))).map I), vv (Nn (d + 1 + j)), a6], T0⟩) (List.range (ns.length - d)) ⟨[vv (Tu I ns), vv (I s), vv (I h), vv (Li I (TT ns s h ns.length)), oo (m.map I), vv (Nn d), a6], T0⟩ ⟨a6, rfl⟩ (by
            rintro z j hj ⟨a6, rfl⟩
            have hj := List.mem_range.mp hj
            refine ⟨⟨[vv (Tu I ns), vv (I s), vv (I h), vv (Li I (TT ns s h ns.length)), oo (m.map I), vv (Nn d), vv (Nn (d + 1 + j))], T0⟩, rfl, ?_⟩
            have t2 : fCmp dEq (eBin dAdd (eCall F_run_cost (aCons (eVar 0) (aCons (eVar 1) (aCons (eVar 2) (aCons (eVar 5) (aCons (eVar 6) aNil)))))) (eBin dIx (eVar 3) (eVar 6))) (eBin dIx (eVar 3) (eVar 5)) (⟨[vv (Tu I ns), vv (I s), vv (I h), vv (Li I (TT ns s h ns.length)), oo (m.map I), vv (Nn d), vv (Nn (d + 1 + j))], T0⟩ : ES) = .ok (hit ns s h d j) ⟨[vv (Tu I ns), vv (I s), vv (I h), vv (Li I (TT ns s h ns.length)), oo (m.map I), vv (Nn d), vv (Nn (d + 1 + j))], T0⟩ := by
              refine te_cmp (ev_bin (ev_call (ev_cons (ev_var rfl) (ev_cons (ev_var rfl) (ev_cons (ev_var rfl) (ev_cons (ev_var rfl) (ev_cons (ev_var rfl) ev_nil))))) (du_cons (du_cons (du_cons (du_cons (du_cons du_nil))))) (f_run C (d := d) (e := d + 1 + j) (by omega) (by omega))) (ev_bin (ev_var rfl) (ev_var rfl) (ix_li' (by omega))) rfl) (ev_bin (ev_var rfl) (ev_var rfl) (ix_li' (by omega))) ?_
              rw [show d + 1 + j - d = j + 1 by omega]
              exact eq_enc enc_I
            cases hh : hit ns s h d j with
            | true =>
              rw [hh] at t2
              refine .inl ⟨rfl, ⟨[vv (Tu I ns), vv (I s), vv (I h), vv (Li I (TT ns s h ns.length)), oo ((m.set d (Sm ns d (j + 1))).map I), vv (Nn (d + 1 + j)), vv (Nn (d + 1 + j))], T0⟩, ?_, _, rfl⟩
              rw [st_ifT t2]
              apply st_seq' (s1 := ⟨[vv (Tu I ns), vv (I s), vv (I h), vv (Li I (TT ns s h ns.length)), oo ((m.set d (Sm ns d (j + 1))).map I), vv (Nn d), vv (Nn (d + 1 + j))], T0⟩)
              · refine st_putix (n := d) (d := I (Sm ns d (j + 1))) (ev_un (ev_sl (ev_var rfl) (o_some (ev_var rfl)) (o_some (ev_var rfl)) (sl_both (by omega) (by omega))) ?_) rfl (ev_var rfl) rfl (by rw [List.length_map, hm.1]; omega) ?_
                · rw [show d + 1 + j - d = j + 1 by omega, sum_tuI, Sm_sum _ _ (by omega)]
                · rw [set_mapI]; rfl
              · rfl
            | false =>
              rw [hh] at t2
              exact .inr ⟨rfl, _, by rw [st_ifF t2]; rfl, _, rfl⟩) _ j1
        obtain ⟨a6', rfl⟩ := hz
        refine ⟨d + 1 + jx ns s h d, _, .inl ?_, ⟨_, a6', Pm_run hm hd hc, rfl⟩, by omega⟩
        rw [st_seq (by rw [st_ifF t1]; rfl)]
        exact st_for' hi e
    · rw [decide_eq_false hd] at t0
      refine .inl ⟨t0, d, a6, ?_⟩
      rw [Pm_end hm hd]
  · rintro z ⟨d, a6, rfl⟩
    refine st_retE' (ev_tup (ev_cons (ev_bin (ev_var rfl) ev_c (ix_li0 (by omega))) (ev_cons (ev_unO (ev_own rfl) rfl rfl) ev_nil)) (du_cons (du_cons du_nil)) rfl) rfl
end
end k57_whole_lots
set_option Elab.async false
set_option linter.all false
set_option maxRecDepth 100000
set_option maxHeartbeats 0
namespace k57_whole_lots
open PySem L2 Ev
theorem for_fr {enc : Nat → D} {pt : Pat} {body : ES → SR} {t : Nat → Bool} {v : Nat → D} {T : Ext} {P : Nat → ES → Prop} : ∀ (m a : Nat) (s : ES), P a s → (∀ k s, a ≤ k → k < a + m → P k s → ∃ s1, pt (enc k) s = some s1 ∧ ((t k = true ∧ body s1 = .rt (v k) T) ∨ (t k = false ∧ ∃ s2, body s1 = .nx s2 ∧ P (k + 1) s2))) →
    (∃ k, (List.range' a m).find? t = some k ∧ forL pt body ((List.range' a m).map enc) s = .rt (v k) T) ∨ ((List.range' a m).find? t = none ∧ ∃ s', forL pt body ((List.range' a m).map enc) s = .nx s' ∧ P (a + m) s')
  | 0, a, s, p, _ => .inr ⟨rfl, s, rfl, p⟩
  | m + 1, a, s, p, h => by
    obtain ⟨s1, e1, q⟩ := h a s (Nat.le_refl _) (by omega) p
    rw [List.range'_succ, List.map_cons, forL_eq, e1]
    dsimp only
    rcases q with ⟨e2, e3⟩ | ⟨e2, s2, e3, p2⟩
    · exact .inl ⟨a, by rw [List.find?_cons_of_pos e2], by rw [e3]⟩
    · rw [e3]
      dsimp only
      rcases for_fr m (a + 1) s2 p2 (fun k s h1 h2 => h k s (by omega) (by omega)) with ⟨k, h1, h2⟩ | ⟨h1, s', h2, h3⟩
      · exact .inl ⟨k, by rw [List.find?_cons_of_neg (by simp [e2])]; exact h1, h2⟩
      · exact .inr ⟨by rw [List.find?_cons_of_neg (by simp [e2])]; exact h1, s', h2, by rw [show a + (m + 1) = a + 1 + m by omega]; exact h3⟩
def shT (ns : List Int) (room : Nat) (k : Nat) : Bool := decide ((room : Int) * ((k + 1 : Nat) : Int) < Sm ns 0 (k + 1))
def shD (ns : List Int) (room : Nat) (k : Nat) : D := .tuple [Nn k, I (Sm ns 0 (k + 1) - (room : Int) * ((k + 1 : Nat) : Int))]
def shR (ns : List Int) (room : Nat) : D := (((List.range ns.length).find? (shT ns room)).map (shD ns room)).getD .none
theorem CT.free {ns : List Int} {s h : Int} (C : CT ns s h) : CT ns 0 0 := ⟨C.n1, C.n4, C.lo, C.hi, by decide, by decide, by decide, by decide⟩
theorem Sm_snoc {ns : List Int} : ∀ (k d : Nat), Sm ns d (k + 1) = Sm ns d k + na ns (d + k)
  | 0, d => by simp [Sm]
  | k + 1, d => by
    have := Sm_snoc (ns := ns) k (d + 1)
    show na ns d + Sm ns (d + 1) (k + 1) = na ns d + Sm ns (d + 1) k + na ns (d + (k + 1))
    rw [this, show d + 1 + k = d + (k + 1) by omega]
    omega
theorem Sm_take {ns : List Int} {k : Nat} (h : k ≤ ns.length) : (ns.take k).sum = Sm ns 0 k := by
  have := Sm_sum (ns := ns) k 0 (by omega)
  rw [List.drop_zero] at this
  exact this
theorem enumI {xs : List Int} : (List.range' 0 xs.length).zip xs = (List.range xs.length).map fun k => (k, na xs k) := enum_range rfl
section
variable {ns : List Int} {s h : Int} (C : CT ns s h) {room : Nat} (hr : room ≤ 3)
include C hr
theorem mul_room {k : Nat} (hk : k ≤ 4) : dMul (Nn room) (Nn k) = some (I ((room : Int) * (k : Int))) := mul_s (by omega) (by omega)
theorem f_short : F_shortage [Tu I ns, Nn room] = .ok (shR ns room) := by
  have n4 := C.n4
  unfold F_shortage
  apply fn_ok (T := T0)
  · rfl
  unfold g_shortage
  apply st_seq'
  · exact st_expr (ev_call (ev_cons (ev_var rfl) (ev_cons ev_c (ev_cons ev_c (ev_cons (ev_var rfl) ev_nil)))) (du_cons (du_cons (du_cons (du_cons du_nil)))) (f_check C.free (r := (room : Int)) (by omega)))
  apply st_seq' (s1 := ⟨[vv (Tu I ns), vv (Nn room), vv (I 0), none, none], T0⟩)
  · exact st_setE' ev_c rfl
  have hz : iEnum (aCons (eVar 0) aNil) (⟨[vv (Tu I ns), vv (Nn room), vv (I 0), none, none], T0⟩ : ES) = .ok ((List.range' 0 ns.length).map fun k => P2 Nn I (k, na ns k)) ⟨[vv (Tu I ns), vv (Nn room), vv (I 0), none, none], T0⟩ := by
    rw [w_enum' (ev_cons (ev_var rfl) ev_nil) (du_cons du_nil) (seq_tu (f := I) (xs := ns)), enumI, List.map_map, List.range_eq_range']
    rfl
  have key := for_fr (pt := pTup 2 (psCons (pName 3) (psCons (pName 4) psNil))) (body := sSeq (sAug 2 iAdd (eVar 4))
  (sIf (fCmp dGt (eVar 2) (eBin dMul (eVar 1) (eBin dAdd (eVar 3) (eC (.int 1))))) (sRet (eTup (aCons (eVar 3) (aCons (eBin dSub (eVar 2) (eBin dMul (eVar 1) (eBin dAdd (eVar 3) (eC (.int 1))))) aNil)))) sNx)) (enc := fun k => P2 Nn I (k, na ns k)) (t := shT ns room) (v := shD ns room) (T := T0)
    (P := fun k z => ∃ a3 a4, z = ⟨[vv (Tu I ns), vv (Nn room), vv (I (Sm ns 0 k)), a3, a4], T0⟩) ns.length 0 ⟨[vv (Tu I ns), vv (Nn room), vv (I 0), none, none], T0⟩ ⟨none, none, rfl⟩ (by
      rintro k z _ hk ⟨a3, a4, rfl⟩
      refine ⟨⟨[vv (Tu I ns), vv (Nn room), vv (I (Sm ns 0 k)), vv (Nn k), vv (I (na ns k))], T0⟩, rfl, ?_⟩
      have a1 : sAug 2 iAdd (eVar 4) (⟨[vv (Tu I ns), vv (Nn room), vv (I (Sm ns 0 k)), vv (Nn k), vv (I (na ns k))], T0⟩ : ES) = .nx ⟨[vv (Tu I ns), vv (Nn room), vv (I (Sm ns 0 (k + 1))), vv (Nn k), vv (I (na ns k))], T0⟩ := by
        rw [Sm_snoc, Nat.zero_add]; rfl
      have mm := mul_room C hr (k := k + 1) (by omega)
      have t1 : fCmp dGt (eVar 2) (eBin dMul (eVar 1) (eBin dAdd (eVar 3) (eC (.int 1)))) (⟨[vv (Tu I ns), vv (Nn room), vv (I (Sm ns 0 (k + 1))), vv (Nn k), vv (I (na ns k))], T0⟩ : ES) = .ok (shT ns room k) ⟨[vv (Tu I ns), vv (Nn room), vv (I (Sm ns 0 (k + 1))), vv (Nn k), vv (I (na ns k))], T0⟩ :=
        te_cmp (ev_var rfl) (ev_bin (ev_var rfl) (ev_bin (ev_var rfl) ev_c add_n1) mm) gt_ii
      rw [st_seq a1]
      cases hb : shT ns room k with
      | true =>
        rw [hb] at t1
        exact .inl ⟨rfl, by rw [st_ifT t1]; exact st_retE' (ev_tup (ev_cons (ev_var rfl) (ev_cons (ev_bin (ev_var rfl) (ev_bin (ev_var rfl) (ev_bin (ev_var rfl) ev_c add_n1) mm) rfl) ev_nil)) (du_cons (du_cons du_nil)) rfl) rfl⟩
      | false =>
        rw [hb] at t1
        exact .inr ⟨rfl, _, by rw [st_ifF t1]; rfl, vv (Nn k), vv (I (na ns k)), rfl⟩)
  unfold shR
  rw [List.range_eq_range']
  rcases key with ⟨k, e1, e2⟩ | ⟨e1, z, e2, a3, a4, rfl⟩
  · rw [e1]
    exact st_seqR (st_for' hz e2)
  · rw [e1]
    apply st_seq' (st_for' hz e2)
    exact st_retE' ev_c rfl
end
end k57_whole_lots
set_option Elab.async false
set_option linter.all false
set_option maxRecDepth 100000
set_option maxHeartbeats 0
namespace k57_whole_lots
open PySem L2 Ev
abbrev Val := Int × List Int
abbrev PV : Val → D := P2 I (Tu I)
abbrev ltV : Val → Val → Bool := lexP ltI (lexB ltI)
def minV (a b : Val) : Val := if ltV b a then b else a
theorem enc_V : EncOk PV 2 := enc_P2 enc_I (enc_Tu enc_I)
theorem lt_V : LtOk PV ltV := lt_P2 enc_I lt_I (enc_Tu enc_I) (lt_Tu enc_I lt_I)
theorem ord_V : Ordb ltV := ord_P ord_I (ord_B ord_I)
theorem min2_V {a b : Val} : dMin2V (PV a) (PV b) = some (PV (minV a b)) := by
  show (if canLt ([a, b].map PV) then some (if PySem.W.dataLt (PV b) (PV a) then PV b else PV a) else none) = _
  rw [canLt_enc enc_V (by decide), if_pos rfl, lt_V b a]
  unfold minV
  cases ltV b a <;> rfl
def tl (ns : List Int) (s h x : Int) (q : Int × Val) (a : Nat) : Option (Int × Val) :=
  if 0 ≤ q.1 + (a : Int) - x ∧ q.1 + (a : Int) - x ≤ ns.sum then some (q.1 + (a : Int) - x, (q.2.1 + (if 0 < (a : Int) then s else 0) + h * (q.1 + (a : Int) - x), q.2.2 ++ [(a : Int)])) else none
def insM (f : List (Int × Val)) (t : Int × Val) : List (Int × Val) := putI f t.1 (minV ((getI f t.1).getD t.2) t.2)
def ext (ns : List Int) (s h : Int) (room : Nat) (x : Int) (q : Int × Val) : List (Int × Val) := (List.range (room + 1)).filterMap (tl ns s h x q)
def stpL (ns : List Int) (s h : Int) (room : Nat) (x : Int) (kvs : List (Int × Val)) : List (Int × Val) := (kvs.flatMap (ext ns s h room x)).foldl insM []
def LV (ns : List Int) (s h : Int) (room : Nat) : Nat → List (Int × Val)
  | 0 => [(0, (0, []))]
  | k + 1 => stpL ns s h room (na ns k) (LV ns s h room k)
theorem len_ins (ts : List (Int × Val)) : ∀ f : List (Int × Val), (ts.foldl insM f).length ≤ f.length + ts.length := by
  induction ts with
  | nil => intro f; simp
  | cons t ts ih =>
    intro f
    have h1 := ih (insM f t)
    have h2 := len_putI f t.1 (minV ((getI f t.1).getD t.2) t.2)
    rw [List.foldl_cons, List.length_cons]
    unfold insM at h1 ⊢
    omega
theorem mem_putI {β : Type} {f : List (Int × β)} {k : Int} {v : β} {q : Int × β} (h : q ∈ putI f k v) : q ∈ f ∨ q = (k, v) := by
  unfold putI at h
  split at h
  · obtain ⟨p, hp, e⟩ := List.mem_map.mp h
    by_cases e2 : p.1 = k
    · rw [if_pos e2] at e; right; rw [← e, e2]
    · rw [if_neg e2] at e; left; rw [← e]; exact hp
  · rcases List.mem_append.mp h with h | h
    · exact .inl h
    · exact .inr (List.mem_singleton.mp h)
theorem minV_or (a b : Val) : minV a b = a ∨ minV a b = b := by unfold minV; split; exact .inr rfl; exact .inl rfl
theorem mem_ins (ts : List (Int × Val)) : ∀ f : List (Int × Val), ∀ q ∈ ts.foldl insM f, q ∈ f ∨ q ∈ ts := by
  induction ts with
  | nil => intro f q h; exact .inl h
  | cons t ts ih =>
    intro f q h
    rw [List.foldl_cons] at h
    rcases ih _ q h with h | h
    · rcases mem_putI h with h | h
      · exact .inl h
      · rcases minV_or ((getI f t.1).getD t.2) t.2 with e | e
        · rw [e] at h
          cases e2 : getI f t.1 with
          | none => rw [e2] at h; right; rw [h]; exact List.mem_cons_self
          | some v => rw [e2] at h; left; rw [h]; exact getI_mem e2
        · rw [e] at h; right; rw [h]; exact List.mem_cons_self
    · exact .inr (List.mem_cons_of_mem _ h)
theorem len_ext {ns : List Int} {s h : Int} {room : Nat} {x : Int} {q : Int × Val} : (ext ns s h room x q).length ≤ room + 1 := by
  unfold ext
  have := List.length_filterMap_le (tl ns s h x q) (List.range (room + 1))
  rw [List.length_range] at this
  exact this
theorem len_flat {ns : List Int} {s h : Int} {room : Nat} {x : Int} : ∀ kvs : List (Int × Val), (kvs.flatMap (ext ns s h room x)).length ≤ kvs.length * (room + 1)
  | [] => by simp
  | q :: r => by
    rw [List.flatMap_cons, List.length_append, List.length_cons]
    have h1 := len_flat (ns := ns) (s := s) (h := h) (room := room) (x := x) r
    have h2 := len_ext (ns := ns) (s := s) (h := h) (room := room) (x := x) (q := q)
    rw [Nat.add_mul]
    omega
theorem LV_len {ns : List Int} {s h : Int} {room : Nat} (hr : room ≤ 3) : ∀ k, (LV ns s h room k).length ≤ 4 ^ k
  | 0 => Nat.le_refl _
  | k + 1 => by
    have h1 := LV_len (ns := ns) (s := s) (h := h) hr k
    have h2 := len_ins ((LV ns s h room k).flatMap (ext ns s h room (na ns k))) []
    have h3 := len_flat (ns := ns) (s := s) (h := h) (room := room) (x := na ns k) (LV ns s h room k)
    have h4 : (LV ns s h room k).length * (room + 1) ≤ 4 ^ k * 4 := Nat.mul_le_mul h1 (by omega)
    rw [Nat.pow_succ]
    show (((LV ns s h room k).flatMap (ext ns s h room (na ns k))).foldl insM []).length ≤ _
    rw [List.length_nil] at h2
    omega
theorem tl_some {ns : List Int} {s h x : Int} {q t : Int × Val} {a : Nat} (e : tl ns s h x q a = some t) : 0 ≤ q.1 + (a : Int) - x ∧ q.1 + (a : Int) - x ≤ ns.sum ∧ t = (q.1 + (a : Int) - x, (q.2.1 + (if 0 < (a : Int) then s else 0) + h * (q.1 + (a : Int) - x), q.2.2 ++ [(a : Int)])) := by
  unfold tl at e
  split at e
  · rename_i hh; cases e; exact ⟨hh.1, hh.2, rfl⟩
  · cases e
theorem LV_mem {ns : List Int} {s h : Int} {room : Nat} : ∀ k, ∀ q ∈ LV ns s h room k, q.2.2.length = k
  | 0, q, hq => by
    have hq : q ∈ [((0 : Int), ((0 : Int), ([] : List Int)))] := hq
    rw [List.mem_singleton.mp hq]; rfl
  | k + 1, q, hq => by
    rcases mem_ins _ _ q hq with hq | hq
    · cases hq
    · obtain ⟨p, hp, hq⟩ := List.mem_flatMap.mp hq
      obtain ⟨a, _, e⟩ := List.mem_filterMap.mp hq
      obtain ⟨_, _, e⟩ := tl_some e
      rw [e]
      show (p.2.2 ++ [(a : Int)]).length = _
      rw [List.length_append, LV_mem k p hp]; rfl
theorem sum_le {n : Nat} : ∀ xs : List Int, (∀ a ∈ xs, 0 ≤ a ∧ a ≤ 2) → 0 ≤ xs.sum ∧ xs.sum ≤ 2 * xs.length
  | [], _ => by simp
  | a :: xs, h => by
    have h1 := sum_le (n := n) xs fun b hb => h b (by simp [hb])
    have h2 := h a (by simp)
    rw [List.sum_cons, List.length_cons]
    omega
abbrev SW (ns : List Int) (s h : Int) (room m : Nat) (a5 a6 a7 a8 a9 a10 a11 a12 : Option SV) (ce : List Cell) : ES := ⟨[vv (Tu I ns), vv (I s), vv (I h), vv (Nn room), some (.cel m), a5, a6, a7, a8, a9, a10, a11, a12], ⟨none, ce⟩⟩
section
variable {ns : List Int} {s h : Int} (C : CT ns s h) {room : Nat} (hr : room ≤ 3)
include C
theorem CT.sum : 0 ≤ ns.sum ∧ ns.sum ≤ 8 := by
  have := sum_le (n := 0) ns fun a ha => ⟨C.lo a ha, C.hi a ha⟩
  have := C.n4
  omega
theorem w_body {m f : Nat} {x : Int} {q : Int × Val} {a : Nat} {cur : List (Int × Val)} {ce : List Cell} {a10 a11 a12 : Option SV} (hc : ce[f]? = some (.dct (DKv PV cur))) (hl : cur.length < szL) (hv : q.2.2.length ≤ 4) :
    Nx (fun z => ∃ a11 a12 ce', z = SW ns s h room m (vv (I x)) (some (.cel f)) (vv (I q.1)) (vv (I q.2.1)) (vv (Tu I q.2.2)) (vv (Nn a)) a11 a12 ce' ∧ ce'[f]? = some (.dct (DKv PV (((tl ns s h x q a).toList).foldl insM cur))))
      ((sSeq (sSet 11 (eBin dSub (eBin dAdd (eVar 7) (eVar 10)) (eVar 5)))
  (sIf (fBool (eChain dLe dLe (eC (.int 0)) (eVar 11) (eUn dSum (eVar 0)))) (sSeq (sSet 12 (eTup (aCons (eBin dAdd (eBin dAdd (eVar 8) (eIf (fCmp dGt (eVar 10) (eC (.int 0))) (eVar 1) (eC (.int 0)))) (eBin dMul (eVar 2) (eVar 11))) (aCons (eBin dAdd (eVar 9) (eTup (aCons (eVar 10) aNil))) aNil))))
  (sPutA (eVar 6) (eVar 11) (eBin dMin2V (eDGet2 (eVar 6) (eVar 11) (eVar 12)) (eVar 12)))) sNx)) (SW ns s h room m (vv (I x)) (some (.cel f)) (vv (I q.1)) (vv (I q.2.1)) (vv (Tu I q.2.2)) (vv (Nn a)) a11 a12 ce)) := by
  have hs := C.sum
  refine nx_seq (s1 := SW ns s h room m (vv (I x)) (some (.cel f)) (vv (I q.1)) (vv (I q.2.1)) (vv (Tu I q.2.2)) (vv (Nn a)) (vv (I (q.1 + (a : Int) - x))) a12 ce) (st_setE' (ev_bin (ev_bin (ev_var rfl) (ev_var rfl) rfl) (ev_var rfl) rfl) rfl) ?_
  have t1 : fBool (eChain dLe dLe (eC (.int 0)) (eVar 11) (eUn dSum (eVar 0))) (SW ns s h room m (vv (I x)) (some (.cel f)) (vv (I q.1)) (vv (I q.2.1)) (vv (Tu I q.2.2)) (vv (Nn a)) (vv (I (q.1 + (a : Int) - x))) a12 ce) = .ok (decide (0 ≤ q.1 + (a : Int) - x) && decide (q.1 + (a : Int) - x ≤ ns.sum)) (SW ns s h room m (vv (I x)) (some (.cel f)) (vv (I q.1)) (vv (I q.2.1)) (vv (Tu I q.2.2)) (vv (Nn a)) (vv (I (q.1 + (a : Int) - x))) a12 ce) :=
    te_bool (ev_chain ev_c (ev_var rfl) (ev_un (ev_var rfl) sum_tuI) rfl rfl)
  unfold tl
  by_cases hin : 0 ≤ q.1 + (a : Int) - x ∧ q.1 + (a : Int) - x ≤ ns.sum
  · rw [if_pos hin]
    rw [decide_eq_true hin.1, decide_eq_true hin.2] at t1
    refine nx_ifT t1 ?_
    generalize hR : q.1 + (a : Int) - x = r at hin
    have mm := mul_h C (x := r) (by omega)
    refine nx_seq (s1 := SW ns s h room m (vv (I x)) (some (.cel f)) (vv (I q.1)) (vv (I q.2.1)) (vv (Tu I q.2.2)) (vv (Nn a)) (vv (I r)) (vv (PV (q.2.1 + (if 0 < (a : Int) then s else 0) + h * r, q.2.2 ++ [(a : Int)]))) ce) ?_ ?_
    · have t2 : fCmp dGt (eVar 10) (eC (.int 0)) (SW ns s h room m (vv (I x)) (some (.cel f)) (vv (I q.1)) (vv (I q.2.1)) (vv (Tu I q.2.2)) (vv (Nn a)) (vv (I r)) a12 ce) = .ok (decide (0 < (a : Int))) (SW ns s h room m (vv (I x)) (some (.cel f)) (vv (I q.1)) (vv (I q.2.1)) (vv (Tu I q.2.2)) (vv (Nn a)) (vv (I r)) a12 ce) := rfl
      have e9 : eBin dAdd (eVar 9) (eTup (aCons (eVar 10) aNil)) (SW ns s h room m (vv (I x)) (some (.cel f)) (vv (I q.1)) (vv (I q.2.1)) (vv (Tu I q.2.2)) (vv (Nn a)) (vv (I r)) a12 ce) = .ok (.d (Tu I (q.2.2 ++ [(a : Int)]))) (SW ns s h room m (vv (I x)) (some (.cel f)) (vv (I q.1)) (vv (I q.2.1)) (vv (Tu I q.2.2)) (vv (Nn a)) (vv (I r)) a12 ce) :=
        ev_bin (ev_var rfl) (ev_tup (ev_cons (ev_var rfl) ev_nil) (du_cons du_nil) rfl) (add_tu (f := I) (xs := q.2.2) (ys := [(a : Int)]) (by simp [szL]; omega))
      by_cases hp : 0 < (a : Int)
      · rw [if_pos hp]
        rw [decide_eq_true hp] at t2
        exact st_setE' (ev_tup (ev_cons (ev_bin (ev_bin (ev_var rfl) (ev_ifT t2 (ev_var rfl)) rfl) (ev_bin (ev_var rfl) (ev_var rfl) mm) rfl) (ev_cons e9 ev_nil)) (du_cons (du_cons du_nil)) rfl) rfl
      · rw [if_neg hp]
        rw [decide_eq_false hp] at t2
        exact st_setE' (ev_tup (ev_cons (ev_bin (ev_bin (ev_var rfl) (ev_ifF t2 ev_c) rfl) (ev_bin (ev_var rfl) (ev_var rfl) mm) rfl) (ev_cons e9 ev_nil)) (du_cons (du_cons du_nil)) rfl) rfl
    · generalize hT : ((q.2.1 + (if 0 < (a : Int) then s else 0) + h * r, q.2.2 ++ [(a : Int)]) : Val) = t
      have eg : eDGet2 (eVar 6) (eVar 11) (eVar 12) (SW ns s h room m (vv (I x)) (some (.cel f)) (vv (I q.1)) (vv (I q.2.1)) (vv (Tu I q.2.2)) (vv (Nn a)) (vv (I r)) (vv (PV t)) ce) = .ok (.d (PV ((getI cur r).getD t))) (SW ns s h room m (vv (I x)) (some (.cel f)) (vv (I q.1)) (vv (I q.2.1)) (vv (Tu I q.2.2)) (vv (Nn a)) (vv (I r)) (vv (PV t)) ce) := by
        rw [ev_dget2 (n := f) (k := .inl r) (ev_celV rfl) hc (ev_var rfl) rfl (ev_var rfl) hc, valA_DK]
        cases getI cur r <;> rfl
      have hf : f < ce.length := (List.getElem?_eq_some_iff.mp hc).1
      refine nx_of (s1 := SW ns s h room m (vv (I x)) (some (.cel f)) (vv (I q.1)) (vv (I q.2.1)) (vv (Tu I q.2.2)) (vv (Nn a)) (vv (I r)) (vv (PV t)) (ce.set f (.dct (DKv PV (putI cur r (minV ((getI cur r).getD t) t))))))
        (st_putC (n := f) (ev_bin eg (ev_var rfl) min2_V) (ev_celV rfl) (ev_var rfl) hc (cPut_dK hl) rfl) ⟨_, _, _, rfl, ?_⟩
      rw [List.getElem?_set_self hf]
      rfl
  · rw [if_neg hin]
    have tf : (decide (0 ≤ q.1 + (a : Int) - x) && decide (q.1 + (a : Int) - x ≤ ns.sum)) = false := by
      rw [← Bool.not_eq_true, Bool.and_eq_true, decide_eq_true_iff, decide_eq_true_iff]; exact hin
    rw [tf] at t1
    exact nx_ifF t1 (nx_of (u := sNx) rfl ⟨_, _, _, rfl, hc⟩)
end
end k57_whole_lots
set_option Elab.async false
set_option linter.all false
set_option maxRecDepth 100000
set_option maxHeartbeats 0
namespace k57_whole_lots
open PySem L2 Ev
def oV : Option Val → D
  | some v => PV v
  | none => .none
theorem fm_succ {ns : List Int} {s h x : Int} {q : Int × Val} {a : Nat} {cur : List (Int × Val)} : ((tl ns s h x q a).toList).foldl insM (((List.range a).filterMap (tl ns s h x q)).foldl insM cur) = ((List.range (a + 1)).filterMap (tl ns s h x q)).foldl insM cur := by
  rw [List.range_succ, List.filterMap_append, List.foldl_append]
  congr 1
theorem seq_na (ns : List Int) : seqOf (Tu I ns) = some ((List.range ns.length).map fun k => I (na ns k)) := by
  rw [seq_tu]
  conv => lhs; rw [range_self ns]
  rw [List.map_map]; rfl
section
variable {ns : List Int} {s h : Int} (C : CT ns s h) {room : Nat} (hr : room ≤ 3)
include C hr
theorem w_inner {m f : Nat} {x : Int} {q : Int × Val} {cur : List (Int × Val)} {ce : List Cell} {a10 a11 a12 : Option SV} (hc : ce[f]? = some (.dct (DKv PV cur))) (hl : cur.length ≤ 10000) (hv : q.2.2.length ≤ 4) :
    Nx (fun z => ∃ a10 a11 a12 ce', z = SW ns s h room m (vv (I x)) (some (.cel f)) (vv (I q.1)) (vv (I q.2.1)) (vv (Tu I q.2.2)) a10 a11 a12 ce' ∧ ce'[f]? = some (.dct (DKv PV ((ext ns s h room x q).foldl insM cur))))
      (sFor (iR1 (eBin dAdd (eVar 3) (eC (.int 1)))) (pName 10) (sSeq (sSet 11 (eBin dSub (eBin dAdd (eVar 7) (eVar 10)) (eVar 5)))
  (sIf (fBool (eChain dLe dLe (eC (.int 0)) (eVar 11) (eUn dSum (eVar 0)))) (sSeq (sSet 12 (eTup (aCons (eBin dAdd (eBin dAdd (eVar 8) (eIf (fCmp dGt (eVar 10) (eC (.int 0))) (eVar 1) (eC (.int 0)))) (eBin dMul (eVar 2) (eVar 11))) (aCons (eBin dAdd (eVar 9) (eTup (aCons (eVar 10) aNil))) aNil))))
  (sPutA (eVar 6) (eVar 11) (eBin dMin2V (eDGet2 (eVar 6) (eVar 11) (eVar 12)) (eVar 12)))) sNx)) (SW ns s h room m (vv (I x)) (some (.cel f)) (vv (I q.1)) (vv (I q.2.1)) (vv (Tu I q.2.2)) a10 a11 a12 ce)) := by
  refine nx_forR (n := room + 1) (enc := Nn) (fun k z => ∃ a10 a11 a12 ce', z = SW ns s h room m (vv (I x)) (some (.cel f)) (vv (I q.1)) (vv (I q.2.1)) (vv (Tu I q.2.2)) a10 a11 a12 ce' ∧ ce'[f]? = some (.dct (DKv PV (((List.range k).filterMap (tl ns s h x q)).foldl insM cur)))) (w_r1 (ev_bin (ev_var rfl) ev_c add_n1) (by omega)) ⟨_, _, _, _, rfl, hc⟩ ?_
  rintro k z hk ⟨a10, a11, a12, ce', rfl, hc'⟩
  have hl2 := len_ins ((List.range k).filterMap (tl ns s h x q)) cur
  have hl3 := List.length_filterMap_le (tl ns s h x q) (List.range k)
  rw [List.length_range] at hl3
  refine for_nx (s1 := SW ns s h room m (vv (I x)) (some (.cel f)) (vv (I q.1)) (vv (I q.2.1)) (vv (Tu I q.2.2)) (vv (Nn k)) a11 a12 ce') rfl ?_
  refine nx_imp (w_body C (a10 := none) hc' (by simp [szL]; omega) hv) ?_
  rintro z ⟨b11, b12, ce2, rfl, h2⟩
  rw [fm_succ] at h2
  exact ⟨_, _, _, _, rfl, h2⟩
theorem w_day {k m : Nat} (hk : k < ns.length) {ce : List Cell} {a6 a7 a8 a9 a10 a11 a12 : Option SV} (hc : ce[m]? = some (.dct (DKv PV (LV ns s h room k)))) :
    Nx (fun z => ∃ m a6 a7 a8 a9 a10 a11 a12 ce', z = SW ns s h room m (vv (I (na ns k))) a6 a7 a8 a9 a10 a11 a12 ce' ∧ ce'[m]? = some (.dct (DKv PV (LV ns s h room (k + 1)))))
      ((sSeq (sSetA 6 eDnew)
  (sSeq (sForIt 4 (pD (pTup 2 (psCons (pName 7) (psCons (pTup 2 (psCons (pName 8) (psCons (pName 9) psNil))) psNil)))) (sFor (iR1 (eBin dAdd (eVar 3) (eC (.int 1)))) (pName 10) (sSeq (sSet 11 (eBin dSub (eBin dAdd (eVar 7) (eVar 10)) (eVar 5)))
  (sIf (fBool (eChain dLe dLe (eC (.int 0)) (eVar 11) (eUn dSum (eVar 0)))) (sSeq (sSet 12 (eTup (aCons (eBin dAdd (eBin dAdd (eVar 8) (eIf (fCmp dGt (eVar 10) (eC (.int 0))) (eVar 1) (eC (.int 0)))) (eBin dMul (eVar 2) (eVar 11))) (aCons (eBin dAdd (eVar 9) (eTup (aCons (eVar 10) aNil))) aNil))))
  (sPutA (eVar 6) (eVar 11) (eBin dMin2V (eDGet2 (eVar 6) (eVar 11) (eVar 12)) (eVar 12)))) sNx))))
  (sSetA 4 (eVar 6)))) (SW ns s h room m (vv (I (na ns k))) a6 a7 a8 a9 a10 a11 a12 ce)) := by
  have hm : m < ce.length := (List.getElem?_eq_some_iff.mp hc).1
  have n4 := C.n4
  have hL := LV_len (ns := ns) (s := s) (h := h) hr k
  have h4 : (4 : Nat) ^ k ≤ 4 ^ 4 := Nat.pow_le_pow_right (by decide) (by omega)
  have h44 : (4 : Nat) ^ 4 = 256 := by decide
  have hM := LV_mem (ns := ns) (s := s) (h := h) (room := room) k
  refine nx_seq (s1 := SW ns s h room m (vv (I (na ns k))) (some (.cel ce.length)) a7 a8 a9 a10 a11 a12 (ce ++ [Cell.dct []])) (st_setC ev_dnew rfl) ?_
  obtain ⟨z, e1, b7, b8, b9, b10, b11, b12, ce2, rfl, e2⟩ : ∃ z, forL (pTup 2 (psCons (pName 7) (psCons (pTup 2 (psCons (pName 8) (psCons (pName 9) psNil))) psNil))) (sFor (iR1 (eBin dAdd (eVar 3) (eC (.int 1)))) (pName 10) (sSeq (sSet 11 (eBin dSub (eBin dAdd (eVar 7) (eVar 10)) (eVar 5)))
  (sIf (fBool (eChain dLe dLe (eC (.int 0)) (eVar 11) (eUn dSum (eVar 0)))) (sSeq (sSet 12 (eTup (aCons (eBin dAdd (eBin dAdd (eVar 8) (eIf (fCmp dGt (eVar 10) (eC (.int 0))) (eVar 1) (eC (.int 0)))) (eBin dMul (eVar 2) (eVar 11))) (aCons (eBin dAdd (eVar 9) (eTup (aCons (eVar 10) aNil))) aNil))))
  (sPutA (eVar 6) (eVar 11) (eBin dMin2V (eDGet2 (eVar 6) (eVar 11) (eVar 12)) (eVar 12)))) sNx))) ((LV ns s h room k).map fun q => .tuple [.int q.1, PV q.2]) (setC (SW ns s h room m (vv (I (na ns k))) (some (.cel ce.length)) a7 a8 a9 a10 a11 a12 (ce ++ [Cell.dct []])) m .gone) = .nx z ∧
      ∃ b7 b8 b9 b10 b11 b12 ce2, z = SW ns s h room m (vv (I (na ns k))) (some (.cel ce.length)) b7 b8 b9 b10 b11 b12 ce2 ∧ ce2[ce.length]? = some (.dct (DKv PV (LV ns s h room (k + 1)))) := by
    have key := for_pre (pt := pTup 2 (psCons (pName 7) (psCons (pTup 2 (psCons (pName 8) (psCons (pName 9) psNil))) psNil))) (enc := fun q : Int × Val => PyData.tuple [.int q.1, PV q.2]) (body := (sFor (iR1 (eBin dAdd (eVar 3) (eC (.int 1)))) (pName 10) (sSeq (sSet 11 (eBin dSub (eBin dAdd (eVar 7) (eVar 10)) (eVar 5)))
  (sIf (fBool (eChain dLe dLe (eC (.int 0)) (eVar 11) (eUn dSum (eVar 0)))) (sSeq (sSet 12 (eTup (aCons (eBin dAdd (eBin dAdd (eVar 8) (eIf (fCmp dGt (eVar 10) (eC (.int 0))) (eVar 1) (eC (.int 0)))) (eBin dMul (eVar 2) (eVar 11))) (aCons (eBin dAdd (eVar 9) (eTup (aCons (eVar 10) aNil))) aNil))))
  (sPutA (eVar 6) (eVar 11) (eBin dMin2V (eDGet2 (eVar 6) (eVar 11) (eVar 12)) (eVar 12)))) sNx))))
      (P := fun p z => ∃ b7 b8 b9 b10 b11 b12 ce2, z = SW ns s h room m (vv (I (na ns k))) (some (.cel ce.length)) b7 b8 b9 b10 b11 b12 ce2 ∧ ce2[ce.length]? = some (.dct (DKv PV ((p.flatMap (ext ns s h room (na ns k))).foldl insM [])))) (LV ns s h room k) []
      (setC (SW ns s h room m (vv (I (na ns k))) (some (.cel ce.length)) a7 a8 a9 a10 a11 a12 (ce ++ [Cell.dct []])) m .gone) ⟨a7, a8, a9, a10, a11, a12, (ce ++ [Cell.dct []]).set m .gone, rfl, by
        rw [List.getElem?_set_ne (by omega), List.getElem?_append_right (Nat.le_refl _), Nat.sub_self]; rfl⟩ (by
        rintro p q r z hpq ⟨b7, b8, b9, b10, b11, b12, ce2, rfl, hc2⟩
        rw [List.nil_append] at hpq
        have hq : q ∈ LV ns s h room k := by rw [hpq]; simp
        have hp : p.length ≤ 256 := by
          have := congrArg List.length hpq
          rw [List.length_append] at this
          omega
        have h1 := len_ins (p.flatMap (ext ns s h room (na ns k))) []
        have h2 := len_flat (ns := ns) (s := s) (h := h) (room := room) (x := na ns k) p
        have h3 : p.length * (room + 1) ≤ 256 * 4 := Nat.mul_le_mul hp (by omega)
        rw [List.length_nil] at h1
        refine for_nx (s1 := SW ns s h room m (vv (I (na ns k))) (some (.cel ce.length)) (vv (I q.1)) (vv (I q.2.1)) (vv (Tu I q.2.2)) b10 b11 b12 ce2) rfl ?_
        refine nx_imp (w_inner C hr (q := q) hc2 (by omega) (by rw [hM q hq]; omega)) ?_
        rintro z ⟨c10, c11, c12, ce3, rfl, h5⟩
        refine ⟨_, _, _, _, _, _, _, rfl, ?_⟩
        rw [List.flatMap_append, List.foldl_append, List.flatMap_cons, List.flatMap_nil, List.append_nil]
        exact h5)
    obtain ⟨z, e1, b7, b8, b9, b10, b11, b12, ce2, e3, e2⟩ := key
    exact ⟨z, e1, b7, b8, b9, b10, b11, b12, ce2, e3, e2⟩
  refine nx_seq (s1 := SW ns s h room m (vv (I (na ns k))) (some (.cel ce.length)) b7 b8 b9 b10 b11 b12 ce2) (st_forIt (f := PV) (kvs := LV ns s h room k) (n := m) rfl (by
    show (ce ++ [Cell.dct []])[m]? = _
    rw [List.getElem?_append_left hm]; exact hc) e1) ?_
  exact nx_of (st_setC (ev_celV rfl) rfl) ⟨ce.length, _, _, _, _, _, _, _, _, rfl, e2⟩
theorem f_room : F_with_room [Tu I ns, I s, I h, Nn room] = .ok (oV (getI (LV ns s h room ns.length) 0)) := by
  have n4 := C.n4
  obtain ⟨T, e⟩ : ∃ T, g_with_room (startE 13 [Tu I ns, I s, I h, Nn room]) = .rt (oV (getI (LV ns s h room ns.length) 0)) T := by
    unfold g_with_room
    refine st_seqX (R := fun r => ∃ T, r = .rt (oV (getI (LV ns s h room ns.length) 0)) T) (st_expr (ev_call (ev_cons (ev_var rfl) (ev_cons (ev_var rfl) (ev_cons (ev_var rfl) (ev_cons (ev_var rfl) ev_nil)))) (du_cons (du_cons (du_cons (du_cons du_nil)))) (f_check C (r := (room : Int)) (by omega)))) ?_
    refine st_seqX (R := fun r => ∃ T, r = .rt (oV (getI (LV ns s h room ns.length) 0)) T) (s1 := SW ns s h room 0 none none none none none none none none [.dct (DKv PV (LV ns s h room 0))]) (st_setC (ev_dct (ev_dpairs_cons ev_c rfl (ev_tup (ev_cons ev_c (ev_cons (ev_tup ev_nil du_nil rfl) ev_nil)) (du_cons (du_cons du_nil)) rfl) ev_dpairs_nil)) rfl) ?_
    obtain ⟨z, e1, m, a5, a6, a7, a8, a9, a10, a11, a12, ce, rfl, hc⟩ := nx_forR (n := ns.length) (enc := fun k => I (na ns k)) (fi := iSeq (eVar 0)) (pt := pName 5) (body := (sSeq (sSetA 6 eDnew)
  (sSeq (sForIt 4 (pD (pTup 2 (psCons (pName 7) (psCons (pTup 2 (psCons (pName 8) (psCons (pName 9) psNil))) psNil)))) (sFor (iR1 (eBin dAdd (eVar 3) (eC (.int 1)))) (pName 10) (sSeq (sSet 11 (eBin dSub (eBin dAdd (eVar 7) (eVar 10)) (eVar 5)))
  (sIf (fBool (eChain dLe dLe (eC (.int 0)) (eVar 11) (eUn dSum (eVar 0)))) (sSeq (sSet 12 (eTup (aCons (eBin dAdd (eBin dAdd (eVar 8) (eIf (fCmp dGt (eVar 10) (eC (.int 0))) (eVar 1) (eC (.int 0)))) (eBin dMul (eVar 2) (eVar 11))) (aCons (eBin dAdd (eVar 9) (eTup (aCons (eVar 10) aNil))) aNil))))
  (sPutA (eVar 6) (eVar 11) (eBin dMin2V (eDGet2 (eVar 6) (eVar 11) (eVar 12)) (eVar 12)))) sNx))))
  (sSetA 4 (eVar 6))))) (s := SW ns s h room 0 none none none none none none none none [.dct (DKv PV (LV ns s h room 0))])
      (fun k z => ∃ m a5 a6 a7 a8 a9 a10 a11 a12 ce, z = SW ns s h room m a5 a6 a7 a8 a9 a10 a11 a12 ce ∧ ce[m]? = some (.dct (DKv PV (LV ns s h room k)))) (w_seq (ev_var rfl) (seq_na ns)) ⟨0, _, _, _, _, _, _, _, _, _, rfl, rfl⟩ (by
        rintro k z hk ⟨m, a5, a6, a7, a8, a9, a10, a11, a12, ce, rfl, hc⟩
        refine for_nx (s1 := SW ns s h room m (vv (I (na ns k))) a6 a7 a8 a9 a10 a11 a12 ce) rfl ?_
        refine nx_imp (w_day C hr hk hc) ?_
        rintro z ⟨m, a6, a7, a8, a9, a10, a11, a12, ce', rfl, h2⟩
        exact ⟨_, _, _, _, _, _, _, _, _, _, rfl, h2⟩)
    refine st_seqX (R := fun r => ∃ T, r = .rt (oV (getI (LV ns s h room ns.length) 0)) T) e1 ⟨⟨none, ce⟩, st_retE' (s1 := SW ns s h room m a5 a6 a7 a8 a9 a10 a11 a12 ce) ?_ rfl⟩
    rw [ev_dget1 (n := m) (k := .inl 0) (ev_celV rfl) hc ev_c rfl hc, valA_DK]
    cases getI (LV ns s h room ns.length) 0 <;> rfl
  unfold F_with_room
  exact fn_ok rfl e
end
end k57_whole_lots
set_option Elab.async false
set_option linter.all false
set_option maxRecDepth 100000
set_option maxHeartbeats 0
namespace k57_whole_lots
open PySem L2 Ev
structure Lv (f : List (Int × Val)) (P : Int → Val → Prop) : Prop where
  nd : (f.map (·.1)).Nodup
  ok : ∀ l v, getI f l = some v → P l v ∧ ∀ w, P l w → ltV w v = false
  ex : ∀ l w, P l w → ∃ v, getI f l = some v
theorem Lv.nil : Lv [] (fun _ _ => False) := ⟨by simp, fun l v e => (by cases e), fun _ _ h => h.elim⟩
theorem Lv.ins {f : List (Int × Val)} {P : Int → Val → Prop} (L : Lv f P) (t : Int × Val) : Lv (insM f t) (fun l v => P l v ∨ (l, v) = t) := by
  have O := ord_V
  obtain ⟨k, t⟩ := t
  have e0 : ∀ l, getI (insM f (k, t)) l = if l = k then some (minV ((getI f k).getD t) t) else getI f l := fun l => getI_put f k l _
  refine ⟨keys_putI _ _ _ L.nd, fun l v e => ?_, fun l w h => ?_⟩
  · rw [e0] at e
    by_cases hl : l = k
    · subst hl
      rw [if_pos rfl] at e
      cases hg : getI f l with
      | none =>
        rw [hg] at e
        have ev : v = t := by
          have e : some (minV t t) = some v := e
          cases e
          rcases minV_or t t with h | h <;> exact h
        subst ev
        refine ⟨.inr rfl, fun w h => ?_⟩
        rcases h with h | h
        · obtain ⟨v0, h0⟩ := L.ex l w h; rw [hg] at h0; cases h0
        · cases h; exact O.irr _
      | some v0 =>
        rw [hg] at e
        obtain ⟨h1, h2⟩ := L.ok l v0 hg
        have e : some (minV v0 t) = some v := e
        cases e
        unfold minV
        by_cases hc : ltV t v0 = true
        · rw [if_pos hc]
          refine ⟨.inr rfl, fun w h => ?_⟩
          rcases h with h | h
          · have h3 := h2 w h
            cases h4 : ltV w t with
            | false => rfl
            | true => rw [O.tr _ _ _ h4 hc] at h3; cases h3
          · cases h; exact O.irr _
        · rw [if_neg hc]
          refine ⟨.inl h1, fun w h => ?_⟩
          rcases h with h | h
          · exact h2 w h
          · cases h; simpa using hc
    · rw [if_neg hl] at e
      obtain ⟨h1, h2⟩ := L.ok l v e
      refine ⟨.inl h1, fun w h => ?_⟩
      rcases h with h | h
      · exact h2 w h
      · cases h; exact absurd rfl hl
  · rw [e0]
    by_cases hl : l = k
    · exact ⟨_, if_pos hl⟩
    · rw [if_neg hl]
      rcases h with h | h
      · exact L.ex l w h
      · cases h; exact absurd rfl hl
theorem Lv.cong {f : List (Int × Val)} {P Q : Int → Val → Prop} (L : Lv f P) (h : ∀ l v, P l v ↔ Q l v) : Lv f Q :=
  ⟨L.nd, fun l v e => ⟨(h l v).mp (L.ok l v e).1, fun w hw => (L.ok l v e).2 w ((h l w).mpr hw)⟩, fun l w hw => L.ex l w ((h l w).mpr hw)⟩
theorem Lv.fold : ∀ (ts : List (Int × Val)) (f : List (Int × Val)) (P : Int → Val → Prop), Lv f P → Lv (ts.foldl insM f) (fun l v => P l v ∨ (l, v) ∈ ts)
  | [], f, P, L => L.cong fun l v => by simp
  | t :: ts, f, P, L => (Lv.fold ts (insM f t) _ (L.ins t)).cong fun l v => by
    rw [List.mem_cons]
    constructor
    · rintro ((h | h) | h)
      · exact .inl h
      · exact .inr (.inl h)
      · exact .inr (.inr h)
    · rintro (h | h | h)
      · exact .inl (.inl h)
      · exact .inl (.inr h)
      · exact .inr h
theorem lexB_snoc {a : Int} : ∀ (x y : List Int), x.length = y.length → lexB ltI (x ++ [a]) (y ++ [a]) = lexB ltI x y
  | [], [], _ => by simp [lexB]
  | [], _ :: _, h => by simp at h
  | _ :: _, [], h => by simp at h
  | u :: x, v :: y, h => by
    rw [List.cons_append, List.cons_append, lexB, lexB, lexB_snoc x y (by simpa using h)]
theorem ltV_ext {w v : Val} {c a : Int} (h : w.2.length = v.2.length) : ltV (w.1 + c, w.2 ++ [a]) (v.1 + c, v.2 ++ [a]) = ltV w v := by
  show (if w.1 + c = v.1 + c then lexB ltI (w.2 ++ [a]) (v.2 ++ [a]) else decide (w.1 + c < v.1 + c)) = (if w.1 = v.1 then lexB ltI w.2 v.2 else decide (w.1 < v.1))
  rw [lexB_snoc _ _ h]
  by_cases e : w.1 = v.1
  · rw [if_pos e, if_pos (by omega)]
  · rw [if_neg e, if_neg (by omega)]
    rw [Bool.eq_iff_iff, decide_eq_true_iff, decide_eq_true_iff]; omega
def Pt (ns : List Int) (s h : Int) (room : Nat) : Nat → Int → Val → Prop
  | 0 => fun l v => l = 0 ∧ v = (0, [])
  | k + 1 => fun l' v' => ∃ l v a, Pt ns s h room k l v ∧ a < room + 1 ∧ tl ns s h (na ns k) (l, v) a = some (l', v')
section
variable {ns : List Int} {s h : Int} {room : Nat}
theorem Pt_facts : ∀ k l v, Pt ns s h room k l v → v.2.length = k ∧ (∀ a ∈ v.2, 0 ≤ a ∧ a ≤ (room : Int)) ∧ l = v.2.sum - Sm ns 0 k ∧ ∀ ms, (∀ i, i < k → na ms i = na v.2 i) → (List.range k).foldlM (cs ns s h ms) (0, 0) = some (l, v.1)
  | 0, l, v, ⟨h1, h2⟩ => by
    subst h1 h2
    exact ⟨rfl, fun a ha => (by cases ha), by simp [Sm], fun ms _ => rfl⟩
  | k + 1, l', v', ⟨l, v, a, hp, ha, e⟩ => by
    obtain ⟨h1, h2, h3, h4⟩ := Pt_facts k l v hp
    obtain ⟨g1, g2, g3⟩ := tl_some e
    cases g3
    refine ⟨by show (v.2 ++ [(a : Int)]).length = _; rw [List.length_append, h1]; rfl, fun b hb => ?_, ?_, fun ms hm => ?_⟩
    · rcases List.mem_append.mp hb with hb | hb
      · exact h2 b hb
      · rw [List.mem_singleton.mp hb]; omega
    · show l + (a : Int) - na ns k = (v.2 ++ [(a : Int)]).sum - Sm ns 0 (k + 1)
      rw [Sm_snoc, Nat.zero_add, List.sum_append, h3]
      simp
      omega
    · have hk := hm k (by omega)
      have e1 : na (v.2 ++ [(a : Int)]) k = (a : Int) := by
        unfold na
        rw [List.getD_eq_getElem?_getD, List.getElem?_append_right (by omega), h1, Nat.sub_self]; rfl
      have hk : na ms k = (a : Int) := hk.trans e1
      have hi : ∀ i, i < k → na ms i = na v.2 i := fun i hi => by
        rw [hm i (by omega)]
        show na (v.2 ++ [(a : Int)]) i = na v.2 i
        unfold na
        rw [List.getD_eq_getElem?_getD, List.getElem?_append_left (by omega), List.getD_eq_getElem?_getD]
      rw [List.range_succ, List.foldlM_append, h4 ms hi]
      show (List.foldlM (cs ns s h ms) (l, v.1) [k]) = _
      rw [List.foldlM_cons]
      have g1 : 0 ≤ l + (a : Int) - na ns k := g1
      have e2 : l + ((a : Int) - na ns k) = l + (a : Int) - na ns k := by omega
      have : cs ns s h ms (l, v.1) k = some (l + (a : Int) - na ns k, v.1 + (if 0 < (a : Int) then s else 0) + h * (l + (a : Int) - na ns k)) := by
        unfold cs
        dsimp only
        rw [hk, e2, if_neg (by omega), Int.add_assoc]
      rw [this]
      rfl
theorem tl_same {x l : Int} {v w : Val} {a : Nat} {t : Int × Val} (e : tl ns s h x (l, w) a = some t) : ∃ c, t = (l + (a : Int) - x, (w.1 + c, w.2 ++ [(a : Int)])) ∧ tl ns s h x (l, v) a = some (l + (a : Int) - x, (v.1 + c, v.2 ++ [(a : Int)])) := by
  obtain ⟨g1, g2, g3⟩ := tl_some e
  refine ⟨(if 0 < (a : Int) then s else 0) + h * (l + (a : Int) - x), ?_, ?_⟩
  · rw [g3, ← Int.add_assoc]
  · unfold tl
    rw [if_pos ⟨g1, g2⟩, ← Int.add_assoc]
theorem LV_ok : ∀ k, Lv (LV ns s h room k) (Pt ns s h room k)
  | 0 => by
    refine ⟨by simp [LV], fun l v e => ?_, fun l w hw => ?_⟩
    · have e : getI [((0 : Int), ((0, []) : Val))] l = some v := e
      by_cases hl : l = 0
      · subst hl
        rw [getI_pos rfl] at e
        cases e
        exact ⟨⟨rfl, rfl⟩, fun w hw => by rw [hw.2]; exact ord_V.irr _⟩
      · rw [getI_neg (fun z => hl z.symm)] at e; cases e
    · obtain ⟨h1, h2⟩ := hw
      subst h1
      exact ⟨(0, []), getI_pos rfl⟩
  | k + 1 => by
    have L := LV_ok k
    have F := Lv.fold ((LV ns s h room k).flatMap (ext ns s h room (na ns k))) [] _ Lv.nil
    have O := ord_V
    -- what is reached from the least is in the list
    have inn : ∀ l' w', Pt ns s h room (k + 1) l' w' → ∃ t, (l', t) ∈ (LV ns s h room k).flatMap (ext ns s h room (na ns k)) ∧ ltV w' t = false := by
      rintro l' w' ⟨l, w, a, hp, ha, e⟩
      obtain ⟨v, hv⟩ := L.ex l w hp
      obtain ⟨c, e1, e2⟩ := tl_same (v := v) e
      cases e1
      refine ⟨_, List.mem_flatMap.mpr ⟨(l, v), getI_mem hv, List.mem_filterMap.mpr ⟨a, List.mem_range.mpr ha, e2⟩⟩, ?_⟩
      obtain ⟨h1, h2⟩ := L.ok l v hv
      rw [ltV_ext (by rw [(Pt_facts k l w hp).1, (Pt_facts k l v h1).1])]
      exact h2 w hp
    refine ⟨F.nd, fun l' v' e => ?_, fun l' w' hw => ?_⟩
    · obtain ⟨h1, h2⟩ := F.ok l' v' e
      rcases h1 with h1 | h1
      · exact h1.elim
      refine ⟨?_, fun w' hw => ?_⟩
      · obtain ⟨q, hq, h3⟩ := List.mem_flatMap.mp h1
        obtain ⟨a, ha, e3⟩ := List.mem_filterMap.mp h3
        exact ⟨q.1, q.2, a, (L.ok q.1 q.2 (mem_getI L.nd hq)).1, List.mem_range.mp ha, e3⟩
      · obtain ⟨t, ht, h4⟩ := inn l' w' hw
        have h5 := h2 t (.inr ht)
        cases h6 : ltV w' v' with
        | false => rfl
        | true => rw [O.le_lt h4 h6] at h5; cases h5
    · obtain ⟨t, ht, _⟩ := inn l' w' hw
      exact F.ex l' t (.inr ht)
/-- a way that keeps within the room and leaves nothing -/
structure Gd (ns : List Int) (s h : Int) (room : Nat) (v : Val) : Prop where
  len : v.2.length = ns.length
  bd : ∀ a ∈ v.2, 0 ≤ a ∧ a ≤ (room : Int)
  sum : v.2.sum = ns.sum
  co : CO ns s h v.2 = some v.1
theorem Sm_all : Sm ns 0 ns.length = ns.sum := by
  have := Sm_take (ns := ns) (k := ns.length) (Nat.le_refl _)
  rw [List.take_length] at this
  exact this.symm
theorem Gd_of {v : Val} (p : Pt ns s h room ns.length 0 v) : Gd ns s h room v := by
  obtain ⟨h1, h2, h3, h4⟩ := Pt_facts _ _ _ p
  rw [Sm_all] at h3
  refine ⟨h1, h2, by omega, ?_⟩
  unfold CO
  rw [h4 v.2 fun _ _ => rfl]
  rfl
theorem take_sum_le : ∀ (xs : List Int) (k : Nat), (∀ a ∈ xs, 0 ≤ a) → (xs.take k).sum ≤ xs.sum
  | [], k, _ => by simp
  | x :: xs, 0, h => by
    have := take_sum_le xs 0 fun a ha => h a (by simp [ha])
    have := h x (by simp)
    simp at *; omega
  | x :: xs, k + 1, h => by
    have := take_sum_le xs k fun a ha => h a (by simp [ha])
    rw [List.take_succ_cons, List.sum_cons, List.sum_cons]; omega
theorem Pt_of (C : CT ns s h) {v : Val} (G : Gd ns s h room v) : Pt ns s h room ns.length 0 v := by
  have key : ∀ k, k ≤ ns.length → ∃ p, (List.range k).foldlM (cs ns s h v.2) (0, 0) = some ((v.2.take k).sum - Sm ns 0 k, p) ∧ Pt ns s h room k ((v.2.take k).sum - Sm ns 0 k) (p, v.2.take k) := by
    intro k
    induction k with
    | zero => intro _; exact ⟨0, by simp [Sm], by simp [Sm], by simp⟩
    | succ k ih =>
      intro hk
      obtain ⟨p, e1, hp⟩ := ih (by omega)
      have hlk : k < v.2.length := by rw [G.len]; omega
      have hvk : v.2[k]? = some v.2[k] := List.getElem?_eq_getElem hlk
      have hb := G.bd v.2[k] (List.getElem_mem hlk)
      have hna : na v.2 k = v.2[k] := by unfold na; rw [List.getD_eq_getElem?_getD, hvk]; rfl
      have htk : v.2.take (k + 1) = v.2.take k ++ [v.2[k]] := by rw [List.take_add_one, hvk]; rfl
      have hsum : (v.2.take (k + 1)).sum - Sm ns 0 (k + 1) = (v.2.take k).sum - Sm ns 0 k + (v.2[k] - na ns k) := by
        rw [htk, List.sum_append, Sm_snoc, Nat.zero_add]; simp; omega
      have hle := take_sum_le v.2 (k + 1) fun a ha => (G.bd a ha).1
      have hS := Sm_pos C (k + 1) 0
      have hco := G.co
      unfold CO at hco
      rw [show ns.length = (k + 1) + (ns.length - (k + 1)) by omega, List.range_add, List.foldlM_append, List.range_succ, List.foldlM_append, e1] at hco
      have e2 : List.foldlM (cs ns s h v.2) ((v.2.take k).sum - Sm ns 0 k, p) [k] = cs ns s h v.2 ((v.2.take k).sum - Sm ns 0 k, p) k := by
        rw [List.foldlM_cons]
        cases cs ns s h v.2 ((v.2.take k).sum - Sm ns 0 k, p) k <;> rfl
      have hco : (((List.foldlM (cs ns s h v.2) ((v.2.take k).sum - Sm ns 0 k, p) [k]) >>= fun b => List.foldlM (cs ns s h v.2) b ((List.range (ns.length - (k + 1))).map (k + 1 + ·))).map (·.2)) = some v.1 := hco
      rw [e2] at hco
      cases e3 : cs ns s h v.2 ((v.2.take k).sum - Sm ns 0 k, p) k with
      | none => rw [e3] at hco; cases hco
      | some b =>
        have e4 := e3
        unfold cs at e4
        dsimp only at e4
        rw [hna] at e4
        by_cases hn : (v.2.take k).sum - Sm ns 0 k + (v.2[k] - na ns k) < 0
        · rw [if_pos hn] at e4; cases e4
        rw [if_neg hn] at e4
        rw [← hsum] at e4 hn
        cases e4
        refine ⟨_, by rw [List.range_succ, List.foldlM_append, e1]; exact e2.trans e3, (v.2.take k).sum - Sm ns 0 k, (p, v.2.take k), v.2[k].toNat, hp, by omega, ?_⟩
        have hc : ((v.2[k].toNat : Nat) : Int) = v.2[k] := Int.toNat_of_nonneg hb.1
        unfold tl
        rw [hc]
        have e5 : (v.2.take k).sum - Sm ns 0 k + v.2[k] - na ns k = (v.2.take (k + 1)).sum - Sm ns 0 (k + 1) := by rw [hsum]; omega
        dsimp only
        rw [e5, if_pos ⟨by omega, by rw [← G.sum]; omega⟩, htk, Int.add_assoc]
  obtain ⟨p, e1, hp⟩ := key ns.length (Nat.le_refl _)
  have hl : v.2.take ns.length = v.2 := by rw [← G.len, List.take_length]
  rw [hl, Sm_all, G.sum, Int.sub_self] at hp e1
  have hco := G.co
  unfold CO at hco
  rw [e1] at hco
  have hco : some p = some v.1 := hco
  cases hco
  exact hp
/-- what with_room finds: the first of the least of a list of all such ways -/
theorem room_least (C : CT ns s h) {good : List Val} (hg : ∀ v, v ∈ good ↔ Gd ns s h room v) : oV (getI (LV ns s h room ns.length) 0) = if good = [] then .none else PV (lst ltV good) := by
  have L := LV_ok (ns := ns) (s := s) (h := h) (room := room) ns.length
  by_cases he : good = []
  · rw [if_pos he]
    cases hgv : getI (LV ns s h room ns.length) 0 with
    | none => rfl
    | some v =>
      have := (hg v).mpr (Gd_of (L.ok 0 v hgv).1)
      rw [he] at this; cases this
  · rw [if_neg he]
    have hm := lst_mem (lf := ltV) he
    have hG := (hg _).mp hm
    obtain ⟨v, hv⟩ := L.ex 0 _ (Pt_of C hG)
    rw [hv]
    obtain ⟨h1, h2⟩ := L.ok 0 v hv
    have h3 := h2 _ (Pt_of C hG)
    have h4 := lst_min ord_V v ((hg v).mpr (Gd_of h1))
    show PV v = _
    congr 1
    rcases ord_V.tot v (lst ltV good) with h5 | h5 | h5
    · rw [h5] at h4; cases h4
    · exact h5
    · rw [h5] at h3; cases h3
end
end k57_whole_lots
set_option Elab.async false
set_option linter.all false
set_option maxRecDepth 100000
set_option maxHeartbeats 0
namespace k57_whole_lots
open PySem L2 Ev
/-! ### all ways -/
def grow (most : Nat) (row : List Int) : List (List Int) := (List.range (most + 1)).map fun a => row ++ [((a : Nat) : Int)]
def Wl (most : Nat) : Nat → List (List Int)
  | 0 => [[]]
  | k + 1 => (Wl most k).flatMap (grow most)
theorem Wl_mem {most : Nat} : ∀ (k : Nat) (m : List Int), m ∈ Wl most k ↔ m.length = k ∧ ∀ a ∈ m, 0 ≤ a ∧ a ≤ (most : Int)
  | 0, m => by
    show m ∈ [[]] ↔ _
    rw [List.mem_singleton]
    constructor
    · rintro rfl; exact ⟨rfl, fun a ha => (by cases ha)⟩
    · rintro ⟨h, _⟩; exact List.eq_nil_of_length_eq_zero h
  | k + 1, m => by
    show m ∈ (Wl most k).flatMap (grow most) ↔ _
    rw [List.mem_flatMap]
    constructor
    · rintro ⟨row, h1, h2⟩
      obtain ⟨g1, g2⟩ := (Wl_mem k row).mp h1
      obtain ⟨a, ha, rfl⟩ := List.mem_map.mp h2
      have ha := List.mem_range.mp ha
      refine ⟨by simp [g1], fun b hb => ?_⟩
      rcases List.mem_append.mp hb with hb | hb
      · exact g2 b hb
      · rw [List.mem_singleton.mp hb]; omega
    · rintro ⟨h1, h2⟩
      have hne : m ≠ [] := by intro e; rw [e] at h1; simp at h1
      have hl := h2 _ (List.getLast_mem hne)
      refine ⟨m.dropLast, (Wl_mem k _).mpr ⟨by rw [List.length_dropLast]; omega, fun a ha => h2 a (List.dropLast_subset m ha)⟩, ?_⟩
      refine List.mem_map.mpr ⟨(m.getLast hne).toNat, List.mem_range.mpr (by omega), ?_⟩
      rw [Int.toNat_of_nonneg hl.1]
      exact List.dropLast_concat_getLast hne
theorem Wl_len {most : Nat} : ∀ k, (Wl most k).length = (most + 1) ^ k
  | 0 => rfl
  | k + 1 => by
    have : ∀ rs : List (List Int), (rs.flatMap (grow most)).length = rs.length * (most + 1) := fun rs => by
      induction rs with
      | nil => simp
      | cons r rs ih => rw [List.flatMap_cons, List.length_append, ih, List.length_cons, Nat.add_mul]; simp [grow]; omega
    show ((Wl most k).flatMap (grow most)).length = _
    rw [this, Wl_len k, Nat.pow_succ]
theorem f_ways {n most : Nat} (hn : n ≤ 4) (hm : most ≤ 4) : F_u_law_ways [Nn n, Nn most] = .ok (Li (Tu I) (Wl most n)) := by
  have h54 : ∀ k, k ≤ 4 → (Wl most k).length ≤ 625 := fun k hk => by
    rw [Wl_len]
    have h1 : (most + 1) ^ k ≤ 5 ^ k := Nat.pow_le_pow_left (by omega) k
    have h2 : (5 : Nat) ^ k ≤ 5 ^ 4 := Nat.pow_le_pow_right (by decide) hk
    have h3 : (5 : Nat) ^ 4 = 625 := by decide
    omega
  unfold F_u_law_ways
  apply fn_ok (T := T0)
  · rfl
  unfold g_u_law_ways
  apply st_seq' (s1 := ⟨[vv (Nn n), vv (Nn most), vv (Li (Tu I) (Wl most 0)), none, none, none, none], T0⟩)
  · exact st_setE' (ev_M' (xs := [([] : List Int)]) (f := Tu I) (m_lst (ev_cons (ev_tup ev_nil du_nil rfl) ev_nil) (du_cons du_nil) (by simp [szL]))) rfl
  refine st_forR (n := n) (enc := Nn) (fun k z => ∃ a3 a4 a5, z = ⟨[vv (Nn n), vv (Nn most), vv (Li (Tu I) (Wl most k)), a3, a4, a5, none], T0⟩) (w_r1 (ev_var rfl) (by omega)) ⟨_, _, _, rfl⟩ ?_ ?_
  · rintro k z hk ⟨a3, a4, a5, rfl⟩
    have hW := h54 k (by omega)
    have hW2 := h54 (k + 1) (by omega)
    refine for_nx (s1 := ⟨[vv (Nn n), vv (Nn most), vv (Li (Tu I) (Wl most k)), vv (Nn k), a4, a5, none], T0⟩) rfl ?_
    refine nx_seq (s1 := ⟨[vv (Nn n), vv (Nn most), vv (Li (Tu I) (Wl most k)), vv (Nn k), vv (Li (Tu I) []), a5, none], T0⟩) (st_setE' (ev_M' (xs := []) (f := Tu I) (m_lst ev_nil du_nil (by simp [szL]))) rfl) ?_
    refine nx_seqN (nx_forP (xs := Wl most k) (enc := Tu I) (fun p z => ∃ a5, z = ⟨[vv (Nn n), vv (Nn most), vv (Li (Tu I) (Wl most k)), vv (Nn k), vv (Li (Tu I) (p.flatMap (grow most))), a5, none], T0⟩) (w_seq (ev_var rfl) seq_li) ⟨_, rfl⟩ ?_) ?_
    · rintro p row q z hpq ⟨a5, rfl⟩
      have hrow : row ∈ Wl most k := by rw [hpq]; simp
      have hrl := ((Wl_mem k row).mp hrow).1
      have hlen : (p.flatMap (grow most)).length + (grow most row).length ≤ 625 := by
        have h1 : (Wl most (k + 1)).length = (p.flatMap (grow most)).length + ((grow most row).length + (q.flatMap (grow most)).length) := by
          show ((Wl most k).flatMap (grow most)).length = _
          rw [hpq, List.flatMap_append, List.flatMap_cons, List.length_append, List.length_append]
        omega
      refine for_stp (s1 := ⟨[vv (Nn n), vv (Nn most), vv (Li (Tu I) (Wl most k)), vv (Nn k), vv (Li (Tu I) (p.flatMap (grow most))), vv (Tu I row), none], T0⟩) (s2 := ⟨[vv (Nn n), vv (Nn most), vv (Li (Tu I) (Wl most k)), vv (Nn k), vv (Li (Tu I) ((p ++ [row]).flatMap (grow most))), vv (Tu I row), none], T0⟩) rfl ?_ ⟨_, rfl⟩
      have em : eM (mComp [6] (iR1 (eBin dAdd (eVar 1) (eC (.int 1)))) (pName 6) fYes e1_u_law_ways) (⟨[vv (Nn n), vv (Nn most), vv (Li (Tu I) (Wl most k)), vv (Nn k), vv (Li (Tu I) (p.flatMap (grow most))), vv (Tu I row), none], T0⟩ : ES) = .ok (.d (Li (Tu I) (grow most row))) ⟨[vv (Nn n), vv (Nn most), vv (Li (Tu I) (Wl most k)), vv (Nn k), vv (Li (Tu I) (p.flatMap (grow most))), vv (Tu I row), none], T0⟩ := by
        refine ev_M' ?_
        unfold grow
        rw [List.map_map]
        refine Ev.comp_map (xs := List.range (most + 1)) (enc := Nn) (w_r1 (ev_bin (ev_var rfl) ev_c add_n1) (by omega)) (by simp [szL]; omega) rfl fun a ha => ⟨_, rfl, rfl, ?_⟩
        exact ev_bin (ev_var rfl) (ev_tup (ev_cons (ev_var rfl) ev_nil) (du_cons du_nil) rfl) (add_tu (f := I) (xs := row) (ys := [(a : Int)]) (by simp [szL]; omega))
      refine st_setE' (ev_bin (ev_var rfl) em (add_li (f := Tu I) (xs := p.flatMap (grow most)) (ys := grow most row) (by simp only [szL]; omega))) ?_
      rw [List.flatMap_append, List.flatMap_cons, List.flatMap_nil, List.append_nil]
      rfl
    · rintro z ⟨a5, rfl⟩
      exact nx_of (st_setE' (ev_var rfl) rfl) ⟨vv (Nn k), vv (Li (Tu I) (Wl most (k + 1))), a5, rfl⟩
  · rintro z ⟨a3, a4, a5, rfl⟩
    exact st_retE' (ev_var rfl) rfl
/-! ### room enough -/
section
variable {ns : List Int} {s h : Int} {room : Nat}
theorem sum_room : ∀ xs : List Int, (∀ a ∈ xs, a ≤ (room : Int)) → xs.sum ≤ (room : Int) * (xs.length : Int)
  | [], _ => by simp
  | x :: xs, h => by
    have h1 := sum_room xs fun a ha => h a (by simp [ha])
    have h2 := h x (by simp)
    rw [List.sum_cons, List.length_cons]
    have : (room : Int) * ((xs.length + 1 : Nat) : Int) = (room : Int) * (xs.length : Int) + room := by
      rw [Int.natCast_add, Int.mul_add]; simp
    omega
theorem Pt_enough : ∀ k l v, Pt ns s h room k l v → 0 ≤ l ∧ ∀ j, j < k → Sm ns 0 (j + 1) ≤ (room : Int) * ((j + 1 : Nat) : Int)
  | 0, l, v, ⟨h1, h2⟩ => ⟨by omega, fun j hj => by omega⟩
  | k + 1, l', v', P => by
    have hP := P
    obtain ⟨l, v, a, hp, ha, e⟩ := P
    obtain ⟨h1, h2⟩ := Pt_enough k l v hp
    obtain ⟨g1, g2, g3⟩ := tl_some e
    obtain ⟨f1, f2, f3, _⟩ := Pt_facts _ _ _ hP
    have hl : 0 ≤ l' := by cases g3; exact g1
    refine ⟨hl, fun j hj => ?_⟩
    rcases Nat.lt_or_ge j k with hjk | hjk
    · exact h2 j hjk
    · have : j = k := by omega
      subst this
      have h3 := sum_room v'.2 fun a ha => (f2 a ha).2
      rw [f1] at h3
      omega
theorem none_short (C : CT ns s h) {v : Val} (G : Gd ns s h room v) : (List.range ns.length).any (shT ns room) = false := by
  have := (Pt_enough _ _ _ (Pt_of C G)).2
  rw [List.any_eq_false]
  intro k hk
  have h1 := this k (List.mem_range.mp hk)
  unfold shT
  rw [decide_eq_true_iff]
  omega
/-- as much as there is room for, from the first day on -/
def mkA (ns : List Int) (room : Nat) (k : Nat) : Int := if (room : Int) * (k : Int) ≤ ns.sum then (room : Int) * (k : Int) else ns.sum
def mkM (ns : List Int) (room : Nat) : List Int := (List.range ns.length).map fun k => mkA ns room (k + 1) - mkA ns room k
theorem mkM_take : ∀ k, k ≤ ns.length → 0 ≤ ns.sum → ((mkM ns room).take k).sum = mkA ns room k
  | 0, _, hs => by
    unfold mkA
    simp
    omega
  | k + 1, hk, hs => by
    have e : (mkM ns room)[k]? = some (mkA ns room (k + 1) - mkA ns room k) := by
      unfold mkM
      rw [List.getElem?_map, List.getElem?_range (by omega)]; rfl
    rw [List.take_add_one, e, List.sum_append, mkM_take k (by omega) hs]
    simp
    omega
theorem roomM (k : Nat) : (room : Int) * ((k + 1 : Nat) : Int) = (room : Int) * (k : Int) + (room : Int) := by
  rw [Int.natCast_add, Int.mul_add]; simp
theorem mkM_ok (C : CT ns s h) (hs : (List.range ns.length).any (shT ns room) = false) : ∃ c, Gd ns s h room (c, mkM ns room) := by
  have hsum := C.sum
  have n1 := C.n1
  rw [List.any_eq_false] at hs
  have hS : ∀ k, k < ns.length → Sm ns 0 (k + 1) ≤ (room : Int) * ((k + 1 : Nat) : Int) := fun k hk => by
    have := hs k (List.mem_range.mpr hk)
    unfold shT at this
    rw [decide_eq_true_iff] at this
    omega
  have hle : ∀ k, k ≤ ns.length → Sm ns 0 k ≤ ns.sum := fun k hk => by
    rw [← Sm_take hk]
    exact take_sum_le ns k C.lo
  have hA : ∀ k, k ≤ ns.length → Sm ns 0 k ≤ mkA ns room k := fun k hk => by
    unfold mkA
    have h1 := hle k hk
    cases k with
    | zero => simp [Sm]; omega
    | succ k =>
      have h2 := hS k (by omega)
      split <;> omega
  have hlen : (mkM ns room).length = ns.length := by unfold mkM; simp
  have hat : ∀ k, k < ns.length → na (mkM ns room) k = mkA ns room (k + 1) - mkA ns room k := fun k hk => by
    unfold na mkM
    rw [List.getD_eq_getElem?_getD, List.getElem?_map, List.getElem?_range hk]; rfl
  have hbd : ∀ k, 0 ≤ mkA ns room (k + 1) - mkA ns room k ∧ mkA ns room (k + 1) - mkA ns room k ≤ (room : Int) := fun k => by
    have := roomM (room := room) k
    unfold mkA
    split <;> split <;> omega
  have key : ∀ k, k ≤ ns.length → ∃ p, (List.range k).foldlM (cs ns s h (mkM ns room)) (0, 0) = some (mkA ns room k - Sm ns 0 k, p) := by
    intro k
    induction k with
    | zero =>
      intro _
      refine ⟨0, ?_⟩
      show some ((0 : Int), (0 : Int)) = _
      unfold mkA
      simp [Sm]
      omega
    | succ k ih =>
      intro hk
      obtain ⟨p, e⟩ := ih (by omega)
      have h1 := hA (k + 1) hk
      have h2 := Sm_snoc (ns := ns) k 0
      rw [Nat.zero_add] at h2
      refine ⟨p + ((if 0 < na (mkM ns room) k then s else 0) + h * (mkA ns room (k + 1) - Sm ns 0 (k + 1))), ?_⟩
      rw [List.range_succ, List.foldlM_append, e]
      show List.foldlM (cs ns s h (mkM ns room)) (mkA ns room k - Sm ns 0 k, p) [k] = _
      rw [List.foldlM_cons]
      have e3 : mkA ns room k - Sm ns 0 k + (na (mkM ns room) k - na ns k) = mkA ns room (k + 1) - Sm ns 0 (k + 1) := by
        rw [hat k (by omega)]; omega
      have e2 : cs ns s h (mkM ns room) (mkA ns room k - Sm ns 0 k, p) k = some (mkA ns room (k + 1) - Sm ns 0 (k + 1), p + ((if 0 < na (mkM ns room) k then s else 0) + h * (mkA ns room (k + 1) - Sm ns 0 (k + 1)))) := by
        unfold cs
        dsimp only
        rw [e3, if_neg (by omega)]
      rw [e2]; rfl
  obtain ⟨p, e⟩ := key ns.length (Nat.le_refl _)
  refine ⟨p, hlen, fun a ha => ?_, ?_, ?_⟩
  · obtain ⟨k, _, rfl⟩ := List.mem_map.mp ha
    exact hbd k
  · have h1 := mkM_take (ns := ns) (room := room) ns.length (Nat.le_refl _) hsum.1
    rw [← hlen, List.take_length, hlen] at h1
    show (mkM ns room).sum = _
    rw [h1]
    have h2 := hA ns.length (Nat.le_refl _)
    rw [Sm_all] at h2
    unfold mkA at h2 ⊢
    split <;> omega
  · unfold CO
    rw [e]; rfl
end
end k57_whole_lots
set_option Elab.async false
set_option linter.all false
set_option maxRecDepth 100000
set_option maxHeartbeats 0
namespace k57_whole_lots
open PySem L2 Ev
abbrev SL (a2 a3 a4 a5 a6 a7 a8 a9 a10 a11 a12 a13 a14 a15 a16 a17 a18 a19 a20 : Option SV) (cu : Cur) : ES := ⟨[none, some .cur, a2, a3, a4, a5, a6, a7, a8, a9, a10, a11, a12, a13, a14, a15, a16, a17, a18, a19, a20], ⟨some cu, []⟩⟩
theorem ne_same {α : Type} [DecidableEq α] {f : α → D} {k : Nat} (E : EncOk f k) {a : α} (hk : k ≤ 64 := by decide) : dNe (f a) (f a) = some (.bool false) := by
  rw [ne_enc E hk]; simp
/-- the ways with what they cost -/
abbrev WD (ns : List Int) (s h : Int) (m : List Int) : D := .tuple [Tu I m, oI (CO ns s h m)]
def Mo4 (ns : List Int) : Nat := (if ns.sum < 4 then ns.sum else 4).toNat
abbrev ws (ns : List Int) : List (List Int) := Wl (Mo4 ns) ns.length
section
variable {ns : List Int} {s h : Int} (C : CT ns s h)
include C
theorem Mo4_eq : ((Mo4 ns : Nat) : Int) = (if ns.sum < 4 then ns.sum else 4) := by
  have := C.sum
  unfold Mo4
  rw [Int.toNat_of_nonneg (by split <;> omega)]
theorem Mo4_le : Mo4 ns ≤ 4 := by
  have := C.sum
  have := Mo4_eq C
  split at this <;> omega
theorem ws_md {m : List Int} (hm : m ∈ ws ns) : MD ns m := by
  obtain ⟨h1, h2⟩ := (Wl_mem _ _).mp hm
  have := Mo4_le C
  exact ⟨h1, fun a ha => (h2 a ha).1, fun a ha => by have := (h2 a ha).2; omega⟩
theorem ws_len : (ws ns).length ≤ 625 := by
  have n4 := C.n4
  have := Mo4_le C
  rw [Wl_len]
  have h1 : (Mo4 ns + 1) ^ ns.length ≤ 5 ^ ns.length := Nat.pow_le_pow_left (by omega) _
  have h2 : (5 : Nat) ^ ns.length ≤ 5 ^ 4 := Nat.pow_le_pow_right (by decide) n4
  have h3 : (5 : Nat) ^ 4 = 625 := by decide
  omega
theorem ws_pos : 0 < (ws ns).length := by
  rw [Wl_len]
  exact Nat.pow_pos (by omega)
theorem Sm_le : ∀ (m d : Nat), Sm ns d m ≤ 2 * m
  | 0, d => by simp [Sm]
  | m + 1, d => by
    have h1 := Sm_le m (d + 1)
    have h2 := C.na0 d
    show na ns d + Sm ns (d + 1) m ≤ _
    omega
theorem pl_bd : ∀ (f d : Nat), d ≤ ns.length → ∀ a ∈ pl ns s h f d, 0 ≤ a ∧ a ≤ 10
  | 0, d, hd, a, ha => by cases ha
  | f + 1, d, hd, a, ha => by
    have n4 := C.n4
    unfold pl at ha
    by_cases hl : d < ns.length
    · rw [if_pos hl] at ha
      cases hc : cN ns s h d with
      | true =>
        rw [hc, if_pos rfl] at ha
        rcases List.mem_cons.mp ha with rfl | ha
        · omega
        · exact pl_bd f (d + 1) (by omega) a ha
      | false =>
        obtain ⟨_, h1, _⟩ := jx_at hl hc
        rw [hc, if_neg (by simp)] at ha
        rcases List.mem_cons.mp ha with rfl | ha
        · have h2 := Sm_pos C (jx ns s h d + 1) d
          have h3 := Sm_le C (jx ns s h d + 1) d
          omega
        · rcases List.mem_append.mp ha with ha | ha
          · rw [List.eq_of_mem_replicate ha]; omega
          · exact pl_bd f _ h1 a ha
    · rw [if_neg hl] at ha; cases ha
theorem pl_md : MD ns (pl ns s h ns.length 0) := ⟨by rw [pl_len _ _ (Nat.zero_le _) (by omega)]; omega, fun a ha => (pl_bd C _ _ (Nat.zero_le _) a ha).1, fun a ha => (pl_bd C _ _ (Nat.zero_le _) a ha).2⟩
theorem l_waysE (a5 a6 a8 a9 a10 a11 a12 a13 a14 a15 a16 a17 a18 a19 a20 : Option SV) (cu : Cur) :
    sSet 5 (eM (mComp [7] (iSeq (eCall F_u_law_ways (aCons (eUn dLen (eVar 2)) (aCons (eBin dMin2 (eC (.int 4)) (eUn dSum (eVar 2))) aNil)))) (pName 7) fYes e5_law)) (SL (vv (Tu I ns)) (vv (I s)) (vv (I h)) a5 a6 none a8 a9 a10 a11 a12 a13 a14 a15 a16 a17 a18 a19 a20 cu) =
      .nx (SL (vv (Tu I ns)) (vv (I s)) (vv (I h)) (vv (Li (WD ns s h) (ws ns))) a6 none a8 a9 a10 a11 a12 a13 a14 a15 a16 a17 a18 a19 a20 cu) := by
  have n4 := C.n4
  have hl := ws_len C
  refine st_setE' (s1 := SL (vv (Tu I ns)) (vv (I s)) (vv (I h)) a5 a6 none a8 a9 a10 a11 a12 a13 a14 a15 a16 a17 a18 a19 a20 cu) (ev_M' (xs := ws ns) (f := WD ns s h) (Ev.comp_map (enc := Tu I) (w_seq (ev_call (ev_cons (ev_un (ev_var rfl) len_tu) (ev_cons (ev_bin ev_c (ev_un (ev_var rfl) sum_tuI) (r := Nn (Mo4 ns)) ?_) ev_nil)) (du_cons (du_cons du_nil)) (f_ways n4 (Mo4_le C))) seq_li) (by simp only [szL]; omega) rfl fun m hm => ⟨_, rfl, rfl, ?_⟩)) rfl
  · show some (PyData.int (if ns.sum < 4 then ns.sum else 4)) = _
    rw [← Mo4_eq C]
  · exact ev_tup (ev_cons (ev_var rfl) (ev_cons (ev_call (ev_cons (ev_var rfl) (ev_cons (ev_var rfl) (ev_cons (ev_var rfl) (ev_cons (ev_var rfl) ev_nil)))) (du_cons (du_cons (du_cons (du_cons du_nil)))) (f_lcost C (ws_md C hm))) ev_nil)) (du_cons (du_cons du_nil)) rfl
theorem isnot_oI {o : Option Int} : dIsNot (oI o) .none = some (.bool o.isSome) := by cases o <;> rfl
theorem l_cheap (a8 a9 a10 a11 a12 a13 a14 a15 a17 a18 a19 : Option SV) (cu : Cur) :
    sIf (fOr (fCmp dNe (eCall F_u_law_cost (aCons (eVar 2) (aCons (eVar 3) (aCons (eVar 4) (aCons (eVar 7) aNil))))) (eVar 6)) (fOr (fCmp dNe (eCall F_cost (aCons (eVar 2) (aCons (eVar 3) (aCons (eVar 4) (aCons (eVar 7) aNil))))) (eVar 6)) (fCmp dGt (eUn dLen (eM (mComp [16, 20] (iSeq (eVar 5)) (pTup 2 (psCons (pName 16) (psCons (pName 20) psNil))) (fAnd (fCmp dIsNot (eVar 20) (eC .none)) (fCmp dLt (eVar 20) (eVar 6))) e4_law))) (eC (.int 0))))) (sRet (eC (.bool false))) sNx
      (SL (vv (Tu I ns)) (vv (I s)) (vv (I h)) (vv (Li (WD ns s h) (ws ns))) (vv (I (Td ns s h 0))) (vv (Tu I (pl ns s h ns.length 0))) a8 a9 a10 a11 a12 a13 a14 a15 none a17 a18 a19 none cu) =
      .nx (SL (vv (Tu I ns)) (vv (I s)) (vv (I h)) (vv (Li (WD ns s h) (ws ns))) (vv (I (Td ns s h 0))) (vv (Tu I (pl ns s h ns.length 0))) a8 a9 a10 a11 a12 a13 a14 a15 none a17 a18 a19 none cu) := by
  have hl := ws_len C
  have pc := plan_cost C
  refine st_no (k := false || (false || false)) (te_or (te_cmp (ev_call (ev_cons (ev_var rfl) (ev_cons (ev_var rfl) (ev_cons (ev_var rfl) (ev_cons (ev_var rfl) ev_nil)))) (du_cons (du_cons (du_cons (du_cons du_nil)))) (f_lcost C (pl_md C))) (ev_var rfl) ?_) fun _ => te_or (te_cmp (ev_call (ev_cons (ev_var rfl) (ev_cons (ev_var rfl) (ev_cons (ev_var rfl) (ev_cons (ev_var rfl) ev_nil)))) (du_cons (du_cons (du_cons (du_cons du_nil)))) (f_cost C (pl_md C))) (ev_var rfl) ?_) fun _ => te_cmp (ev_un (ev_M' (xs := (ws ns).filter fun _ => false) (f := fun m => oI (CO ns s h m)) (Ev.comp_filter (enc := WD ns s h) (t := fun _ => false) (w_seq (ev_var rfl) seq_li) (by simp only [szL]; omega) rfl fun m hm => ⟨_, rfl, rfl, ?_, fun h => by cases h⟩)) len_li) ev_c ?_) rfl
  · rw [pc]; exact ne_same enc_I
  · rw [pc]; exact ne_same enc_I
  · have hmd := ws_md C hm
    cases hco : CO ns s h m with
    | none => exact te_and (k := false) (l := false) (te_cmp (ev_var rfl) ev_c rfl) fun h => by cases h
    | some c =>
      have hlow := CO_low C (fun k => (hmd.at k).1) hco
      refine te_and (k := true) (l := false) (te_cmp (ev_var rfl) ev_c rfl) fun _ => te_cmp (ev_var rfl) (ev_var rfl) ?_
      show some (PyData.bool (decide (c < Td ns s h 0))) = _
      rw [decide_eq_false (by omega)]
  · rw [show (ws ns).filter (fun _ => false) = [] by simp]; rfl
end
end k57_whole_lots
set_option Elab.async false
set_option linter.all false
set_option maxRecDepth 100000
set_option maxHeartbeats 0
namespace k57_whole_lots
open PySem L2 Ev
theorem zeros_I {n : Nat} : ((List.range n).map fun _ => I 0) = (List.replicate n (0 : Int)).map I := by
  rw [List.map_replicate]
  apply List.ext_getElem?
  intro k
  rw [List.getElem?_map, List.getElem?_replicate]
  by_cases hk : k < n
  · rw [List.getElem?_range hk, if_pos hk]; rfl
  · rw [List.getElem?_eq_none (by simp; omega), if_neg hk]; rfl
theorem head_find {α : Type} {t : α → Bool} {xs : List α} {x : α} (h : xs.find? t = some x) : (xs.filter t)[0]? = some x := by
  rw [← List.head?_eq_getElem?, List.head?_filter, h]
section
variable {ns : List Int} {s h : Int} (C : CT ns s h)
include C
theorem l_due (a5 a6 a7 a12 a13 a14 a15 a16 a17 a18 a19 a20 : Option SV) (cu : Cur) :
    Nx (fun z => ∃ d o11, z = SL (vv (Tu I ns)) (vv (I s)) (vv (I h)) a5 a6 a7 (vv (Tu I (TT ns s h ns.length))) (oo ((pl ns s h ns.length 0).map I)) (vv (Nn d)) (Option.map SV.val o11) a12 a13 a14 a15 a16 a17 a18 a19 a20 cu)
      (sWhile 200 (fCmp dLt (eVar 10) (eUn dLen (eVar 2))) (sIf (fAnd (fCmp dEq (eBin dIx (eVar 2) (eVar 10)) (eC (.int 0))) (fCmp dEq (eBin dIx (eVar 8) (eVar 10)) (eBin dIx (eVar 8) (eBin dAdd (eVar 10) (eC (.int 1)))))) (sSet 10 (eBin dAdd (eVar 10) (eC (.int 1)))) (sSeq (sSet 11 (eBin dIx (eM (mComp [11] (iR2 (eBin dAdd (eVar 10) (eC (.int 1))) (eBin dAdd (eUn dLen (eVar 2)) (eC (.int 1)))) (pName 11) (fCmp dEq (eBin dAdd (eCall F_u_law_run (aCons (eVar 2) (aCons (eVar 3) (aCons (eVar 4) (aCons (eVar 10) (aCons (eVar 11) aNil)))))) (eBin dIx (eVar 8) (eVar 11))) (eBin dIx (eVar 8) (eVar 10))) e3_law)) (eC (.int 0))))
  (sSeq (sPutIx 9 (eUn dSum (eSl (eVar 2) (oSome (eVar 10)) (oSome (eVar 11)))) (eVar 10))
  (sSet 10 (eVar 11)))))
      (SL (vv (Tu I ns)) (vv (I s)) (vv (I h)) a5 a6 a7 (vv (Tu I (TT ns s h ns.length))) (oo ((List.replicate ns.length (0 : Int)).map I)) (vv (Nn 0)) none a12 a13 a14 a15 a16 a17 a18 a19 a20 cu)) := by
  have n1 := C.n1
  have n4 := C.n4
  have tl := TT_len (ns := ns) (s := s) (h := h) ns.length
  refine while_wf (P := fun d z => ∃ m o11, Pm ns s h m d ∧ z = SL (vv (Tu I ns)) (vv (I s)) (vv (I h)) a5 a6 a7 (vv (Tu I (TT ns s h ns.length))) (oo (m.map I)) (vv (Nn d)) (Option.map SV.val o11) a12 a13 a14 a15 a16 a17 a18 a19 a20 cu) (μ := fun d => ns.length - d) ?_ 200 0 _ ⟨_, none, Pm_0, rfl⟩ (by omega)
  rintro d z ⟨m, o11, hm, rfl⟩
  have t0 : fCmp dLt (eVar 10) (eUn dLen (eVar 2)) (SL (vv (Tu I ns)) (vv (I s)) (vv (I h)) a5 a6 a7 (vv (Tu I (TT ns s h ns.length))) (oo (m.map I)) (vv (Nn d)) (Option.map SV.val o11) a12 a13 a14 a15 a16 a17 a18 a19 a20 cu) = .ok (decide (d < ns.length)) (SL (vv (Tu I ns)) (vv (I s)) (vv (I h)) a5 a6 a7 (vv (Tu I (TT ns s h ns.length))) (oo (m.map I)) (vv (Nn d)) (Option.map SV.val o11) a12 a13 a14 a15 a16 a17 a18 a19 a20 cu) := te_cmp (ev_var rfl) (ev_un (ev_var rfl) len_tu) lt_nn
  by_cases hd : d < ns.length
  · rw [decide_eq_true hd] at t0
    refine .inr ⟨t0, ?_⟩
    have t1 : fAnd (fCmp dEq (eBin dIx (eVar 2) (eVar 10)) (eC (.int 0))) (fCmp dEq (eBin dIx (eVar 8) (eVar 10)) (eBin dIx (eVar 8) (eBin dAdd (eVar 10) (eC (.int 1))))) (SL (vv (Tu I ns)) (vv (I s)) (vv (I h)) a5 a6 a7 (vv (Tu I (TT ns s h ns.length))) (oo (m.map I)) (vv (Nn d)) (Option.map SV.val o11) a12 a13 a14 a15 a16 a17 a18 a19 a20 cu) = .ok (cN ns s h d) (SL (vv (Tu I ns)) (vv (I s)) (vv (I h)) a5 a6 a7 (vv (Tu I (TT ns s h ns.length))) (oo (m.map I)) (vv (Nn d)) (Option.map SV.val o11) a12 a13 a14 a15 a16 a17 a18 a19 a20 cu) :=
      te_and (te_cmp (ev_bin (ev_var rfl) (ev_var rfl) (ix_tu' (f := I) (xs := ns) (n := d) (by omega))) ev_c (eq_enc enc_I (a := na ns d) (b := 0))) fun _ => te_cmp (ev_bin (ev_var rfl) (ev_var rfl) (ix_tu' (by omega))) (ev_bin (ev_var rfl) (ev_bin (ev_var rfl) ev_c add_n1) (ix_tu' (by omega))) (eq_enc enc_I)
    cases hc : cN ns s h d with
    | true =>
      rw [hc] at t1
      refine ⟨d + 1, _, .inl ?_, ⟨m, o11, Pm_skip hm hd hc, rfl⟩, by omega⟩
      rw [st_ifT t1]
      exact st_setE' (ev_bin (ev_var rfl) ev_c add_n1) rfl
    | false =>
      rw [hc] at t1
      obtain ⟨j1, j2, j3⟩ := jx_at hd hc
      have hrun := Pm_run hm hd hc
      refine ⟨d + 1 + jx ns s h d, SL (vv (Tu I ns)) (vv (I s)) (vv (I h)) a5 a6 a7 (vv (Tu I (TT ns s h ns.length))) (oo ((m.set d (Sm ns d (jx ns s h d + 1))).map I)) (vv (Nn (d + 1 + jx ns s h d))) (Option.map SV.val (some (Nn (d + 1 + jx ns s h d)))) a12 a13 a14 a15 a16 a17 a18 a19 a20 cu, .inl ?_, ⟨_, some (Nn (d + 1 + jx ns s h d)), hrun, rfl⟩, by omega⟩
      rw [st_ifF t1]
      generalize jx ns s h d = j at j1 j2 ⊢
      apply st_seq' (s1 := SL (vv (Tu I ns)) (vv (I s)) (vv (I h)) a5 a6 a7 (vv (Tu I (TT ns s h ns.length))) (oo (m.map I)) (vv (Nn d)) (vv (Nn (d + 1 + j))) a12 a13 a14 a15 a16 a17 a18 a19 a20 cu)
      · refine st_setE' (s1 := SL (vv (Tu I ns)) (vv (I s)) (vv (I h)) a5 a6 a7 (vv (Tu I (TT ns s h ns.length))) (oo (m.map I)) (vv (Nn d)) (Option.map SV.val o11) a12 a13 a14 a15 a16 a17 a18 a19 a20 cu) (ev_bin (ev_M' (xs := (List.range (ns.length - d)).filter (hit ns s h d)) (f := fun j => Nn (d + 1 + j)) (Ev.comp_filter (enc := fun j => Nn (d + 1 + j)) ?_ (by simp [szL]; omega) (by cases o11 <;> rfl) fun j hj => ⟨_, rfl, rfl, ?_, fun _ => ev_var rfl⟩)) ev_c (ix_li (n := 0) (head_find j1))) rfl
        · rw [show ns.length - d = ns.length + 1 - (d + 1) by omega]
          exact w_r2 (ev_bin (ev_var rfl) ev_c rfl) (ev_bin (ev_un (ev_var rfl) len_tu) ev_c rfl) (by omega) (by omega)
        · have hj := List.mem_range.mp hj
          refine te_cmp (ev_bin (ev_call (ev_cons (ev_var rfl) (ev_cons (ev_var rfl) (ev_cons (ev_var rfl) (ev_cons (ev_var rfl) (ev_cons (ev_var rfl) ev_nil))))) (du_cons (du_cons (du_cons (du_cons (du_cons du_nil))))) (f_lrun C (d := d) (e := d + 1 + j) (by omega) (by omega))) (ev_bin (ev_var rfl) (ev_var rfl) (ix_tu' (by omega))) rfl) (ev_bin (ev_var rfl) (ev_var rfl) (ix_tu' (by omega))) ?_
          rw [show d + 1 + j - d = j + 1 by omega]
          exact eq_enc enc_I
      apply st_seq' (s1 := SL (vv (Tu I ns)) (vv (I s)) (vv (I h)) a5 a6 a7 (vv (Tu I (TT ns s h ns.length))) (oo ((m.set d (Sm ns d (j + 1))).map I)) (vv (Nn d)) (vv (Nn (d + 1 + j))) a12 a13 a14 a15 a16 a17 a18 a19 a20 cu)
      · refine st_putix (n := d) (d := I (Sm ns d (j + 1))) (ev_un (ev_sl (ev_var rfl) (o_some (ev_var rfl)) (o_some (ev_var rfl)) (sl_both (by omega) (by omega))) ?_) rfl (ev_var rfl) rfl (by rw [List.length_map, hm.1]; omega) ?_
        · rw [show d + 1 + j - d = j + 1 by omega, sum_tuI, Sm_sum _ _ (by omega)]
        · rw [set_mapI]; rfl
      · exact st_setE' (ev_var rfl) rfl
  · rw [decide_eq_false hd] at t0
    refine .inl ⟨t0, d, o11, ?_⟩
    rw [Pm_end hm hd]
theorem l_rows (a5 a7 a9 a10 a11 a12 a13 a14 a15 a16 a17 a18 a19 a20 : Option SV) (cu : Cur) :
    sIf (fOr (fCmp dNe (eCall F_all_floors (aCons (eVar 2) (aCons (eVar 3) (aCons (eVar 4) aNil)))) (eVar 8)) (fOr (fCmp dNe (eBin dIx (eVar 8) (eC (.int 0))) (eVar 6)) (fCmp dIsNot (eCall F_takes_floors (aCons (eVar 2) (aCons (eVar 3) (aCons (eVar 4) (aCons (eVar 8) aNil))))) (eC (.bool true))))) (sRet (eC (.bool false))) sNx
      (SL (vv (Tu I ns)) (vv (I s)) (vv (I h)) a5 (vv (I (Td ns s h 0))) a7 (vv (Tu I (TT ns s h ns.length))) a9 a10 a11 a12 a13 a14 a15 a16 a17 a18 a19 a20 cu) =
      .nx (SL (vv (Tu I ns)) (vv (I s)) (vv (I h)) a5 (vv (I (Td ns s h 0))) a7 (vv (Tu I (TT ns s h ns.length))) a9 a10 a11 a12 a13 a14 a15 a16 a17 a18 a19 a20 cu) := by
  have tl := TT_len (ns := ns) (s := s) (h := h) ns.length
  refine st_no (k := false || (false || false)) (te_or (te_cmp (ev_call (ev_cons (ev_var rfl) (ev_cons (ev_var rfl) (ev_cons (ev_var rfl) ev_nil))) (du_cons (du_cons (du_cons du_nil))) (f_all C)) (ev_var rfl) (ne_same (enc_Tu enc_I))) fun _ => te_or (te_cmp (ev_bin (ev_var rfl) ev_c (ix_tu0 (by omega))) (ev_var rfl) (ne_same enc_I)) fun _ => te_cmp (ev_call (ev_cons (ev_var rfl) (ev_cons (ev_var rfl) (ev_cons (ev_var rfl) (ev_cons (ev_var rfl) ev_nil)))) (du_cons (du_cons (du_cons (du_cons du_nil)))) (f_takes C tl)) ev_c ?_) rfl
  rw [RT_self]; rfl
theorem oI_same {o : Option Int} : dNe (oI o) (oI o) = some (.bool false) := by
  cases o with
  | none => rfl
  | some c => exact ne_same enc_I
theorem l_round (a7 a9 a10 a11 a12 a13 a14 a15 a16 a17 a18 a19 a20 : Option SV) (cu : Cur) :
    Nx (fun z => ∃ a13 a14 a15 a16 cu, z = SL (vv (Tu I ns)) (vv (I s)) (vv (I h)) (vv (Li (WD ns s h) (ws ns))) (vv (I (Td ns s h 0))) a7 (vv (Tu I (TT ns s h ns.length))) a9 a10 a11 a12 a13 a14 a15 (vv a16) a17 a18 a19 a20 cu)
      ((sSeq (sOwn 13 (mUn dLstM (eVar 8)))
  (sSeq (sSet 14 (eTake 1 (eUn dLen (eVar 13))))
  (sSeq (sPutIx 13 (eBin dAdd (eBin dIx (eVar 13) (eVar 14)) (eBin dIx (eM (mLst (aCons (eC (.int 1)) (aCons (eUn dNeg (eC (.int 1))) aNil)))) (eTake 1 (eC (.int 2))))) (eVar 14))
  (sSeq (sSet 15 (eCall F_u_law_right (aCons (eVar 2) (aCons (eVar 3) (aCons (eVar 4) (aCons (eVar 13) aNil))))))
  (sSeq (sIf (fOr (fCmp dNe (eCall F_takes_floors (aCons (eVar 2) (aCons (eVar 3) (aCons (eVar 4) (aCons (eUn dTup (eVar 13)) aNil))))) (eVar 15)) (fAnd (fTru (eVar 15)) (fCmp dGt (eBin dIx (eVar 13) (eC (.int 0))) (eVar 6)))) (sRet (eC (.bool false))) sNx)
  (sSeq (sSet 16 (eBin dIx (eVar 5) (eTake 1 (eUn dLen (eVar 5)))))
  (sIf (fCmp dNe (eCall F_cost (aCons (eVar 2) (aCons (eVar 3) (aCons (eVar 4) (aCons (eBin dIx (eVar 16) (eC (.int 0))) aNil))))) (eBin dIx (eVar 16) (eC (.int 1)))) (sRet (eC (.bool false))) sNx)))))))
      (SL (vv (Tu I ns)) (vv (I s)) (vv (I h)) (vv (Li (WD ns s h) (ws ns))) (vv (I (Td ns s h 0))) a7 (vv (Tu I (TT ns s h ns.length))) a9 a10 a11 a12 a13 a14 a15 a16 a17 a18 a19 a20 cu)) := by
  have n4 := C.n4
  have tl := TT_len (ns := ns) (s := s) (h := h) ns.length
  refine nx_seq (s1 := SL (vv (Tu I ns)) (vv (I s)) (vv (I h)) (vv (Li (WD ns s h) (ws ns))) (vv (I (Td ns s h 0))) a7 (vv (Tu I (TT ns s h ns.length))) a9 a10 a11 a12 (oo ((TT ns s h ns.length).map I)) a14 a15 a16 a17 a18 a19 a20 cu) ?_ ?_
  · refine st_ownE (s1 := SL (vv (Tu I ns)) (vv (I s)) (vv (I h)) (vv (Li (WD ns s h) (ws ns))) (vv (I (Td ns s h 0))) a7 (vv (Tu I (TT ns s h ns.length))) a9 a10 a11 a12 a13 a14 a15 a16 a17 a18 a19 a20 cu) ?_ rfl
    unfold mUn bnd
    rw [ev_var rfl]
    rfl
  obtain ⟨at', cu1, hat, e1⟩ := ev_take (i := 1) (f := eUn dLen (eVar 13)) (m := ns.length + 1) (cu := cu) (ce := []) (s := SL (vv (Tu I ns)) (vv (I s)) (vv (I h)) (vv (Li (WD ns s h) (ws ns))) (vv (I (Td ns s h 0))) a7 (vv (Tu I (TT ns s h ns.length))) a9 a10 a11 a12 (oo ((TT ns s h ns.length).map I)) a14 a15 a16 a17 a18 a19 a20 cu) rfl (ev_unO (ev_own rfl) rfl (by show some (PyData.int (((TT ns s h ns.length).map I).length : Int)) = _; rw [List.length_map, tl])) rfl (by omega) (divOk_small (by omega) (by omega))
  refine nx_seq (s1 := SL (vv (Tu I ns)) (vv (I s)) (vv (I h)) (vv (Li (WD ns s h) (ws ns))) (vv (I (Td ns s h 0))) a7 (vv (Tu I (TT ns s h ns.length))) a9 a10 a11 a12 (oo ((TT ns s h ns.length).map I)) (vv (Nn at')) a15 a16 a17 a18 a19 a20 cu1) (st_setE' e1 rfl) ?_
  obtain ⟨b, cu2, hb, e2⟩ := ev_take (i := 1) (f := eC (.int 2)) (m := 2) (cu := cu1) (ce := []) (s := SL (vv (Tu I ns)) (vv (I s)) (vv (I h)) (vv (Li (WD ns s h) (ws ns))) (vv (I (Td ns s h 0))) a7 (vv (Tu I (TT ns s h ns.length))) a9 a10 a11 a12 (oo ((TT ns s h ns.length).map I)) (vv (Nn at')) a15 a16 a17 a18 a19 a20 cu1) rfl (ev_c (d := Nn 2)) rfl (by decide) (by decide +kernel)
  generalize hr : (TT ns s h ns.length).set at' (rv (TT ns s h ns.length) at' + ([1, -1] : List Int).getD b default) = r
  have hrl : r.length = ns.length + 1 := by rw [← hr, List.length_set, tl]
  refine nx_seq (s1 := SL (vv (Tu I ns)) (vv (I s)) (vv (I h)) (vv (Li (WD ns s h) (ws ns))) (vv (I (Td ns s h 0))) a7 (vv (Tu I (TT ns s h ns.length))) a9 a10 a11 a12 (oo (r.map I)) (vv (Nn at')) a15 a16 a17 a18 a19 a20 cu2) ?_ ?_
  · refine st_putix (n := at') (d := I (rv (TT ns s h ns.length) at' + ([1, -1] : List Int).getD b default)) (ev_bin (a := I (rv (TT ns s h ns.length) at')) (b := I (([1, -1] : List Int).getD b default)) (ev_binO (ev_own rfl) (ev_var rfl) rfl (ix_li' (f := I) (xs := TT ns s h ns.length) (by omega))) (ev_bin (ev_M' (xs := [1, -1]) (f := I) (m_lst (ev_cons ev_c (ev_cons (ev_un ev_c rfl) ev_nil)) (du_cons (du_cons du_nil)) (by simp [szL]))) e2 (ix_li' (by simpa using hb))) rfl) rfl (ev_var rfl) rfl (by rw [List.length_map, tl]; omega) ?_
    rw [set_mapI, hr]; rfl
  refine nx_seq (s1 := SL (vv (Tu I ns)) (vv (I s)) (vv (I h)) (vv (Li (WD ns s h) (ws ns))) (vv (I (Td ns s h 0))) a7 (vv (Tu I (TT ns s h ns.length))) a9 a10 a11 a12 (vv (Li I r)) (vv (Nn at')) (vv (.bool (RT ns s h r))) a16 a17 a18 a19 a20 cu2) (st_setE' (ev_call (ev_cons (ev_var rfl) (ev_cons (ev_var rfl) (ev_cons (ev_var rfl) (ev_cons (ev_own rfl) ev_nil)))) (du_cons (du_cons (du_cons (du_own rfl du_nil)))) (f_right C hrl)) rfl) ?_
  refine nx_seq (s1 := SL (vv (Tu I ns)) (vv (I s)) (vv (I h)) (vv (Li (WD ns s h) (ws ns))) (vv (I (Td ns s h 0))) a7 (vv (Tu I (TT ns s h ns.length))) a9 a10 a11 a12 (vv (Li I r)) (vv (Nn at')) (vv (.bool (RT ns s h r))) a16 a17 a18 a19 a20 cu2) ?_ ?_
  · refine st_no (k := false || (RT ns s h r && false)) (te_or (te_cmp (ev_call (ev_cons (ev_var rfl) (ev_cons (ev_var rfl) (ev_cons (ev_var rfl) (ev_cons (ev_un (ev_var rfl) tup_li) ev_nil)))) (du_cons (du_cons (du_cons (du_cons du_nil)))) (f_takes C hrl)) (ev_var rfl) (ne_self (by rfl))) fun _ => te_and (te_tru (ev_var rfl) rfl) fun hk => te_cmp (ev_bin (ev_var rfl) ev_c (ix_li0 (by omega))) (ev_var rfl) ?_) (by simp)
    have := RT_le hk ns.length 0 (by omega)
    show some (PyData.bool (decide (Td ns s h 0 < rv r 0))) = _
    rw [decide_eq_false (by omega)]
  have hwl := ws_len C
  have hwp := ws_pos C
  obtain ⟨w, cu3, hw, e3⟩ := ev_take (i := 1) (f := eUn dLen (eVar 5)) (m := (ws ns).length) (cu := cu2) (ce := []) (s := SL (vv (Tu I ns)) (vv (I s)) (vv (I h)) (vv (Li (WD ns s h) (ws ns))) (vv (I (Td ns s h 0))) a7 (vv (Tu I (TT ns s h ns.length))) a9 a10 a11 a12 (vv (Li I r)) (vv (Nn at')) (vv (.bool (RT ns s h r))) a16 a17 a18 a19 a20 cu2) rfl (ev_un (ev_var rfl) len_li) rfl hwp (divOk_small hwp (by omega))
  have hmem : (ws ns).getD w default ∈ ws ns := gmem hw
  refine nx_seq (s1 := SL (vv (Tu I ns)) (vv (I s)) (vv (I h)) (vv (Li (WD ns s h) (ws ns))) (vv (I (Td ns s h 0))) a7 (vv (Tu I (TT ns s h ns.length))) a9 a10 a11 a12 (vv (Li I r)) (vv (Nn at')) (vv (.bool (RT ns s h r))) (vv (WD ns s h ((ws ns).getD w default))) a17 a18 a19 a20 cu3) (st_setE' (ev_bin (ev_var rfl) e3 (ix_li' hw)) rfl) ?_
  refine nx_of (s1 := SL (vv (Tu I ns)) (vv (I s)) (vv (I h)) (vv (Li (WD ns s h) (ws ns))) (vv (I (Td ns s h 0))) a7 (vv (Tu I (TT ns s h ns.length))) a9 a10 a11 a12 (vv (Li I r)) (vv (Nn at')) (vv (.bool (RT ns s h r))) (vv (WD ns s h ((ws ns).getD w default))) a17 a18 a19 a20 cu3) ?_ ⟨_, _, _, _, _, rfl⟩
  exact st_no (k := false) (te_cmp (ev_call (ev_cons (ev_var rfl) (ev_cons (ev_var rfl) (ev_cons (ev_var rfl) (ev_cons (ev_bin (ev_var rfl) ev_c ix_pa) ev_nil)))) (du_cons (du_cons (du_cons (du_cons du_nil)))) (f_cost C (ws_md C hmem))) (ev_bin (ev_var rfl) ev_c ix_pb) (oI_same C)) rfl
end
end k57_whole_lots
set_option maxRecDepth 100000
set_option maxHeartbeats 0
namespace k57_whole_lots
open PySem L2 Ev
theorem f_wrong : F_u_law_wrong [] = .ok (.bool true) := by kernel_rfl
end k57_whole_lots
set_option Elab.async false
set_option linter.all false
set_option maxRecDepth 100000
set_option maxHeartbeats 0
namespace k57_whole_lots
open PySem L2 Ev
abbrev Tr (r : SR) : Prop := ∃ T, r = .rt (.bool true) T
theorem seqT {u v : ES → SR} {s s1 : ES} (h1 : u s = .nx s1) (h2 : Tr (v s1)) : Tr (sSeq u v s) := st_seqX h1 h2
theorem seqNT {u v : ES → SR} {s : ES} {P : ES → Prop} (h1 : Nx P (u s)) (h2 : ∀ s1, P s1 → Tr (v s1)) : Tr (sSeq u v s) := by
  obtain ⟨s1, e, p⟩ := h1
  exact seqT e (h2 s1 p)
theorem eq_self {d : D} (h : SeqAt.shaped d = true) : dEq d d = some (.bool true) := by
  unfold dEq dEqB
  rw [h, if_pos (by rfl), PySem.SeqAt.eqv_refl d (SeqAt.canLay_of_shaped h)]; rfl
theorem mst_ge {xs : List Int} : ∀ y ∈ xs, y ≤ mst ltI xs := fun y hy => by
  have := amx_le (key := fun x : Int => x) ord_I y hy
  have e : amx ltI (fun x : Int => x) xs = mst ltI xs := by cases xs <;> rfl
  rw [e] at this
  have := of_decide_eq_false this
  omega
theorem mem_sum : ∀ (xs : List Int), (∀ a ∈ xs, 0 ≤ a) → ∀ a ∈ xs, a ≤ xs.sum
  | x :: xs, h, a, ha => by
    have h0 : 0 ≤ xs.sum := by
      have := take_sum_le xs 0 fun b hb => h b (by simp [hb])
      simpa using this
    rw [List.sum_cons]
    rcases List.mem_cons.mp ha with rfl | ha
    · omega
    · have := mem_sum xs (fun b hb => h b (by simp [hb])) a ha
      have := h x (by simp)
      omega
def gdT (ns : List Int) (s h : Int) (room : Nat) (m : List Int) : Bool := (CO ns s h m).isSome && (decide (mst ltI m ≤ (room : Int)) && decide (m.sum = ns.sum))
def GL (ns : List Int) (s h : Int) (room : Nat) : List Val := ((ws ns).filter (gdT ns s h room)).map fun m => ((CO ns s h m).getD 0, m)
def SH (ns : List Int) (room : Nat) : List Nat := (List.range ns.length).filter (shT ns room)
section
variable {ns : List Int} {s h : Int} (C : CT ns s h) {room : Nat} (hr : room ≤ 3)
include C hr
theorem GL_iff (v : Val) : v ∈ GL ns s h room ↔ Gd ns s h room v := by
  have n1 := C.n1
  unfold GL
  rw [List.mem_map]
  constructor
  · rintro ⟨m, hm, rfl⟩
    obtain ⟨hm, ht⟩ := List.mem_filter.mp hm
    unfold gdT at ht
    rw [Bool.and_eq_true, Bool.and_eq_true, decide_eq_true_iff, decide_eq_true_iff] at ht
    have md := ws_md C hm
    refine ⟨md.len, fun a ha => ⟨md.lo a ha, ?_⟩, ht.2.2, ?_⟩
    · have : a ≤ mst ltI m := mst_ge a ha; have := ht.2.1; omega
    · have := ht.1
      show CO ns s h m = some ((CO ns s h m).getD 0)
      cases hc : CO ns s h m with
      | none => rw [hc] at this; cases this
      | some c => rfl
  · intro G
    refine ⟨v.2, List.mem_filter.mpr ⟨(Wl_mem _ _).mpr ⟨G.len, fun a ha => ⟨(G.bd a ha).1, ?_⟩⟩, ?_⟩, ?_⟩
    · have h1 := mem_sum v.2 (fun b hb => (G.bd b hb).1) a ha
      rw [G.sum] at h1
      have h2 := (G.bd a ha).2
      rw [Mo4_eq C]
      split <;> omega
    · unfold gdT
      have hne : v.2 ≠ [] := by intro e; have := G.len; rw [e] at this; simp at this; omega
      have h1 := (G.bd _ (mst_mem (lf := ltI) hne)).2
      rw [G.co, decide_eq_true h1, decide_eq_true G.sum]; rfl
    · rw [G.co]; rfl
theorem l_good (a6 a7 a8 a9 a10 a11 a12 a13 a14 a15 a18 a19 : Option SV) (o16 : Option D) (cu : Cur) :
    sSet 18 (eM (mComp [16, 20] (iSeq (eVar 5)) (pTup 2 (psCons (pName 16) (psCons (pName 20) psNil))) (fAnd (fCmp dIsNot (eVar 20) (eC .none)) (fAnd (fCmp dLe (eUn dMax (eVar 16)) (eVar 17)) (fCmp dEq (eUn dSum (eVar 16)) (eUn dSum (eVar 2))))) e2_law))
      (SL (vv (Tu I ns)) (vv (I s)) (vv (I h)) (vv (Li (WD ns s h) (ws ns))) a6 a7 a8 a9 a10 a11 a12 a13 a14 a15 (Option.map SV.val o16) (vv (Nn room)) a18 a19 none cu) =
      .nx (SL (vv (Tu I ns)) (vv (I s)) (vv (I h)) (vv (Li (WD ns s h) (ws ns))) a6 a7 a8 a9 a10 a11 a12 a13 a14 a15 (Option.map SV.val o16) (vv (Nn room)) (vv (Li PV (GL ns s h room))) a19 none cu) := by
  have n1 := C.n1
  have hl := ws_len C
  refine st_setE' (s1 := SL (vv (Tu I ns)) (vv (I s)) (vv (I h)) (vv (Li (WD ns s h) (ws ns))) a6 a7 a8 a9 a10 a11 a12 a13 a14 a15 (Option.map SV.val o16) (vv (Nn room)) a18 a19 none cu) (d := Li PV (GL ns s h room)) ?_ rfl
  have e : Li PV (GL ns s h room) = Li (fun m => PyData.tuple [oI (CO ns s h m), Tu I m]) ((ws ns).filter (gdT ns s h room)) := by
    unfold Li GL
    rw [List.map_map]
    congr 1
    refine List.map_congr_left fun m hm => ?_
    have ht := (List.mem_filter.mp hm).2
    unfold gdT at ht
    rw [Bool.and_eq_true] at ht
    cases hc : CO ns s h m with
    | none => rw [hc] at ht; cases ht.1
    | some c => show P2 I (Tu I) ((CO ns s h m).getD 0, m) = _; rw [hc]; rfl
  rw [e]
  refine ev_M' (Ev.comp_filter (enc := WD ns s h) (t := gdT ns s h room) (w_seq (ev_var rfl) seq_li) (by simp only [szL]; omega) (by cases o16 <;> rfl) fun m hm => ⟨_, rfl, rfl, ?_, fun _ => ev_tup (ev_cons (ev_var rfl) (ev_cons (ev_var rfl) ev_nil)) (du_cons (du_cons du_nil)) rfl⟩)
  have hne : m ≠ [] := by intro e; have := (ws_md C hm).len; rw [e] at this; simp at this; omega
  exact te_and (te_cmp (ev_var rfl) ev_c (isnot_oI C)) fun _ => te_and (te_cmp (ev_un (ev_var rfl) (max_tu enc_I lt_I hne)) (ev_var rfl) rfl) fun _ => te_cmp (ev_un (ev_var rfl) sum_tuI) (ev_un (ev_var rfl) sum_tuI) (eq_enc enc_I)
theorem gt_len {α : Type} {xs : List α} : dGt (.int (xs.length : Int)) (.int 0) = some (.bool (decide (xs ≠ []))) := by
  show some (PyData.bool (decide ((0 : Int) < (xs.length : Int)))) = _
  congr 2
  rw [Bool.eq_iff_iff, decide_eq_true_iff, decide_eq_true_iff]
  cases xs <;> simp
theorem l_withroom (a5 a6 a7 a8 a9 a10 a11 a12 a13 a14 a15 a16 a19 a20 : Option SV) (cu : Cur) :
    sIf (fCmp dNe (eCall F_with_room (aCons (eVar 2) (aCons (eVar 3) (aCons (eVar 4) (aCons (eVar 17) aNil))))) (eIf (fCmp dGt (eUn dLen (eVar 18)) (eC (.int 0))) (eUn dMin (eVar 18)) (eC .none))) (sRet (eC (.bool false))) sNx
      (SL (vv (Tu I ns)) (vv (I s)) (vv (I h)) a5 a6 a7 a8 a9 a10 a11 a12 a13 a14 a15 a16 (vv (Nn room)) (vv (Li PV (GL ns s h room))) a19 a20 cu) =
      .nx (SL (vv (Tu I ns)) (vv (I s)) (vv (I h)) a5 a6 a7 a8 a9 a10 a11 a12 a13 a14 a15 a16 (vv (Nn room)) (vv (Li PV (GL ns s h room))) a19 a20 cu) := by
  have hRm := room_least C (GL_iff C hr)
  have t1 : fCmp dGt (eUn dLen (eVar 18)) (eC (.int 0)) (SL (vv (Tu I ns)) (vv (I s)) (vv (I h)) a5 a6 a7 a8 a9 a10 a11 a12 a13 a14 a15 a16 (vv (Nn room)) (vv (Li PV (GL ns s h room))) a19 a20 cu) = .ok (decide (GL ns s h room ≠ [])) (SL (vv (Tu I ns)) (vv (I s)) (vv (I h)) a5 a6 a7 a8 a9 a10 a11 a12 a13 a14 a15 a16 (vv (Nn room)) (vv (Li PV (GL ns s h room))) a19 a20 cu) := te_cmp (ev_un (ev_var rfl) len_li) ev_c (gt_len C hr)
  by_cases he : GL ns s h room = []
  · rw [if_pos he] at hRm
    rw [decide_eq_false (by simpa using he)] at t1
    exact st_no (k := false) (te_cmp (ev_call (ev_cons (ev_var rfl) (ev_cons (ev_var rfl) (ev_cons (ev_var rfl) (ev_cons (ev_var rfl) ev_nil)))) (du_cons (du_cons (du_cons (du_cons du_nil)))) (f_room C hr)) (ev_ifF t1 ev_c) (by rw [hRm]; rfl)) rfl
  · rw [if_neg he] at hRm
    rw [decide_eq_true he] at t1
    exact st_no (k := false) (te_cmp (ev_call (ev_cons (ev_var rfl) (ev_cons (ev_var rfl) (ev_cons (ev_var rfl) (ev_cons (ev_var rfl) ev_nil)))) (du_cons (du_cons (du_cons (du_cons du_nil)))) (f_room C hr)) (ev_ifT t1 (ev_un (ev_var rfl) (min_li enc_V lt_V he))) (by rw [hRm]; exact ne_same enc_V)) rfl
theorem l_short (a5 a6 a7 a8 a9 a10 a11 a13 a14 a15 a16 a18 a19 a20 : Option SV) (d12 : D) (cu : Cur) :
    sSet 19 (eM (mComp [12] (iR1 (eUn dLen (eVar 2))) (pName 12) (fCmp dGt (eUn dSum (eSl (eVar 2) oNone (oSome (eBin dAdd (eVar 12) (eC (.int 1)))))) (eBin dMul (eVar 17) (eBin dAdd (eVar 12) (eC (.int 1))))) e1_law))
      (SL (vv (Tu I ns)) (vv (I s)) (vv (I h)) a5 a6 a7 a8 a9 a10 a11 (vv d12) a13 a14 a15 a16 (vv (Nn room)) a18 a19 a20 cu) =
      .nx (SL (vv (Tu I ns)) (vv (I s)) (vv (I h)) a5 a6 a7 a8 a9 a10 a11 (vv d12) a13 a14 a15 a16 (vv (Nn room)) a18 (vv (Li (shD ns room) (SH ns room))) a20 cu) := by
  have n4 := C.n4
  refine st_setE' (s1 := SL (vv (Tu I ns)) (vv (I s)) (vv (I h)) a5 a6 a7 a8 a9 a10 a11 (vv d12) a13 a14 a15 a16 (vv (Nn room)) a18 a19 a20 cu) (ev_M' (xs := SH ns room) (f := shD ns room) (Ev.comp_filter (enc := Nn) (t := shT ns room) (w_r1 (ev_un (ev_var rfl) len_tu) (by omega)) (by simp [szL]; omega) rfl fun k hk => ?_)) rfl
  have hk := List.mem_range.mp hk
  have mm := mul_room C hr (k := k + 1) (by omega)
  have hs : dSum (Tu I (ns.take (k + 1))) = some (I (Sm ns 0 (k + 1))) := by rw [sum_tuI, Sm_take (by omega)]
  refine ⟨_, rfl, rfl, te_cmp (ev_un (ev_sl (ev_var rfl) o_none (o_some (ev_bin (ev_var rfl) ev_c add_n1)) sl_take) hs) (ev_bin (ev_var rfl) (ev_bin (ev_var rfl) ev_c add_n1) mm) gt_ii, fun _ => ?_⟩
  exact ev_tup (ev_cons (ev_var rfl) (ev_cons (ev_bin (ev_un (ev_sl (ev_var rfl) o_none (o_some (ev_bin (ev_var rfl) ev_c add_n1)) sl_take) hs) (ev_bin (ev_var rfl) (ev_bin (ev_var rfl) ev_c add_n1) mm) rfl) ev_nil)) (du_cons (du_cons du_nil)) rfl
theorem sh_good : (SH ns room ≠ []) ↔ (GL ns s h room = []) := by
  constructor
  · intro hs
    cases hg : GL ns s h room with
    | nil => rfl
    | cons v r =>
      have G := (GL_iff C hr v).mp (by rw [hg]; exact List.mem_cons_self)
      have := none_short C G
      rw [List.any_eq_false] at this
      exfalso
      apply hs
      unfold SH
      rw [List.filter_eq_nil_iff]
      exact this
  · intro hg hs
    have : (List.range ns.length).any (shT ns room) = false := by
      rw [List.any_eq_false]
      unfold SH at hs
      rw [List.filter_eq_nil_iff] at hs
      exact hs
    obtain ⟨c, G⟩ := mkM_ok C this
    have := (GL_iff C hr _).mpr G
    rw [hg] at this
    cases this
theorem l_ret (a5 a6 a7 a8 a9 a10 a11 a12 a13 a14 a15 a16 a20 : Option SV) (cu : Cur) :
    Tr (sRet (eAndV (eBin dEq (eCall F_shortage (aCons (eVar 2) (aCons (eVar 17) aNil))) (eIf (fCmp dGt (eUn dLen (eVar 19)) (eC (.int 0))) (eBin dIx (eVar 19) (eC (.int 0))) (eC .none))) (eAndV (eBin dEq (eBin dGt (eUn dLen (eVar 19)) (eC (.int 0))) (eBin dEq (eUn dLen (eVar 18)) (eC (.int 0)))) (eCall0 F_u_law_wrong)))
      (SL (vv (Tu I ns)) (vv (I s)) (vv (I h)) a5 a6 a7 a8 a9 a10 a11 a12 a13 a14 a15 a16 (vv (Nn room)) (vv (Li PV (GL ns s h room))) (vv (Li (shD ns room) (SH ns room))) a20 cu)) := by
  have t1 : fCmp dGt (eUn dLen (eVar 19)) (eC (.int 0)) (SL (vv (Tu I ns)) (vv (I s)) (vv (I h)) a5 a6 a7 a8 a9 a10 a11 a12 a13 a14 a15 a16 (vv (Nn room)) (vv (Li PV (GL ns s h room))) (vv (Li (shD ns room) (SH ns room))) a20 cu) = .ok (decide (SH ns room ≠ [])) (SL (vv (Tu I ns)) (vv (I s)) (vv (I h)) a5 a6 a7 a8 a9 a10 a11 a12 a13 a14 a15 a16 (vv (Nn room)) (vv (Li PV (GL ns s h room))) (vv (Li (shD ns room) (SH ns room))) a20 cu) := te_cmp (ev_un (ev_var rfl) len_li) ev_c (gt_len C hr)
  refine ⟨_, st_retE' (d := .bool (true && (true && true))) (ev_andV (k := true) (l := true && true) ?_ fun _ => ev_andV (k := true) (l := true) ?_ fun _ => ev_call0 f_wrong) rfl⟩
  · by_cases he : SH ns room = []
    · rw [decide_eq_false (by simpa using he)] at t1
      refine ev_bin (ev_call (ev_cons (ev_var rfl) (ev_cons (ev_var rfl) ev_nil)) (du_cons (du_cons du_nil)) (f_short C hr)) (ev_ifF t1 ev_c) ?_
      have : shR ns room = .none := by
        unfold shR
        unfold SH at he
        rw [List.filter_eq_nil_iff] at he
        rw [List.find?_eq_none.mpr he]; rfl
      rw [this]; rfl
    · rw [decide_eq_true he] at t1
      obtain ⟨k, hk⟩ : ∃ k, (List.range ns.length).find? (shT ns room) = some k := by
        cases hf : (List.range ns.length).find? (shT ns room) with
        | some k => exact ⟨k, rfl⟩
        | none =>
          exfalso
          apply he
          unfold SH
          rw [List.filter_eq_nil_iff]
          exact List.find?_eq_none.mp hf
      refine ev_bin (ev_call (ev_cons (ev_var rfl) (ev_cons (ev_var rfl) ev_nil)) (du_cons (du_cons du_nil)) (f_short C hr)) (ev_ifT t1 (ev_bin (ev_var rfl) ev_c (ix_li (n := 0) (head_find hk)))) ?_
      have : shR ns room = shD ns room k := by unfold shR; rw [hk]; rfl
      rw [this]
      have := eq_enc (enc_P2 enc_N enc_I) (a := (k, Sm ns 0 (k + 1) - (room : Int) * ((k + 1 : Nat) : Int))) (b := (k, Sm ns 0 (k + 1) - (room : Int) * ((k + 1 : Nat) : Int)))
      rw [decide_eq_true rfl] at this
      exact this
  · refine ev_bin (ev_bin (ev_un (ev_var rfl) len_li) ev_c (gt_len C hr)) (ev_bin (ev_un (ev_var rfl) len_li) ev_c (r := .bool (decide (SH ns room ≠ []))) ?_) (eq_self rfl)
    have e := eq_enc enc_I (a := ((GL ns s h room).length : Int)) (b := 0)
    rw [show dEq (.int ((GL ns s h room).length : Int)) (.int 0) = dEq (I ((GL ns s h room).length : Int)) (I 0) from rfl, e]
    congr 2
    rw [Bool.eq_iff_iff, decide_eq_true_iff, decide_eq_true_iff, sh_good C hr]
    constructor
    · intro hz; exact List.eq_nil_of_length_eq_zero (by omega)
    · intro hz; rw [hz]; rfl
end
end k57_whole_lots
set_option Elab.async false
set_option linter.all false
set_option maxRecDepth 100000
set_option maxHeartbeats 0
namespace k57_whole_lots
open PySem L2 Ev
theorem one_add {v : Nat} : dAdd (.int 1) (Nn v) = some (Nn (v + 1)) := by
  have e : (1 : Int) + (v : Int) = ((v + 1 : Nat) : Int) := by omega
  show some (PyData.int (1 + (v : Int))) = some (PyData.int ((v + 1 : Nat) : Int))
  rw [e]
theorem pure_law : ∀ cu : Cur, ∃ T, g_law (startL 21 cu) = .rt (.bool true) T := by
  intro cu
  show Tr (g_law (SL none none none none none none none none none none none none none none none none none none none cu))
  unfold g_law
  obtain ⟨v, cu1, hv, e1⟩ := ev_take (i := 1) (f := eC (.int 4)) (m := 4) (cu := cu) (ce := []) (s := SL none none none none none none none none none none none none none none none none none none none cu) rfl (ev_c (d := Nn 4)) rfl (by decide) (by decide +kernel)
  obtain ⟨ns, cu3, e3, hy, hq⟩ := comp_ex (vs := [12]) (pt := pName 12) (elt := e6_law) (enc := Nn) (out := I) (Q := fun a : Int => 0 ≤ a ∧ a ≤ 2) (xs := List.range (v + 1)) (ce := []) (cu := cu1) (fi := iR1 (eBin dAdd (eC (.int 1)) (eTake 1 (eC (.int 4)))))
    (s := SL none none none none none none none none none none none none none none none none none none none cu)
    (σ := [none, some .cur, none, none, none, none, none, none, none, none, none, none, none, none, none, none, none, none, none, none, none])
    (w_r1 (n := v + 1) (ev_bin ev_c e1 one_add) (by omega)) (by simp [szL]; omega) rfl (fun cu x hx => by
      obtain ⟨t, cu', h1, h2⟩ := ev_take (i := 1) (s := SL none none none none none none none none none none (vv (Nn x)) none none none none none none none none cu) (m := 3) rfl (ev_c (d := Nn 3)) rfl (by decide) (by decide +kernel)
      exact ⟨_, _, (t : Int), cu', rfl, h2, rfl, by omega⟩)
  rw [List.length_range] at hy
  apply seqT (s1 := SL (vv (Tu I ns)) none none none none none none none none none none none none none none none none none none cu3)
  · exact st_setE' (ev_un (ev_M' e3) tup_li) rfl
  obtain ⟨a, cu4, ha, e4⟩ := ev_take (i := 1) (f := eC (.int 7)) (m := 7) (cu := cu3) (ce := []) (s := SL (vv (Tu I ns)) none none none none none none none none none none none none none none none none none none cu3) rfl (ev_c (d := Nn 7)) rfl (by decide) (by decide +kernel)
  apply seqT (s1 := SL (vv (Tu I ns)) (vv (I (a : Int))) none none none none none none none none none none none none none none none none none cu4)
  · exact st_setE' e4 rfl
  obtain ⟨b, cu5, hb, e5⟩ := ev_take (i := 1) (f := eC (.int 3)) (m := 3) (cu := cu4) (ce := []) (s := SL (vv (Tu I ns)) (vv (I (a : Int))) none none none none none none none none none none none none none none none none none cu4) rfl (ev_c (d := Nn 3)) rfl (by decide) (by decide +kernel)
  apply seqT (s1 := SL (vv (Tu I ns)) (vv (I (a : Int))) (vv (I (b : Int))) none none none none none none none none none none none none none none none none cu5)
  · exact st_setE' e5 rfl
  have C : CT ns (a : Int) (b : Int) := ⟨by omega, by omega, fun x hx => (hq x hx).1, fun x hx => (hq x hx).2, by omega, by omega, by omega, by omega⟩
  clear hq e1 e3 e4 e5
  generalize (a : Int) = s at C ⊢
  generalize (b : Int) = h at C ⊢
  have n4 := C.n4
  refine seqT (l_waysE C none none none none none none none none none none none none none none none cu5) ?_
  apply seqT (s1 := SL (vv (Tu I ns)) (vv (I s)) (vv (I h)) (vv (Li (WD ns s h) (ws ns))) (vv (I (Td ns s h 0))) (vv (Tu I (pl ns s h ns.length 0))) none none none none none none none none none none none none none cu5)
  · exact st_asg (ev_call (ev_cons (ev_var rfl) (ev_cons (ev_var rfl) (ev_cons (ev_var rfl) ev_nil))) (du_cons (du_cons (du_cons du_nil))) (f_best C)) rfl
  refine seqT (l_cheap C none none none none none none none none none none none cu5) ?_
  apply seqT (s1 := SL (vv (Tu I ns)) (vv (I s)) (vv (I h)) (vv (Li (WD ns s h) (ws ns))) (vv (I (Td ns s h 0))) (vv (Tu I (pl ns s h ns.length 0))) (vv (Tu I (TT ns s h ns.length))) none none none none none none none none none none none none cu5)
  · exact st_setE' (ev_call (ev_cons (ev_var rfl) (ev_cons (ev_var rfl) (ev_cons (ev_var rfl) ev_nil))) (du_cons (du_cons (du_cons du_nil))) (f_lfloors C)) rfl
  refine seqT (l_rows C _ _ none none none none none none none none none none none none cu5) ?_
  apply seqT (s1 := SL (vv (Tu I ns)) (vv (I s)) (vv (I h)) (vv (Li (WD ns s h) (ws ns))) (vv (I (Td ns s h 0))) (vv (Tu I (pl ns s h ns.length 0))) (vv (Tu I (TT ns s h ns.length))) (oo ((List.replicate ns.length (0 : Int)).map I)) none none none none none none none none none none none cu5)
  · rw [← zeros_I]
    exact st_ownE (m_bin (ev_M' (xs := [(0 : Int)]) (f := I) (m_lst (ev_cons ev_c ev_nil) (du_cons du_nil) (by simp [szL]))) (ev_un (ev_var rfl) len_tu) (rep_range (by simp [szL]; omega))) rfl
  apply seqT (s1 := SL (vv (Tu I ns)) (vv (I s)) (vv (I h)) (vv (Li (WD ns s h) (ws ns))) (vv (I (Td ns s h 0))) (vv (Tu I (pl ns s h ns.length 0))) (vv (Tu I (TT ns s h ns.length))) (oo ((List.replicate ns.length (0 : Int)).map I)) (vv (Nn 0)) none none none none none none none none none none cu5)
  · exact st_setE' ev_c rfl
  refine seqNT (l_due C _ _ _ none none none none none none none none none cu5) ?_
  rintro z ⟨d, o11, rfl⟩
  apply seqT (s1 := SL (vv (Tu I ns)) (vv (I s)) (vv (I h)) (vv (Li (WD ns s h) (ws ns))) (vv (I (Td ns s h 0))) (vv (Tu I (pl ns s h ns.length 0))) (vv (Tu I (TT ns s h ns.length))) (oo ((pl ns s h ns.length 0).map I)) (vv (Nn d)) (Option.map SV.val o11) none none none none none none none none none cu5)
  · exact st_no (k := false) (te_cmp (ev_var rfl) (ev_unO (ev_own rfl) rfl rfl) (ne_same (enc_Tu enc_I))) rfl
  refine seqNT (P := fun z => ∃ d12 a13 a14 a15 o16 cu, z = SL (vv (Tu I ns)) (vv (I s)) (vv (I h)) (vv (Li (WD ns s h) (ws ns))) (vv (I (Td ns s h 0))) (vv (Tu I (pl ns s h ns.length 0))) (vv (Tu I (TT ns s h ns.length))) (oo ((pl ns s h ns.length 0).map I)) (vv (Nn d)) (Option.map SV.val o11) (vv d12) a13 a14 a15 (Option.map SV.val o16) none none none none cu) ?_ ?_
  · refine nx_imp (nx_forR (n := 4) (enc := Nn) (fun k z => ∃ a12 a13 a14 a15 o16 cu, (0 < k → ∃ d12, a12 = vv d12) ∧ z = SL (vv (Tu I ns)) (vv (I s)) (vv (I h)) (vv (Li (WD ns s h) (ws ns))) (vv (I (Td ns s h 0))) (vv (Tu I (pl ns s h ns.length 0))) (vv (Tu I (TT ns s h ns.length))) (oo ((pl ns s h ns.length 0).map I)) (vv (Nn d)) (Option.map SV.val o11) a12 a13 a14 a15 (Option.map SV.val o16) none none none none cu) (w_r1 (n := 4) ev_c (by decide)) ⟨none, none, none, none, none, cu5, fun h => absurd h (by decide), rfl⟩ ?_) ?_
    · rintro k z hk ⟨a12, a13, a14, a15, o16, cu, _, rfl⟩
      refine for_nx (s1 := SL (vv (Tu I ns)) (vv (I s)) (vv (I h)) (vv (Li (WD ns s h) (ws ns))) (vv (I (Td ns s h 0))) (vv (Tu I (pl ns s h ns.length 0))) (vv (Tu I (TT ns s h ns.length))) (oo ((pl ns s h ns.length 0).map I)) (vv (Nn d)) (Option.map SV.val o11) (vv (Nn k)) a13 a14 a15 (Option.map SV.val o16) none none none none cu) rfl ?_
      refine nx_imp (l_round C _ _ _ _ _ _ _ _ _ _ _ _ _ cu) ?_
      rintro z ⟨b13, b14, b15, b16, cu', rfl⟩
      exact ⟨_, b13, b14, b15, some b16, cu', fun _ => ⟨_, rfl⟩, rfl⟩
    · rintro z ⟨a12, a13, a14, a15, o16, cu, h12, rfl⟩
      obtain ⟨d12, rfl⟩ := h12 (by decide)
      exact ⟨_, _, _, _, _, _, rfl⟩
  rintro z ⟨d12, a13, a14, a15, o16, cu6, rfl⟩
  obtain ⟨room, cu7, hr, e7⟩ := ev_take (i := 1) (f := eC (.int 4)) (m := 4) (cu := cu6) (ce := []) (s := SL (vv (Tu I ns)) (vv (I s)) (vv (I h)) (vv (Li (WD ns s h) (ws ns))) (vv (I (Td ns s h 0))) (vv (Tu I (pl ns s h ns.length 0))) (vv (Tu I (TT ns s h ns.length))) (oo ((pl ns s h ns.length 0).map I)) (vv (Nn d)) (Option.map SV.val o11) (vv d12) a13 a14 a15 (Option.map SV.val o16) none none none none cu6) rfl (ev_c (d := Nn 4)) rfl (by decide) (by decide +kernel)
  have hr : room ≤ 3 := by omega
  apply seqT (s1 := SL (vv (Tu I ns)) (vv (I s)) (vv (I h)) (vv (Li (WD ns s h) (ws ns))) (vv (I (Td ns s h 0))) (vv (Tu I (pl ns s h ns.length 0))) (vv (Tu I (TT ns s h ns.length))) (oo ((pl ns s h ns.length 0).map I)) (vv (Nn d)) (Option.map SV.val o11) (vv d12) a13 a14 a15 (Option.map SV.val o16) (vv (Nn room)) none none none cu7)
  · exact st_setE' e7 rfl
  refine seqT (l_good C hr _ _ _ _ _ _ _ _ _ _ _ _ o16 cu7) ?_
  refine seqT (l_withroom C hr _ _ _ _ _ _ _ _ _ _ _ _ _ _ cu7) ?_
  refine seqT (l_short C hr _ _ _ _ _ _ _ _ _ _ _ _ _ _ d12 cu7) ?_
  exact l_ret C hr _ _ _ _ _ _ _ _ _ _ _ _ _ cu7
end k57_whole_lots
set_option Elab.async false
set_option linter.all false
set_option maxRecDepth 100000
set_option maxHeartbeats 8000000
namespace k57_whole_lots
open PySem PySem.Spec PyProof.Rows L2 Ev
def top (i : Nat) : Stmt := PySem.Challenge.pw_marketguild_k57_whole_lots.main.body.getD i (.Pass ⟨0, 0, 0, 0⟩)
/-- what the top leaves -/
structure Tx (P : Program) (K : PySem.W.Frag) (mg : Str → Option Value) (CG fI gT cL PL : Addr) : Prop where
  gt : PySem.GuX.GTxt P K mg CG fI
  td : ToldAt K mg gT
  n_abs : mg "abs" = none
  n_enumerate : mg "enumerate" = none
  n_int : mg "int" = none
  n_isinstance : mg "isinstance" = none
  n_len : mg "len" = none
  n_list : mg "list" = none
  n_max : mg "max" = none
  n_min : mg "min" = none
  n_range : mg "range" = none
  n_str : mg "str" = none
  n_sum : mg "sum" = none
  n_tuple : mg "tuple" = none
  n_zip : mg "zip" = none
  c_MOST_DAYS : GC K mg "MOST_DAYS" (.int 10)
  d_check_needs : Stand K mg "check_needs" (top 5) ["needs", "start", "hold", "room"]
  d_cost_in : Stand K mg "cost_in" (top 6) ["needs", "start", "hold", "made"]
  d_cost : Stand K mg "cost" (top 7) ["needs", "start", "hold", "made"]
  d_run_cost : Stand K mg "run_cost" (top 9) ["needs", "start", "hold", "day", "end"]
  d_floors : Stand K mg "floors" (top 8) ["needs", "start", "hold"]
  d_best : Stand K mg "best" (top 10) ["needs", "start", "hold"]
  d_all_floors : Stand K mg "all_floors" (top 11) ["needs", "start", "hold"]
  d_takes_floors : Stand K mg "takes_floors" (top 12) ["needs", "start", "hold", "rows"]
  d_with_room : Stand K mg "with_room" (top 13) ["needs", "start", "hold", "room"]
  d_shortage : Stand K mg "shortage" (top 14) ["needs", "room"]
  d_u_law_cost : Stand K mg "_law_cost" (top 19) ["needs", "start", "hold", "made"]
  d_u_law_ways : Stand K mg "_law_ways" (top 20) ["days", "most"]
  d_u_law_run : Stand K mg "_law_run" (top 21) ["needs", "start", "hold", "day", "end"]
  d_u_law_floors : Stand K mg "_law_floors" (top 22) ["needs", "start", "hold"]
  d_u_law_right : Stand K mg "_law_right" (top 23) ["needs", "start", "hold", "rows"]
  d_u_law_wrong : StandL K mg "_law_wrong" (top 24) [] cL PL
  d_u_law_take : Stand K mg "_law_take" (top 17) ["d", "many"]
  d_u_law_begin : Stand K mg "_law_begin" (top 16) ["script"]
section
variable {P : Program} {w : World} {K : PySem.W.Frag} {mg : Str → Option Value} {base : Heap} {CG fI gT cL PL : Addr}
theorem sc_take : FnScope ["d", "many", "small", "digit"] ["d", "many"] (defScope (top 17)) := ⟨rfl, rfl, rfl, by decide +kernel, rfl, by decide +kernel, by decide +kernel⟩
theorem df_take (T : Tx P K mg CG fI gT cL PL) : DfS P w K mg base 2 "_law_take" spTake := take_of T.d_u_law_take sc_take (fun f cdv A outer s H E hr => by
  have D2 : ∀ {X : Cx} {k : Int} {j : Nat} {pp p1 p2 : Pos}, X.K = K → X.N = (["d", "many", "small", "digit"] : List Str) → Vis X.env.scope "d" → PE X (.Subscript (.Name "d" p1) (.Constant (.int k) j p2) pp) (tD K k) := fun hK hN hv => by subst hK; exact pe_ix ix_list (pe_var (i := 0) (by rw [hN]; rfl) hv) pe_int (fun _ _ => rfl)
  exact pss_cons (ps_if (PW.pt (pw_and (pt_cmpR op_eq (D2 rfl rfl (.inl rfl)) pe_int (by rfl)) (pw_and1 (pt_cmpR op_lt (D2 rfl rfl (.inl rfl)) (pe_callB call_len rfl T.n_len (by decide +kernel) (pa_cons (D2 rfl rfl (.inl rfl)) pa_nil)) (by rfl)))))
    (pss_cons (ps_asg (pe_callB call_abs rfl T.n_abs (by decide +kernel) (pa_cons (pe_callTy call_int1 rfl T.n_int (by decide +kernel) (pa_cons (pe_ix ix_list (D2 rfl rfl (.inl rfl)) (D2 rfl rfl (.inl rfl)) (fun _ _ => rfl)) pa_nil)) pa_nil)) (pg_sub (pv 0) pe_int set_list))
      (pss_cons (ps_asg (pe_op op_add (D2 rfl rfl (.inl rfl)) pe_int) (pg_sub (pv 0) pe_int set_list))
        (pss_one (ps_if (pt_cmpR op_lt (D2 rfl rfl (.inl rfl)) (pe_op op_pow pe_int pe_int) (by rfl))
          (pss_cons (ps_set (i := 2) sc_take.nd rfl (Or.inl rfl) (pe_callTy call_int1 rfl T.n_int (by decide +kernel) (pa_cons (D2 rfl rfl (.inl rfl)) pa_nil))) (pss_cons (ps_asg pe_int (pg_sub (pv 0) pe_int set_list)) (pss_one (ps_ret (pe_op op_mod (pv 2) (pv 1))))))
          pss_nil))))
    pss_nil)
    (pss_cons (ps_if (pt_cmpR op_gt (D2 rfl rfl (.inl rfl)) pe_int (by rfl))
        (pss_cons (ps_set (i := 3) sc_take.nd rfl (Or.inl rfl) (pe_op op_mod (pe_callTy call_int1 rfl T.n_int (by decide +kernel) (pa_cons (D2 rfl rfl (.inl rfl)) pa_nil)) (pv 1)))
          (pss_cons (ps_asg (pe_op op_fdivW (pe_callTy call_int1 rfl T.n_int (by decide +kernel) (pa_cons (D2 rfl rfl (.inl rfl)) pa_nil)) (pv 1)) (pg_sub (pv 0) pe_int set_list)) (pss_one (ps_ret (pv 3)))))
        pss_nil)
      (pss_cons (ps_asg (pe_op op_mod (pe_callTy call_int1 rfl T.n_int (by decide +kernel) (pa_cons (pe_op op_add (pe_op op_mul (D2 rfl rfl (.inl rfl)) pe_int) pe_int) pa_nil)) pe_int) (pg_sub (pv 0) pe_int set_list))
        (pss_one (ps_ret (pe_op op_mod (pe_callTy call_int1 rfl T.n_int (by decide +kernel) (pa_cons (pe_op op_fdivW (D2 rfl rfl (.inl rfl)) pe_int) pa_nil)) (pv 1)))))))
theorem sc_begin : FnScope ["script", "seed", "cell"] ["script"] (defScope (top 16)) := ⟨rfl, rfl, rfl, by decide +kernel, rfl, by decide +kernel, by decide +kernel⟩
theorem df_begin (T : Tx P K mg CG fI gT cL PL) : DfS P w K mg base 2 "_law_begin" (spBegin K) := begin_of T.d_u_law_begin sc_begin (fun f cdv A outer s H E hr => by
  exact pss_cons (ps_set (i := 1) sc_begin.nd rfl (Or.inl rfl) pe_int)
    (pss_cons (ps_for (passes_of rfl) rfl (pi_list (pv 0)) (pg_name (i := 2) sc_begin.nd rfl (Or.inl rfl)) (pss_one (ps_set (i := 1) sc_begin.nd rfl (Or.inl rfl)
        (pe_op op_mod (pe_op op_add (pe_op op_add (pe_op op_mul (pv 1) pe_int) (pe_op op_mod (pe_callTy call_int1 rfl T.n_int (by decide +kernel) (pa_cons (pv 2) pa_nil)) pe_int)) pe_int) pe_int))))
      (pss_one (ps_ret (pe_lst (pa_cons (pe_callTy call_list_of rfl T.n_list (by decide +kernel) (pa_cons (pv 0) pa_nil)) (pa_cons pe_int (pa_cons pe_int (pa_cons (pv 1) pa_nil)))))))))
theorem sc_check_needs : FnScope ["needs", "start", "hold", "room"] ["needs", "start", "hold", "room"] (defScope (top 5)) := ⟨rfl, rfl, rfl, by decide +kernel, rfl, by decide +kernel, by decide +kernel⟩
theorem df_check_needs (T : Tx P K mg CG fI gT cL PL) : Df P w K mg base CG 2 "check_needs" F_check_needs := df_of T.d_check_needs sc_check_needs rfl rfl rfl (by decide) (fun f cdv A outer s H E hr XP tk => by
  exact (qs_cons (qs_if (qt_not (qt_chain (op_dLe (hu64 hr)) (op_dLe (hu64 hr)) qe_int (qe_b1 cr_len T.n_len (by decide +kernel) (qe_var 0)) (qe_glob T.c_MOST_DAYS rfl))) (qs_one (qs_raise (k := 0) T.gt rfl (hr.mono (by decide)) tk)) qs_nil)
  (qs_cons (qs_if (qt_cmp (op_dLt (hu64 hr)) (qe_b1 (cr_dmin rfl (hu65 hr)) T.n_min (by decide +kernel) (qe_var 0)) qe_int (by with_unfolding_all rfl)) (qs_one (qs_raise (k := 0) T.gt rfl (hr.mono (by decide)) tk)) qs_nil)
  (qs_one (qs_if (qt_w (qw_or (qt_cmp (op_dLt (hu64 hr)) (qe_b2 (cr_min2 rfl) T.n_min (by decide +kernel) (qe_var 1) (qe_var 2)) qe_int (by with_unfolding_all rfl)) (qw_or1 (qt_cmp (op_dLt (hu64 hr)) (qe_var 3) qe_int (by with_unfolding_all rfl))))) (qs_one (qs_raise (k := 0) T.gt rfl (hr.mono (by decide)) tk)) qs_nil)))))
theorem sc_cost_in : FnScope ["needs", "start", "hold", "made", "left", "price", "need", "amount"] ["needs", "start", "hold", "made"] (defScope (top 6)) := ⟨rfl, rfl, rfl, by decide +kernel, rfl, by decide +kernel, by decide +kernel⟩
theorem df_cost_in (T : Tx P K mg CG fI gT cL PL) : Df P w K mg base CG 1 "cost_in" F_cost_in := df_of T.d_cost_in sc_cost_in rfl rfl rfl (by decide) (fun f cdv A outer s H E hr XP tk => by
  exact (qs_cons (qs_set 4 sc_cost_in.nd qe_int)
  (qs_cons (qs_set 5 sc_cost_in.nd qe_int)
  (qs_cons (qs_for (passes_of rfl) rfl (qi_zip T.n_zip (qa_cons (qe_var 0) (qa_cons (qe_var 3) qa_nil))) (qg_tup 2 rfl (qgs_cons (qg_name 6 sc_cost_in.nd) (qgs_cons (qg_name 7 sc_cost_in.nd) qgs_nil))) (qs_cons (qs_aug 4 sc_cost_in.nd io_add (qe_bin op_dSub (qe_var 7) (qe_var 6)))
  (qs_cons (qs_if (qt_cmp (op_dLt (hu64 hr)) (qe_var 4) qe_int (by with_unfolding_all rfl)) (qs_one (qs_ret qe_non)) qs_nil)
  (qs_one (qs_aug 5 sc_cost_in.nd io_add (qe_bin op_dAdd (qe_if (qt_cmp (op_dGt (hu64 hr)) (qe_var 7) qe_int (by with_unfolding_all rfl)) (qe_var 1) qe_int) (qe_bin op_dMul (qe_var 2) (qe_var 4))))))))
  (qs_one (qs_ret (qe_var 5)))))))
theorem sc_cost : FnScope ["needs", "start", "hold", "made"] ["needs", "start", "hold", "made"] (defScope (top 7)) := ⟨rfl, rfl, rfl, by decide +kernel, rfl, by decide +kernel, by decide +kernel⟩
theorem df_cost (T : Tx P K mg CG fI gT cL PL) : Df P w K mg base CG 3 "cost" F_cost := df_of T.d_cost sc_cost rfl rfl rfl (by decide) (fun f cdv A outer s H E hr XP tk => by
  exact (qs_cons (qs_expr (qe_call (df_check_needs (w := w) (base := base) T) (hr.mono (by decide)) tk (qa_cons (qe_var 0) (qa_cons (qe_var 1) (qa_cons (qe_var 2) (qa_cons qe_int qa_nil))))))
  (qs_cons (qs_if (qt_w (qw_or (qt_cmp (op_dNe (hu64 hr)) (qe_b1 cr_len T.n_len (by decide +kernel) (qe_var 3)) (qe_b1 cr_len T.n_len (by decide +kernel) (qe_var 0)) (by with_unfolding_all rfl)) (qw_or1 (qt_cmp (op_dLt (hu64 hr)) (qe_b1 (cr_dmin rfl (hu65 hr)) T.n_min (by decide +kernel) (qe_var 3)) qe_int (by with_unfolding_all rfl))))) (qs_one (qs_raise (k := 0) T.gt rfl (hr.mono (by decide)) tk)) qs_nil)
  (qs_one (qs_ret (qe_call (df_cost_in (w := w) (base := base) T) (hr.mono (by decide)) tk (qa_cons (qe_var 0) (qa_cons (qe_var 1) (qa_cons (qe_var 2) (qa_cons (qe_var 3) qa_nil))))))))))
theorem sc_run_cost : FnScope ["needs", "start", "hold", "day", "end", "k"] ["needs", "start", "hold", "day", "end"] (defScope (top 9)) := ⟨rfl, rfl, rfl, by decide +kernel, rfl, by decide +kernel, by decide +kernel⟩
theorem df_run_cost (T : Tx P K mg CG fI gT cL PL) : Df P w K mg base CG 1 "run_cost" F_run_cost := df_of T.d_run_cost sc_run_cost rfl rfl rfl (by decide) (fun f cdv A outer s H E hr XP tk => by
  exact (qs_one (qs_ret (qe_bin op_dAdd (qe_var 1) (qe_b1 (cr_dsum rfl) T.n_sum (by decide +kernel) (QM.qe (qm_comp [("k", 5)] rfl sc_run_cost.nd (qi_rng2 T.n_range (qe_var 3) (qe_var 4)) (blkOk_by (by kernel_rfl)) (by decide) (fun _ _ _ _ _ => (qg_name 5 sc_run_cost.nd)) (fun _ _ _ _ _ => qts_nil) (fun _ _ _ _ _ => (qe_bin op_dMul (qe_bin op_dMul (qe_var 2) (qe_bin op_dSub (qe_var 5) (qe_var 3))) (qe_ix (qe_var 0) (qe_var 5)))))))))))
theorem sc_floors : FnScope ["needs", "start", "hold", "found", "day", "rows", "end"] ["needs", "start", "hold"] (defScope (top 8)) := ⟨rfl, rfl, rfl, by decide +kernel, rfl, by decide +kernel, by decide +kernel⟩
theorem df_floors (T : Tx P K mg CG fI gT cL PL) : Df P w K mg base CG 2 "floors" F_floors := df_of T.d_floors sc_floors rfl rfl rfl (by decide) (fun f cdv A outer s H E hr XP tk => by
  exact (qs_cons (qs_own 3 sc_floors.nd (qm_bin opm_rep (QM.qe (qm_lst (qa_cons qe_int qa_nil))) (qe_bin op_dAdd (qe_b1 cr_len T.n_len (by decide +kernel) (qe_var 0)) qe_int)))
  (qs_cons (qs_for (passes_of rfl) rfl (qi_rng3 T.n_range (qe_bin op_dSub (qe_b1 cr_len T.n_len (by decide +kernel) (qe_var 0)) qe_int) (qe_un un_dNeg qe_int) (qe_un un_dNeg qe_int)) (qg_name 4 sc_floors.nd) (qs_cons (qs_compO 5 [("end", 6)] rfl sc_floors.nd (qi_rng2 T.n_range (qe_bin op_dAdd (qe_var 4) qe_int) (qe_bin op_dAdd (qe_b1 cr_len T.n_len (by decide +kernel) (qe_var 0)) qe_int)) (blkOk_by (by kernel_rfl)) (by decide) (fun _ _ _ _ _ => (qg_name 6 sc_floors.nd)) (fun _ _ _ _ _ => qts_nil) (fun _ _ _ _ _ => (qe_bin op_dAdd (qe_call (df_run_cost (w := w) (base := base) T) (hr.mono (by decide)) (tkF (CG := CG)) (qa_cons (qe_var 0) (qa_cons (qe_var 1) (qa_cons (qe_var 2) (qa_cons (qe_var 4) (qa_cons (qe_var 6) qa_nil)))))) (qe_ix (qe_var 3) (qe_var 6)))))
  (qs_cons (qs_if (qt_cmp (op_dEq (hu64 hr)) (qe_ix (qe_var 0) (qe_var 4)) qe_int (by with_unfolding_all rfl)) (qs_one (qs_expr (qe_meth 5 PySem.F.slot_list_append PySem.F.type_list_append mt_append mo_append (qa_cons (qe_ix (qe_var 3) (qe_bin op_dAdd (qe_var 4) qe_int)) qa_nil)))) qs_nil)
  (qs_one (qs_putIx 3 (qe_b1 (cr_dmin rfl (hu65 hr)) T.n_min (by decide +kernel) (qe_var 5)) (qe_var 4))))))
  (qs_one (qs_ret (qe_var 3))))))
theorem sc_best : FnScope ["needs", "start", "hold", "table", "made", "day", "end"] ["needs", "start", "hold"] (defScope (top 10)) := ⟨rfl, rfl, rfl, by decide +kernel, rfl, by decide +kernel, by decide +kernel⟩
theorem df_best (T : Tx P K mg CG fI gT cL PL) : Df P w K mg base CG 3 "best" F_best := df_of T.d_best sc_best rfl rfl rfl (by decide) (fun f cdv A outer s H E hr XP tk => by
  exact (qs_cons (qs_expr (qe_call (df_check_needs (w := w) (base := base) T) (hr.mono (by decide)) tk (qa_cons (qe_var 0) (qa_cons (qe_var 1) (qa_cons (qe_var 2) (qa_cons qe_int qa_nil))))))
  (qs_cons (qs_set 3 sc_best.nd (qe_call (df_floors (w := w) (base := base) T) (hr.mono (by decide)) tk (qa_cons (qe_var 0) (qa_cons (qe_var 1) (qa_cons (qe_var 2) qa_nil)))))
  (qs_cons (qs_own 4 sc_best.nd (qm_bin opm_rep (QM.qe (qm_lst (qa_cons qe_int qa_nil))) (qe_b1 cr_len T.n_len (by decide +kernel) (qe_var 0))))
  (qs_cons (qs_set 5 sc_best.nd qe_int)
  (qs_cons (qs_while 200 (passes_of rfl) (qt_cmp (op_dLt (hu64 hr)) (qe_var 5) (qe_b1 cr_len T.n_len (by decide +kernel) (qe_var 0)) (by with_unfolding_all rfl)) (qs_cons (qs_if (qt_w (qw_and (qt_cmp (op_dEq (hu64 hr)) (qe_ix (qe_var 0) (qe_var 5)) qe_int (by with_unfolding_all rfl)) (qw_and1 (qt_cmp (op_dEq (hu64 hr)) (qe_ix (qe_var 3) (qe_var 5)) (qe_ix (qe_var 3) (qe_bin op_dAdd (qe_var 5) qe_int)) (by with_unfolding_all rfl))))) (qs_cons (qs_aug 5 sc_best.nd io_add qe_int)
  (qs_one qs_continue)) qs_nil)
  (qs_one (qs_for (passes_of rfl) rfl (qi_rng2 T.n_range (qe_bin op_dAdd (qe_var 5) qe_int) (qe_bin op_dAdd (qe_b1 cr_len T.n_len (by decide +kernel) (qe_var 0)) qe_int)) (qg_name 6 sc_best.nd) (qs_one (qs_if (qt_cmp (op_dEq (hu64 hr)) (qe_bin op_dAdd (qe_call (df_run_cost (w := w) (base := base) T) (hr.mono (by decide)) tk (qa_cons (qe_var 0) (qa_cons (qe_var 1) (qa_cons (qe_var 2) (qa_cons (qe_var 5) (qa_cons (qe_var 6) qa_nil)))))) (qe_ix (qe_var 3) (qe_var 6))) (qe_ix (qe_var 3) (qe_var 5)) (by with_unfolding_all rfl)) (qs_cons (qs_putIx 4 (qe_b1 (cr_dsum rfl) T.n_sum (by decide +kernel) (qe_sl (qe_var 0) (qo_some (qe_var 5)) (qo_some (qe_var 6)))) (qe_var 5))
  (qs_cons (qs_set 5 sc_best.nd (qe_var 6))
  (qs_one qs_break))) qs_nil))))))
  (qs_one (qs_ret (qe_tup (qa_cons (qe_ix (qe_var 3) qe_int) (qa_cons (qe_t1 cr_tup T.n_tuple (by decide +kernel) (qe_var 4)) qa_nil)))))))))))
theorem sc_all_floors : FnScope ["needs", "start", "hold"] ["needs", "start", "hold"] (defScope (top 11)) := ⟨rfl, rfl, rfl, by decide +kernel, rfl, by decide +kernel, by decide +kernel⟩
theorem df_all_floors (T : Tx P K mg CG fI gT cL PL) : Df P w K mg base CG 3 "all_floors" F_all_floors := df_of T.d_all_floors sc_all_floors rfl rfl rfl (by decide) (fun f cdv A outer s H E hr XP tk => by
  exact (qs_cons (qs_expr (qe_call (df_check_needs (w := w) (base := base) T) (hr.mono (by decide)) tk (qa_cons (qe_var 0) (qa_cons (qe_var 1) (qa_cons (qe_var 2) (qa_cons qe_int qa_nil))))))
  (qs_one (qs_ret (qe_t1 cr_tup T.n_tuple (by decide +kernel) (qe_call (df_floors (w := w) (base := base) T) (hr.mono (by decide)) tk (qa_cons (qe_var 0) (qa_cons (qe_var 1) (qa_cons (qe_var 2) qa_nil)))))))))
theorem sc_takes_floors : FnScope ["needs", "start", "hold", "rows", "many", "day", "end"] ["needs", "start", "hold", "rows"] (defScope (top 12)) := ⟨rfl, rfl, rfl, by decide +kernel, rfl, by decide +kernel, by decide +kernel⟩
theorem df_takes_floors (T : Tx P K mg CG fI gT cL PL) : Df P w K mg base CG 3 "takes_floors" F_takes_floors := df_of T.d_takes_floors sc_takes_floors rfl rfl rfl (by decide) (fun f cdv A outer s H E hr XP tk => by
  exact (qs_cons (qs_expr (qe_call (df_check_needs (w := w) (base := base) T) (hr.mono (by decide)) tk (qa_cons (qe_var 0) (qa_cons (qe_var 1) (qa_cons (qe_var 2) (qa_cons qe_int qa_nil))))))
  (qs_cons (qs_set 4 sc_takes_floors.nd (qe_b1 cr_len T.n_len (by decide +kernel) (qe_var 0)))
  (qs_cons (qs_if (qt_w (qw_or (qt_cmp (op_dNe (hu64 hr)) (qe_b1 cr_len T.n_len (by decide +kernel) (qe_var 3)) (qe_bin op_dAdd (qe_var 4) qe_int) (by with_unfolding_all rfl)) (qw_or1 (qt_cmp (op_dGt (hu64 hr)) (qe_ix (qe_var 3) (qe_var 4)) qe_int (by with_unfolding_all rfl))))) (qs_one (qs_ret qe_bl)) qs_nil)
  (qs_cons (qs_for (passes_of rfl) rfl (qi_rng1 T.n_range (qe_var 4)) (qg_name 5 sc_takes_floors.nd) (qs_cons (qs_if (qt_w (qw_and (qt_cmp (op_dEq (hu64 hr)) (qe_ix (qe_var 0) (qe_var 5)) qe_int (by with_unfolding_all rfl)) (qw_and1 (qt_cmp (op_dGt (hu64 hr)) (qe_ix (qe_var 3) (qe_var 5)) (qe_ix (qe_var 3) (qe_bin op_dAdd (qe_var 5) qe_int)) (by with_unfolding_all rfl))))) (qs_one (qs_ret qe_bl)) qs_nil)
  (qs_one (qs_for (passes_of rfl) rfl (qi_rng2 T.n_range (qe_bin op_dAdd (qe_var 5) qe_int) (qe_bin op_dAdd (qe_var 4) qe_int)) (qg_name 6 sc_takes_floors.nd) (qs_one (qs_if (qt_cmp (op_dGt (hu64 hr)) (qe_ix (qe_var 3) (qe_var 5)) (qe_bin op_dAdd (qe_call (df_run_cost (w := w) (base := base) T) (hr.mono (by decide)) tk (qa_cons (qe_var 0) (qa_cons (qe_var 1) (qa_cons (qe_var 2) (qa_cons (qe_var 5) (qa_cons (qe_var 6) qa_nil)))))) (qe_ix (qe_var 3) (qe_var 6))) (by with_unfolding_all rfl)) (qs_one (qs_ret qe_bl)) qs_nil))))))
  (qs_one (qs_ret qe_bl)))))))
theorem sc_with_room : FnScope ["needs", "start", "hold", "room", "level", "need", "following", "left", "price", "made", "amount", "after", "told"] ["needs", "start", "hold", "room"] (defScope (top 13)) := ⟨rfl, rfl, rfl, by decide +kernel, rfl, by decide +kernel, by decide +kernel⟩
theorem df_with_room (T : Tx P K mg CG fI gT cL PL) : Df P w K mg base CG 3 "with_room" F_with_room := df_of T.d_with_room sc_with_room rfl rfl rfl (by decide) (fun f cdv A outer s H E hr XP tk => by
  exact (qs_cons (qs_expr (qe_call (df_check_needs (w := w) (base := base) T) (hr.mono (by decide)) tk (qa_cons (qe_var 0) (qa_cons (qe_var 1) (qa_cons (qe_var 2) (qa_cons (qe_var 3) qa_nil))))))
  (qs_cons (qs_setA 4 sc_with_room.nd (qe_dct (L := [((eC (.int 0)), (eTup (aCons (eC (.int 0)) (aCons (eTup aNil) aNil))))]) (pps_cons qe_int (qe_tup (qa_cons qe_int (qa_cons (qe_tup qa_nil) qa_nil))) pps_nil) rfl rfl (by simp) (by decide) (by decide)))
  (qs_cons (qs_for (passes_of rfl) rfl (qi_seq (qe_var 0)) (qg_name 5 sc_with_room.nd) (qs_cons (qs_setA 6 sc_with_room.nd qe_dnew)
  (qs_cons (qs_forIt 4 (passes_of rfl) rfl rfl (by first | exact .inl rfl | exact .inr rfl) (qga_D (qg_tup 2 rfl (qgs_cons (qg_name 7 sc_with_room.nd) (qgs_cons (qg_tup 2 rfl (qgs_cons (qg_name 8 sc_with_room.nd) (qgs_cons (qg_name 9 sc_with_room.nd) qgs_nil))) qgs_nil)))) (qs_one (qs_for (passes_of rfl) rfl (qi_rng1 T.n_range (qe_bin op_dAdd (qe_var 3) qe_int)) (qg_name 10 sc_with_room.nd) (qs_cons (qs_set 11 sc_with_room.nd (qe_bin op_dSub (qe_bin op_dAdd (qe_var 7) (qe_var 10)) (qe_var 5)))
  (qs_one (qs_if (qt_chain (op_dLe (hu64 hr)) (op_dLe (hu64 hr)) qe_int (qe_var 11) (qe_b1 (cr_dsum rfl) T.n_sum (by decide +kernel) (qe_var 0))) (qs_cons (qs_set 12 sc_with_room.nd (qe_tup (qa_cons (qe_bin op_dAdd (qe_bin op_dAdd (qe_var 8) (qe_if (qt_cmp (op_dGt (hu64 hr)) (qe_var 10) qe_int (by with_unfolding_all rfl)) (qe_var 1) qe_int)) (qe_bin op_dMul (qe_var 2) (qe_var 11))) (qa_cons (qe_bin op_dAdd (qe_var 9) (qe_tup (qa_cons (qe_var 10) qa_nil))) qa_nil))))
  (qs_one (qs_putA (hu1 hr) (qe_var 6) (qe_var 11) (qe_b2 (cr_min2V rfl (hu65 hr)) T.n_min (by decide +kernel) (qe_dget2 (hu1 hr) (qe_var 6) (qe_var 11) (qe_var 12) ⟨rfl, rfl, rfl, rfl⟩) (qe_var 12))))) qs_nil))))))
  (qs_one (qs_setA 4 sc_with_room.nd (qe_var 6))))))
  (qs_one (qs_ret (qe_dget1 (hu1 hr) (qe_var 4) qe_int ⟨rfl, rfl, rfl, rfl⟩)))))))
theorem sc_shortage : FnScope ["needs", "room", "whole", "day", "need"] ["needs", "room"] (defScope (top 14)) := ⟨rfl, rfl, rfl, by decide +kernel, rfl, by decide +kernel, by decide +kernel⟩
theorem df_shortage (T : Tx P K mg CG fI gT cL PL) : Df P w K mg base CG 3 "shortage" F_shortage := df_of T.d_shortage sc_shortage rfl rfl rfl (by decide) (fun f cdv A outer s H E hr XP tk => by
  exact (qs_cons (qs_expr (qe_call (df_check_needs (w := w) (base := base) T) (hr.mono (by decide)) tk (qa_cons (qe_var 0) (qa_cons qe_int (qa_cons qe_int (qa_cons (qe_var 1) qa_nil))))))
  (qs_cons (qs_set 2 sc_shortage.nd qe_int)
  (qs_cons (qs_for (passes_of rfl) rfl (qi_enum T.n_enumerate (qa_cons (qe_var 0) qa_nil)) (qg_tup 2 rfl (qgs_cons (qg_name 3 sc_shortage.nd) (qgs_cons (qg_name 4 sc_shortage.nd) qgs_nil))) (qs_cons (qs_aug 2 sc_shortage.nd io_add (qe_var 4))
  (qs_one (qs_if (qt_cmp (op_dGt (hu64 hr)) (qe_var 2) (qe_bin op_dMul (qe_var 1) (qe_bin op_dAdd (qe_var 3) qe_int)) (by with_unfolding_all rfl)) (qs_one (qs_ret (qe_tup (qa_cons (qe_var 3) (qa_cons (qe_bin op_dSub (qe_var 2) (qe_bin op_dMul (qe_var 1) (qe_bin op_dAdd (qe_var 3) qe_int))) qa_nil))))) qs_nil))))
  (qs_one (qs_ret qe_non))))))
theorem sc_u_law_cost : FnScope ["needs", "start", "hold", "made", "left", "price", "k"] ["needs", "start", "hold", "made"] (defScope (top 19)) := ⟨rfl, rfl, rfl, by decide +kernel, rfl, by decide +kernel, by decide +kernel⟩
theorem df_u_law_cost (T : Tx P K mg CG fI gT cL PL) : Df P w K mg base CG 1 "_law_cost" F_u_law_cost := df_of T.d_u_law_cost sc_u_law_cost rfl rfl rfl (by decide) (fun f cdv A outer s H E hr XP tk => by
  exact (qs_cons (qs_set 4 sc_u_law_cost.nd qe_int)
  (qs_cons (qs_set 5 sc_u_law_cost.nd qe_int)
  (qs_cons (qs_for (passes_of rfl) rfl (qi_rng1 T.n_range (qe_b1 cr_len T.n_len (by decide +kernel) (qe_var 0))) (qg_name 6 sc_u_law_cost.nd) (qs_cons (qs_set 4 sc_u_law_cost.nd (qe_bin op_dSub (qe_bin op_dAdd (qe_var 4) (qe_ix (qe_var 3) (qe_var 6))) (qe_ix (qe_var 0) (qe_var 6))))
  (qs_cons (qs_if (qt_cmp (op_dLt (hu64 hr)) (qe_var 4) qe_int (by with_unfolding_all rfl)) (qs_one (qs_ret qe_non)) qs_nil)
  (qs_one (qs_set 5 sc_u_law_cost.nd (qe_bin op_dAdd (qe_bin op_dAdd (qe_var 5) (qe_if (qt_cmp (op_dGt (hu64 hr)) (qe_ix (qe_var 3) (qe_var 6)) qe_int (by with_unfolding_all rfl)) (qe_var 1) qe_int)) (qe_bin op_dMul (qe_var 2) (qe_var 4))))))))
  (qs_one (qs_ret (qe_var 5)))))))
theorem sc_u_law_ways : FnScope ["days", "most", "rows", "k", "longer", "row", "amount"] ["days", "most"] (defScope (top 20)) := ⟨rfl, rfl, rfl, by decide +kernel, rfl, by decide +kernel, by decide +kernel⟩
theorem df_u_law_ways (T : Tx P K mg CG fI gT cL PL) : Df P w K mg base CG 1 "_law_ways" F_u_law_ways := df_of T.d_u_law_ways sc_u_law_ways rfl rfl rfl (by decide) (fun f cdv A outer s H E hr XP tk => by
  exact (qs_cons (qs_set 2 sc_u_law_ways.nd (QM.qe (qm_lst (qa_cons (qe_tup qa_nil) qa_nil))))
  (qs_cons (qs_for (passes_of rfl) rfl (qi_rng1 T.n_range (qe_var 0)) (qg_name 3 sc_u_law_ways.nd) (qs_cons (qs_set 4 sc_u_law_ways.nd (QM.qe (qm_lst qa_nil)))
  (qs_cons (qs_for (passes_of rfl) rfl (qi_seq (qe_var 2)) (qg_name 5 sc_u_law_ways.nd) (qs_one (qs_set 4 sc_u_law_ways.nd (qe_bin op_dAdd (qe_var 4) (QM.qe (qm_comp [("amount", 6)] rfl sc_u_law_ways.nd (qi_rng1 T.n_range (qe_bin op_dAdd (qe_var 1) qe_int)) (blkOk_by (by kernel_rfl)) (by decide) (fun _ _ _ _ _ => (qg_name 6 sc_u_law_ways.nd)) (fun _ _ _ _ _ => qts_nil) (fun _ _ _ _ _ => (qe_bin op_dAdd (qe_var 5) (qe_tup (qa_cons (qe_var 6) qa_nil))))))))))
  (qs_one (qs_set 2 sc_u_law_ways.nd (qe_var 4))))))
  (qs_one (qs_ret (qe_var 2))))))
theorem sc_u_law_run : FnScope ["needs", "start", "hold", "day", "end", "k"] ["needs", "start", "hold", "day", "end"] (defScope (top 21)) := ⟨rfl, rfl, rfl, by decide +kernel, rfl, by decide +kernel, by decide +kernel⟩
theorem df_u_law_run (T : Tx P K mg CG fI gT cL PL) : Df P w K mg base CG 1 "_law_run" F_u_law_run := df_of T.d_u_law_run sc_u_law_run rfl rfl rfl (by decide) (fun f cdv A outer s H E hr XP tk => by
  exact (qs_one (qs_ret (qe_bin op_dAdd (qe_var 1) (qe_b1 (cr_dsum rfl) T.n_sum (by decide +kernel) (QM.qe (qm_comp [("k", 5)] rfl sc_u_law_run.nd (qi_rng2 T.n_range (qe_var 3) (qe_var 4)) (blkOk_by (by kernel_rfl)) (by decide) (fun _ _ _ _ _ => (qg_name 5 sc_u_law_run.nd)) (fun _ _ _ _ _ => qts_nil) (fun _ _ _ _ _ => (qe_bin op_dMul (qe_bin op_dMul (qe_var 2) (qe_bin op_dSub (qe_var 5) (qe_var 3))) (qe_ix (qe_var 0) (qe_var 5)))))))))))
theorem sc_u_law_floors : FnScope ["needs", "start", "hold", "rows", "day", "options", "end"] ["needs", "start", "hold"] (defScope (top 22)) := ⟨rfl, rfl, rfl, by decide +kernel, rfl, by decide +kernel, by decide +kernel⟩
theorem df_u_law_floors (T : Tx P K mg CG fI gT cL PL) : Df P w K mg base CG 2 "_law_floors" F_u_law_floors := df_of T.d_u_law_floors sc_u_law_floors rfl rfl rfl (by decide) (fun f cdv A outer s H E hr XP tk => by
  exact (qs_cons (qs_set 3 sc_u_law_floors.nd (QM.qe (qm_lst (qa_cons qe_int qa_nil))))
  (qs_cons (qs_for (passes_of rfl) rfl (qi_rng3 T.n_range (qe_bin op_dSub (qe_b1 cr_len T.n_len (by decide +kernel) (qe_var 0)) qe_int) (qe_un un_dNeg qe_int) (qe_un un_dNeg qe_int)) (qg_name 4 sc_u_law_floors.nd) (qs_cons (qs_compV 5 [("end", 6)] rfl sc_u_law_floors.nd (qi_rng2 T.n_range (qe_bin op_dAdd (qe_var 4) qe_int) (qe_bin op_dAdd (qe_b1 cr_len T.n_len (by decide +kernel) (qe_var 0)) qe_int)) (blkOk_by (by kernel_rfl)) (by decide) (fun _ _ _ _ _ => (qg_name 6 sc_u_law_floors.nd)) (fun _ _ _ _ _ => qts_nil) (fun _ _ _ _ _ => (qe_bin op_dAdd (qe_call (df_u_law_run (w := w) (base := base) T) (hr.mono (by decide)) (tkF (CG := CG)) (qa_cons (qe_var 0) (qa_cons (qe_var 1) (qa_cons (qe_var 2) (qa_cons (qe_var 4) (qa_cons (qe_var 6) qa_nil)))))) (qe_ix (qe_var 3) (qe_bin op_dSub (qe_bin op_dSub (qe_var 6) (qe_var 4)) qe_int)))))
  (qs_one (qs_set 3 sc_u_law_floors.nd (qe_bin op_dAdd (QM.qe (qm_lst (qa_cons (qe_b1 (cr_dmin rfl (hu65 hr)) T.n_min (by decide +kernel) (qe_bin op_dAdd (qe_var 5) (qe_if (qt_cmp (op_dEq (hu64 hr)) (qe_ix (qe_var 0) (qe_var 4)) qe_int (by with_unfolding_all rfl)) (QM.qe (qm_lst (qa_cons (qe_ix (qe_var 3) qe_int) qa_nil))) (QM.qe (qm_lst qa_nil))))) qa_nil))) (qe_var 3))))))
  (qs_one (qs_ret (qe_t1 cr_tup T.n_tuple (by decide +kernel) (qe_var 3)))))))
theorem sc_u_law_right : FnScope ["needs", "start", "hold", "rows", "day", "end"] ["needs", "start", "hold", "rows"] (defScope (top 23)) := ⟨rfl, rfl, rfl, by decide +kernel, rfl, by decide +kernel, by decide +kernel⟩
theorem df_u_law_right (T : Tx P K mg CG fI gT cL PL) : Df P w K mg base CG 2 "_law_right" F_u_law_right := df_of T.d_u_law_right sc_u_law_right rfl rfl rfl (by decide) (fun f cdv A outer s H E hr XP tk => by
  exact (qs_cons (qs_if (qt_w (qw_or (qt_cmp (op_dNe (hu64 hr)) (qe_b1 cr_len T.n_len (by decide +kernel) (qe_var 3)) (qe_bin op_dAdd (qe_b1 cr_len T.n_len (by decide +kernel) (qe_var 0)) qe_int) (by with_unfolding_all rfl)) (qw_or1 (qt_cmp (op_dGt (hu64 hr)) (qe_ix (qe_var 3) (qe_un un_dNeg qe_int)) qe_int (by with_unfolding_all rfl))))) (qs_one (qs_ret qe_bl)) qs_nil)
  (qs_cons (qs_for (passes_of rfl) rfl (qi_rng1 T.n_range (qe_b1 cr_len T.n_len (by decide +kernel) (qe_var 0))) (qg_name 4 sc_u_law_right.nd) (qs_cons (qs_if (qt_w (qw_and (qt_cmp (op_dEq (hu64 hr)) (qe_ix (qe_var 0) (qe_var 4)) qe_int (by with_unfolding_all rfl)) (qw_and1 (qt_cmp (op_dGt (hu64 hr)) (qe_ix (qe_var 3) (qe_var 4)) (qe_ix (qe_var 3) (qe_bin op_dAdd (qe_var 4) qe_int)) (by with_unfolding_all rfl))))) (qs_one (qs_ret qe_bl)) qs_nil)
  (qs_one (qs_if (qt_cmp (op_dGt (hu64 hr)) (qe_b1 cr_len T.n_len (by decide +kernel) (QM.qe (qm_comp [("end", 5)] rfl sc_u_law_right.nd (qi_rng2 T.n_range (qe_bin op_dAdd (qe_var 4) qe_int) (qe_bin op_dAdd (qe_b1 cr_len T.n_len (by decide +kernel) (qe_var 0)) qe_int)) (blkOk_by (by kernel_rfl)) (by decide) (fun _ _ _ _ _ => (qg_name 5 sc_u_law_right.nd)) (fun _ _ _ _ _ => (qts_one (qt_cmp (op_dGt (hu64 hr)) (qe_ix (qe_var 3) (qe_var 4)) (qe_bin op_dAdd (qe_call (df_u_law_run (w := w) (base := base) T) (hr.mono (by decide)) (tkF (CG := CG)) (qa_cons (qe_var 0) (qa_cons (qe_var 1) (qa_cons (qe_var 2) (qa_cons (qe_var 4) (qa_cons (qe_var 5) qa_nil)))))) (qe_ix (qe_var 3) (qe_var 5))) (by with_unfolding_all rfl)))) (fun _ _ _ _ _ => (qe_var 5))))) qe_int (by with_unfolding_all rfl)) (qs_one (qs_ret qe_bl)) qs_nil))))
  (qs_one (qs_ret qe_bl)))))
theorem sc_u_law_wrong : FnScope ["needs", "start", "hold", "code", "told"] [] (defScope (top 24)) := ⟨rfl, rfl, rfl, by decide +kernel, rfl, by decide +kernel, by decide +kernel⟩
theorem df_u_law_wrong (T : Tx P K mg CG fI gT cL PL) (TB : LamX.TabB base mg cL PL) : Df P w K mg base CG 6 "_law_wrong" F_u_law_wrong := df_ofL T.d_u_law_wrong TB sc_u_law_wrong rfl rfl rfl (by decide) (fun f A outer s H E hr XP tk la => by
  exact (qs_cons (qs_for (passes_of rfl) rfl (qi_seq (QM.qe (qm_lst (qa_cons (qe_tup (qa_cons (qe_tup qa_nil) (qa_cons qe_int (qa_cons qe_int (qa_cons qe_str qa_nil))))) (qa_cons (qe_tup (qa_cons (qe_bin op_dMul (qe_tup (qa_cons qe_int qa_nil)) qe_int) (qa_cons qe_int (qa_cons qe_int (qa_cons qe_str qa_nil))))) (qa_cons (qe_tup (qa_cons (qe_bin op_dMul (qe_tup (qa_cons qe_int qa_nil)) qe_int) (qa_cons qe_int (qa_cons qe_int (qa_cons qe_non qa_nil))))) (qa_cons (qe_tup (qa_cons (qe_tup (qa_cons (qe_un un_dNeg qe_int) qa_nil)) (qa_cons qe_int (qa_cons qe_int (qa_cons qe_str qa_nil))))) (qa_cons (qe_tup (qa_cons (qe_tup (qa_cons qe_int qa_nil)) (qa_cons (qe_un un_dNeg qe_int) (qa_cons qe_int (qa_cons qe_str qa_nil))))) (qa_cons (qe_tup (qa_cons (qe_tup (qa_cons qe_int qa_nil)) (qa_cons qe_int (qa_cons (qe_un un_dNeg qe_int) (qa_cons qe_str qa_nil))))) qa_nil))))))))) (qg_tup 4 rfl (qgs_cons (qg_name 0 sc_u_law_wrong.nd) (qgs_cons (qg_name 1 sc_u_law_wrong.nd) (qgs_cons (qg_name 2 sc_u_law_wrong.nd) (qgs_cons (qg_name 3 sc_u_law_wrong.nd) qgs_nil))))) (qs_cons (qs_set 4 sc_u_law_wrong.nd (qe_told (k := 3) T.gt T.td la (hr.mono (by decide)) rfl (fun A outer s H E f1 c1 hr XP tk => (qe_call (df_best (w := w) (base := base) T) (hr.mono (by decide)) tk (qa_cons (qe_var 0) (qa_cons (qe_var 1) (qa_cons (qe_var 2) qa_nil)))))))
  (qs_one (qs_if (qt_cmp (op_dNe (hu64 hr)) (qe_if (qt_tru (qe_isStr T.n_isinstance T.n_str (qe_var 4))) (qe_var 4) qe_non) (qe_var 3) (by with_unfolding_all rfl)) (qs_one (qs_ret qe_bl)) qs_nil))))
  (qs_one (qs_ret (qe_and (qe_cmp (op_dEq (hu64 hr)) (qe_told (k := 3) T.gt T.td la (hr.mono (by decide)) rfl (fun A outer s H E f1 c1 hr XP tk => (qe_call (df_cost (w := w) (base := base) T) (hr.mono (by decide)) tk (qa_cons (qe_tup (qa_cons qe_int qa_nil)) (qa_cons qe_int (qa_cons qe_int (qa_cons (qe_tup qa_nil) qa_nil))))))) qe_str (by with_unfolding_all rfl)) (qe_and (qe_cmp (op_dEq (hu64 hr)) (qe_told (k := 3) T.gt T.td la (hr.mono (by decide)) rfl (fun A outer s H E f1 c1 hr XP tk => (qe_call (df_cost (w := w) (base := base) T) (hr.mono (by decide)) tk (qa_cons (qe_tup (qa_cons qe_int qa_nil)) (qa_cons qe_int (qa_cons qe_int (qa_cons (qe_tup (qa_cons (qe_un un_dNeg qe_int) qa_nil)) qa_nil))))))) qe_str (by with_unfolding_all rfl)) (qe_one (qe_cmp (op_dEq (hu64 hr)) (qe_told (k := 3) T.gt T.td la (hr.mono (by decide)) rfl (fun A outer s H E f1 c1 hr XP tk => (qe_call (df_with_room (w := w) (base := base) T) (hr.mono (by decide)) tk (qa_cons (qe_tup (qa_cons qe_int qa_nil)) (qa_cons qe_int (qa_cons qe_int (qa_cons (qe_un un_dNeg qe_int) qa_nil))))))) qe_str (by with_unfolding_all rfl)))))))))
theorem sc_law : FnScope ["script", "d", "needs", "start", "hold", "ways", "told", "made", "rows", "due", "day", "end", "k", "bent", "at", "right", "one", "room", "good", "short", "price"] ["script"] (defScope (top 25)) := ⟨rfl, rfl, rfl, by decide +kernel, rfl, by decide +kernel, by decide +kernel⟩
theorem ok_thelaw (T : Tx P K mg CG fI gT cL PL) (TB : LamX.TabB base mg cL PL) {f : Addr} {fd : FuncData} (F : Fun K "law" "law" (top 25) f fd) (hpure : ∀ cu : Cur, ∃ T, g_law (startL 21 cu) = .rt (.bool true) T) : FnOk P w K mg base (L2.CX P w) 7 f fd ["script"] (spLaw K) :=
  ok_law F sc_law rfl (by decide) rfl (fun cdv A outer s H E hr => ⟨by exact begin_stmt (df_begin (w := w) (base := base) T) (hr.mono (by decide)) sc_law.nd, by
  have tk : Tk (cxOf (L2.CX P w) P w K mg base ["script", "d", "needs", "start", "hold", "ways", "told", "made", "rows", "due", "day", "end", "k", "bent", "at", "right", "one", "room", "good", "short", "price"] "law" (defScope (top 25)) f cdv A outer s H E) CG XPF := tkF
  exact (qs_cons (qs_set 2 sc_law.nd (qe_t1 cr_tup T.n_tuple (by decide +kernel) (QM.qe (qm_comp [("k", 12)] rfl sc_law.nd (qi_rng1 T.n_range (qe_bin op_dAdd qe_int (qe_take 1 (df_take (w := w) (base := base) T) (hr.mono (by decide)) tk qe_int))) (blkOk_by (by kernel_rfl)) (by decide) (fun _ _ _ _ _ => (qg_name 12 sc_law.nd)) (fun _ _ _ _ _ => qts_nil) (fun _ _ _ _ _ => (qe_take 1 (df_take (w := w) (base := base) T) (hr.mono (by decide)) (tkF (CG := CG)) qe_int))))))
  (qs_cons (qs_set 3 sc_law.nd (qe_take 1 (df_take (w := w) (base := base) T) (hr.mono (by decide)) tk qe_int))
  (qs_cons (qs_set 4 sc_law.nd (qe_take 1 (df_take (w := w) (base := base) T) (hr.mono (by decide)) tk qe_int))
  (qs_cons (qs_compV 5 [("made", 7)] rfl sc_law.nd (qi_seq (qe_call (df_u_law_ways (w := w) (base := base) T) (hr.mono (by decide)) tk (qa_cons (qe_b1 cr_len T.n_len (by decide +kernel) (qe_var 2)) (qa_cons (qe_b2 (cr_min2 rfl) T.n_min (by decide +kernel) qe_int (qe_b1 (cr_dsum rfl) T.n_sum (by decide +kernel) (qe_var 2))) qa_nil)))) (blkOk_by (by kernel_rfl)) (by decide) (fun _ _ _ _ _ => (qg_name 7 sc_law.nd)) (fun _ _ _ _ _ => qts_nil) (fun _ _ _ _ _ => (qe_tup (qa_cons (qe_var 7) (qa_cons (qe_call (df_u_law_cost (w := w) (base := base) T) (hr.mono (by decide)) (tkF (CG := CG)) (qa_cons (qe_var 2) (qa_cons (qe_var 3) (qa_cons (qe_var 4) (qa_cons (qe_var 7) qa_nil))))) qa_nil)))))
  (qs_cons (qs_asg (qe_call (df_best (w := w) (base := base) T) (hr.mono (by decide)) tk (qa_cons (qe_var 2) (qa_cons (qe_var 3) (qa_cons (qe_var 4) qa_nil)))) (qg_tup 2 rfl (qgs_cons (qg_name 6 sc_law.nd) (qgs_cons (qg_name 7 sc_law.nd) qgs_nil))))
  (qs_cons (qs_if (qt_w (qw_or (qt_cmp (op_dNe (hu64 hr)) (qe_call (df_u_law_cost (w := w) (base := base) T) (hr.mono (by decide)) tk (qa_cons (qe_var 2) (qa_cons (qe_var 3) (qa_cons (qe_var 4) (qa_cons (qe_var 7) qa_nil))))) (qe_var 6) (by with_unfolding_all rfl)) (qw_or (qt_cmp (op_dNe (hu64 hr)) (qe_call (df_cost (w := w) (base := base) T) (hr.mono (by decide)) tk (qa_cons (qe_var 2) (qa_cons (qe_var 3) (qa_cons (qe_var 4) (qa_cons (qe_var 7) qa_nil))))) (qe_var 6) (by with_unfolding_all rfl)) (qw_or1 (qt_cmp (op_dGt (hu64 hr)) (qe_b1 cr_len T.n_len (by decide +kernel) (QM.qe (qm_comp [("one", 16), ("price", 20)] rfl sc_law.nd (qi_seq (qe_var 5)) (blkOk_by (by kernel_rfl)) (by decide) (fun _ _ _ _ _ => (qg_tup 2 rfl (qgs_cons (qg_name 16 sc_law.nd) (qgs_cons (qg_name 20 sc_law.nd) qgs_nil)))) (fun _ _ _ _ _ => (qts_one (qt_w (qw_and (qt_cmp op_dIsNot (qe_var 20) qe_non (by with_unfolding_all rfl)) (qw_and1 (qt_cmp (op_dLt (hu64 hr)) (qe_var 20) (qe_var 6) (by with_unfolding_all rfl))))))) (fun _ _ _ _ _ => (qe_var 20))))) qe_int (by with_unfolding_all rfl)))))) (qs_one (qs_ret qe_bl)) qs_nil)
  (qs_cons (qs_set 8 sc_law.nd (qe_call (df_u_law_floors (w := w) (base := base) T) (hr.mono (by decide)) tk (qa_cons (qe_var 2) (qa_cons (qe_var 3) (qa_cons (qe_var 4) qa_nil)))))
  (qs_cons (qs_if (qt_w (qw_or (qt_cmp (op_dNe (hu64 hr)) (qe_call (df_all_floors (w := w) (base := base) T) (hr.mono (by decide)) tk (qa_cons (qe_var 2) (qa_cons (qe_var 3) (qa_cons (qe_var 4) qa_nil)))) (qe_var 8) (by with_unfolding_all rfl)) (qw_or (qt_cmp (op_dNe (hu64 hr)) (qe_ix (qe_var 8) qe_int) (qe_var 6) (by with_unfolding_all rfl)) (qw_or1 (qt_cmp op_dIsNot (qe_call (df_takes_floors (w := w) (base := base) T) (hr.mono (by decide)) tk (qa_cons (qe_var 2) (qa_cons (qe_var 3) (qa_cons (qe_var 4) (qa_cons (qe_var 8) qa_nil))))) qe_bl (by with_unfolding_all rfl)))))) (qs_one (qs_ret qe_bl)) qs_nil)
  (qs_cons (qs_own 9 sc_law.nd (qm_bin opm_rep (QM.qe (qm_lst (qa_cons qe_int qa_nil))) (qe_b1 cr_len T.n_len (by decide +kernel) (qe_var 2))))
  (qs_cons (qs_set 10 sc_law.nd qe_int)
  (qs_cons (qs_while 200 (passes_of rfl) (qt_cmp (op_dLt (hu64 hr)) (qe_var 10) (qe_b1 cr_len T.n_len (by decide +kernel) (qe_var 2)) (by with_unfolding_all rfl)) (qs_one (qs_if (qt_w (qw_and (qt_cmp (op_dEq (hu64 hr)) (qe_ix (qe_var 2) (qe_var 10)) qe_int (by with_unfolding_all rfl)) (qw_and1 (qt_cmp (op_dEq (hu64 hr)) (qe_ix (qe_var 8) (qe_var 10)) (qe_ix (qe_var 8) (qe_bin op_dAdd (qe_var 10) qe_int)) (by with_unfolding_all rfl))))) (qs_one (qs_set 10 sc_law.nd (qe_bin op_dAdd (qe_var 10) qe_int))) (qs_cons (qs_set 11 sc_law.nd (qe_ix (QM.qe (qm_comp [("end", 11)] rfl sc_law.nd (qi_rng2 T.n_range (qe_bin op_dAdd (qe_var 10) qe_int) (qe_bin op_dAdd (qe_b1 cr_len T.n_len (by decide +kernel) (qe_var 2)) qe_int)) (blkOk_by (by kernel_rfl)) (by decide) (fun _ _ _ _ _ => (qg_name 11 sc_law.nd)) (fun _ _ _ _ _ => (qts_one (qt_cmp (op_dEq (hu64 hr)) (qe_bin op_dAdd (qe_call (df_u_law_run (w := w) (base := base) T) (hr.mono (by decide)) (tkF (CG := CG)) (qa_cons (qe_var 2) (qa_cons (qe_var 3) (qa_cons (qe_var 4) (qa_cons (qe_var 10) (qa_cons (qe_var 11) qa_nil)))))) (qe_ix (qe_var 8) (qe_var 11))) (qe_ix (qe_var 8) (qe_var 10)) (by with_unfolding_all rfl)))) (fun _ _ _ _ _ => (qe_var 11)))) qe_int))
  (qs_cons (qs_putIx 9 (qe_b1 (cr_dsum rfl) T.n_sum (by decide +kernel) (qe_sl (qe_var 2) (qo_some (qe_var 10)) (qo_some (qe_var 11)))) (qe_var 10))
  (qs_one (qs_set 10 sc_law.nd (qe_var 11))))))))
  (qs_cons (qs_if (qt_cmp (op_dNe (hu64 hr)) (qe_var 7) (qe_t1 cr_tup T.n_tuple (by decide +kernel) (qe_var 9)) (by with_unfolding_all rfl)) (qs_one (qs_ret qe_bl)) qs_nil)
  (qs_cons (qs_for (passes_of rfl) rfl (qi_rng1 T.n_range qe_int) (qg_name 12 sc_law.nd) (qs_cons (qs_own 13 sc_law.nd (qm_t1 cm_lst T.n_list (by decide +kernel) (qe_var 8)))
  (qs_cons (qs_set 14 sc_law.nd (qe_take 1 (df_take (w := w) (base := base) T) (hr.mono (by decide)) tk (qe_b1 cr_len T.n_len (by decide +kernel) (qe_var 13))))
  (qs_cons (qs_putIx 13 (qe_bin op_dAdd (qe_ix (qe_var 13) (qe_var 14)) (qe_ix (QM.qe (qm_lst (qa_cons qe_int (qa_cons (qe_un un_dNeg qe_int) qa_nil)))) (qe_take 1 (df_take (w := w) (base := base) T) (hr.mono (by decide)) tk qe_int))) (qe_var 14))
  (qs_cons (qs_set 15 sc_law.nd (qe_call (df_u_law_right (w := w) (base := base) T) (hr.mono (by decide)) tk (qa_cons (qe_var 2) (qa_cons (qe_var 3) (qa_cons (qe_var 4) (qa_cons (qe_var 13) qa_nil))))))
  (qs_cons (qs_if (qt_w (qw_or (qt_cmp (op_dNe (hu64 hr)) (qe_call (df_takes_floors (w := w) (base := base) T) (hr.mono (by decide)) tk (qa_cons (qe_var 2) (qa_cons (qe_var 3) (qa_cons (qe_var 4) (qa_cons (qe_t1 cr_tup T.n_tuple (by decide +kernel) (qe_var 13)) qa_nil))))) (qe_var 15) (by with_unfolding_all rfl)) (qw_or1 (qt_w (qw_and (qt_tru (qe_var 15)) (qw_and1 (qt_cmp (op_dGt (hu64 hr)) (qe_ix (qe_var 13) qe_int) (qe_var 6) (by with_unfolding_all rfl)))))))) (qs_one (qs_ret qe_bl)) qs_nil)
  (qs_cons (qs_set 16 sc_law.nd (qe_ix (qe_var 5) (qe_take 1 (df_take (w := w) (base := base) T) (hr.mono (by decide)) tk (qe_b1 cr_len T.n_len (by decide +kernel) (qe_var 5)))))
  (qs_one (qs_if (qt_cmp (op_dNe (hu64 hr)) (qe_call (df_cost (w := w) (base := base) T) (hr.mono (by decide)) tk (qa_cons (qe_var 2) (qa_cons (qe_var 3) (qa_cons (qe_var 4) (qa_cons (qe_ix (qe_var 16) qe_int) qa_nil))))) (qe_ix (qe_var 16) qe_int) (by with_unfolding_all rfl)) (qs_one (qs_ret qe_bl)) qs_nil)))))))))
  (qs_cons (qs_set 17 sc_law.nd (qe_take 1 (df_take (w := w) (base := base) T) (hr.mono (by decide)) tk qe_int))
  (qs_cons (qs_compV 18 [("one", 16), ("price", 20)] rfl sc_law.nd (qi_seq (qe_var 5)) (blkOk_by (by kernel_rfl)) (by decide) (fun _ _ _ _ _ => (qg_tup 2 rfl (qgs_cons (qg_name 16 sc_law.nd) (qgs_cons (qg_name 20 sc_law.nd) qgs_nil)))) (fun _ _ _ _ _ => (qts_one (qt_w (qw_and (qt_cmp op_dIsNot (qe_var 20) qe_non (by with_unfolding_all rfl)) (qw_and (qt_cmp (op_dLe (hu64 hr)) (qe_b1 (cr_dmax rfl (hu65 hr)) T.n_max (by decide +kernel) (qe_var 16)) (qe_var 17) (by with_unfolding_all rfl)) (qw_and1 (qt_cmp (op_dEq (hu64 hr)) (qe_b1 (cr_dsum rfl) T.n_sum (by decide +kernel) (qe_var 16)) (qe_b1 (cr_dsum rfl) T.n_sum (by decide +kernel) (qe_var 2)) (by with_unfolding_all rfl)))))))) (fun _ _ _ _ _ => (qe_tup (qa_cons (qe_var 20) (qa_cons (qe_var 16) qa_nil)))))
  (qs_cons (qs_if (qt_cmp (op_dNe (hu64 hr)) (qe_call (df_with_room (w := w) (base := base) T) (hr.mono (by decide)) tk (qa_cons (qe_var 2) (qa_cons (qe_var 3) (qa_cons (qe_var 4) (qa_cons (qe_var 17) qa_nil))))) (qe_if (qt_cmp (op_dGt (hu64 hr)) (qe_b1 cr_len T.n_len (by decide +kernel) (qe_var 18)) qe_int (by with_unfolding_all rfl)) (qe_b1 (cr_dmin rfl (hu65 hr)) T.n_min (by decide +kernel) (qe_var 18)) qe_non) (by with_unfolding_all rfl)) (qs_one (qs_ret qe_bl)) qs_nil)
  (qs_cons (qs_compV 19 [("k", 12)] rfl sc_law.nd (qi_rng1 T.n_range (qe_b1 cr_len T.n_len (by decide +kernel) (qe_var 2))) (blkOk_by (by kernel_rfl)) (by decide) (fun _ _ _ _ _ => (qg_name 12 sc_law.nd)) (fun _ _ _ _ _ => (qts_one (qt_cmp (op_dGt (hu64 hr)) (qe_b1 (cr_dsum rfl) T.n_sum (by decide +kernel) (qe_sl (qe_var 2) qo_none (qo_some (qe_bin op_dAdd (qe_var 12) qe_int)))) (qe_bin op_dMul (qe_var 17) (qe_bin op_dAdd (qe_var 12) qe_int)) (by with_unfolding_all rfl)))) (fun _ _ _ _ _ => (qe_tup (qa_cons (qe_var 12) (qa_cons (qe_bin op_dSub (qe_b1 (cr_dsum rfl) T.n_sum (by decide +kernel) (qe_sl (qe_var 2) qo_none (qo_some (qe_bin op_dAdd (qe_var 12) qe_int)))) (qe_bin op_dMul (qe_var 17) (qe_bin op_dAdd (qe_var 12) qe_int))) qa_nil)))))
  (qs_one (qs_ret (qe_and (qe_cmp (op_dEq (hu64 hr)) (qe_call (df_shortage (w := w) (base := base) T) (hr.mono (by decide)) tk (qa_cons (qe_var 2) (qa_cons (qe_var 17) qa_nil))) (qe_if (qt_cmp (op_dGt (hu64 hr)) (qe_b1 cr_len T.n_len (by decide +kernel) (qe_var 19)) qe_int (by with_unfolding_all rfl)) (qe_ix (qe_var 19) qe_int) qe_non) (by with_unfolding_all rfl)) (qe_and (qe_cmp (op_dEq (hu64 hr)) (qe_cmp (op_dGt (hu64 hr)) (qe_b1 cr_len T.n_len (by decide +kernel) (qe_var 19)) qe_int (by with_unfolding_all rfl)) (qe_cmp (op_dEq (hu64 hr)) (qe_b1 cr_len T.n_len (by decide +kernel) (qe_var 18)) qe_int (by with_unfolding_all rfl)) (by with_unfolding_all rfl)) (qe_one (qe_call0 (df_u_law_wrong (w := w) (base := base) T TB) (hr.mono (by decide)))))))))))))))))))))))))⟩) hpure
end
end k57_whole_lots
set_option Elab.async false
set_option linter.all false
set_option maxRecDepth 100000
set_option maxHeartbeats 0
namespace k57_whole_lots
open PySem PySem.Spec PyProof.Rows L2 Ev
theorem all_mk {l : PySem.W.OpenLaw} {w : World} {K : PySem.W.Frag} {h : Heap} {mg : Str → Option Value} {fa C M fI gT cL PL cda cc : Addr} (X : K.In h) (G : h.Ns mainGlobals mg) (hfa : mg "law" = some (.ref fa)) (hT : h.get? PL = some (PySem.W.tabObj #[]))
    {nm q : Str} {N : Addr} {bs : List Value} {sn : List Str} {sub : List Value} {ab : Bool} {col : Option Bool} {dd : Option Addr} {m0 m1 m2 m3 m5 : Option Value} {ocI dcI pmI ctI : Value} {odI anI : Option Addr} {slI : Array (Option Value)}
    {ccl clx : Value} {cdd cdx : Option Addr} {ccs csx : Array (Option Value)} {vsI : Array Value} {file : Str} {tf : Tok} {ocT kVT dcT pmT cdT ctT : Value} {odT anT : Option Addr} {slT : Array (Option Value)}
    {f0 : Addr} {od0 an0 : Option Addr} {sl0 : Array (Option Value)} {oc0 kV0 dc0 pm0 cd0 ct0 : Value}
    {f1 : Addr} {od1 an1 : Option Addr} {sl1 : Array (Option Value)} {oc1 kV1 dc1 pm1 cd1 ct1 : Value}
    {f2 : Addr} {od2 an2 : Option Addr} {sl2 : Array (Option Value)} {oc2 kV2 dc2 pm2 cd2 ct2 : Value}
    {f3 : Addr} {od3 an3 : Option Addr} {sl3 : Array (Option Value)} {oc3 kV3 dc3 pm3 cd3 ct3 : Value}
    {f4 : Addr} {od4 an4 : Option Addr} {sl4 : Array (Option Value)} {oc4 kV4 dc4 pm4 cd4 ct4 : Value}
    {f5 : Addr} {od5 an5 : Option Addr} {sl5 : Array (Option Value)} {oc5 kV5 dc5 pm5 cd5 ct5 : Value}
    {f6 : Addr} {od6 an6 : Option Addr} {sl6 : Array (Option Value)} {oc6 kV6 dc6 pm6 cd6 ct6 : Value}
    {f7 : Addr} {od7 an7 : Option Addr} {sl7 : Array (Option Value)} {oc7 kV7 dc7 pm7 cd7 ct7 : Value}
    {f8 : Addr} {od8 an8 : Option Addr} {sl8 : Array (Option Value)} {oc8 kV8 dc8 pm8 cd8 ct8 : Value}
    {f9 : Addr} {od9 an9 : Option Addr} {sl9 : Array (Option Value)} {oc9 kV9 dc9 pm9 cd9 ct9 : Value}
    {f10 : Addr} {od10 an10 : Option Addr} {sl10 : Array (Option Value)} {oc10 kV10 dc10 pm10 cd10 ct10 : Value}
    {f11 : Addr} {od11 an11 : Option Addr} {sl11 : Array (Option Value)} {oc11 kV11 dc11 pm11 cd11 ct11 : Value}
    {f12 : Addr} {od12 an12 : Option Addr} {sl12 : Array (Option Value)} {oc12 kV12 dc12 pm12 cd12 ct12 : Value}
    {f13 : Addr} {od13 an13 : Option Addr} {sl13 : Array (Option Value)} {oc13 kV13 dc13 pm13 cd13 ct13 : Value}
    {f14 : Addr} {od14 an14 : Option Addr} {sl14 : Array (Option Value)} {oc14 kV14 dc14 pm14 cd14 ct14 : Value}
    {f15 : Addr} {od15 an15 : Option Addr} {sl15 : Array (Option Value)} {oc15 kV15 dc15 pm15 ct15 : Value}
    {f16 : Addr} {od16 an16 : Option Addr} {sl16 : Array (Option Value)} {oc16 kV16 dc16 pm16 cd16 ct16 : Value}
    {f17 : Addr} {od17 an17 : Option Addr} {sl17 : Array (Option Value)} {oc17 kV17 dc17 pm17 cd17 ct17 : Value}
    {f18 : Addr} {od18 an18 : Option Addr} {sl18 : Array (Option Value)} {oc18 kV18 dc18 pm18 cd18 ct18 : Value}
    {tk_MOST_DAYS : Tok}
    (aC : PySem.W.nsIn K mainGlobals "GuildError" = some (some (.ref C)))
    (xC : K.lookup C = some (excClassObj nm q C N bs [.ref M, .type "ValueError", .type "Exception", .type "BaseException", .type "object"] true sn sub ab col dd m0 m1 m2 m3 m5 "ValueError.__new__"))
    (sa : PySem.W.findIn K (.ref C) "__setattr__" = some (some (.builtin "object.__setattr__")))
    (ga : PySem.W.findIn K (.ref C) "__getattribute__" = some (some (.builtin "BaseException.__getattribute__")))
    (gg : PySem.W.findIn K (.ref C) "__getattr__" = some none)
    (nC : PySem.W.findIn K (.ref C) "code" = some none)
    (iC : PySem.W.findIn K (.ref C) "__init__" = some (some (.ref fI)))
    (tI : PySem.W.typeIn K (.ref fI) = some (.type "function"))
    (kC : PySem.W.keepIn K (.ref C) = true)
    (eC : PySem.W.subIn K (.ref C) (.type "BaseException") = some true)
    (tC : PySem.W.typeIn K (.ref C) = some (.type "type"))
    (hC : PySem.W.hasDictIn K C = true)
    (iC2 : PySem.W.isClsIn K C = true)
    (sS : PySem.W.subIn K (.ref C) (.ref C) = some true)
    (su : PySem.W.ks_superIn K C C "__init__" = some (some (.builtin "ValueError.__init__")))
    (sV : PySem.W.subIn K (.ref C) (.type "ValueError") = some true)
    (sC : PySem.W.mroIn K C (.ref C) = some true)
    (zS : PySem.W.nsIn K mainGlobals "super" = some none)
    (th : PySem.W.nsIn K cStatics "thirdparty.any" = some none)
    (lI : K.lookup fI = some ⟨ocI, odI, .func (PySem.W.ksFn "__init__" "GuildError.__init__" (PySem.GuX.iA 4) (PySem.GuX.iB 4) PySem.GuX.iS .none .none dcI pmI anI (.ref cda) ctI cc), slI⟩)
    (cI : PySem.W.codeIn K (.ref cda) "GuildError.__init__" = true)
    (lD : K.lookup cda = some ⟨ccl, cdd, .fields vsI, ccs⟩)
    (vI : vsI[2]? = some (.str file tf))
    (fI2 : ((l.prog.main.file : Str) == file) = true)
    (lX : K.lookup cc = some ⟨clx, cdx, .cell (some (.ref C)), csx⟩)
    (tp : (l.prog.main.scope.names.lookup ("super" : Str)).isSome = false)
    (aT : PySem.W.nsIn K mainGlobals "_law_told" = some (some (.ref gT)))
    (lT : K.lookup gT = some ⟨ocT, odT, .func (PySem.W.fnOf "_law_told" "_law_told" (defArgs (top 18)) (defBody (top 18)) (defScope (top 18)) .none kVT dcT pmT anT cdT ctT), slT⟩)
    (cT : PySem.W.codeIn K cdT "_law_told" = true)
    (kT : PySem.W.keepIn K (.ref gT) = true)
    (tb1 : PySem.W.tabIn K "_law_wrong" = some (cL, PL))
    (tb2 : PySem.W.tabIn K "meeting" = none)
    (tb3 : PySem.W.codeHdIn K cL PL = true)
    (tb4 : K.lookup PL = none)
    (a0 : PySem.W.nsIn K mainGlobals "check_needs" = some (some (.ref f0)))
    (l0 : K.lookup f0 = some ⟨oc0, od0, .func (PySem.W.fnOf "check_needs" "check_needs" (defArgs (top 5)) (defBody (top 5)) (defScope (top 5)) .none kV0 dc0 pm0 an0 cd0 ct0), sl0⟩)
    (c0 : PySem.W.codeIn K cd0 "check_needs" = true)
    (k0 : PySem.W.keepIn K (.ref f0) = true)
    (a1 : PySem.W.nsIn K mainGlobals "cost_in" = some (some (.ref f1)))
    (l1 : K.lookup f1 = some ⟨oc1, od1, .func (PySem.W.fnOf "cost_in" "cost_in" (defArgs (top 6)) (defBody (top 6)) (defScope (top 6)) .none kV1 dc1 pm1 an1 cd1 ct1), sl1⟩)
    (c1 : PySem.W.codeIn K cd1 "cost_in" = true)
    (k1 : PySem.W.keepIn K (.ref f1) = true)
    (a2 : PySem.W.nsIn K mainGlobals "cost" = some (some (.ref f2)))
    (l2 : K.lookup f2 = some ⟨oc2, od2, .func (PySem.W.fnOf "cost" "cost" (defArgs (top 7)) (defBody (top 7)) (defScope (top 7)) .none kV2 dc2 pm2 an2 cd2 ct2), sl2⟩)
    (c2 : PySem.W.codeIn K cd2 "cost" = true)
    (k2 : PySem.W.keepIn K (.ref f2) = true)
    (a3 : PySem.W.nsIn K mainGlobals "run_cost" = some (some (.ref f3)))
    (l3 : K.lookup f3 = some ⟨oc3, od3, .func (PySem.W.fnOf "run_cost" "run_cost" (defArgs (top 9)) (defBody (top 9)) (defScope (top 9)) .none kV3 dc3 pm3 an3 cd3 ct3), sl3⟩)
    (c3 : PySem.W.codeIn K cd3 "run_cost" = true)
    (k3 : PySem.W.keepIn K (.ref f3) = true)
    (a4 : PySem.W.nsIn K mainGlobals "floors" = some (some (.ref f4)))
    (l4 : K.lookup f4 = some ⟨oc4, od4, .func (PySem.W.fnOf "floors" "floors" (defArgs (top 8)) (defBody (top 8)) (defScope (top 8)) .none kV4 dc4 pm4 an4 cd4 ct4), sl4⟩)
    (c4 : PySem.W.codeIn K cd4 "floors" = true)
    (k4 : PySem.W.keepIn K (.ref f4) = true)
    (a5 : PySem.W.nsIn K mainGlobals "best" = some (some (.ref f5)))
    (l5 : K.lookup f5 = some ⟨oc5, od5, .func (PySem.W.fnOf "best" "best" (defArgs (top 10)) (defBody (top 10)) (defScope (top 10)) .none kV5 dc5 pm5 an5 cd5 ct5), sl5⟩)
    (c5 : PySem.W.codeIn K cd5 "best" = true)
    (k5 : PySem.W.keepIn K (.ref f5) = true)
    (a6 : PySem.W.nsIn K mainGlobals "all_floors" = some (some (.ref f6)))
    (l6 : K.lookup f6 = some ⟨oc6, od6, .func (PySem.W.fnOf "all_floors" "all_floors" (defArgs (top 11)) (defBody (top 11)) (defScope (top 11)) .none kV6 dc6 pm6 an6 cd6 ct6), sl6⟩)
    (c6 : PySem.W.codeIn K cd6 "all_floors" = true)
    (k6 : PySem.W.keepIn K (.ref f6) = true)
    (a7 : PySem.W.nsIn K mainGlobals "takes_floors" = some (some (.ref f7)))
    (l7 : K.lookup f7 = some ⟨oc7, od7, .func (PySem.W.fnOf "takes_floors" "takes_floors" (defArgs (top 12)) (defBody (top 12)) (defScope (top 12)) .none kV7 dc7 pm7 an7 cd7 ct7), sl7⟩)
    (c7 : PySem.W.codeIn K cd7 "takes_floors" = true)
    (k7 : PySem.W.keepIn K (.ref f7) = true)
    (a8 : PySem.W.nsIn K mainGlobals "with_room" = some (some (.ref f8)))
    (l8 : K.lookup f8 = some ⟨oc8, od8, .func (PySem.W.fnOf "with_room" "with_room" (defArgs (top 13)) (defBody (top 13)) (defScope (top 13)) .none kV8 dc8 pm8 an8 cd8 ct8), sl8⟩)
    (c8 : PySem.W.codeIn K cd8 "with_room" = true)
    (k8 : PySem.W.keepIn K (.ref f8) = true)
    (a9 : PySem.W.nsIn K mainGlobals "shortage" = some (some (.ref f9)))
    (l9 : K.lookup f9 = some ⟨oc9, od9, .func (PySem.W.fnOf "shortage" "shortage" (defArgs (top 14)) (defBody (top 14)) (defScope (top 14)) .none kV9 dc9 pm9 an9 cd9 ct9), sl9⟩)
    (c9 : PySem.W.codeIn K cd9 "shortage" = true)
    (k9 : PySem.W.keepIn K (.ref f9) = true)
    (a10 : PySem.W.nsIn K mainGlobals "_law_cost" = some (some (.ref f10)))
    (l10 : K.lookup f10 = some ⟨oc10, od10, .func (PySem.W.fnOf "_law_cost" "_law_cost" (defArgs (top 19)) (defBody (top 19)) (defScope (top 19)) .none kV10 dc10 pm10 an10 cd10 ct10), sl10⟩)
    (c10 : PySem.W.codeIn K cd10 "_law_cost" = true)
    (k10 : PySem.W.keepIn K (.ref f10) = true)
    (a11 : PySem.W.nsIn K mainGlobals "_law_ways" = some (some (.ref f11)))
    (l11 : K.lookup f11 = some ⟨oc11, od11, .func (PySem.W.fnOf "_law_ways" "_law_ways" (defArgs (top 20)) (defBody (top 20)) (defScope (top 20)) .none kV11 dc11 pm11 an11 cd11 ct11), sl11⟩)
    (c11 : PySem.W.codeIn K cd11 "_law_ways" = true)
    (k11 : PySem.W.keepIn K (.ref f11) = true)
    (a12 : PySem.W.nsIn K mainGlobals "_law_run" = some (some (.ref f12)))
    (l12 : K.lookup f12 = some ⟨oc12, od12, .func (PySem.W.fnOf "_law_run" "_law_run" (defArgs (top 21)) (defBody (top 21)) (defScope (top 21)) .none kV12 dc12 pm12 an12 cd12 ct12), sl12⟩)
    (c12 : PySem.W.codeIn K cd12 "_law_run" = true)
    (k12 : PySem.W.keepIn K (.ref f12) = true)
    (a13 : PySem.W.nsIn K mainGlobals "_law_floors" = some (some (.ref f13)))
    (l13 : K.lookup f13 = some ⟨oc13, od13, .func (PySem.W.fnOf "_law_floors" "_law_floors" (defArgs (top 22)) (defBody (top 22)) (defScope (top 22)) .none kV13 dc13 pm13 an13 cd13 ct13), sl13⟩)
    (c13 : PySem.W.codeIn K cd13 "_law_floors" = true)
    (k13 : PySem.W.keepIn K (.ref f13) = true)
    (a14 : PySem.W.nsIn K mainGlobals "_law_right" = some (some (.ref f14)))
    (l14 : K.lookup f14 = some ⟨oc14, od14, .func (PySem.W.fnOf "_law_right" "_law_right" (defArgs (top 23)) (defBody (top 23)) (defScope (top 23)) .none kV14 dc14 pm14 an14 cd14 ct14), sl14⟩)
    (c14 : PySem.W.codeIn K cd14 "_law_right" = true)
    (k14 : PySem.W.keepIn K (.ref f14) = true)
    (a15 : PySem.W.nsIn K mainGlobals "_law_wrong" = some (some (.ref f15)))
    (l15 : K.lookup f15 = some ⟨oc15, od15, .func (PySem.W.fnOf "_law_wrong" "_law_wrong" (defArgs (top 24)) (defBody (top 24)) (defScope (top 24)) .none kV15 dc15 pm15 an15 (.ref cL) ct15), sl15⟩)
    (c15 : PySem.W.codeIn K (.ref cL) "_law_wrong" = true)
    (k15 : PySem.W.keepIn K (.ref f15) = true)
    (a16 : PySem.W.nsIn K mainGlobals "_law_take" = some (some (.ref f16)))
    (l16 : K.lookup f16 = some ⟨oc16, od16, .func (PySem.W.fnOf "_law_take" "_law_take" (defArgs (top 17)) (defBody (top 17)) (defScope (top 17)) .none kV16 dc16 pm16 an16 cd16 ct16), sl16⟩)
    (c16 : PySem.W.codeIn K cd16 "_law_take" = true)
    (k16 : PySem.W.keepIn K (.ref f16) = true)
    (a17 : PySem.W.nsIn K mainGlobals "_law_begin" = some (some (.ref f17)))
    (l17 : K.lookup f17 = some ⟨oc17, od17, .func (PySem.W.fnOf "_law_begin" "_law_begin" (defArgs (top 16)) (defBody (top 16)) (defScope (top 16)) .none kV17 dc17 pm17 an17 cd17 ct17), sl17⟩)
    (c17 : PySem.W.codeIn K cd17 "_law_begin" = true)
    (k17 : PySem.W.keepIn K (.ref f17) = true)
    (a18 : PySem.W.nsIn K mainGlobals "law" = some (some (.ref f18)))
    (l18 : K.lookup f18 = some ⟨oc18, od18, .func (PySem.W.fnOf "law" "law" (defArgs (top 25)) (defBody (top 25)) (defScope (top 25)) .none kV18 dc18 pm18 an18 cd18 ct18), sl18⟩)
    (c18 : PySem.W.codeIn K cd18 "law" = true)
    (k18 : PySem.W.keepIn K (.ref f18) = true)
    (z_abs : PySem.W.nsIn K mainGlobals "abs" = some none)
    (z_enumerate : PySem.W.nsIn K mainGlobals "enumerate" = some none)
    (z_int : PySem.W.nsIn K mainGlobals "int" = some none)
    (z_isinstance : PySem.W.nsIn K mainGlobals "isinstance" = some none)
    (z_len : PySem.W.nsIn K mainGlobals "len" = some none)
    (z_list : PySem.W.nsIn K mainGlobals "list" = some none)
    (z_max : PySem.W.nsIn K mainGlobals "max" = some none)
    (z_min : PySem.W.nsIn K mainGlobals "min" = some none)
    (z_range : PySem.W.nsIn K mainGlobals "range" = some none)
    (z_str : PySem.W.nsIn K mainGlobals "str" = some none)
    (z_sum : PySem.W.nsIn K mainGlobals "sum" = some none)
    (z_tuple : PySem.W.nsIn K mainGlobals "tuple" = some none)
    (z_zip : PySem.W.nsIn K mainGlobals "zip" = some none)
    (q_MOST_DAYS : PySem.W.nsIn K mainGlobals "MOST_DAYS" = some (some (.int 10 tk_MOST_DAYS)))
    : LamX.LawAtS l w K (L2.CX l.prog w) 7 63 "script" mg fa h := by
  have e := hfa.symm.trans (PySem.W.mg_of X G a18)
  cases e
  have lt : lamTabs K = [(PL, ("_law_wrong" : Str) ++ ".<locals>." ++ "<lambda>")] := by unfold lamTabs; simp only [List.filterMap_cons, List.filterMap_nil, tb1, tb2, Option.map]
  have gt : PySem.GuX.GTxt l.prog K mg C fI := ⟨PySem.W.mg_of X G aC, ⟨nm, q, N, bs, _, sn, sub, ab, col, dd, m0, m1, m2, m3, m5, xC, by kernel_rfl⟩, sa, ga, gg, nC, iC, tI, kC, eC, tC, hC, exm_self eC iC2 tC sS, su, sV, sC, PySem.W.mg_none_of X G zS, th, tp, ⟨4, ocI, odI, .none, .none, dcI, pmI, anI, ctI, slI, cc, cda, ccl, clx, cdd, cdx, ccs, csx, vsI, file, tf, by decide, lI, cI, lD, vI, fI2, lX⟩⟩
  have FT := fun_mk (st := top 18) lT cT kT
  have td : ToldAt K mg gT := ⟨⟨ocT, odT, _, _, .none, kVT, dcT, pmT, anT, cdT, ctT, slT, _, _, _, _, _, _, _, _, _, lT, cT, FT.binds (ps := ["call"]) (fun _ _ _ _ _ _ us hl => match us, hl with | [_], _ => rfl), ⟨rfl, rfl, rfl, by decide +kernel, rfl, by decide +kernel, by decide +kernel⟩, rfl, rfl, .inl rfl⟩, PySem.W.mg_of X G aT, kT⟩
  have S0 : Stand K mg "check_needs" (top 5) ["needs", "start", "hold", "room"] := Stand.mk' (PySem.W.mg_of X G a0) l0 c0 k0 (fun _ _ _ _ _ _ us hl => match us, hl with | [_, _, _, _], _ => rfl)
  have S1 : Stand K mg "cost_in" (top 6) ["needs", "start", "hold", "made"] := Stand.mk' (PySem.W.mg_of X G a1) l1 c1 k1 (fun _ _ _ _ _ _ us hl => match us, hl with | [_, _, _, _], _ => rfl)
  have S2 : Stand K mg "cost" (top 7) ["needs", "start", "hold", "made"] := Stand.mk' (PySem.W.mg_of X G a2) l2 c2 k2 (fun _ _ _ _ _ _ us hl => match us, hl with | [_, _, _, _], _ => rfl)
  have S3 : Stand K mg "run_cost" (top 9) ["needs", "start", "hold", "day", "end"] := Stand.mk' (PySem.W.mg_of X G a3) l3 c3 k3 (fun _ _ _ _ _ _ us hl => match us, hl with | [_, _, _, _, _], _ => rfl)
  have S4 : Stand K mg "floors" (top 8) ["needs", "start", "hold"] := Stand.mk' (PySem.W.mg_of X G a4) l4 c4 k4 (fun _ _ _ _ _ _ us hl => match us, hl with | [_, _, _], _ => rfl)
  have S5 : Stand K mg "best" (top 10) ["needs", "start", "hold"] := Stand.mk' (PySem.W.mg_of X G a5) l5 c5 k5 (fun _ _ _ _ _ _ us hl => match us, hl with | [_, _, _], _ => rfl)
  have S6 : Stand K mg "all_floors" (top 11) ["needs", "start", "hold"] := Stand.mk' (PySem.W.mg_of X G a6) l6 c6 k6 (fun _ _ _ _ _ _ us hl => match us, hl with | [_, _, _], _ => rfl)
  have S7 : Stand K mg "takes_floors" (top 12) ["needs", "start", "hold", "rows"] := Stand.mk' (PySem.W.mg_of X G a7) l7 c7 k7 (fun _ _ _ _ _ _ us hl => match us, hl with | [_, _, _, _], _ => rfl)
  have S8 : Stand K mg "with_room" (top 13) ["needs", "start", "hold", "room"] := Stand.mk' (PySem.W.mg_of X G a8) l8 c8 k8 (fun _ _ _ _ _ _ us hl => match us, hl with | [_, _, _, _], _ => rfl)
  have S9 : Stand K mg "shortage" (top 14) ["needs", "room"] := Stand.mk' (PySem.W.mg_of X G a9) l9 c9 k9 (fun _ _ _ _ _ _ us hl => match us, hl with | [_, _], _ => rfl)
  have S10 : Stand K mg "_law_cost" (top 19) ["needs", "start", "hold", "made"] := Stand.mk' (PySem.W.mg_of X G a10) l10 c10 k10 (fun _ _ _ _ _ _ us hl => match us, hl with | [_, _, _, _], _ => rfl)
  have S11 : Stand K mg "_law_ways" (top 20) ["days", "most"] := Stand.mk' (PySem.W.mg_of X G a11) l11 c11 k11 (fun _ _ _ _ _ _ us hl => match us, hl with | [_, _], _ => rfl)
  have S12 : Stand K mg "_law_run" (top 21) ["needs", "start", "hold", "day", "end"] := Stand.mk' (PySem.W.mg_of X G a12) l12 c12 k12 (fun _ _ _ _ _ _ us hl => match us, hl with | [_, _, _, _, _], _ => rfl)
  have S13 : Stand K mg "_law_floors" (top 22) ["needs", "start", "hold"] := Stand.mk' (PySem.W.mg_of X G a13) l13 c13 k13 (fun _ _ _ _ _ _ us hl => match us, hl with | [_, _, _], _ => rfl)
  have S14 : Stand K mg "_law_right" (top 23) ["needs", "start", "hold", "rows"] := Stand.mk' (PySem.W.mg_of X G a14) l14 c14 k14 (fun _ _ _ _ _ _ us hl => match us, hl with | [_, _, _, _], _ => rfl)
  have S15 : StandL K mg "_law_wrong" (top 24) [] cL PL := ⟨⟨f15, _, fun_mk l15 c15 k15, PySem.W.mg_of X G a15, k15, (fun_mk (st := top 24) l15 c15 k15).binds (ps := []) (fun _ _ _ _ _ _ us hl => match us, hl with | [], _ => rfl), rfl⟩, by rw [lt]; exact List.mem_singleton.mpr rfl, fun p hp _ => by rw [lt] at hp; rw [List.mem_singleton.mp hp]⟩
  have S16 : Stand K mg "_law_take" (top 17) ["d", "many"] := Stand.mk' (PySem.W.mg_of X G a16) l16 c16 k16 (fun _ _ _ _ _ _ us hl => match us, hl with | [_, _], _ => rfl)
  have S17 : Stand K mg "_law_begin" (top 16) ["script"] := Stand.mk' (PySem.W.mg_of X G a17) l17 c17 k17 (fun _ _ _ _ _ _ us hl => match us, hl with | [_], _ => rfl)
  have T : Tx l.prog K mg C fI gT cL PL := { gt := gt, td := td, d_check_needs := S0, d_cost_in := S1, d_cost := S2, d_run_cost := S3, d_floors := S4, d_best := S5, d_all_floors := S6, d_takes_floors := S7, d_with_room := S8, d_shortage := S9, d_u_law_cost := S10, d_u_law_ways := S11, d_u_law_run := S12, d_u_law_floors := S13, d_u_law_right := S14, d_u_law_wrong := S15, d_u_law_take := S16, d_u_law_begin := S17, n_abs := PySem.W.mg_none_of X G z_abs, n_enumerate := PySem.W.mg_none_of X G z_enumerate, n_int := PySem.W.mg_none_of X G z_int, n_isinstance := PySem.W.mg_none_of X G z_isinstance, n_len := PySem.W.mg_none_of X G z_len, n_list := PySem.W.mg_none_of X G z_list, n_max := PySem.W.mg_none_of X G z_max, n_min := PySem.W.mg_none_of X G z_min, n_range := PySem.W.mg_none_of X G z_range, n_str := PySem.W.mg_none_of X G z_str, n_sum := PySem.W.mg_none_of X G z_sum, n_tuple := PySem.W.mg_none_of X G z_tuple, n_zip := PySem.W.mg_none_of X G z_zip, c_MOST_DAYS := ⟨.int 10, _, PySem.W.mg_of X G q_MOST_DAYS, ⟨_, rfl⟩, fun _ _ => .int _⟩ }
  have FL := fun_mk (st := top 25) l18 c18 k18
  refine ⟨_, [(cL, PL)], spLaw K, fun p hp => by rw [List.mem_singleton.mp hp]; exact hT, fun p hp => by rw [List.mem_singleton.mp hp]; exact tb4, fun p hp => by rw [List.mem_singleton.mp hp]; exact PySem.W.codeHd_of_K X tb3, fun s v => .of_eq rfl, fun H a ns _ _ hH hS => ⟨a, ns, rfl, hS, fun p hp => ?_, fun _ => rfl⟩, fun base _ _ TB => ok_thelaw T (TB (cL, PL) (List.mem_singleton.mpr rfl)) FL pure_law⟩
  rw [lt] at hp; rw [List.mem_singleton.mp hp]; exact LamX.TabS.nil (hH (cL, PL) (List.mem_singleton.mpr rfl))
end k57_whole_lots
open PySem PySem.W PyProof.Rows
set_option maxRecDepth 100000 in
set_option maxHeartbeats 0 in
theorem PySem.Challenge.cw_marketguild_k57_whole_lots_holds : PySem.Challenge.rw_marketguild_k57_whole_lots.Holds := by
  w_on; o_law; k_head; (case hw => w_witness2)
  k_fill
  refine LamX.walk_ofTs (l := PySem.Challenge.rw_marketguild_k57_whole_lots) (n := 63) (k := 7) (x := "script") (CX := fun w => L2.CX (PySem.Challenge.rw_marketguild_k57_whole_lots : PySem.W.OpenLaw).prog w) rfl (by decide) rfl ⟨rfl, by decide, by decide⟩ (fun w h Y => PySem.W.km_in_of Y) ?F (fun _ _ _ _ _ h => Ev.cx_false h)
  case F =>
    intro w mg fa h Y KX G hmg
    refine' k57_whole_lots.all_mk (PL := _) KX G hmg ?hT ?aC ?xC ?sa ?ga ?gg ?nC ?iC ?tI ?kC ?eC ?tC ?hC ?iC2 ?sS ?su ?sV ?sC ?zS ?th ?lI ?cI ?lD ?vI ?fI2 ?lX ?tp ?aT ?lT ?cT ?kT ?tb1 ?tb2 ?tb3 ?tb4 ?a0 ?l0 ?c0 ?k0 ?a1 ?l1 ?c1 ?k1 ?a2 ?l2 ?c2 ?k2 ?a3 ?l3 ?c3 ?k3 ?a4 ?l4 ?c4 ?k4 ?a5 ?l5 ?c5 ?k5 ?a6 ?l6 ?c6 ?k6 ?a7 ?l7 ?c7 ?k7 ?a8 ?l8 ?c8 ?k8 ?a9 ?l9 ?c9 ?k9 ?a10 ?l10 ?c10 ?k10 ?a11 ?l11 ?c11 ?k11 ?a12 ?l12 ?c12 ?k12 ?a13 ?l13 ?c13 ?k13 ?a14 ?l14 ?c14 ?k14 ?a15 ?l15 ?c15 ?k15 ?a16 ?l16 ?c16 ?k16 ?a17 ?l17 ?c17 ?k17 ?a18 ?l18 ?c18 ?k18 ?z_abs ?z_enumerate ?z_int ?z_isinstance ?z_len ?z_list ?z_max ?z_min ?z_range ?z_str ?z_sum ?z_tuple ?z_zip ?q_MOST_DAYS
    (case aC => k_is)
    (case xC => k_is)
    (case sa => k_is)
    (case ga => k_is)
    (case gg => k_is)
    (case nC => k_is)
    (case iC => k_is)
    (case tI => k_is)
    (case kC => k_is)
    (case eC => k_is)
    (case tC => k_is)
    (case hC => k_is)
    (case iC2 => k_is)
    (case sS => first | rfl | k_is)
    (case sV => k_is)
    (case sC => k_is)
    (case zS => k_is)
    (case th => k_is)
    (case lI => k_is)
    (case cI => k_is)
    (case lD => k_is)
    (case vI => exact rfl)
    (case lX => k_is)
    (case aT => k_is)
    (case lT => k_is)
    (case cT => k_is)
    (case kT => k_is)
    (case a0 => k_is)
    (case l0 => k_is)
    (case c0 => k_is)
    (case k0 => k_is)
    (case a1 => k_is)
    (case l1 => k_is)
    (case c1 => k_is)
    (case k1 => k_is)
    (case a2 => k_is)
    (case l2 => k_is)
    (case c2 => k_is)
    (case k2 => k_is)
    (case a3 => k_is)
    (case l3 => k_is)
    (case c3 => k_is)
    (case k3 => k_is)
    (case a4 => k_is)
    (case l4 => k_is)
    (case c4 => k_is)
    (case k4 => k_is)
    (case a5 => k_is)
    (case l5 => k_is)
    (case c5 => k_is)
    (case k5 => k_is)
    (case a6 => k_is)
    (case l6 => k_is)
    (case c6 => k_is)
    (case k6 => k_is)
    (case a7 => k_is)
    (case l7 => k_is)
    (case c7 => k_is)
    (case k7 => k_is)
    (case a8 => k_is)
    (case l8 => k_is)
    (case c8 => k_is)
    (case k8 => k_is)
    (case a9 => k_is)
    (case l9 => k_is)
    (case c9 => k_is)
    (case k9 => k_is)
    (case a10 => k_is)
    (case l10 => k_is)
    (case c10 => k_is)
    (case k10 => k_is)
    (case a11 => k_is)
    (case l11 => k_is)
    (case c11 => k_is)
    (case k11 => k_is)
    (case a12 => k_is)
    (case l12 => k_is)
    (case c12 => k_is)
    (case k12 => k_is)
    (case a13 => k_is)
    (case l13 => k_is)
    (case c13 => k_is)
    (case k13 => k_is)
    (case a14 => k_is)
    (case l14 => k_is)
    (case c14 => k_is)
    (case k14 => k_is)
    (case a15 => k_is)
    (case l15 => k_is)
    (case c15 => k_is)
    (case k15 => k_is)
    (case a16 => k_is)
    (case l16 => k_is)
    (case c16 => k_is)
    (case k16 => k_is)
    (case a17 => k_is)
    (case l17 => k_is)
    (case c17 => k_is)
    (case k17 => k_is)
    (case a18 => k_is)
    (case l18 => k_is)
    (case c18 => k_is)
    (case k18 => k_is)
    (case z_abs => k_is)
    (case z_enumerate => k_is)
    (case z_int => k_is)
    (case z_isinstance => k_is)
    (case z_len => k_is)
    (case z_list => k_is)
    (case z_max => k_is)
    (case z_min => k_is)
    (case z_range => k_is)
    (case z_str => k_is)
    (case z_sum => k_is)
    (case z_tuple => k_is)
    (case z_zip => k_is)
    (case q_MOST_DAYS => k_is)
    (case su => kernel_rfl)
    (case fI2 => kernel_rfl)
    (case tp => kernel_rfl)
    (case tb1 => kernel_rfl)
    (case tb2 => kernel_rfl)
    (case tb3 => kernel_rfl)
    (case tb4 => kernel_rfl)
    (case hT => exact PySem.W.km_tabs_of Y _ (by k_mem))
