import PyProof.Rows.All
import Wide.All
import OpenK.AllK
import Wide.FinOn
import HandS.TupMul
import HandS.ForMost
import HandS.TupAny
import HandS.Deep
import HandS.IsInst
import HandS.Lambda
import HandS.Zip
import HandS.Flow
import HandS.Style
import HandS.Defaults
import KE.GoesMore
import KE.GoesEnum
import HandS.Iter
import HandS.Sort
import KE.KStateDown
import HandS.More
import HandS.Head0
import HandS.Head1
import HandS.Head2
import HandS.HeadEnd
import HandS.HeadHook1
import HandS.HeadHook2
import HandS.HeadHook3
import HandS.HeadHook4
import KE.KIndexOf
import KE.DataFind
import KE.SortUse
import KE.BitLaws
import HandS.Base
import KE.SortKeyHeap
import HandS.FromBytesMap
import KE.KDictKeyed
import KE.KeyNested
import HandS.Conv
import HandS.DictTup
import KE.SortData
import HandS.EndTab
import HandS.HeadWalk
import PySem.Challenge.RW_bothwire_k95_whole_errors_mended
set_option Elab.async false
set_option linter.all false
set_option maxRecDepth 100000
set_option maxHeartbeats 4000000
/-! TupOne: a tuple times one is the tuple itself. -/
namespace Bw
open PySem PySem.Spec PyProof.Rows L2
theorem tuple_mul1 (l : Addr) (items : Array Value) (n : Nat) (dd : Option Addr) (sl : Array (Option Value)) (u : Tok) :
    Meets (Builtin.«tuple.__mul__» ⟨[.ref l, .int 1 u], []⟩) (fun _ R s => s.heap.get? l = some { cls := .type "tuple", dict := dd, data := .seq items n, slots := sl } ∧ R (.ok (.ret (Value.ref l))) s) :=
  .of_wp fun prog w A R s h => by
    obtain ⟨hp, g, d, tk, os⟩ := s
    obtain ⟨hl, h⟩ := h
    have f1 := AutoSeq1.idx_int
    have c0 : (decide ((1 : Int) < -(2 ^ 63)) || decide ((1 : Int) ≥ 2 ^ 63)) = false := by decide
    have c1 : (items.isEmpty || (1 : Int) == 1) = true := by simp
    wp_walk using wpAny_loadPart' hl
    exact ⟨_, rfl, h⟩
def rRep1 (K : PySem.W.Frag) : R2 := fun x y H Q => ∃ l xs, x = .ref l ∧ y = .int 1 ∧ SqT K H l xs ∧ Q (.ref l) H
theorem op_rep1 {X : Cx} : OpR X (binaryOp .Mult) (rRep1 X.K) := by
  intro pins s σ H x y v u Q I rx ry h
  obtain ⟨l, xs, rfl, rfl, hT, q⟩ := h
  cases rx
  obtain ⟨t, rfl⟩ := ry
  obtain ⟨its, r, ⟨⟨cls, dd, data, sl⟩, ho, hc, n, hd⟩, hs⟩ := I.tuple hT
  simp only at hc hd
  subst hc hd
  refine wpAny_binaryOp_repeat_ref (T := "tuple") (U := "int") (by decide) ⟨_, ho, rfl⟩ (fun s' => typeIs_int s' 1 t) noFill_tuple_mul F.fills_int_mul F.slot_int_rmul repeat_tuple F.slot_int_index.lookup
    (call_meets F.slot_int_rmul (typeIs_int s 1 t) F.entry_int_rmul (F.args_int_rmul_2 _ _) (int_rmul_tuple 1 t l its.toArray n dd sl)
      ⟨ho, rfl, ⟨_, ho, rfl⟩, call_meets F.slot_tuple_mul ⟨_, ho, rfl⟩ F.entry_tuple_mul (F.args_tuple_mul_2 _ _) (tuple_mul1 l its.toArray n dd sl t) ⟨ho, ?_⟩⟩)
  exact ⟨.ref l, H, I, rfl, q⟩
/-- t * k, k from 1 on -/
theorem op_repA {X : Cx} : OpR X (binaryOp .Mult) (fun x y H Q => rRep1 X.K x y H Q ∨ rRepT X.K x y H Q) := op_rep1.or op_repT
end Bw
/-! Lay1: data as it stands in the abstract heap; environments of data; what an expression, a test, an argument list comes to. -/
namespace Bw
open PySem PySem.Spec PyProof.Rows L2

/-- a tuple, new or of the written part -/
def Tp (K : PySem.W.Frag) (H : Hp) (a : Addr) (xs : List V) : Prop :=
  H a = some (.tup xs) ∨ ∃ (o : Obj) (its : Array Value) (n : Nat), K.lookup a = some o ∧ o.cls = .type "tuple" ∧ o.data = .seq its n ∧ its.size ≤ sizeLine ∧ Vals xs its.toList
theorem Tp.sq {K : PySem.W.Frag} {H : Hp} {a : Addr} {xs : List V} (h : Tp K H a xs) : SqT K H a xs := by
  rcases h with h | h
  · exact .inl (.inl h)
  · exact .inr h

mutual
inductive Rp (K : PySem.W.Frag) (F : Addr → Prop) (H : Hp) : V → PyData → Prop
  | non : Rp K F H .non .none
  | bl (b : Bool) : Rp K F H (.bl b) (.bool b)
  | int (i : Int) : Rp K F H (.int i) (.int i)
  | str (x : Str) : Rp K F H (.str x) (.str x)
  | lst {a : Addr} {xs : List V} {ds : List PyData} : H a = some (.lst xs) → ¬ F a → RpAll K F H xs ds → Rp K F H (.ref a) (.list ds)
  | tup {a : Addr} {xs : List V} {ds : List PyData} : Tp K H a xs → RpAll K F H xs ds → Rp K F H (.ref a) (.tuple ds)
inductive RpAll (K : PySem.W.Frag) (F : Addr → Prop) (H : Hp) : List V → List PyData → Prop
  | nil : RpAll K F H [] []
  | cons {v : V} {vs : List V} {d : PyData} {ds : List PyData} : Rp K F H v d → RpAll K F H vs ds → RpAll K F H (v :: vs) (d :: ds)
end

/-- the kinds of objects that nothing of ours changes -/
def Kp : HO → Bool
  | .tup _ => true
  | .ins _ _ _ => true
  | .own _ => true
  | .ext _ => true
  | .frz _ _ => true
  | _ => false
/-- from (F, H) to (F', H') all data that keep off F stand -/
structure Ker (F : Addr → Prop) (H : Hp) (F' : Addr → Prop) (H' : Hp) : Prop where
  k : ∀ b o, H b = some o → Kp o = true → H' b = some o
  l : ∀ a xs, ¬ F a → H a = some (.lst xs) → H' a = some (.lst xs) ∧ ¬ F' a
theorem Ker.refl (F : Addr → Prop) (H : Hp) : Ker F H F H := ⟨fun _ _ h _ => h, fun _ _ n h => ⟨h, n⟩⟩
theorem Ker.trans {F F1 F2 : Addr → Prop} {H H1 H2 : Hp} (a : Ker F H F1 H1) (b : Ker F1 H1 F2 H2) : Ker F H F2 H2 :=
  ⟨fun c o h q => b.k c o (a.k c o h q) q, fun c xs n h => b.l c xs (a.l c xs n h).2 (a.l c xs n h).1⟩
theorem Ker.same {F : Addr → Prop} {H H' : Hp} (s : Same H H') : Ker F H F H' := ⟨fun b o h _ => s b o h, fun a xs n h => ⟨s a _ h, n⟩⟩
/-- a told thing stands, a code object's table may have grown -/
def HoLe : HO → Option HO → Prop
  | .tbl ps, x => ∃ more, x = some (.tbl (ps ++ more))
  | o, x => x = some o
theorem HoLe.of {o : HO} {x : Option HO} (e : x = some o) : HoLe o x := by
  subst e
  cases o <;> first | rfl | exact ⟨#[], by simp⟩
theorem HoLe.kp {o : HO} {x : Option HO} (h : HoLe o x) (k : Kp o = true) : x = some o := by
  cases o <;> first | exact h | cases k
theorem HoLe.ex {o : HO} {x : Option HO} (h : HoLe o x) : ∃ u, x = some u := by
  cases o <;> first | exact ⟨_, h⟩ | (obtain ⟨m, e⟩ := h; exact ⟨_, e⟩)
theorem HoLe.trans {o : HO} {x y : Option HO} (h : HoLe o x) (k : ∀ u, x = some u → HoLe u y) : HoLe o y := by
  cases o <;> first | exact k _ h | (obtain ⟨m, e⟩ := h; obtain ⟨m2, e2⟩ := k _ e; exact ⟨m ++ m2, by rw [e2, Array.append_assoc]⟩)
/-- all stands but for tables -/
def Sm (H H' : Hp) : Prop := ∀ b o, H b = some o → HoLe o (H' b)
theorem Sm.of {H H' : Hp} (s : Same H H') : Sm H H' := fun b o e => .of (s b o e)
theorem Sm.trans {H H1 H2 : Hp} (a : Sm H H1) (b : Sm H1 H2) : Sm H H2 := fun c o e => (a c o e).trans fun u e2 => b c u e2
theorem Ker.sm {F : Addr → Prop} {H H' : Hp} (s : Sm H H') : Ker F H F H' := ⟨fun b o h q => (s b o h).kp q, fun a xs n h => ⟨s a _ h, n⟩⟩
/-- the table of all_errors' code -/
def IsTb (K : PySem.W.Frag) (P : Addr) (q : Str) : Prop := ∃ (c : Addr) (o : Obj) (vs : Array Value) (t : Tok), K.lookup c = some o ∧ o.data = .fields vs ∧ vs[1]? = some (.str "all_errors" t) ∧ vs[11]? = some (.ref P) ∧ q = "all_errors.<locals>.<lambda>"
def TbI (K : PySem.W.Frag) (H : Hp) : Prop := ∀ P q, IsTb K P q → LamX.TabS H P q
def Tx : HO → Bool
  | .tbl _ => true
  | .ext _ => true
  | _ => false
theorem TbI.keep {K : PySem.W.Frag} {H H' : Hp} (t : TbI K H) (h : ∀ b o, H b = some o → Tx o = true → H' b = some o) : TbI K H' := fun P q hq => by
  obtain ⟨ps, h1, h2, h3⟩ := t P q hq
  refine ⟨ps, h _ _ h1 rfl, h2, fun pos cv hc => ?_⟩
  obtain ⟨c, e1, e2⟩ := h3 pos cv hc
  exact ⟨c, e1, h _ _ e2 rfl⟩
theorem TbI.same {K : PySem.W.Frag} {H H' : Hp} (t : TbI K H) (s : Same H H') : TbI K H' := t.keep fun b o e _ => s b o e
/-- all but what is within F stands -/
def Off (F : Addr → Prop) (H H' : Hp) : Prop := ∀ b o, H b = some o → ¬ F b → HoLe o (H' b)
theorem Tp.ker {K : PySem.W.Frag} {F F' : Addr → Prop} {H H' : Hp} {a : Addr} {xs : List V} (k : Ker F H F' H') (h : Tp K H a xs) : Tp K H' a xs := by
  rcases h with h | h
  · exact .inl (k.k a _ h rfl)
  · exact .inr h
mutual
theorem Rp.ker {K : PySem.W.Frag} {F F' : Addr → Prop} {H H' : Hp} (k : Ker F H F' H') : ∀ {v : V} {d : PyData}, Rp K F H v d → Rp K F' H' v d
  | _, _, .non => .non
  | _, _, .bl b => .bl b
  | _, _, .int i => .int i
  | _, _, .str x => .str x
  | _, _, .lst h n r => .lst (k.l _ _ n h).1 (k.l _ _ n h).2 (RpAll.ker k r)
  | _, _, .tup h r => .tup (h.ker k) (RpAll.ker k r)
theorem RpAll.ker {K : PySem.W.Frag} {F F' : Addr → Prop} {H H' : Hp} (k : Ker F H F' H') : ∀ {vs : List V} {ds : List PyData}, RpAll K F H vs ds → RpAll K F' H' vs ds
  | _, _, .nil => .nil
  | _, _, .cons a r => .cons (Rp.ker k a) (RpAll.ker k r)
end
mutual
theorem Rp.dp {K : PySem.W.Frag} {F : Addr → Prop} {H : Hp} : ∀ {v : V} {d : PyData}, Rp K F H v d → Dp K H v d
  | _, _, .non => .non
  | _, _, .bl b => .bl b
  | _, _, .int i => .int i
  | _, _, .str x => .str x
  | _, _, .lst h n r => .lst (.inl (.inl h)) (RpAll.dp r)
  | _, _, .tup h r => .tup h.sq (RpAll.dp r)
theorem RpAll.dp {K : PySem.W.Frag} {F : Addr → Prop} {H : Hp} : ∀ {vs : List V} {ds : List PyData}, RpAll K F H vs ds → DpAll K H vs ds
  | _, _, .nil => .nil
  | _, _, .cons a r => .cons (Rp.dp a) (RpAll.dp r)
end
theorem RpAll.length {K : PySem.W.Frag} {F : Addr → Prop} {H : Hp} : ∀ {vs : List V} {ds : List PyData}, RpAll K F H vs ds → vs.length = ds.length
  | _, _, .nil => rfl
  | _, _, .cons _ r => by rw [List.length_cons, List.length_cons, RpAll.length r]
theorem RpAll.get {K : PySem.W.Frag} {F : Addr → Prop} {H : Hp} : ∀ {vs : List V} {ds : List PyData} {i : Nat} {v : V}, RpAll K F H vs ds → vs[i]? = some v → ∃ d, ds[i]? = some d ∧ Rp K F H v d
  | _, _, _, _, .nil, e => by simp at e
  | _, _, 0, v, .cons a r, e => by simp at e; subst e; exact ⟨_, rfl, a⟩
  | _, _, i + 1, v, .cons a r, e => by
    obtain ⟨d, h1, h2⟩ := RpAll.get (i := i) (v := v) r (by simpa using e)
    exact ⟨d, by simpa using h1, h2⟩
theorem RpAll.get' {K : PySem.W.Frag} {F : Addr → Prop} {H : Hp} : ∀ {vs : List V} {ds : List PyData} {i : Nat} {d : PyData}, RpAll K F H vs ds → ds[i]? = some d → ∃ v, vs[i]? = some v ∧ Rp K F H v d
  | _, _, _, _, .nil, e => by simp at e
  | _, _, 0, d, .cons a r, e => by simp at e; subst e; exact ⟨_, rfl, a⟩
  | _, _, i + 1, d, .cons a r, e => by
    obtain ⟨v, h1, h2⟩ := RpAll.get' (i := i) (d := d) r (by simpa using e)
    exact ⟨v, by simpa using h1, h2⟩
theorem RpAll.append {K : PySem.W.Frag} {F : Addr → Prop} {H : Hp} : ∀ {vs ws : List V} {ds es : List PyData}, RpAll K F H vs ds → RpAll K F H ws es → RpAll K F H (vs ++ ws) (ds ++ es)
  | _, _, _, _, .nil, s => s
  | _, _, _, _, .cons a r, s => .cons a (RpAll.append r s)
theorem RpAll.take {K : PySem.W.Frag} {F : Addr → Prop} {H : Hp} : ∀ {vs : List V} {ds : List PyData} (n : Nat), RpAll K F H vs ds → RpAll K F H (vs.take n) (ds.take n)
  | _, _, 0, _ => .nil
  | _, _, _ + 1, .nil => .nil
  | _, _, n + 1, .cons a r => .cons a (RpAll.take n r)
theorem RpAll.drop {K : PySem.W.Frag} {F : Addr → Prop} {H : Hp} : ∀ {vs : List V} {ds : List PyData} (n : Nat), RpAll K F H vs ds → RpAll K F H (vs.drop n) (ds.drop n)
  | _, _, 0, r => r
  | _, _, _ + 1, .nil => .nil
  | _, _, n + 1, .cons _ r => RpAll.drop n r
theorem RpAll.set {K : PySem.W.Frag} {F : Addr → Prop} {H : Hp} {v : V} {d : PyData} (h : Rp K F H v d) : ∀ {vs : List V} {ds : List PyData} (i : Nat), RpAll K F H vs ds → RpAll K F H (vs.set i v) (ds.set i d)
  | _, _, _, .nil => .nil
  | _, _, 0, .cons _ r => .cons h r
  | _, _, i + 1, .cons a r => .cons a (RpAll.set h i r)
theorem RpAll.rep {K : PySem.W.Frag} {F : Addr → Prop} {H : Hp} {vs : List V} {ds : List PyData} (h : RpAll K F H vs ds) : ∀ n : Nat, RpAll K F H (List.replicate n vs).flatten (List.replicate n ds).flatten
  | 0 => .nil
  | n + 1 => by
    rw [List.replicate_succ, List.replicate_succ, List.flatten_cons, List.flatten_cons]
    exact h.append (RpAll.rep h n)
theorem RpAll.cut {K : PySem.W.Frag} {F : Addr → Prop} {H : Hp} {vs : List V} {ds : List PyData} (lo hi : Option Int) (h : RpAll K F H vs ds) :
    RpAll K F H (cutV vs lo hi) ((ds.drop (HT.sIx ds.length 0 lo)).take (HT.sIx ds.length ds.length hi - HT.sIx ds.length 0 lo)) := by
  unfold cutV
  rw [h.length]
  exact (h.drop _).take _
theorem RpAll.one {K : PySem.W.Frag} {F : Addr → Prop} {H : Hp} {v : V} {ds : List PyData} (h : RpAll K F H [v] ds) : ∃ d, ds = [d] ∧ Rp K F H v d := by
  cases h with
  | cons a r => cases r; exact ⟨_, rfl, a⟩

/-- what a slot holds, or an expression gives: data, or a thing told by what is true of it -/
inductive D where
  | py (d : PyData)
  | ob (P : (Addr → Prop) → Hp → V → Prop)
def RD (K : PySem.W.Frag) (F : Addr → Prop) (H : Hp) (v : V) : D → Prop
  | .py d => Rp K F H v d
  | .ob P => P F H v ∧ ∀ F' H', Ker F H F' H' → P F' H' v
theorem RD.ker {K : PySem.W.Frag} {F F' : Addr → Prop} {H H' : Hp} (k : Ker F H F' H') {v : V} {d : D} (h : RD K F H v d) : RD K F' H' v d := by
  cases d with
  | py d => exact Rp.ker k h
  | ob P => exact ⟨h.2 _ _ k, fun F2 H2 k2 => h.2 _ _ (k.trans k2)⟩
inductive RDs (K : PySem.W.Frag) (F : Addr → Prop) (H : Hp) : List V → List D → Prop
  | nil : RDs K F H [] []
  | cons {v : V} {vs : List V} {d : D} {ds : List D} : RD K F H v d → RDs K F H vs ds → RDs K F H (v :: vs) (d :: ds)
theorem RDs.ker {K : PySem.W.Frag} {F F' : Addr → Prop} {H H' : Hp} (k : Ker F H F' H') : ∀ {vs : List V} {ds : List D}, RDs K F H vs ds → RDs K F' H' vs ds
  | _, _, .nil => .nil
  | _, _, .cons a r => .cons (a.ker k) (RDs.ker k r)
theorem RDs.length {K : PySem.W.Frag} {F : Addr → Prop} {H : Hp} : ∀ {vs : List V} {ds : List D}, RDs K F H vs ds → vs.length = ds.length
  | _, _, .nil => rfl
  | _, _, .cons _ r => by rw [List.length_cons, List.length_cons, RDs.length r]
theorem RDs.get' {K : PySem.W.Frag} {F : Addr → Prop} {H : Hp} : ∀ {vs : List V} {ds : List D} {i : Nat} {d : D}, RDs K F H vs ds → ds[i]? = some d → ∃ v, vs[i]? = some v ∧ RD K F H v d
  | _, _, _, _, .nil, e => by simp at e
  | _, _, 0, d, .cons a r, e => by simp at e; subst e; exact ⟨_, rfl, a⟩
  | _, _, i + 1, d, .cons a r, e => by
    obtain ⟨v, h1, h2⟩ := RDs.get' (i := i) (d := d) r (by simpa using e)
    exact ⟨v, by simpa using h1, h2⟩

/-- a slot: nothing known, a thing that is not changed, a list of one's own (m: handed in from outside, to be changed there) -/
inductive Sl where
  | any
  | val (d : D)
  | own (m : Bool) (ds : List PyData)
abbrev Env' := List Sl
/-- the lists that a call may change: those handed in to be changed -/
def Ow (ρ : List Sl) (σ : L2.St) : Addr → Prop := fun a => ∃ (i : Nat) (ds : List PyData), ρ[i]? = some (Sl.own true ds) ∧ σ[i]? = some (some (V.ref a))
/-- the same lists of one's own, with other items perhaps -/
def Shp (ρ ρ' : List Sl) : Prop := ∀ (i : Nat) (m : Bool), (∃ ds, ρ'[i]? = some (Sl.own m ds)) ↔ (∃ ds, ρ[i]? = some (Sl.own m ds))
theorem Shp.refl (ρ : List Sl) : Shp ρ ρ := fun _ _ => Iff.rfl
theorem Shp.trans {ρ ρ1 ρ2 : List Sl} (a : Shp ρ ρ1) (b : Shp ρ1 ρ2) : Shp ρ ρ2 := fun i m => (b i m).trans (a i m)
theorem Shp.ow {ρ ρ' : List Sl} (h : Shp ρ ρ') {σ : L2.St} {a : Addr} : Ow ρ' σ a ↔ Ow ρ σ a := by
  refine ⟨fun ⟨i, ds, h1, h2⟩ => ?_, fun ⟨i, ds, h1, h2⟩ => ?_⟩
  · obtain ⟨es, e⟩ := (h i true).mp ⟨ds, h1⟩
    exact ⟨i, es, e, h2⟩
  · obtain ⟨es, e⟩ := (h i true).mpr ⟨ds, h1⟩
    exact ⟨i, es, e, h2⟩
structure SR (K : PySem.W.Frag) (F0 F M : Addr → Prop) (H0 : Hp) (ρ : List Sl) (σ : L2.St) (H : Hp) : Prop where
  len : ρ.length = σ.length
  same : ∀ b o, H0 b = some o → ¬ M b → HoLe o (H b)
  sub : ∀ a, F0 a → F a
  all : ∀ a, F a → ∃ o, H a = some o
  mf : ∀ a, M a → F a
  val : ∀ (i : Nat) (d : D), ρ[i]? = some (Sl.val d) → ∃ v, σ[i]? = some (some v) ∧ RD K F H v d
  own : ∀ (i : Nat) (m : Bool) (ds : List PyData), ρ[i]? = some (Sl.own m ds) → ∃ l vs, σ[i]? = some (some (.ref l)) ∧ H l = some (.lst vs) ∧ RpAll K F H vs ds ∧ F l ∧ (if m = true then M l else H0 l = none ∧ ¬ F0 l)
  inj : ∀ (i j : Nat) (m n : Bool) (ds es : List PyData) (l : Addr), ρ[i]? = some (Sl.own m ds) → ρ[j]? = some (Sl.own n es) → σ[i]? = some (some (.ref l)) → σ[j]? = some (some (.ref l)) → i = j
  m0 : ∀ a, M a → ∃ o, H0 a = some o
  tb : TbI K H

section
variable {K : PySem.W.Frag} {F0 F M : Addr → Prop} {H0 H H' : Hp} {ρ : List Sl} {σ : L2.St}
theorem SR.owF (S : SR K F0 F M H0 ρ σ H) {a : Addr} (h : Ow ρ σ a) : F a := by
  obtain ⟨i, ds, h1, h2⟩ := h
  obtain ⟨l, vs, e, _, _, f, _⟩ := S.own i true ds h1
  rw [h2] at e
  cases e
  exact f
theorem SR.growT (S : SR K F0 F M H0 ρ σ H) (s : Sm H H') (t : TbI K H') : SR K F0 F M H0 ρ σ H' where
  len := S.len
  same := fun b o e n => (S.same b o e n).trans fun u e2 => s b u e2
  sub := S.sub
  all := fun a f => let ⟨o, e⟩ := S.all a f; (s a o e).ex
  mf := S.mf
  val := fun i d e => let ⟨v, h1, h2⟩ := S.val i d e; ⟨v, h1, h2.ker (Ker.sm s)⟩
  own := fun i m ds e => let ⟨l, vs, h1, h2, h3, h4⟩ := S.own i m ds e; ⟨l, vs, h1, s l _ h2, h3.ker (Ker.sm s), h4⟩
  inj := S.inj
  m0 := S.m0
  tb := t
theorem SR.grow (S : SR K F0 F M H0 ρ σ H) (s : Same H H') : SR K F0 F M H0 ρ σ H' := S.growT (.of s) (S.tb.same s)
theorem SR.new (S : SR K F0 F M H0 ρ σ H) {p : Addr} (hp : H p = none) : ¬ F p := fun f => by
  obtain ⟨o, e⟩ := S.all p f
  rw [hp] at e
  cases e
end
theorem same_new {H : Hp} {p : Addr} {o : HO} (hp : H p = none) : Same H (upd H p o) := fun b u e => by
  rw [upd_ne (ne_of_none e hp)]
  exact e
theorem Off.ker {F O : Addr → Prop} {H H' : Hp} (h : Off O H H') (hO : ∀ a, O a → F a) (hL : ∀ a, O a → ∃ xs, H a = some (.lst xs)) : Ker F H F H' := by
  refine ⟨fun b o e q => (h b o e fun z => ?_).kp q, fun a xs n e => ⟨h a _ e fun z => n (hO a z), n⟩⟩
  obtain ⟨xs, e2⟩ := hL b z
  rw [e] at e2
  cases e2
  cases q
theorem SR.ker {K : PySem.W.Frag} {F0 F M : Addr → Prop} {H0 H H' : Hp} {ρ : List Sl} {σ : L2.St} (S : SR K F0 F M H0 ρ σ H) (h : Off (Ow ρ σ) H H') : Ker F H F H' :=
  h.ker (fun a z => S.owF z) fun a ⟨i, ds, h1, h2⟩ => by
    obtain ⟨l, vs, e, e2, _⟩ := S.own i true ds h1
    rw [h2] at e
    cases e
    exact ⟨vs, e2⟩
theorem Off.sm {O : Addr → Prop} {H H' : Hp} (s : Sm H H') : Off O H H' := fun b o e _ => s b o e
theorem Off.same {O : Addr → Prop} {H H' : Hp} (s : Same H H') : Off O H H' := Off.sm (.of s)
theorem Off.refl {O : Addr → Prop} {H : Hp} : Off O H H := fun _ _ e _ => .of e
theorem Off.trans {O : Addr → Prop} {H H1 H2 : Hp} (a : Off O H H1) (b : Off O H1 H2) : Off O H H2 := fun c o e n => (a c o e n).trans fun u e2 => b c u e2 n

/-! ### what an expression comes to -/
/-- te gives d; the environment is ρ' behind it (own lists may have changed, nothing else) -/
def RE (K : PySem.W.Frag) (ρ : List Sl) (te : TE) (d : D) (ρ' : List Sl) : Prop :=
  ∀ (F0 F M : Addr → Prop) (H0 : Hp) (σ : L2.St) (H : Hp) (Q : VK), SR K F0 F M H0 ρ σ H →
    (∀ v H', SR K F0 F M H0 ρ' σ H' → Shp ρ ρ' → Off (Ow ρ σ) H H' → RD K F H' v d → Q v H') → te σ H Q
/-- te gives a new list that nothing else holds -/
def RL (K : PySem.W.Frag) (ρ : List Sl) (te : TE) (ds : List PyData) (ρ' : List Sl) : Prop :=
  ∀ (F0 F M : Addr → Prop) (H0 : Hp) (σ : L2.St) (H : Hp) (Q : VK), SR K F0 F M H0 ρ σ H →
    (∀ p vs H', H p = none → SR K F0 (fun a => F a ∨ a = p) M H0 ρ' σ H' → Shp ρ ρ' → Off (Ow ρ σ) H H' → H' p = some (.lst vs) → RpAll K (fun a => F a ∨ a = p) H' vs ds → Q (.ref p) H') → te σ H Q
/-- te gives a list (b) or a tuple to be read at once -/
def RQ (K : PySem.W.Frag) (ρ : List Sl) (te : TE) (b : Bool) (ds : List PyData) (ρ' : List Sl) : Prop :=
  ∀ (F0 F M : Addr → Prop) (H0 : Hp) (σ : L2.St) (H : Hp) (Q : VK), SR K F0 F M H0 ρ σ H →
    (∀ a vs H', SR K F0 F M H0 ρ' σ H' → Shp ρ ρ' → Off (Ow ρ σ) H H' → (b = true → ¬ Ow ρ σ a) → (if b = true then H' a = some (.lst vs) else Tp K H' a vs) → RpAll K F H' vs ds → Q (.ref a) H') → te σ H Q
def RT (K : PySem.W.Frag) (ρ : List Sl) (tt : TT) (b : Bool) (ρ' : List Sl) : Prop :=
  ∀ (F0 F M : Addr → Prop) (H0 : Hp) (σ : L2.St) (H : Hp) (Q : Bool → Hp → Prop), SR K F0 F M H0 ρ σ H →
    (∀ H', SR K F0 F M H0 ρ' σ H' → Shp ρ ρ' → Off (Ow ρ σ) H H' → Q b H') → tt σ H Q
def RA (K : PySem.W.Frag) (ρ : List Sl) (ta : TA) (ds : List D) (ρ' : List Sl) : Prop :=
  ∀ (F0 F M : Addr → Prop) (H0 : Hp) (σ : L2.St) (H : Hp) (Q : List V → Hp → Prop), SR K F0 F M H0 ρ σ H →
    (∀ vs H', SR K F0 F M H0 ρ' σ H' → Shp ρ ρ' → Off (Ow ρ σ) H H' → RDs K F H' vs ds → Q vs H') → ta σ H Q
section
variable {K : PySem.W.Frag} {ρ ρ1 ρ2 ρ3 : List Sl} {te ta tb : TE} {d : D} {x y z : PyData} {ds es : List PyData}
theorem off_iff {O O' : Addr → Prop} {H H' : Hp} (e : ∀ a, O' a ↔ O a) (h : Off O' H H') : Off O H H' := fun b o q n => h b o q fun z => n ((e b).mp z)
/-- the same, behind one another -/
theorem off2 {σ : L2.St} {H H1 H2 : Hp} (h : Off (Ow ρ σ) H H1) (e : Shp ρ ρ1) (h2 : Off (Ow ρ1 σ) H1 H2) : Off (Ow ρ σ) H H2 := h.trans (off_iff (fun _ => e.ow) h2)
theorem RE.lst (h : RE K ρ te (.py (.list ds)) ρ1) : RQ K ρ te true ds ρ1 := fun F0 F M H0 σ H Q S k => h F0 F M H0 σ H Q S fun v H' S' w o r => by
  cases r with
  | lst h n r => exact k _ _ H' S' w o (fun _ z => n (S.owF z)) h r
theorem RE.tpl (h : RE K ρ te (.py (.tuple ds)) ρ1) : RQ K ρ te false ds ρ1 := fun F0 F M H0 σ H Q S k => h F0 F M H0 σ H Q S fun v H' S' w o r => by
  cases r with
  | tup h r => exact k _ _ H' S' w o (fun q => nomatch q) h r
theorem SR.less {F0 F F' M : Addr → Prop} {H0 H : Hp} {σ : L2.St} (S : SR K F0 F' M H0 ρ σ H) (h : ∀ a, F a → F' a) (s : ∀ a, F0 a → F a) (hM : ∀ a, M a → F a) (ho : ∀ (i : Nat) (m : Bool) (ds : List PyData) (l : Addr), ρ[i]? = some (Sl.own m ds) → σ[i]? = some (some (V.ref l)) → F l) : SR K F0 F M H0 ρ σ H where
  len := S.len
  same := S.same
  sub := s
  all := fun a f => S.all a (h a f)
  mf := hM
  val := fun i d e => let ⟨v, h1, h2⟩ := S.val i d e; ⟨v, h1, h2.ker ⟨fun b o e _ => e, fun a xs n e => ⟨e, fun z => n (h a z)⟩⟩⟩
  own := fun i m ds e => let ⟨l, vs, h1, h2, h3, h4, h5⟩ := S.own i m ds e; ⟨l, vs, h1, h2, h3.ker ⟨fun b o e _ => e, fun a xs n e => ⟨e, fun z => n (h a z)⟩⟩, ho i m ds l e h1, h5⟩
  inj := S.inj
  m0 := S.m0
  tb := S.tb
theorem ker_less {F F' : Addr → Prop} {H : Hp} (h : ∀ a, F a → F' a) : Ker F' H F H := ⟨fun b o e _ => e, fun a xs n e => ⟨e, fun z => n (h a z)⟩⟩
theorem RL.ex (h : RL K ρ te ds ρ1) : RE K ρ te (.py (.list ds)) ρ1 := fun F0 F M H0 σ H Q S k => h F0 F M H0 σ H Q S fun p vs H' hp S' w o hl r => by
  have np : ¬ F p := S.new hp
  exact k _ H' (S'.less (fun a f => .inl f) S.sub S.mf fun i m es l e1 e2 => by
    obtain ⟨fs, e3⟩ := (w i m).mp ⟨es, e1⟩
    obtain ⟨l', _, e4, _, _, f, _⟩ := S.own i m fs e3
    rw [e2] at e4
    cases e4
    exact f) w o (.lst hl np (r.ker (ker_less fun a f => .inl f)))
theorem RL.lst (h : RL K ρ te ds ρ1) : RQ K ρ te true ds ρ1 := h.ex.lst
/-- a variable -/
theorem re_var {i : Nat} (h : ρ[i]? = some (Sl.val d)) : RE K ρ (tVar i) d ρ := fun F0 F M H0 σ H Q S k => by
  obtain ⟨v, h1, h2⟩ := S.val i d h
  exact ⟨v, h1, k v H S (Shp.refl _) Off.refl h2⟩
theorem rq_own {i : Nat} (h : ρ[i]? = some (Sl.own false ds)) : RQ K ρ (tVar i) true ds ρ := fun F0 F M H0 σ H Q S k => by
  obtain ⟨l, vs, h1, h2, h3, _⟩ := S.own i false ds h
  exact ⟨_, h1, k l vs H S (Shp.refl _) Off.refl (fun _ ⟨j, es, e1, e2⟩ => by
    have q := S.inj i j _ _ _ _ l h e1 h1 e2
    subst q
    rw [h] at e1
    cases e1) h2 h3⟩
theorem re_int {i : Int} : RE K ρ (tC (.int i)) (.py (.int i)) ρ := fun F0 F M H0 σ H Q S k => k _ H S (Shp.refl _) Off.refl (.int i)
theorem re_bl {b : Bool} : RE K ρ (tC (.bl b)) (.py (.bool b)) ρ := fun F0 F M H0 σ H Q S k => k _ H S (Shp.refl _) Off.refl (.bl b)
theorem re_str {x : Str} : RE K ρ (tC (.str x)) (.py (.str x)) ρ := fun F0 F M H0 σ H Q S k => k _ H S (Shp.refl _) Off.refl (.str x)
theorem re_non : RE K ρ (tC .non) (.py .none) ρ := fun F0 F M H0 σ H Q S k => k _ H S (Shp.refl _) Off.refl .non
/-- a tuple of the written part -/
theorem re_tupK {a : Addr} {xs : List V} {ds : List PyData} (h : ∀ H : Hp, Tp K H a xs) (r : ∀ F H, RpAll K F H xs ds) : RE K ρ (tC (.ref a)) (.py (.tuple ds)) ρ := fun F0 F M H0 σ H Q S k =>
  k _ H S (Shp.refl _) Off.refl (.tup (h H) (r F H))
/-- two expressions, then a rule that looks at their data -/
theorem re_op {r : R2} {dx dy dz : D} (ha : RE K ρ ta dx ρ1) (hb : RE K ρ1 tb dy ρ2)
    (hr : ∀ (F : Addr → Prop) (H : Hp) (v w : V), RD K F H v dx → RD K F H w dy → ∀ Q : VK, (∀ u H', Same H H' → RD K F H' u dz → Q u H') → r v w H Q) : RE K ρ (tOp r ta tb) dz ρ2 := fun F0 F M H0 σ H Q S k =>
  ha F0 F M H0 σ H _ S fun v H1 S1 w1 o1 r1 => hb F0 F M H0 σ H1 _ S1 fun w H2 S2 w2 o2 r2 => hr F H2 v w (r1.ker (S1.ker o2)) r2 Q fun u H3 s3 r3 =>
    k u H3 (S2.grow s3) (w1.trans w2) ((off2 o1 w1 o2).trans (Off.same s3)) r3
theorem re_un {r : V → Hp → VK → Prop} {dx dz : D} (ha : RE K ρ ta dx ρ1) (hr : ∀ (F : Addr → Prop) (H : Hp) (v : V), RD K F H v dx → ∀ Q : VK, (∀ u H', Same H H' → RD K F H' u dz → Q u H') → r v H Q) : RE K ρ (tUn r ta) dz ρ1 := fun F0 F M H0 σ H Q S k =>
  ha F0 F M H0 σ H _ S fun v H1 S1 w1 o1 r1 => hr F H1 v r1 Q fun u H2 s2 r2 => k u H2 (S1.grow s2) w1 (o1.trans (Off.same s2)) r2
theorem ra_nil : RA K ρ tNil [] ρ := fun F0 F M H0 σ H Q S k => k [] H S (Shp.refl _) Off.refl .nil
theorem ra_cons {tr : TA} {dx : D} {dr : List D} (ha : RE K ρ ta dx ρ1) (hr : RA K ρ1 tr dr ρ2) : RA K ρ (tCons ta tr) (dx :: dr) ρ2 := fun F0 F M H0 σ H Q S k =>
  ha F0 F M H0 σ H _ S fun v H1 S1 w1 o1 r1 => hr F0 F M H0 σ H1 _ S1 fun vs H2 S2 w2 o2 r2 =>
    k _ H2 S2 (w1.trans w2) (off2 o1 w1 o2) (.cons (r1.ker (S1.ker o2)) r2)
/-- a built-in's call, by a rule that looks at the arguments' data -/
theorem re_cb {r : List V → Hp → VK → Prop} {t : TA} {da : List D} {dz : D} (ha : RA K ρ t da ρ1)
    (hr : ∀ (F : Addr → Prop) (H : Hp) (vs : List V), RDs K F H vs da → ∀ Q : VK, (∀ u H', Same H H' → RD K F H' u dz → Q u H') → r vs H Q) : RE K ρ (tCB r t) dz ρ1 := fun F0 F M H0 σ H Q S k =>
  ha F0 F M H0 σ H _ S fun vs H1 S1 w1 o1 r1 => hr F H1 vs r1 Q fun u H2 s2 r2 => k u H2 (S1.grow s2) w1 (o1.trans (Off.same s2)) r2
/-- a built-in's call on one sequence that is read -/
theorem re_cbq {r : List V → Hp → VK → Prop} {b : Bool} {dz : D} (ha : RQ K ρ ta b ds ρ1)
    (hr : ∀ (F : Addr → Prop) (H : Hp) (a : Addr) (vs : List V), (if b = true then H a = some (.lst vs) else Tp K H a vs) → RpAll K F H vs ds → ∀ Q : VK, (∀ u H', Same H H' → RD K F H' u dz → Q u H') → r [.ref a] H Q) : RE K ρ (tCB r (tCons ta tNil)) dz ρ1 := fun F0 F M H0 σ H Q S k =>
  ha F0 F M H0 σ H _ S fun a vs H1 S1 w1 o1 _ q1 r1 => hr F H1 a vs q1 r1 Q fun u H2 s2 r2 => k u H2 (S1.grow s2) w1 (o1.trans (Off.same s2)) r2
/-- .. that gives a new list -/
theorem rl_of_new {te' : TE} {F0 F M : Addr → Prop} {H0 H1 : Hp} {σ : L2.St} {p : Addr} {vs : List V} (S : SR K F0 F M H0 ρ σ H1) (hp : H1 p = none) (r : RpAll K F H1 vs ds) :
    SR K F0 (fun a => F a ∨ a = p) M H0 ρ σ (upd H1 p (.lst vs)) ∧ RpAll K (fun a => F a ∨ a = p) (upd H1 p (.lst vs)) vs ds := by
  have s : Same H1 (upd H1 p (.lst vs)) := same_new hp
  have kk : Ker F H1 (fun a => F a ∨ a = p) (upd H1 p (.lst vs)) := ⟨fun b o e _ => s b o e, fun a xs n e => ⟨s a _ e, fun z => z.elim n fun q => by
    rw [q, hp] at e
    cases e⟩⟩
  refine ⟨⟨S.len, fun b o e n => (S.same b o e n).trans fun u e2 => .of (s b u e2), fun a f => .inl (S.sub a f), fun a f => ?_, fun a f => .inl (S.mf a f), fun i d e => ?_, fun i m ds e => ?_, S.inj, S.m0, S.tb.same s⟩, r.ker kk⟩
  · rcases f with f | f
    · obtain ⟨o, e⟩ := S.all a f
      exact ⟨o, s a o e⟩
    · rw [f]
      exact ⟨_, upd_same⟩
  · obtain ⟨v, h1, h2⟩ := S.val i d e
    exact ⟨v, h1, h2.ker kk⟩
  · obtain ⟨l, vs', h1, h2, h3, h4, h5⟩ := S.own i m ds e
    exact ⟨l, vs', h1, s l _ h2, h3.ker kk, .inl h4, h5⟩
end
end Bw
/-! Lay2: expressions and their data, construct by construct. -/
namespace Bw
open PySem PySem.Spec PyProof.Rows L2

structure DE (X : Cx) (ρ : List Sl) (e : Expr) (d : D) (ρ' : List Sl) : Prop where
  ou : ∃ te, PE X e te ∧ RE X.K ρ te d ρ'
structure DL (X : Cx) (ρ : List Sl) (e : Expr) (ds : List PyData) (ρ' : List Sl) : Prop where
  ou : ∃ te, PE X e te ∧ RL X.K ρ te ds ρ'
structure DQ (X : Cx) (ρ : List Sl) (e : Expr) (b : Bool) (ds : List PyData) (ρ' : List Sl) : Prop where
  ou : ∃ te, PE X e te ∧ RQ X.K ρ te b ds ρ'
structure DT (X : Cx) (ρ : List Sl) (e : Expr) (b : Bool) (ρ' : List Sl) : Prop where
  ou : ∃ tt, PT X e tt ∧ RT X.K ρ tt b ρ'
structure DW (X : Cx) (ρ : List Sl) (e : Expr) (b : Bool) (ρ' : List Sl) : Prop where
  ou : ∃ tt, PW X e tt ∧ RT X.K ρ tt b ρ'
structure DA (X : Cx) (ρ : List Sl) (es : List Expr) (ds : List D) (ρ' : List Sl) : Prop where
  ou : ∃ ta, PA X es ta ∧ RA X.K ρ ta ds ρ'
abbrev I (i : Int) : D := .py (.int i)
abbrev B (b : Bool) : D := .py (.bool b)
abbrev Tu (ds : List PyData) : D := .py (.tuple ds)
abbrev Li (ds : List PyData) : D := .py (.list ds)

/-- a comparison, as a value or as a test -/
structure DC (X : Cx) (ρ : List Sl) (a : Expr) (op : CmpOp) (b : Expr) (z : Bool) (ρ' : List Sl) : Prop where
  ou : ∃ r ta tb, OpR X (compareOp op) r ∧ PE X a ta ∧ PE X b tb ∧ RE X.K ρ (tOp r ta tb) (B z) ρ'
section
variable {X : Cx} {ρ ρ1 ρ2 ρ3 : List Sl} {a b c e : Expr} {es : List Expr} {pos p p2 : Pos} {d : D} {x y z : PyData} {ds fs : List PyData} {i j k : Int}
theorem DE.is {d' : D} (h : DE X ρ a d ρ1) (e : d = d') : DE X ρ a d' ρ1 := e ▸ h
theorem DT.is {b b' : Bool} (h : DT X ρ a b ρ1) (e : b = b') : DT X ρ a b' ρ1 := e ▸ h
theorem DE.lst (h : DE X ρ a (Li ds) ρ1) : DQ X ρ a true ds ρ1 := let ⟨t, h1, h2⟩ := h; ⟨t, h1, h2.lst⟩
theorem DE.tpl (h : DE X ρ a (Tu ds) ρ1) : DQ X ρ a false ds ρ1 := let ⟨t, h1, h2⟩ := h; ⟨t, h1, h2.tpl⟩
theorem DL.ex (h : DL X ρ a ds ρ1) : DE X ρ a (Li ds) ρ1 := let ⟨t, h1, h2⟩ := h; ⟨t, h1, h2.ex⟩
theorem DL.lst (h : DL X ρ a ds ρ1) : DQ X ρ a true ds ρ1 := h.ex.lst
/-! names -/
theorem de_var (i : Nat) {x : Str} (hN : X.N[i]? = some x := by rfl) (h : ρ[i]? = some (Sl.val d) := by rfl) (hv : Vis X.env.scope x := by first | exact Or.inl rfl | exact Or.inr (Or.inl rfl) | exact Or.inr (Or.inr rfl)) (hd : (x == ("__debug__" : Str)) = false := by decide)
    (hcd : (x == ("__classdict__" : Str)) = false := by decide) : DE X ρ (.Name x pos) d ρ := ⟨_, pe_var hN hv hd hcd, re_var h⟩
theorem dq_own (i : Nat) {x : Str} (hN : X.N[i]? = some x := by rfl) (h : ρ[i]? = some (Sl.own false ds) := by rfl) (hv : Vis X.env.scope x := by first | exact Or.inl rfl | exact Or.inr (Or.inl rfl) | exact Or.inr (Or.inr rfl)) (hd : (x == ("__debug__" : Str)) = false := by decide)
    (hcd : (x == ("__classdict__" : Str)) = false := by decide) : DQ X ρ (.Name x pos) true ds ρ := ⟨_, pe_var hN hv hd hcd, rq_own h⟩
theorem de_int {i : Int} {n : Nat} : DE X ρ (.Constant (.int i) n pos) (I i) ρ := ⟨_, pe_int, re_int⟩
theorem de_bl {b : Bool} {n : Nat} : DE X ρ (.Constant (.bool b) n pos) (B b) ρ := ⟨_, pe_bl, re_bl⟩
theorem de_str {x : Str} {n : Nat} : DE X ρ (.Constant (.str x) n pos) (.py (.str x)) ρ := ⟨_, pe_str, re_str⟩
theorem de_non {n : Nat} : DE X ρ (.Constant .none n pos) (.py .none) ρ := ⟨_, pe_non, re_non⟩
/-- a module's tuple, a module's number -/
theorem de_globT {x : Str} {t : Addr} {xs : List V} (h : ∀ H : Hp, Tp X.K H t xs) (r : ∀ F H, RpAll X.K F H xs ds) (hm : X.mg x = some (.ref t)) (hg : Gl X x := by rfl) (hd : (x == ("__debug__" : Str)) = false := by decide) : DE X ρ (.Name x pos) (Tu ds) ρ :=
  ⟨_, pe_glob (v := .ref t) hg hm rfl hd, re_tupK h r⟩
theorem de_globI {x : Str} {i : Int} {t : Tok} (hm : X.mg x = some (.int i t)) (hg : Gl X x := by rfl) (hd : (x == ("__debug__" : Str)) = false := by decide) : DE X ρ (.Name x pos) (I i) ρ :=
  ⟨_, pe_glob (v := .int i) hg hm ⟨t, rfl⟩ hd, re_int⟩
/-! numbers -/
theorem hr_I {C : Int → Int → Prop} {g : Int → Int → Int} {K : PySem.W.Frag} (hc : C i j) : ∀ (F : Addr → Prop) (H : Hp) (v w : V), RD K F H v (I i) → RD K F H w (I j) → ∀ Q : VK, (∀ u H', Same H H' → RD K F H' u (I (g i j)) → Q u H') → rI C (fun i j => V.int (g i j)) v w H Q :=
  fun F H v w r1 r2 Q q => by
    cases r1
    cases r2
    exact ⟨i, j, rfl, rfl, hc, q _ H (Same.refl _) (.int _)⟩
theorem hr_I0 {g : Int → Int → Int} {K : PySem.W.Frag} : ∀ (F : Addr → Prop) (H : Hp) (v w : V), RD K F H v (I i) → RD K F H w (I j) → ∀ Q : VK, (∀ u H', Same H H' → RD K F H' u (I (g i j)) → Q u H') → rI0 (fun i j => V.int (g i j)) v w H Q :=
  fun F H v w r1 r2 Q q => by
    cases r1
    cases r2
    exact ⟨i, j, rfl, rfl, q _ H (Same.refl _) (.int _)⟩
theorem hr_B0 {g : Int → Int → Bool} {K : PySem.W.Frag} : ∀ (F : Addr → Prop) (H : Hp) (v w : V), RD K F H v (I i) → RD K F H w (I j) → ∀ Q : VK, (∀ u H', Same H H' → RD K F H' u (B (g i j)) → Q u H') → rI0 (fun i j => V.bl (g i j)) v w H Q :=
  fun F H v w r1 r2 Q q => by
    cases r1
    cases r2
    exact ⟨i, j, rfl, rfl, q _ H (Same.refl _) (.bl _)⟩
theorem de_add (ha : DE X ρ a (I i) ρ1) (hb : DE X ρ1 b (I j) ρ2) : DE X ρ (.BinOp a .Add b pos) (I (i + j)) ρ2 := let ⟨_, p1, r1⟩ := ha; let ⟨_, p2, r2⟩ := hb; ⟨_, pe_op op_add p1 p2, re_op r1 r2 hr_I0⟩
theorem de_sub (ha : DE X ρ a (I i) ρ1) (hb : DE X ρ1 b (I j) ρ2) : DE X ρ (.BinOp a .Sub b pos) (I (i - j)) ρ2 := let ⟨_, p1, r1⟩ := ha; let ⟨_, p2, r2⟩ := hb; ⟨_, pe_op op_sub p1 p2, re_op r1 r2 hr_I0⟩
theorem de_mul (ha : DE X ρ a (I i) ρ1) (hb : DE X ρ1 b (I j) ρ2) (hc : CMul i j) : DE X ρ (.BinOp a .Mult b pos) (I (i * j)) ρ2 := let ⟨_, p1, r1⟩ := ha; let ⟨_, p2, r2⟩ := hb; ⟨_, pe_op op_mul p1 p2, re_op r1 r2 (hr_I hc)⟩
theorem de_mod (ha : DE X ρ a (I i) ρ1) (hb : DE X ρ1 b (I j) ρ2) (hc : 0 < j) : DE X ρ (.BinOp a .Mod b pos) (I (i % j)) ρ2 := let ⟨_, p1, r1⟩ := ha; let ⟨_, p2, r2⟩ := hb; ⟨_, pe_op op_mod p1 p2, re_op r1 r2 (hr_I (C := fun _ j => 0 < j) hc)⟩
theorem de_div (ha : DE X ρ a (I i) ρ1) (hb : DE X ρ1 b (I j) ρ2) (hc : CDiv i j) : DE X ρ (.BinOp a .FloorDiv b pos) (I (i / j)) ρ2 := let ⟨_, p1, r1⟩ := ha; let ⟨_, p2, r2⟩ := hb; ⟨_, pe_op op_fdiv p1 p2, re_op r1 r2 (hr_I hc)⟩
theorem de_shl (ha : DE X ρ a (I i) ρ1) (hb : DE X ρ1 b (I j) ρ2) (hc : CPow i j) : DE X ρ (.BinOp a .LShift b pos) (I (i * 2 ^ j.toNat)) ρ2 := let ⟨_, p1, r1⟩ := ha; let ⟨_, p2, r2⟩ := hb; ⟨_, pe_op op_shl p1 p2, re_op r1 r2 (hr_I (g := fun i j => i * 2 ^ j.toNat) hc)⟩
theorem de_shr (ha : DE X ρ a (I i) ρ1) (hb : DE X ρ1 b (I j) ρ2) (hc : 0 ≤ j) : DE X ρ (.BinOp a .RShift b pos) (I (i / 2 ^ j.toNat)) ρ2 := let ⟨_, p1, r1⟩ := ha; let ⟨_, p2, r2⟩ := hb; ⟨_, pe_op op_shr p1 p2, re_op r1 r2 (hr_I (C := fun _ j => 0 ≤ j) (g := fun i j => i / 2 ^ j.toNat) hc)⟩
theorem de_and (ha : DE X ρ a (I i) ρ1) (hb : DE X ρ1 b (I j) ρ2) : DE X ρ (.BinOp a .BitAnd b pos) (I (Builtin.bitAnd i j)) ρ2 := let ⟨_, p1, r1⟩ := ha; let ⟨_, p2, r2⟩ := hb; ⟨_, pe_op op_and p1 p2, re_op r1 r2 hr_I0⟩
theorem de_xor (ha : DE X ρ a (I i) ρ1) (hb : DE X ρ1 b (I j) ρ2) : DE X ρ (.BinOp a .BitXor b pos) (I (Builtin.bitXor i j)) ρ2 := let ⟨_, p1, r1⟩ := ha; let ⟨_, p2, r2⟩ := hb; ⟨_, pe_op op_xor p1 p2, re_op r1 r2 hr_I0⟩
theorem de_neg (ha : DE X ρ a (I i) ρ1) : DE X ρ (.UnaryOp .USub a pos) (I (-i)) ρ1 := let ⟨_, p1, r1⟩ := ha; ⟨_, pe_un un_neg p1, re_un r1 fun F H v r Q q => by
  cases r
  exact ⟨i, rfl, q _ H (Same.refl _) (.int _)⟩⟩
theorem dc_lt (ha : DE X ρ a (I i) ρ1) (hb : DE X ρ1 b (I j) ρ2) : DC X ρ a .Lt b (decide (i < j)) ρ2 := let ⟨_, p1, r1⟩ := ha; let ⟨_, p2, r2⟩ := hb; ⟨_, _, _, op_lt, p1, p2, re_op r1 r2 (hr_B0 (g := fun i j => decide (i < j)))⟩
theorem dc_le (ha : DE X ρ a (I i) ρ1) (hb : DE X ρ1 b (I j) ρ2) : DC X ρ a .LtE b (decide (i ≤ j)) ρ2 := let ⟨_, p1, r1⟩ := ha; let ⟨_, p2, r2⟩ := hb; ⟨_, _, _, op_le, p1, p2, re_op r1 r2 (hr_B0 (g := fun i j => decide (i ≤ j)))⟩
theorem dc_gt (ha : DE X ρ a (I i) ρ1) (hb : DE X ρ1 b (I j) ρ2) : DC X ρ a .Gt b (decide (j < i)) ρ2 := let ⟨_, p1, r1⟩ := ha; let ⟨_, p2, r2⟩ := hb; ⟨_, _, _, op_gt, p1, p2, re_op r1 r2 (hr_B0 (g := fun i j => decide (j < i)))⟩
theorem dc_ge (ha : DE X ρ a (I i) ρ1) (hb : DE X ρ1 b (I j) ρ2) : DC X ρ a .GtE b (decide (j ≤ i)) ρ2 := let ⟨_, p1, r1⟩ := ha; let ⟨_, p2, r2⟩ := hb; ⟨_, _, _, op_ge, p1, p2, re_op r1 r2 (hr_B0 (g := fun i j => decide (j ≤ i)))⟩
/-- == and != of data -/
theorem dc_eq (ha : DE X ρ a (.py x) ρ1) (hb : DE X ρ1 b (.py y) ρ2) (hu : X.A.units + 64 < cLine) (sx : SeqAt.shaped x = true) (sy : SeqAt.shaped y = true) : DC X ρ a .Eq b (PyData.eqv x y) ρ2 :=
  let ⟨_, p1, r1⟩ := ha; let ⟨_, p2, r2⟩ := hb; ⟨_, _, _, op_eqD hu, p1, p2, re_op r1 r2 fun F H v w q1 q2 Q q => ⟨x, y, Rp.dp q1, Rp.dp q2, sx, sy, q _ H (Same.refl _) (.bl _)⟩⟩
theorem dc_ne (ha : DE X ρ a (.py x) ρ1) (hb : DE X ρ1 b (.py y) ρ2) (hu : X.A.units + 64 < cLine) (sx : SeqAt.shaped x = true) (sy : SeqAt.shaped y = true) : DC X ρ a .NotEq b (!PyData.eqv x y) ρ2 :=
  let ⟨_, p1, r1⟩ := ha; let ⟨_, p2, r2⟩ := hb; ⟨_, _, _, op_neD hu, p1, p2, re_op r1 r2 fun F H v w q1 q2 Q q => ⟨x, y, Rp.dp q1, Rp.dp q2, sx, sy, q _ H (Same.refl _) (.bl _)⟩⟩
/-- of numbers -/
theorem dc_eqI (ha : DE X ρ a (I i) ρ1) (hb : DE X ρ1 b (I j) ρ2) : DC X ρ a .Eq b (decide (i = j)) ρ2 :=
  let ⟨_, p1, r1⟩ := ha; let ⟨_, p2, r2⟩ := hb; ⟨_, _, _, op_eq, p1, p2, re_op r1 r2 fun F H v w q1 q2 Q q => by
    cases q1
    cases q2
    refine ⟨rfl, q _ H (Same.refl _) ?_⟩
    have e : decide (V.int i = V.int j) = decide (i = j) := by
      by_cases h : i = j
      · rw [h, decide_eq_true rfl, decide_eq_true rfl]
      · rw [decide_eq_false h, decide_eq_false fun q => h (V.int.inj q)]
    rw [e]
    exact .bl _⟩
theorem dc_neI (ha : DE X ρ a (I i) ρ1) (hb : DE X ρ1 b (I j) ρ2) : DC X ρ a .NotEq b (!decide (i = j)) ρ2 :=
  let ⟨_, p1, r1⟩ := ha; let ⟨_, p2, r2⟩ := hb; ⟨_, _, _, op_ne, p1, p2, re_op r1 r2 fun F H v w q1 q2 Q q => by
    cases q1
    cases q2
    refine ⟨rfl, q _ H (Same.refl _) ?_⟩
    have e : decide (V.int i = V.int j) = decide (i = j) := by
      by_cases h : i = j
      · rw [h, decide_eq_true rfl, decide_eq_true rfl]
      · rw [decide_eq_false h, decide_eq_false fun q => h (V.int.inj q)]
    rw [e]
    exact .bl _⟩
/-- a <= b <= c -/
theorem re_chain {K : PySem.W.Frag} {ta tb tc : TE} (r1 : RE K ρ ta (I i) ρ) (r2 : RE K ρ tb (I j) ρ) (r3 : RE K ρ tc (I k) ρ) : RE K ρ (tChain (rI0 fun i j => .bl (decide (i ≤ j))) (rI0 fun i j => .bl (decide (i ≤ j))) ta tb tc) (B (decide (i ≤ j) && decide (j ≤ k))) ρ := by
  intro F0 F M H0 σ H Q S q
  refine r1 F0 F M H0 σ H _ S fun v H1 S1 w1 o1 q1 => r2 F0 F M H0 σ H1 _ S1 fun w H2 S2 w2 o2 q2 => ?_
  cases q1
  cases q2
  refine ⟨i, j, rfl, rfl, decide (i ≤ j), rfl, ?_⟩
  cases hd : decide (i ≤ j) with
  | true =>
    show tc σ H2 _
    refine r3 F0 F M H0 σ H2 _ S2 fun u H3 S3 w3 o3 q3 => ?_
    cases q3
    refine ⟨j, k, rfl, rfl, q _ H3 S3 (Shp.refl _) ((o1.trans o2).trans o3) ?_⟩
    rw [hd, Bool.true_and]
    exact .bl _
  | false =>
    show Q (.bl false) H2
    refine q _ H2 S2 (Shp.refl _) (o1.trans o2) ?_
    rw [hd, Bool.false_and]
    exact .bl _
theorem de_chain (ha : DE X ρ a (I i) ρ) (hb : DE X ρ b (I j) ρ) (hc : DE X ρ c (I k) ρ) (hm : lastMarks [.LtE, .LtE] [b, c] = false := by with_unfolding_all rfl) : DE X ρ (.Compare a [.LtE, .LtE] [b, c] pos) (B (decide (i ≤ j) && decide (j ≤ k))) ρ :=
  let ⟨_, p1, r1⟩ := ha; let ⟨_, p2, r2⟩ := hb; let ⟨_, p3, r3⟩ := hc; ⟨_, pe_chain op_le op_le p1 p2 p3 hm, re_chain r1 r2 r3⟩
def isNon : PyData → Bool
  | .none => true
  | _ => false
/-- is None -/
theorem dc_isN {n : Nat} (ha : DE X ρ a (.py x) ρ1) : DC X ρ a .Is (.Constant .none n p) (isNon x) ρ1 :=
  let ⟨_, p1, r1⟩ := ha; ⟨_, _, _, op_isN, p1, pe_non, re_op r1 re_non fun F H v w q1 q2 Q q => by
    cases q2
    refine ⟨rfl, q _ H (Same.refl _) ?_⟩
    have e : decide (v = V.non) = isNon x := by
      cases q1 <;> rfl
    rw [e]
    exact .bl _⟩
/-! tests -/
theorem dt_of (ha : DE X ρ a (B b') ρ1) (he : ∀ whole, isTrue a X.env whole = (do let v ← whole; standAt a.pos; holding [v] (truthy v)) := by intro _; rfl) : DT X ρ a b' ρ1 :=
  let ⟨_, p1, r1⟩ := ha; ⟨_, pt_val p1 he, fun F0 F M H0 σ H Q S q => r1 F0 F M H0 σ H _ S fun v H1 S1 w1 o1 q1 => by
    cases q1
    exact ⟨_, rfl, q H1 S1 w1 o1⟩⟩
theorem dt_not {b' : Bool} (h : DT X ρ a b' ρ1) : DT X ρ (.UnaryOp .Not a pos) (!b') ρ1 := let ⟨_, p1, r1⟩ := h; ⟨_, pt_not p1, fun F0 F M H0 σ H Q S q => r1 F0 F M H0 σ H _ S fun H1 S1 w1 o1 => q H1 S1 w1 o1⟩
theorem rt_test {K : PySem.W.Frag} {te : TE} {z : Bool} (h : RE K ρ te (B z) ρ1) : RT K ρ (tTest te) z ρ1 := fun F0 F M H0 σ H Q S q => h F0 F M H0 σ H _ S fun v H1 S1 w1 o1 q1 => by
  cases q1
  exact ⟨_, rfl, q H1 S1 w1 o1⟩
theorem de_cmp {op : CmpOp} {z : Bool} (h : DC X ρ a op b z ρ1) (hm : behindInMarks op b = false := by first | exact nomark _ | rfl) : DE X ρ (.Compare a [op] [b] pos) (B z) ρ1 := let ⟨_, _, _, o, p1, p2, r⟩ := h; ⟨_, pe_cmpR o p1 p2 hm, r⟩
theorem dt_cmp {op : CmpOp} {z : Bool} (h : DC X ρ a op b z ρ1) (hm : behindInMarks op b = false := by first | exact nomark _ | rfl) : DT X ρ (.Compare a [op] [b] pos) z ρ1 := let ⟨_, _, _, o, p1, p2, r⟩ := h; ⟨_, pt_cmpR o p1 p2 hm, rt_test r⟩
theorem dt_chain (ha : DE X ρ a (I i) ρ) (hb : DE X ρ b (I j) ρ) (hc : DE X ρ c (I k) ρ) (hm : lastMarks [.LtE, .LtE] [b, c] = false := by with_unfolding_all rfl) : DT X ρ (.Compare a [.LtE, .LtE] [b, c] pos) (decide (i ≤ j) && decide (j ≤ k)) ρ :=
  let ⟨_, p1, r1⟩ := ha; let ⟨_, p2, r2⟩ := hb; let ⟨_, p3, r3⟩ := hc; ⟨_, pt_chain op_le op_le p1 p2 p3 hm, rt_test (re_chain r1 r2 r3)⟩
theorem DW.t {b' : Bool} (h : DW X ρ a b' ρ1) : DT X ρ a b' ρ1 := let ⟨_, p1, r1⟩ := h; ⟨_, p1.pt, r1⟩
theorem dw_and1 {b' : Bool} (h : DT X ρ a b' ρ1) : DW X ρ (.BoolOp .And [a] pos) b' ρ1 := let ⟨_, p1, r1⟩ := h; ⟨_, pw_and1 p1, r1⟩
theorem dw_or1 {b' : Bool} (h : DT X ρ a b' ρ1) : DW X ρ (.BoolOp .Or [a] pos) b' ρ1 := let ⟨_, p1, r1⟩ := h; ⟨_, pw_or1 p1, r1⟩
theorem dw_and {b1 b2 : Bool} (h : DT X ρ a b1 ρ) (h2 : b1 = true → DW X ρ (.BoolOp .And (b :: es) pos) b2 ρ) : DW X ρ (.BoolOp .And (a :: b :: es) pos) (b1 && b2) ρ := by
  obtain ⟨ta, p1, r1⟩ := h
  cases b1 with
  | true =>
    obtain ⟨tb, p2, r2⟩ := h2 rfl
    exact ⟨_, pw_and p1 p2, fun F0 F M H0 σ H Q S q => r1 F0 F M H0 σ H _ S fun H1 S1 w1 o1 => by
      show tb σ H1 Q
      exact r2 F0 F M H0 σ H1 Q S1 fun H2 S2 w2 o2 => q H2 S2 (Shp.refl _) (o1.trans o2)⟩
  | false =>
    exact ⟨tAnd ta (fun _ _ _ => False), pw_and p1 ⟨fun whole pins s σ H Q I h => h.elim⟩, fun F0 F M H0 σ H Q S q => r1 F0 F M H0 σ H _ S fun H1 S1 w1 o1 => by
      show Q false H1
      exact q H1 S1 (Shp.refl _) o1⟩
theorem dw_or {b1 b2 : Bool} (h : DT X ρ a b1 ρ) (h2 : b1 = false → DW X ρ (.BoolOp .Or (b :: es) pos) b2 ρ) : DW X ρ (.BoolOp .Or (a :: b :: es) pos) (b1 || b2) ρ := by
  obtain ⟨ta, p1, r1⟩ := h
  cases b1 with
  | false =>
    obtain ⟨tb, p2, r2⟩ := h2 rfl
    exact ⟨_, pw_or p1 p2, fun F0 F M H0 σ H Q S q => r1 F0 F M H0 σ H _ S fun H1 S1 w1 o1 => by
      show tb σ H1 Q
      exact r2 F0 F M H0 σ H1 Q S1 fun H2 S2 w2 o2 => q H2 S2 (Shp.refl _) (o1.trans o2)⟩
  | true =>
    exact ⟨tOr ta (fun _ _ _ => False), pw_or p1 ⟨fun whole pins s σ H Q I h => h.elim⟩, fun F0 F M H0 σ H Q S q => r1 F0 F M H0 σ H _ S fun H1 S1 w1 o1 => by
      show Q true H1
      exact q H1 S1 (Shp.refl _) o1⟩
/-! and, or, not as values -/
theorem de_one {op : BoolOp} (h : DE X ρ a d ρ1) : DE X ρ (.BoolOp op [a] pos) d ρ1 := let ⟨_, p1, r1⟩ := h; ⟨_, pe_one p1, r1⟩
theorem de_andV {b1 b2 : Bool} (h : DE X ρ a (B b1) ρ) (h2 : b1 = true → DE X ρ (.BoolOp .And (b :: es) pos) (B b2) ρ) : DE X ρ (.BoolOp .And (a :: b :: es) pos) (B (b1 && b2)) ρ := by
  obtain ⟨ta, p1, r1⟩ := h
  cases b1 with
  | true =>
    obtain ⟨tb, p2, r2⟩ := h2 rfl
    exact ⟨_, pe_and p1 p2, fun F0 F M H0 σ H Q S q => r1 F0 F M H0 σ H _ S fun v H1 S1 w1 o1 q1 => by
      cases q1
      refine ⟨true, rfl, ?_⟩
      show tb σ H1 Q
      exact r2 F0 F M H0 σ H1 Q S1 fun u H2 S2 w2 o2 q2 => q u H2 S2 (Shp.refl _) (o1.trans o2) q2⟩
  | false =>
    exact ⟨tAndV ta (fun _ _ _ => False), pe_and p1 ⟨fun pins s σ H Q I h => h.elim⟩, fun F0 F M H0 σ H Q S q => r1 F0 F M H0 σ H _ S fun v H1 S1 w1 o1 q1 => by
      cases q1
      refine ⟨false, rfl, ?_⟩
      show Q (.bl false) H1
      exact q _ H1 S1 (Shp.refl _) o1 (.bl _)⟩
theorem de_notV {b1 : Bool} (h : DE X ρ a (B b1) ρ1) : DE X ρ (.UnaryOp .Not a pos) (B (!b1)) ρ1 := let ⟨_, p1, r1⟩ := h; ⟨_, pe_not p1, fun F0 F M H0 σ H Q S q => r1 F0 F M H0 σ H _ S fun v H1 S1 w1 o1 q1 => by
  cases q1
  exact ⟨_, rfl, q _ H1 S1 w1 o1 (.bl _)⟩⟩
/-- a if c else b -/
theorem de_if {b1 : Bool} {d : D} (hc : DT X ρ c b1 ρ) (h1 : b1 = true → DE X ρ a d ρ) (h2 : b1 = false → DE X ρ b d ρ) : DE X ρ (.IfExp c a b pos) d ρ := by
  obtain ⟨tc, p1, r1⟩ := hc
  cases b1 with
  | true =>
    obtain ⟨ta, p2, r2⟩ := h1 rfl
    exact ⟨tIf tc ta (fun _ _ _ => False), pe_ifExp p1 p2 ⟨fun pins s σ H Q I h => h.elim⟩, fun F0 F M H0 σ H Q S q => r1 F0 F M H0 σ H _ S fun H1 S1 w1 o1 => by
      show ta σ H1 Q
      exact r2 F0 F M H0 σ H1 Q S1 fun u H2 S2 w2 o2 q2 => q u H2 S2 (Shp.refl _) (o1.trans o2) q2⟩
  | false =>
    obtain ⟨tb, p2, r2⟩ := h2 rfl
    exact ⟨tIf tc (fun _ _ _ => False) tb, pe_ifExp p1 ⟨fun pins s σ H Q I h => h.elim⟩ p2, fun F0 F M H0 σ H Q S q => r1 F0 F M H0 σ H _ S fun H1 S1 w1 o1 => by
      show tb σ H1 Q
      exact r2 F0 F M H0 σ H1 Q S1 fun u H2 S2 w2 o2 q2 => q u H2 S2 (Shp.refl _) (o1.trans o2) q2⟩
/-! arguments and displays -/
theorem da_nil : DA X ρ [] [] ρ := ⟨_, pa_nil, ra_nil⟩
theorem da_cons {dr : List D} (h : DE X ρ a d ρ1) (hr : DA X ρ1 es dr ρ2) (hs : starEach (a :: es) X.env = (false, eval a X.env) :: starEach es X.env := by rfl) : DA X ρ (a :: es) (d :: dr) ρ2 := let ⟨_, p1, r1⟩ := h; let ⟨_, p2, r2⟩ := hr; ⟨_, pa_cons p1 p2 hs, ra_cons r1 r2⟩
/-- arguments that are all plain data -/
def RP (K : PySem.W.Frag) (ρ : List Sl) (ta : TA) (ds : List PyData) (ρ' : List Sl) : Prop :=
  ∀ (F0 F M : Addr → Prop) (H0 : Hp) (σ : L2.St) (H : Hp) (Q : List V → Hp → Prop), SR K F0 F M H0 ρ σ H →
    (∀ vs H', SR K F0 F M H0 ρ' σ H' → Shp ρ ρ' → Off (Ow ρ σ) H H' → RpAll K F H' vs ds → Q vs H') → ta σ H Q
structure DP (X : Cx) (ρ : List Sl) (es : List Expr) (ds : List PyData) (ρ' : List Sl) : Prop where
  ou : ∃ ta, PA X es ta ∧ RP X.K ρ ta ds ρ'
theorem dp_nil : DP X ρ [] [] ρ := ⟨_, pa_nil, fun F0 F M H0 σ H Q S k => k [] H S (Shp.refl _) Off.refl .nil⟩
theorem dp_cons (h : DE X ρ a (.py x) ρ1) (hr : DP X ρ1 es ds ρ2) (hs : starEach (a :: es) X.env = (false, eval a X.env) :: starEach es X.env := by rfl) : DP X ρ (a :: es) (x :: ds) ρ2 :=
  let ⟨_, p1, r1⟩ := h; let ⟨_, p2, r2⟩ := hr; ⟨_, pa_cons p1 p2 hs, fun F0 F M H0 σ H Q S k => r1 F0 F M H0 σ H _ S fun v H1 S1 w1 o1 q1 => r2 F0 F M H0 σ H1 _ S1 fun vs H2 S2 w2 o2 q2 =>
    k _ H2 S2 (w1.trans w2) (off2 o1 w1 o2) (.cons (Rp.ker (S1.ker o2) q1) q2)⟩
theorem de_tup {n : Nat} (h : DP X ρ es ds ρ1) (hl : ds.length ≤ 100000 := by decide) : DE X ρ (.Tuple es n pos) (Tu ds) ρ1 := let ⟨_, p1, r1⟩ := h; ⟨_, pe_tup p1, fun F0 F M H0 σ H Q S q => r1 F0 F M H0 σ H _ S fun vs H1 S1 w1 o1 q1 =>
  ⟨by rw [q1.length]; exact Nat.le_trans hl (by decide), fun t ht => by
    have s : Same H1 (upd H1 t (.tup vs)) := same_new ht
    exact q _ _ (S1.grow s) w1 (o1.trans (Off.same s)) (.tup (.inl upd_same) (q1.ker (Ker.same s)))⟩⟩
theorem dl_lst (h : DP X ρ es ds ρ1) (hl : ds.length ≤ 100000 := by decide) : DL X ρ (.List es pos) ds ρ1 := let ⟨_, p1, r1⟩ := h; ⟨_, pe_lst p1, fun F0 F M H0 σ H Q S q => r1 F0 F M H0 σ H _ S fun vs H1 S1 w1 o1 q1 =>
  ⟨by rw [q1.length]; exact Nat.le_trans hl (by decide), fun t ht => by
    obtain ⟨S2, q2⟩ := rl_of_new (te' := fun _ _ _ => True) S1 ht q1
    have hn : H t = none := by
      cases e : H t with
      | none => rfl
      | some o =>
        by_cases z : Ow ρ σ t
        · obtain ⟨o', e'⟩ := S1.all t (S.owF z)
          rw [ht] at e'
          cases e'
        · obtain ⟨o', e'⟩ := (o1 t o e z).ex
          rw [ht] at e'
          cases e'
    exact q _ _ _ hn S2 w1 (o1.trans (Off.same (same_new ht))) upd_same q2⟩⟩
end
end Bw
/-! Lay3: sequences, built-in calls, own defs, instances. -/
namespace Bw
open PySem PySem.Spec PyProof.Rows L2

theorem sz (n : Nat) (h : n ≤ 100000) : n ≤ sizeLine := Nat.le_trans h (by decide)
/-- a new tuple -/
theorem rd_newT {K : PySem.W.Frag} {F : Addr → Prop} {H : Hp} {t : Addr} {vs : List V} {ds : List PyData} (ht : H t = none) (r : RpAll K F H vs ds) : Same H (upd H t (.tup vs)) ∧ RD K F (upd H t (.tup vs)) (.ref t) (Tu ds) :=
  ⟨same_new ht, Rp.tup (.inl upd_same) (r.ker (Ker.same (same_new ht)))⟩
/-- two expressions, then a rule that gives a new list -/
theorem rl_op {K : PySem.W.Frag} {ρ ρ1 ρ2 : List Sl} {ta tb : TE} {r : R2} {dx dy : D} {ds : List PyData} (ha : RE K ρ ta dx ρ1) (hb : RE K ρ1 tb dy ρ2)
    (hr : ∀ (F : Addr → Prop) (H : Hp) (v w : V), RD K F H v dx → RD K F H w dy → ∀ Q : VK, (∀ p vs, H p = none → RpAll K F H vs ds → Q (.ref p) (upd H p (.lst vs))) → r v w H Q) : RL K ρ (tOp r ta tb) ds ρ2 := fun F0 F M H0 σ H Q S k =>
  ha F0 F M H0 σ H _ S fun v H1 S1 w1 o1 r1 => hb F0 F M H0 σ H1 _ S1 fun w H2 S2 w2 o2 r2 => hr F H2 v w (r1.ker (S1.ker o2)) r2 Q fun p vs hp rr => by
    obtain ⟨S3, r3⟩ := rl_of_new (te' := fun _ _ _ => True) S2 hp rr
    have o := off2 o1 w1 o2
    have hn : H p = none := by
      cases e : H p with
      | none => rfl
      | some u =>
        by_cases z : Ow ρ σ p
        · obtain ⟨o', e'⟩ := S2.all p (S.owF z)
          rw [hp] at e'
          cases e'
        · obtain ⟨o', e'⟩ := (o p u e z).ex
          rw [hp] at e'
          cases e'
    exact k p vs _ hn S3 (w1.trans w2) (o.trans (Off.same (same_new hp))) upd_same r3
theorem new_back {K : PySem.W.Frag} {F0 F M : Addr → Prop} {H0 H H' : Hp} {ρ ρ' : List Sl} {σ : L2.St} (S : SR K F0 F M H0 ρ σ H) (S' : SR K F0 F M H0 ρ' σ H') (o : Off (Ow ρ σ) H H') {p : Addr} (hp : H' p = none) : H p = none := by
  cases e : H p with
  | none => rfl
  | some u =>
    by_cases z : Ow ρ σ p
    · obtain ⟨o', e'⟩ := S'.all p (S.owF z)
      rw [hp] at e'
      cases e'
    · obtain ⟨o', e'⟩ := (o p u e z).ex
      rw [hp] at e'
      cases e'
section
variable {X : Cx} {ρ ρ1 ρ2 ρ3 : List Sl} {a b c e : Expr} {es : List Expr} {pos p p2 : Pos} {d : D} {x y z : PyData} {ds fs : List PyData} {i j k : Int} {bb b1 b2 : Bool}
/-! tuples and lists put behind one another, repeated -/
theorem de_cat (ha : DE X ρ a (Tu ds) ρ1) (hb : DE X ρ1 b (Tu fs) ρ2) (hl : ds.length + fs.length ≤ 100000) : DE X ρ (.BinOp a .Add b pos) (Tu (ds ++ fs)) ρ2 := by
  obtain ⟨_, p1, r1⟩ := ha
  obtain ⟨_, p2, r2⟩ := hb
  refine ⟨_, pe_op op_catA p1 p2, re_op r1 r2 fun F H v w q1 q2 Q q => ?_⟩
  cases q1 with
  | tup h1 g1 =>
    cases q2 with
    | tup h2 g2 =>
      refine ⟨_, _, _, _, rfl, rfl, h1.sq, h2.sq, by rw [g1.length, g2.length]; exact sz _ hl, fun e1 => ?_, fun e1 e2 => ?_, fun e1 e2 t ht => ?_⟩
      · subst e1
        have e3 : ds = [] := by cases g1; rfl
        subst e3
        exact q _ H (Same.refl _) (.tup h2 g2)
      · subst e2
        have e3 : fs = [] := by cases g2; rfl
        subst e3
        rw [List.append_nil] at q
        exact q _ H (Same.refl _) (.tup h1 g1)
      · obtain ⟨s, r⟩ := rd_newT ht (g1.append g2)
        exact q _ _ s r
theorem dl_cat (ha : DL X ρ a ds ρ) (hb : DL X ρ b fs ρ) (hl : ds.length + fs.length ≤ 100000) : DL X ρ (.BinOp a .Add b pos) (ds ++ fs) ρ := by
  obtain ⟨_, p1, r1⟩ := ha
  obtain ⟨_, p2, r2⟩ := hb
  refine ⟨_, pe_op op_cat p1 p2, rl_op r1.ex r2.ex fun F H v w q1 q2 Q q => ?_⟩
  cases q1 with
  | lst h1 n1 g1 =>
    cases q2 with
    | lst h2 n2 g2 => exact ⟨_, _, _, _, rfl, rfl, h1, h2, by rw [g1.length, g2.length]; exact sz _ hl, fun t ht => q t _ ht (g1.append g2)⟩
theorem dl_catE (ha : DE X ρ a (Li ds) ρ1) (hb : DE X ρ1 b (Li fs) ρ2) (hl : ds.length + fs.length ≤ 100000) : DL X ρ (.BinOp a .Add b pos) (ds ++ fs) ρ2 := by
  obtain ⟨_, p1, r1⟩ := ha
  obtain ⟨_, p2, r2⟩ := hb
  refine ⟨_, pe_op op_cat p1 p2, rl_op r1 r2 fun F H v w q1 q2 Q q => ?_⟩
  cases q1 with
  | lst h1 n1 g1 =>
    cases q2 with
    | lst h2 n2 g2 => exact ⟨_, _, _, _, rfl, rfl, h1, h2, by rw [g1.length, g2.length]; exact sz _ hl, fun t ht => q t _ ht (g1.append g2)⟩
theorem de_rep (ha : DE X ρ a (Tu ds) ρ1) (hb : DE X ρ1 b (I k) ρ2) (hd : ds ≠ []) (h1 : 1 ≤ k) (h2 : k ≤ 1000) (hl : ds.length ≤ 1000) : DE X ρ (.BinOp a .Mult b pos) (Tu (List.replicate k.toNat ds).flatten) ρ2 := by
  obtain ⟨_, p1, r1⟩ := ha
  obtain ⟨_, p2, r2⟩ := hb
  refine ⟨_, pe_op op_repA p1 p2, re_op r1 r2 fun F H v w q1 q2 Q q => ?_⟩
  cases q2
  cases q1 with
  | @tup t xs _ h3 g1 =>
    by_cases e : k = 1
    · subst e
      refine .inl ⟨_, _, rfl, rfl, h3.sq, q _ H (Same.refl _) ?_⟩
      have e2 : (List.replicate (1 : Int).toNat ds).flatten = ds := by simp
      rw [e2]
      exact .tup h3 g1
    · refine .inr ⟨_, _, xs, rfl, rfl, h3.sq, fun z => ?_, by omega, h2, by rw [g1.length]; exact hl, fun t ht => ?_⟩
      · subst z
        cases g1
        exact hd rfl
      · obtain ⟨s, r⟩ := rd_newT ht (g1.rep k.toNat)
        exact q _ _ s r
theorem dl_rep (ha : DE X ρ a (Li ds) ρ1) (hb : DE X ρ1 b (I k) ρ2) (h1 : 0 ≤ k) (h2 : k ≤ 1000) (hl : ds.length ≤ 100) : DL X ρ (.BinOp a .Mult b pos) (List.replicate k.toNat ds).flatten ρ2 := by
  obtain ⟨_, p1, r1⟩ := ha
  obtain ⟨_, p2, r2⟩ := hb
  refine ⟨_, pe_op op_rep p1 p2, rl_op r1 r2 fun F H v w q1 q2 Q q => ?_⟩
  cases q2
  cases q1 with
  | lst h3 n1 g1 =>
    refine ⟨_, _, _, rfl, rfl, h3, by omega, by omega, ?_, fun t ht => q t _ ht (g1.rep k.toNat)⟩
    rw [g1.length]
    refine sz _ ?_
    have a1 : ds.length * k.toNat ≤ 100 * 1000 := Nat.mul_le_mul hl (by omega)
    exact a1
/-! an item, a part -/
theorem atI_map {α β : Type} {R : α → β → Prop} {xs : List α} {ys : List β} (hl : xs.length = ys.length) (h : ∀ (j : Nat) (y : β), ys[j]? = some y → ∃ x, xs[j]? = some x ∧ R x y) {i : Int} {y : β} (e : atI ys i = some y) : ∃ x, atI xs i = some x ∧ R x y := by
  unfold atI at e ⊢
  rw [hl]
  cases q : ixN ys.length i with
  | none =>
    rw [q] at e
    cases e
  | some j =>
    rw [q] at e
    obtain ⟨x, h1, h2⟩ := h j y e
    exact ⟨x, h1, h2⟩
theorem de_ix (ha : DQ X ρ a bb ds ρ1) (hb : DE X ρ1 b (I k) ρ1) (h : atI ds k = some x) (hs : PlainIx b := by exact fun _ _ => rfl) : DE X ρ (.Subscript a b pos) (.py x) ρ1 := by
  obtain ⟨_, p1, r1⟩ := ha
  obtain ⟨_, p2, r2⟩ := hb
  refine ⟨_, pe_ix ix_seq p1 p2 hs, fun F0 F M H0 σ H Q S q => r1 F0 F M H0 σ H _ S fun t vs H1 S1 w1 o1 n1 h1 g1 => r2 F0 F M H0 σ H1 _ S1 fun w H2 S2 w2 o2 q2 => ?_⟩
  cases q2
  have g2 := g1.ker (S1.ker o2)
  obtain ⟨v, e1, e2⟩ := atI_map (R := fun v d => Rp X.K F H2 v d) g2.length (fun j y e => g2.get' e) h
  cases bb with
  | true =>
    have h2 : H2 t = some (.lst vs) := o2 t _ h1 fun z => n1 rfl (w1.ow.mp z)
    exact .inl ⟨_, _, _, _, rfl, rfl, SqL.of h2, e1, q _ H2 S2 w1 (off2 o1 w1 o2) e2⟩
  | false =>
    have h2 : Tp X.K H1 t vs := h1
    exact .inr (.inl ⟨_, _, _, _, rfl, rfl, (h2.ker (S1.ker o2)).sq, e1, q _ H2 S2 w1 (off2 o1 w1 o2) e2⟩)
/-- the index's making may change what is handed in -/
theorem de_ixE (ha : DE X ρ a (Li ds) ρ1) (hb : DE X ρ1 b (I k) ρ2) (h : atI ds k = some x) (hs : PlainIx b := by exact fun _ _ => rfl) : DE X ρ (.Subscript a b pos) (.py x) ρ2 := by
  obtain ⟨_, p1, r1⟩ := ha
  obtain ⟨_, p2, r2⟩ := hb
  refine ⟨_, pe_ix ix_seq p1 p2 hs, re_op r1 r2 fun F H v w q1 q2 Q q => ?_⟩
  cases q2
  cases q1 with
  | lst h1 n1 g1 =>
    obtain ⟨v, e1, e2⟩ := atI_map (R := fun v d => Rp X.K F H v d) g1.length (fun j y e => g1.get' e) h
    exact .inl ⟨_, _, _, _, rfl, rfl, SqL.of h1, e1, q _ H (Same.refl _) e2⟩
/-- the parts of a slice -/
structure DO (X : Cx) (ρ : List Sl) (e : Option Expr) (o : Option Int) : Prop where
  ou : ∃ to, PO X e to ∧ ∀ (F0 F M : Addr → Prop) (H0 : Hp) (σ : L2.St) (H : Hp) (Q : Option Int → Hp → Prop), SR X.K F0 F M H0 ρ σ H →
    (∀ H', SR X.K F0 F M H0 ρ σ H' → Off (Ow ρ σ) H H' → Q o H') → to σ H Q
theorem do_none : DO X ρ none none := ⟨_, po_none, fun F0 F M H0 σ H Q S q => q H S Off.refl⟩
theorem do_some (h : DE X ρ a (I i) ρ) : DO X ρ (some a) (some i) := let ⟨_, p1, r1⟩ := h; ⟨_, po_some p1, fun F0 F M H0 σ H Q S q => r1 F0 F M H0 σ H _ S fun v H1 S1 w1 o1 q1 => by
  cases q1
  exact ⟨_, rfl, q H1 S1 o1⟩⟩
def cutD (ds : List PyData) (lo hi : Option Int) : List PyData := (ds.drop (HT.sIx ds.length 0 lo)).take (HT.sIx ds.length ds.length hi - HT.sIx ds.length 0 lo)
theorem cut_all {α : Type} (ds : List α) (lo hi : Option Int) (h1 : HT.sIx ds.length 0 lo = 0) (h2 : HT.sIx ds.length ds.length hi = ds.length) : (ds.drop (HT.sIx ds.length 0 lo)).take (HT.sIx ds.length ds.length hi - HT.sIx ds.length 0 lo) = ds := by
  rw [h1, h2]
  simp
theorem de_slT {lo hi : Option Expr} {l h : Option Int} (ha : DE X ρ a (Tu ds) ρ) (h1 : DO X ρ lo l) (h2 : DO X ρ hi h) : DE X ρ (.Subscript a (.Slice lo hi none p2) pos) (Tu (cutD ds l h)) ρ := by
  obtain ⟨_, p1, r1⟩ := ha
  obtain ⟨_, q1, s1⟩ := h1
  obtain ⟨_, q2, s2⟩ := h2
  refine ⟨_, pe_slice sl_tupA p1 q1 q2, fun F0 F M H0 σ H Q S q => r1 F0 F M H0 σ H _ S fun v H1 S1 w1 o1 g1 => s1 F0 F M H0 σ H1 _ S1 fun H2 S2 o2 => s2 F0 F M H0 σ H2 _ S2 fun H3 S3 o3 => ?_⟩
  have g3 : RD X.K F H3 v (Tu ds) := (g1.ker (S1.ker o2)).ker (S2.ker o3)
  have oo := (o1.trans o2).trans o3
  cases g3 with
  | tup t1 t2 =>
    refine ⟨_, _, rfl, t1.sq, fun e => ?_, fun _ t ht => ?_⟩
    · have e2 : cutD ds l h = ds := cut_all ds l h (by rw [← t2.length]; exact e.1) (by rw [← t2.length]; exact e.2)
      rw [e2] at q
      exact q _ H3 S3 (Shp.refl _) oo (.tup t1 t2)
    · obtain ⟨s, r⟩ := rd_newT ht (t2.cut l h)
      exact q _ _ (S3.grow s) (Shp.refl _) (oo.trans (Off.same s)) r
theorem dl_slL {lo hi : Option Expr} {l h : Option Int} (ha : DQ X ρ a true ds ρ) (h1 : DO X ρ lo l) (h2 : DO X ρ hi h) : DL X ρ (.Subscript a (.Slice lo hi none p2) pos) (cutD ds l h) ρ := by
  obtain ⟨_, p1, r1⟩ := ha
  obtain ⟨_, q1, s1⟩ := h1
  obtain ⟨_, q2, s2⟩ := h2
  refine ⟨_, pe_slice sl_list p1 q1 q2, fun F0 F M H0 σ H Q S q => r1 F0 F M H0 σ H _ S fun t vs H1 S1 w1 o1 n1 l1 g1 => s1 F0 F M H0 σ H1 _ S1 fun H2 S2 o2 => s2 F0 F M H0 σ H2 _ S2 fun H3 S3 o3 => ?_⟩
  have g3 := (g1.ker (S1.ker o2)).ker (S2.ker o3)
  have l3 : H3 t = some (.lst vs) := o3 _ _ (o2 _ _ l1 (n1 rfl)) (n1 rfl)
  have oo := (o1.trans o2).trans o3
  refine ⟨t, vs, rfl, SqL.of l3, fun t ht => ?_⟩
  obtain ⟨S4, r4⟩ := rl_of_new (te' := fun _ _ _ => True) S3 ht (g3.cut l h)
  exact q t _ _ (new_back S S3 oo ht) S4 (Shp.refl _) (oo.trans (Off.same (same_new ht))) upd_same r4
/-! built-in calls -/
section
variable (hl : X.mg "len" = none)
theorem de_len (ha : DQ X ρ a bb ds ρ1) (hm : X.mg "len" = none) (hg : Gl X "len" := by rfl) (he : starEach [a] X.env = (false, eval a X.env) :: starEach [] X.env := by rfl) : DE X ρ (.Call (.Name "len" p) [a] [] pos) (I (ds.length : Int)) ρ1 := by
  obtain ⟨_, p1, r1⟩ := ha
  refine ⟨_, pe_callB call_len_seq hg hm PySem.boot_len (pa_cons p1 pa_nil he) (by decide) (by decide) he, re_cbq r1 fun F H t vs q1 q2 Q q => ?_⟩
  refine ⟨t, vs, rfl, ?_, ?_⟩
  · cases bb with
    | true => exact .inl (SqL.of q1)
    | false => exact .inr (Tp.sq q1)
  · rw [q2.length]
    exact q _ H (Same.refl _) (.int _)
end
theorem dl_list (ha : DQ X ρ a bb ds ρ1) (hm : X.mg "list" = none) (hg : Gl X "list" := by rfl) (he : starEach [a] X.env = (false, eval a X.env) :: starEach [] X.env := by rfl) : DL X ρ (.Call (.Name "list" p) [a] [] pos) ds ρ1 := by
  obtain ⟨_, p1, r1⟩ := ha
  refine ⟨_, pe_callTy call_list_of hg hm (by decide +kernel) (pa_cons p1 pa_nil he) (by decide) (by decide) he, fun F0 F M H0 σ H Q S q => r1 F0 F M H0 σ H _ S fun t vs H1 S1 w1 o1 n1 q1 g1 => ?_⟩
  refine ⟨t, vs, rfl, ?_, fun l hl => ?_⟩
  · cases bb with
    | true => exact .inl (SqL.of q1)
    | false => exact .inr (Tp.sq q1)
  · obtain ⟨S2, r2⟩ := rl_of_new (te' := fun _ _ _ => True) S1 hl g1
    exact q l vs _ (new_back S S1 o1 hl) S2 w1 (o1.trans (Off.same (same_new hl))) upd_same r2
theorem de_tuple (ha : DQ X ρ a true ds ρ1) (hm : X.mg "tuple" = none) (hg : Gl X "tuple" := by rfl) (he : starEach [a] X.env = (false, eval a X.env) :: starEach [] X.env := by rfl) : DE X ρ (.Call (.Name "tuple" p) [a] [] pos) (Tu ds) ρ1 := by
  obtain ⟨_, p1, r1⟩ := ha
  refine ⟨_, pe_callTy call_tuple_of hg hm (by decide +kernel) (pa_cons p1 pa_nil he) (by decide) (by decide) he, re_cbq r1 fun F H t vs q1 q2 Q q => ?_⟩
  refine ⟨t, vs, rfl, .inl ⟨SqL.of q1, fun l hl => ?_⟩⟩
  obtain ⟨s, r⟩ := rd_newT hl q2
  exact q _ _ s r
theorem de_intB (ha : DE X ρ a (B bb) ρ1) (hm : X.mg "int" = none) (hg : Gl X "int" := by rfl) (he : starEach [a] X.env = (false, eval a X.env) :: starEach [] X.env := by rfl) : DE X ρ (.Call (.Name "int" p) [a] [] pos) (I (if bb then 1 else 0)) ρ1 := by
  obtain ⟨_, p1, r1⟩ := ha
  refine ⟨_, pe_callTy call_int1 hg hm (by decide +kernel) (pa_cons p1 pa_nil he) (by decide) (by decide) he, re_cb (ra_cons r1 ra_nil) fun F H vs q1 Q q => ?_⟩
  cases q1 with
  | cons g gs =>
    cases gs
    cases g
    exact .inr ⟨_, rfl, q _ H (Same.refl _) (.int _)⟩
theorem de_abs (ha : DE X ρ a (I i) ρ1) (hm : X.mg "abs" = none) (hg : Gl X "abs" := by rfl) (he : starEach [a] X.env = (false, eval a X.env) :: starEach [] X.env := by rfl) : DE X ρ (.Call (.Name "abs" p) [a] [] pos) (I (if i < 0 then -i else i)) ρ1 := by
  obtain ⟨_, p1, r1⟩ := ha
  refine ⟨_, pe_callB call_abs hg hm PyProof.Rows.boot_abs (pa_cons p1 pa_nil he) (by decide) (by decide) he, re_cb (ra_cons r1 ra_nil) fun F H vs q1 Q q => ?_⟩
  cases q1 with
  | cons g gs =>
    cases gs
    cases g
    exact ⟨_, rfl, q _ H (Same.refl _) (.int _)⟩
theorem rp_ints {K : PySem.W.Frag} {F : Addr → Prop} {H : Hp} : ∀ {ns : List Int} {vs : List V}, RpAll K F H vs (ns.map PyData.int) → vs = ns.map V.int
  | [], _, .nil => rfl
  | n :: ns, _, .cons h r => by
    cases h
    rw [rp_ints r]
    rfl
theorem rp_bools {K : PySem.W.Frag} {F : Addr → Prop} {H : Hp} : ∀ {ns : List Bool} {vs : List V}, RpAll K F H vs (ns.map PyData.bool) → vs = ns.map V.bl
  | [], _, .nil => rfl
  | n :: ns, _, .cons h r => by
    cases h
    rw [rp_bools r]
    rfl
theorem de_sum {ns : List Int} (ha : DQ X ρ a true (ns.map PyData.int) ρ1) (hc : X.calm = true) (hm : X.mg "sum" = none) (hg : Gl X "sum" := by rfl) (he : starEach [a] X.env = (false, eval a X.env) :: starEach [] X.env := by rfl) : DE X ρ (.Call (.Name "sum" p) [a] [] pos) (I ns.sum) ρ1 := by
  obtain ⟨_, p1, r1⟩ := ha
  refine ⟨_, pe_callB (cr_sum hc) hg hm (by decide +kernel) (pa_cons p1 pa_nil he) (by decide) (by decide) he, re_cbq r1 fun F H t vs q1 q2 Q q => ?_⟩
  have e := rp_ints q2
  subst e
  exact ⟨t, ns, rfl, SqL.of q1, q _ H (Same.refl _) (.int _)⟩
theorem de_all {bs : List Bool} (ha : DQ X ρ a true (bs.map PyData.bool) ρ1) (hc : X.calm = true) (hm : X.mg "all" = none) (hg : Gl X "all" := by rfl) (he : starEach [a] X.env = (false, eval a X.env) :: starEach [] X.env := by rfl) : DE X ρ (.Call (.Name "all" p) [a] [] pos) (B (bs.all id)) ρ1 := by
  obtain ⟨_, p1, r1⟩ := ha
  refine ⟨_, pe_callB (cr_all hc) hg hm (by decide +kernel) (pa_cons p1 pa_nil he) (by decide) (by decide) he, re_cbq r1 fun F H t vs q1 q2 Q q => ?_⟩
  have e := rp_bools q2
  subst e
  exact ⟨t, bs, rfl, SqL.of q1, q _ H (Same.refl _) (.bl _)⟩
theorem de_max (ha : DE X ρ a (I i) ρ) (hb : DE X ρ b (I j) ρ) (hc : X.calm = true) (hm : X.mg "max" = none) (hg : Gl X "max" := by rfl) (he : starEach [a, b] X.env = (false, eval a X.env) :: starEach [b] X.env := by rfl) (he2 : starEach [b] X.env = (false, eval b X.env) :: starEach [] X.env := by rfl) (hpl : (backTo pos (starEach [b] X.env)).any (·.1) = false := by rfl) : DE X ρ (.Call (.Name "max" p) [a, b] [] pos) (I (if j > i then j else i)) ρ := by
  obtain ⟨_, p1, r1⟩ := ha
  obtain ⟨_, p2, r2⟩ := hb
  refine ⟨_, pe_callB (call_max2 hc) hg hm (by decide +kernel) (pa_cons p1 (pa_cons p2 pa_nil he2) he) (by decide) (by decide) he hpl, re_cb (ra_cons r1 (ra_cons r2 ra_nil)) fun F H vs q1 Q q => ?_⟩
  cases q1 with
  | cons g gs =>
    cases gs with
    | cons g2 gs =>
      cases gs
      cases g
      cases g2
      exact ⟨_, _, rfl, q _ H (Same.refl _) (.int _)⟩
theorem de_min (ha : DE X ρ a (I i) ρ) (hb : DE X ρ b (I j) ρ) (hc : X.calm = true) (hm : X.mg "min" = none) (hg : Gl X "min" := by rfl) (he : starEach [a, b] X.env = (false, eval a X.env) :: starEach [b] X.env := by rfl) (he2 : starEach [b] X.env = (false, eval b X.env) :: starEach [] X.env := by rfl) (hpl : (backTo pos (starEach [b] X.env)).any (·.1) = false := by rfl) : DE X ρ (.Call (.Name "min" p) [a, b] [] pos) (I (if j < i then j else i)) ρ := by
  obtain ⟨_, p1, r1⟩ := ha
  obtain ⟨_, p2, r2⟩ := hb
  refine ⟨_, pe_callB (call_min2 hc) hg hm (by decide +kernel) (pa_cons p1 (pa_cons p2 pa_nil he2) he) (by decide) (by decide) he hpl, re_cb (ra_cons r1 (ra_cons r2 ra_nil)) fun F H vs q1 Q q => ?_⟩
  cases q1 with
  | cons g gs =>
    cases gs with
    | cons g2 gs =>
      cases gs
      cases g
      cases g2
      exact ⟨_, _, rfl, q _ H (Same.refl _) (.int _)⟩
/-! in, not in -/
theorem inV_ints {n : Int} : ∀ {ns : List Int}, inV (.int n) (ns.map V.int) = decide (n ∈ ns)
  | [] => rfl
  | m :: ns => by
    have ih := inV_ints (n := n) (ns := ns)
    unfold inV at ih ⊢
    rw [List.map_cons, List.any_cons, ih]
    have e : eqV (.int m) (.int n) = decide (n = m) := by
      show (m == n) = decide (n = m)
      rw [Bool.beq_eq_decide_eq]
      by_cases h : m = n
      · rw [decide_eq_true h, decide_eq_true h.symm]
      · rw [decide_eq_false h, decide_eq_false fun q => h q.symm]
    rw [e, ← Bool.decide_or]
    congr 1
    exact propext List.mem_cons.symm
theorem flat_ints (ns : List Int) : (ns.map V.int).all flatV = true := by
  rw [List.all_map]
  exact List.all_eq_true.mpr fun _ _ => rfl
theorem dc_inI {ns : List Int} (ha : DE X ρ a (I i) ρ1) (hb : DE X ρ1 b (Tu (ns.map PyData.int)) ρ2) : DC X ρ a .In b (decide (i ∈ ns)) ρ2 := by
  obtain ⟨_, p1, r1⟩ := ha
  obtain ⟨_, p2, r2⟩ := hb
  refine ⟨_, _, _, op_in_seq, p1, p2, re_op r1 r2 fun F H v w q1 q2 Q q => ?_⟩
  cases q1
  cases q2 with
  | tup h g =>
    have e := rp_ints g
    subst e
    refine ⟨_, _, rfl, .inr h.sq, rfl, flat_ints ns, ?_⟩
    rw [inV_ints]
    exact q _ H (Same.refl _) (.bl _)
theorem dc_notInI {ns : List Int} (ha : DE X ρ a (I i) ρ1) (hb : DE X ρ1 b (Tu (ns.map PyData.int)) ρ2) : DC X ρ a .NotIn b (!decide (i ∈ ns)) ρ2 := by
  obtain ⟨_, p1, r1⟩ := ha
  obtain ⟨_, p2, r2⟩ := hb
  refine ⟨_, _, _, op_notIn_seq, p1, p2, re_op r1 r2 fun F H v w q1 q2 Q q => ?_⟩
  cases q1
  cases q2 with
  | tup h g =>
    have e := rp_ints g
    subst e
    refine ⟨_, _, rfl, .inr h.sq, rfl, flat_ints ns, ?_⟩
    rw [inV_ints]
    exact q _ H (Same.refl _) (.bl _)
theorem dc_inD (ha : DE X ρ a (.py x) ρ1) (hb : DE X ρ1 b (Li ds) ρ2) (hu : X.A.units + 65 < cLine) (s1 : SeqAt.shaped x = true) (s2 : SeqAt.shaped (.list ds) = true) : DC X ρ a .In b (ds.any fun z => PyData.eqv z x) ρ2 := by
  obtain ⟨_, p1, r1⟩ := ha
  obtain ⟨_, p2, r2⟩ := hb
  exact ⟨_, _, _, op_inD hu, p1, p2, re_op r1 r2 fun F H v w q1 q2 Q q => ⟨x, ds, Rp.dp q1, Rp.dp q2, s1, s2, q _ H (Same.refl _) (.bl _)⟩⟩
end
end Bw
/-! Lay4: own defs called, instances with one attribute. -/
namespace Bw
open PySem PySem.Spec PyProof.Rows L2

/-- what a def promises that changes nothing: by the arguments' data its result's data -/
def SpD (K : PySem.W.Frag) (pre : List D → D → Prop) : Sp := fun vs H Q _ => ∃ (F : Addr → Prop) (ds : List D) (d : D), (∀ a, F a → ∃ o, H a = some o) ∧ TbI K H ∧ RDs K F H vs ds ∧ pre ds d ∧ ∀ v H', Sm H H' → TbI K H' → RD K F H' v d → Q v H'
/-- .. that changes the list of one number handed in -/
def SpS (K : PySem.W.Frag) (pre : Int → List D → List D → D → Int → Prop) : Sp := fun vs H Q _ => ∃ (F : Addr → Prop) (s : Addr) (n : Int) (v1 v2 : List V) (d1 d2 : List D) (d : D) (n' : Int), vs = v1 ++ V.ref s :: v2 ∧ (∀ a, F a → ∃ o, H a = some o) ∧ TbI K H ∧ F s ∧ H s = some (.lst [.int n]) ∧
  RDs K F H v1 d1 ∧ RDs K F H v2 d2 ∧ pre n d1 d2 d n' ∧ ∀ v H', Off (fun a => a = s) H H' → TbI K H' → H' s = some (.lst [.int n']) → RD K F H' v d → Q v H'
/-- a def of the text, found by its name -/
structure Cal (P : Program) (w : World) (K : PySem.W.Frag) (mg : Str → Option Value) (base : Heap) (x : Str) (k : Nat) (ps : List Str) (sp : Sp) : Prop where
  ex : ∃ (f : Addr) (fd : FuncData), mg x = some (.ref f) ∧ PySem.W.keepIn K (.ref f) = true ∧ Binds K fd ps [] ∧ FnOk P w K mg base CX0 k f fd ps sp
/-- a method of the class at C -/
structure Cam (P : Program) (w : World) (K : PySem.W.Frag) (mg : Str → Option Value) (base : Heap) (C : Addr) (m : Str) (k : Nat) (ps : List Str) (sp : Sp) : Prop where
  cl : Cls K C
  ex : ∃ (f : Addr) (fd : FuncData), Meth K C m f ∧ Binds K fd ps [] ∧ FnOk P w K mg base CX0 k f fd ps sp

section
variable {X : Cx} {ρ ρ1 ρ2 ρ3 : List Sl} {a b c e o : Expr} {es : List Expr} {pos p p2 apos : Pos} {d : D} {x m : Str} {k : Nat} {ps : List Str} {dr : List D} {pre : List D → D → Prop}
theorem re_call {K : PySem.W.Frag} {t : TA} (ha : RA K ρ t dr ρ1) (hp : pre dr d) : RE K ρ (tCall (SpD K pre) [] E0 t) d ρ1 := fun F0 F M H0 σ H Q S q =>
  ha F0 F M H0 σ H _ S fun vs H1 S1 w1 o1 g1 => ⟨F, dr, d, S1.all, S1.tb, by rw [List.append_nil]; exact g1, hp, fun v H2 s2 t2 r2 => q v H2 (S1.growT s2 t2) w1 (o1.trans (Off.sm s2)) r2⟩
theorem de_call {j : Nat} (C : Cal X.prog X.w X.K X.mg X.base x k ps (SpD X.K pre)) (hr : Room j X.A) (ha : DA X ρ (a :: es) dr ρ1) (hp : pre dr d) (hj : k ≤ j := by decide) (hg : Gl X x := by rfl) (hdb : (x == ("__debug__" : Str)) = false := by decide)
    (he : starEach (a :: es) X.env = (false, eval a X.env) :: starEach es X.env := by rfl) (hpl : (backTo pos (starEach es X.env)).any (·.1) = false := by rfl) : DE X ρ (.Call (.Name x p) (a :: es) [] pos) d ρ1 := by
  obtain ⟨f, fd, hm, hk, hb, F⟩ := C.ex
  obtain ⟨_, p1, r1⟩ := ha
  exact ⟨_, pe_call F (hr.mono hj) hg hm hk hb .nil pass0 p1 hdb he hpl, re_call r1 hp⟩
/-- the arguments of a call one of which is the list handed in at slot i -/
def RAS (K : PySem.W.Frag) (ρ : List Sl) (i : Nat) (ta : TA) (d1 d2 : List D) (ρ' : List Sl) : Prop :=
  ∀ (F0 F M : Addr → Prop) (H0 : Hp) (σ : L2.St) (H : Hp) (Q : List V → Hp → Prop), SR K F0 F M H0 ρ σ H →
    (∀ v1 l v2 H', SR K F0 F M H0 ρ' σ H' → Shp ρ ρ' → Off (Ow ρ σ) H H' → σ[i]? = some (some (V.ref l)) → RDs K F H' v1 d1 → RDs K F H' v2 d2 → Q (v1 ++ V.ref l :: v2) H') → ta σ H Q
structure DAS (X : Cx) (ρ : List Sl) (i : Nat) (es : List Expr) (d1 d2 : List D) (ρ' : List Sl) : Prop where
  ou : ∃ ta, PA X es ta ∧ RAS X.K ρ i ta d1 d2 ρ'
theorem das_here (i : Nat) {ds : List PyData} {y : Str} (hr : DA X ρ es dr ρ1) (h : ρ[i]? = some (Sl.own true ds) := by rfl) (hN : X.N[i]? = some y := by rfl) (hv : Vis X.env.scope y := by first | exact Or.inl rfl | exact Or.inr (Or.inl rfl) | exact Or.inr (Or.inr rfl))
    (hs : starEach (.Name y p :: es) X.env = (false, eval (.Name y p) X.env) :: starEach es X.env := by rfl) (hd : (y == ("__debug__" : Str)) = false := by decide) (hcd : (y == ("__classdict__" : Str)) = false := by decide) : DAS X ρ i (.Name y p :: es) [] dr ρ1 := by
  obtain ⟨_, p1, r1⟩ := hr
  refine ⟨_, pa_cons (pe_var hN hv hd hcd) p1 hs, fun F0 F M H0 σ H Q S q => ?_⟩
  obtain ⟨l, vs, h1, h2, h3, _⟩ := S.own i true ds h
  exact ⟨_, h1, r1 F0 F M H0 σ H _ S fun v2 H1 S1 w1 o1 g1 => q [] l v2 H1 S1 w1 o1 h1 .nil g1⟩
theorem das_cons {i : Nat} {d1 d2 : List D} (ha : DE X ρ a d ρ) (hr : DAS X ρ i es d1 d2 ρ1) (hs : starEach (a :: es) X.env = (false, eval a X.env) :: starEach es X.env := by rfl) : DAS X ρ i (a :: es) (d :: d1) d2 ρ1 := by
  obtain ⟨_, p1, r1⟩ := ha
  obtain ⟨_, p2, r2⟩ := hr
  exact ⟨_, pa_cons p1 p2 hs, fun F0 F M H0 σ H Q S q => r1 F0 F M H0 σ H _ S fun v H1 S1 w1 o1 g1 => r2 F0 F M H0 σ H1 _ S1 fun v1 l v2 H2 S2 w2 o2 e g2 g3 =>
    q (v :: v1) l v2 H2 S2 w2 (o1.trans o2) e (.cons (g1.ker (S1.ker o2)) g2) g3⟩
theorem rp_int1 {K : PySem.W.Frag} {F : Addr → Prop} {H : Hp} {vs : List V} {n : Int} (h : RpAll K F H vs [.int n]) : vs = [.int n] := by
  cases h with
  | cons a r =>
    cases r
    cases a
    rfl
/-- the list handed in now holds n' -/
theorem SR.put {K : PySem.W.Frag} {F0 F M : Addr → Prop} {H0 H H' : Hp} {σ : L2.St} {i : Nat} {l : Addr} {n n' : Int} (S : SR K F0 F M H0 ρ σ H) (h : ρ[i]? = some (Sl.own true [.int n])) (e : σ[i]? = some (some (V.ref l))) (o : Off (fun a => a = l) H H') (tb : TbI K H') (hl : H' l = some (.lst [.int n'])) :
    SR K F0 F M H0 (ρ.set i (.own true [.int n'])) σ H' ∧ Shp ρ (ρ.set i (.own true [.int n'])) ∧ Off (Ow ρ σ) H H' := by
  obtain ⟨l', vs, h1, h2, h3, h4, h5⟩ := S.own i true _ h
  rw [e] at h1
  cases h1
  have hM : M l := by simpa using h5
  have oo : Off (Ow ρ σ) H H' := fun b u q nb => o b u q fun z => nb (by rw [z]; exact ⟨i, _, h, e⟩)
  have kk := S.ker oo
  have hi : i < ρ.length := (List.getElem?_eq_some_iff.mp h).1
  refine ⟨⟨by rw [List.length_set]; exact S.len, fun b u q nb => (S.same b u q nb).trans fun w q2 => o b w q2 fun z => nb (by rw [z]; exact hM), S.sub, fun a f => ?_, S.mf, fun j dj ej => ?_, fun j mj dj ej => ?_, fun j1 j2 m1 m2 ds1 ds2 l1 e1 e2 => ?_, S.m0, tb⟩, fun j mj => ?_, oo⟩
  · by_cases z : a = l
    · rw [z]
      exact ⟨_, hl⟩
    · obtain ⟨u, q⟩ := S.all a f
      exact (o a u q z).ex
  · by_cases z : i = j
    · subst z
      rw [List.getElem?_set_self hi] at ej
      cases ej
    · rw [List.getElem?_set_ne z] at ej
      obtain ⟨v, q1, q2⟩ := S.val j dj ej
      exact ⟨v, q1, q2.ker kk⟩
  · by_cases z : i = j
    · subst z
      rw [List.getElem?_set_self hi] at ej
      cases ej
      exact ⟨l, [.int n'], e, hl, .cons (.int _) .nil, h4, by simpa using hM⟩
    · rw [List.getElem?_set_ne z] at ej
      obtain ⟨l2, vs2, q1, q2, q3, q4, q5⟩ := S.own j mj dj ej
      have ne : l2 ≠ l := fun q => z (S.inj i j _ _ _ _ l h ej e (by rw [← q]; exact q1))
      exact ⟨l2, vs2, q1, o l2 _ q2 ne, q3.ker kk, q4, q5⟩
  · have back : ∀ (j : Nat) (mj : Bool) (dj : List PyData), (ρ.set i (Sl.own true [.int n']))[j]? = some (Sl.own mj dj) → ∃ mk dk, ρ[j]? = some (Sl.own mk dk) := fun j mj dj ej => by
      by_cases z : i = j
      · subst z
        exact ⟨_, _, h⟩
      · rw [List.getElem?_set_ne z] at ej
        exact ⟨_, _, ej⟩
    obtain ⟨_, _, b1⟩ := back j1 m1 ds1 e1
    obtain ⟨_, _, b2⟩ := back j2 m2 ds2 e2
    exact S.inj j1 j2 _ _ _ _ l1 b1 b2
  · by_cases z : i = j
    · subst z
      rw [List.getElem?_set_self hi, h]
      constructor
      · rintro ⟨ds, q⟩
        cases q
        exact ⟨_, rfl⟩
      · rintro ⟨ds, q⟩
        cases q
        exact ⟨_, rfl⟩
    · rw [List.getElem?_set_ne z]
/-- the call of a def that changes the list handed in -/
theorem de_callS {j i : Nat} {n n' : Int} {d1 d2 : List D} {spre : Int → List D → List D → D → Int → Prop} (C : Cal X.prog X.w X.K X.mg X.base x k ps (SpS X.K spre)) (hr : Room j X.A) (ha : DAS X ρ i (a :: es) d1 d2 ρ) (h : ρ[i]? = some (Sl.own true [.int n])) (hp : spre n d1 d2 d n') (hj : k ≤ j := by decide) (hg : Gl X x := by rfl)
    (hdb : (x == ("__debug__" : Str)) = false := by decide) (he : starEach (a :: es) X.env = (false, eval a X.env) :: starEach es X.env := by rfl) (hpl : (backTo pos (starEach es X.env)).any (·.1) = false := by rfl) : DE X ρ (.Call (.Name x p) (a :: es) [] pos) d (ρ.set i (.own true [.int n'])) := by
  obtain ⟨f, fd, hm, hk, hb, F⟩ := C.ex
  obtain ⟨_, p1, r1⟩ := ha
  refine ⟨_, pe_call F (hr.mono hj) hg hm hk hb .nil pass0 p1 hdb he hpl, fun F0 F M H0 σ H Q S q => r1 F0 F M H0 σ H _ S fun v1 l v2 H1 S1 w1 o1 e g1 g2 => ?_⟩
  obtain ⟨l', vs, h1, h2, h3, h4, h5⟩ := S1.own i true _ h
  rw [e] at h1
  cases h1
  have ev := rp_int1 h3
  subst ev
  refine ⟨F, l, n, v1, v2, d1, d2, d, n', by rw [List.append_nil], S1.all, S1.tb, h4, h2, g1, g2, hp, fun v H2 o2 t2 hl r2 => ?_⟩
  obtain ⟨S2, w2, oo⟩ := S1.put h e o2 t2 hl
  exact q v H2 S2 w2 (o1.trans oo) r2
/-! instances with one attribute -/
/-- an instance of the class at C whose only attribute is nm, d -/
def Ins (K : PySem.W.Frag) (C : Addr) (nm : Str) (d : PyData) : D := .ob fun F H v => ∃ (a dx : Addr) (t : V), v = .ref a ∧ H a = some (.ins C dx [(nm, t)]) ∧ Rp K F H t d
theorem ins_rd {K : PySem.W.Frag} {C : Addr} {nm : Str} {d : PyData} {F : Addr → Prop} {H : Hp} {v t : V} {a dx : Addr} (e : v = .ref a) (h : H a = some (.ins C dx [(nm, t)])) (r : Rp K F H t d) : RD K F H v (Ins K C nm d) :=
  ⟨⟨a, dx, t, e, h, r⟩, fun F' H' k => ⟨a, dx, t, e, k.k a _ h rfl, r.ker k⟩⟩
theorem de_fld {C : Addr} {nm : Str} {d : PyData} (ha : DE X ρ a (Ins X.K C nm d) ρ1) (cl : Cls X.K C) (na : NoAttr X.K C nm) (hb : attributeBase a nm X.env (eval a X.env) = eval a X.env := by rfl) : DE X ρ (.Attribute a nm pos) (.py d) ρ1 := by
  obtain ⟨_, p1, r1⟩ := ha
  refine ⟨_, pe_fld p1 hb, fun F0 F M H0 σ H Q S q => r1 F0 F M H0 σ H _ S fun v H1 S1 w1 o1 g1 => ?_⟩
  obtain ⟨⟨t, dx, u, e, h, r⟩, _⟩ := g1
  refine ⟨t, C, dx, _, u, e, h, cl, na, ?_, q u H1 S1 w1 o1 r⟩
  rw [List.lookup_cons, beq_self_eq_true]
theorem de_meth0 {pl : Sem Bool} {C : Addr} {nm : Str} {dt : PyData} {j : Nat} (ho : DE X ρ o (Ins X.K C nm dt) ρ1) (M : Cam X.prog X.w X.K X.mg X.base C m k ps (SpD X.K pre)) (hr : Room j X.A) (hp : pre [Ins X.K C nm dt] d) (hj : k ≤ j := by decide) (hmn : (m == nm) = false := by decide)
    (ht : eval (.Call (.Attribute o m apos) [] [] pos) X.env = (do
      let ov ← eval o X.env
      standAt apos.atName
      let (f, first) ← holding [ov] (getMethod ov m pl)
      callWith pos f first [] []) := by rfl) : DE X ρ (.Call (.Attribute o m apos) [] [] pos) d ρ1 := by
  obtain ⟨f, fd, hm, hb, F⟩ := M.ex
  obtain ⟨_, p1, r1⟩ := ho
  refine ⟨_, pe_meth0 p1 M.cl hm F (hr.mono hj) hb .nil pass0 ht, fun F0 F M H0 σ H Q S q => r1 F0 F M H0 σ H _ S fun v H1 S1 w1 o1 g1 => ?_⟩
  obtain ⟨⟨t, dx, u, e, h, r⟩, _⟩ := id g1
  refine ⟨t, dx, _, e, h, ?_, ⟨F, _, d, S1.all, S1.tb, .cons g1 .nil, hp, fun v H2 s2 t2 r2 => q v H2 (S1.growT s2 t2) w1 (o1.trans (Off.sm s2)) r2⟩⟩
  rw [List.lookup_cons, hmn]
  rfl
theorem de_meth {pl : Sem Bool} {C : Addr} {nm : Str} {dt : PyData} {j : Nat} (ho : DE X ρ o (Ins X.K C nm dt) ρ1) (M : Cam X.prog X.w X.K X.mg X.base C m k ps (SpD X.K pre)) (hr : Room j X.A) (ha : DA X ρ1 (a :: es) dr ρ2) (hp : pre (Ins X.K C nm dt :: dr) d) (hj : k ≤ j := by decide) (hmn : (m == nm) = false := by decide)
    (hst : starEach (a :: es) X.env = (false, eval a X.env) :: starEach es X.env := by rfl) (hpl : (backTo pos (starEach es X.env)).any (·.1) = false := by rfl)
    (ht : eval (.Call (.Attribute o m apos) (a :: es) [] pos) X.env = (do
      let ov ← eval o X.env
      standAt apos.atName
      let (f, first) ← holding [ov] (getMethod ov m pl)
      callWith pos f first (backTo pos (starEach (a :: es) X.env)) []) := by rfl) : DE X ρ (.Call (.Attribute o m apos) (a :: es) [] pos) d ρ2 := by
  obtain ⟨f, fd, hm, hb, F⟩ := M.ex
  obtain ⟨_, p1, r1⟩ := ho
  obtain ⟨_, p2, r2⟩ := ha
  refine ⟨_, pe_meth p1 M.cl hm F (hr.mono hj) hb .nil pass0 p2 hst hpl ht, fun F0 F M H0 σ H Q S q => r1 F0 F M H0 σ H _ S fun v H1 S1 w1 o1 g1 => ?_⟩
  obtain ⟨⟨t, dx, u, e, h, r⟩, _⟩ := id g1
  refine ⟨t, dx, _, e, h, ?_, r2 F0 F M H0 σ H1 _ S1 fun vs H2 S2 w2 o2 g2 => ⟨F, _, d, S2.all, S2.tb, by rw [List.append_nil]; exact .cons (g1.ker (S1.ker o2)) g2, hp, fun v H3 s3 t3 r3 => q v H3 (S2.growT s3 t3) (w1.trans w2) ((off2 o1 w1 o2).trans (Off.sm s3)) r3⟩⟩
  rw [List.lookup_cons, hmn]
  rfl
/-- what an __init__ of one argument promises that sets the one attribute -/
def SpI (K : PySem.W.Frag) (C : Addr) (nm : Str) (pre : D → PyData → Prop) : Sp := fun vs H Q _ => ∃ (F : Addr → Prop) (t dx : Addr) (v : V) (d : D) (dt : PyData), vs = [.ref t, v] ∧ (∀ a, F a → ∃ o, H a = some o) ∧ TbI K H ∧ H t = some (.ins C dx []) ∧ RD K F H v d ∧ pre d dt ∧
  ∀ u H', Off (fun a => a = t) H H' → TbI K H' → H' t = some (.ins C dx [(nm, u)]) → Rp K F H' u dt → Q .non H'
structure CaI (P : Program) (w : World) (K : PySem.W.Frag) (mg : Str → Option Value) (base : Heap) (x : Str) (C : Addr) (k : Nat) (ps : List Str) (sp : Sp) : Prop where
  mgC : mg x = some (.ref C)
  ex : ∃ (f : Addr) (fd : FuncData), Mk K C f ∧ Binds K fd ps [] ∧ FnOk P w K mg base CX0 k f fd ps sp
theorem de_make {C : Addr} {nm : Str} {dt : PyData} {j : Nat} {ipre : D → PyData → Prop} (M : CaI X.prog X.w X.K X.mg X.base x C k ps (SpI X.K C nm ipre)) (hr : Room j X.A) (ha : DE X ρ a d ρ1) (hp : ipre d dt) (hj : k + 1 ≤ j := by decide) (hg : Gl X x := by rfl) (hdb : (x == ("__debug__" : Str)) = false := by decide)
    (he : starEach [a] X.env = (false, eval a X.env) :: starEach [] X.env := by rfl) : DE X ρ (.Call (.Name x p) [a] [] pos) (Ins X.K C nm dt) ρ1 := by
  obtain ⟨f, fd, mk, hb, F⟩ := M.ex
  obtain ⟨_, p1, r1⟩ := ha
  refine ⟨_, pe_make mk F (hr.mono hj) hg M.mgC hb .nil pass0 (pa_cons p1 pa_nil he) hdb he, fun F0 F M H0 σ H Q S q => r1 F0 F M H0 σ H _ S fun v H1 S1 w1 o1 g1 t dx nt ndx ne => ?_⟩
  have s1 : Same H1 (upd (upd H1 dx (.own t)) t (.ins C dx [])) := fun b u eb => by
    rw [upd_ne (ne_of_none eb nt), upd_ne (ne_of_none eb ndx)]
    exact eb
  refine ⟨F, t, dx, v, d, dt, rfl, fun c f => ?_, S1.tb.same s1, upd_same, g1.ker (Ker.same s1), hp, fun u H2 o2 t2 h2 r2 => ⟨rfl, ?_⟩⟩
  · obtain ⟨o, eo⟩ := S1.all c f
    exact ⟨o, s1 c o eo⟩
  · have s2 : Sm H1 H2 := fun b u' eb => o2 b u' (s1 b u' eb) (ne_of_none eb nt)
    exact q _ H2 (S1.growT s2 t2) w1 (o1.trans (Off.sm s2)) (ins_rd rfl h2 r2)
/-! isinstance -/
def tyD : PyData → String
  | .none => "NoneType"
  | .bool _ => "bool"
  | .int _ => "int"
  | .str _ => "str"
  | .list _ => "list"
  | .tuple _ => "tuple"
  | .dict _ => "dict"
theorem ty_of {K : PySem.W.Frag} {F : Addr → Prop} {H : Hp} {v : V} {d : PyData} (h : Rp K F H v d) : TyX K H v (.type (tyD d)) := by
  cases h with
  | non => exact .base .non
  | bl b => exact .base (.bl b)
  | int i => exact .base (.int i)
  | str x => exact .base (.str x)
  | lst h n r => exact .base (.lst h)
  | tup h r =>
    rcases h with h | ⟨o, its, n, h1, h2, _⟩
    · exact .base (.tup h)
    · exact .kTuple h1 h2
theorem de_isi {d : PyData} {n : String} {r : Bool} {T : Str} (ha : DE X ρ a (.py d) ρ1) (hv : bootBuiltins T = some (.type n)) (hk : kitB (tyD d) n = some r) (hm : X.mg "isinstance" = none) (hmT : X.mg T = none) (hg : Gl X "isinstance" := by rfl) (hgT : Gl X T := by rfl) (hn : T ≠ "__name__" := by decide) (hd : (T == ("__debug__" : Str)) = false := by decide)
    (he : starEach [a, .Name T p2] X.env = (false, eval a X.env) :: starEach [.Name T p2] X.env := by rfl) (he2 : starEach [.Name T p2] X.env = (false, eval (.Name T p2) X.env) :: starEach [] X.env := by rfl) (hpl : (backTo pos (starEach [.Name T p2] X.env)).any (·.1) = false := by rfl) :
    DE X ρ (.Call (.Name "isinstance" p) [a, .Name T p2] [] pos) (B r) ρ1 := by
  obtain ⟨_, p1, r1⟩ := ha
  refine ⟨_, pe_callB call_isi hg hm (by decide +kernel) (pa_cons p1 (pa_cons (pe_bltn (v := .ty n) hgT hmT hv rfl hn hd) pa_nil he2) he) (by decide) (by decide) he hpl, fun F0 F M H0 σ H Q S q => r1 F0 F M H0 σ H _ S fun v H1 S1 w1 o1 g1 => ?_⟩
  exact ⟨v, .ty n, .type (tyD d), .type n, r, rfl, .ty n, ty_of g1, kit_ty hk, q _ H1 S1 w1 o1 (.bl _)⟩
/-- of an instance and its own class -/
theorem de_isiO {C : Addr} {nm : Str} {d : PyData} {T : Str} (ha : DE X ρ a (Ins X.K C nm d) ρ1) (cl : Cls X.K C) (h1 : PySem.W.findIn X.K (.ref C) "__class__" = some (some (.builtin "object.__class__"))) (h2 : PySem.W.specialIn X.K (.builtin "object.__class__") "__get__" = some (some (.builtin "getset_descriptor.__get__")))
    (h3 : PySem.W.takesIn X.K (.builtin "object.__class__") = some true) (h4 : PySem.W.mroIn X.K C (.type "object") = some true) (hm : X.mg "isinstance" = none) (hmT : X.mg T = some (.ref C)) (hg : Gl X "isinstance" := by rfl) (hgT : Gl X T := by rfl) (hd : (T == ("__debug__" : Str)) = false := by decide)
    (he : starEach [a, .Name T p2] X.env = (false, eval a X.env) :: starEach [.Name T p2] X.env := by rfl) (he2 : starEach [.Name T p2] X.env = (false, eval (.Name T p2) X.env) :: starEach [] X.env := by rfl) (hpl : (backTo pos (starEach [.Name T p2] X.env)).any (·.1) = false := by rfl) :
    DE X ρ (.Call (.Name "isinstance" p) [a, .Name T p2] [] pos) (B true) ρ1 := by
  obtain ⟨_, p1, r1⟩ := ha
  refine ⟨_, pe_callB call_isi hg hm (by decide +kernel) (pa_cons p1 (pa_cons (pe_glob (v := .ref C) hgT hmT rfl hd) pa_nil he2) he) (by decide) (by decide) he hpl, fun F0 F M H0 σ H Q S q => r1 F0 F M H0 σ H _ S fun v H1 S1 w1 o1 g1 => ?_⟩
  obtain ⟨⟨t, dx, u, e, h, r⟩, _⟩ := id g1
  subst e
  refine ⟨.ref t, .ref C, .ref C, .ref C, true, rfl, .own C, .base (.ins h cl h1 h2 h3 h4), ?_, q _ H1 S1 w1 o1 (.bl _)⟩
  unfold PySem.W.kitOne
  rw [if_pos (by simp)]
end
end Bw
/-! Lay5: statements over environments of data. -/
namespace Bw
open PySem PySem.Spec PyProof.Rows L2

/-- what is wanted behind a statement, by the environment (and what is returned) -/
structure Po where
  nx : List Sl → Prop
  rt : List Sl → D → Prop
  bk : List Sl → Prop := fun _ => False
  ct : List Sl → Prop := fun _ => False
def RS (K : PySem.W.Frag) (ρ : List Sl) (ts : TS) (P : Po) : Prop :=
  ∀ (F0 F M : Addr → Prop) (H0 : Hp) (σ : L2.St) (H : Hp) (E : Ends), SR K F0 F M H0 ρ σ H →
    (∀ F' ρ' σ' H', P.nx ρ' → SR K F0 F' M H0 ρ' σ' H' → Ker F H F' H' → E.nx σ' H') →
    (∀ F' ρ' σ' H' d v, P.rt ρ' d → SR K F0 F' M H0 ρ' σ' H' → Ker F H F' H' → RD K F0 H' v d → E.rt v H') →
    (∀ F' ρ' σ' H', P.bk ρ' → SR K F0 F' M H0 ρ' σ' H' → Ker F H F' H' → E.bk σ' H') →
    (∀ F' ρ' σ' H', P.ct ρ' → SR K F0 F' M H0 ρ' σ' H' → Ker F H F' H' → E.ct σ' H') → ts E σ H
structure DS (X : Cx) (ρ : List Sl) (st : Stmt) (P : Po) : Prop where
  ou : ∃ ts, PS X st ts ∧ RS X.K ρ ts P
structure DSs (X : Cx) (ρ : List Sl) (st : List Stmt) (P : Po) : Prop where
  ou : ∃ ts, PSs X st ts ∧ RS X.K ρ ts P

/-- a slot gets a value -/
theorem SR.setVal {K : PySem.W.Frag} {F0 F M : Addr → Prop} {H0 H : Hp} {ρ : List Sl} {σ : L2.St} {i : Nat} {v : V} {d : D} (S : SR K F0 F M H0 ρ σ H) (r : RD K F H v d) : SR K F0 F M H0 (ρ.set i (.val d)) (σ.set i (some v)) H where
  len := by rw [List.length_set, List.length_set, S.len]
  same := S.same
  sub := S.sub
  all := S.all
  mf := S.mf
  val := fun j dj e => by
    by_cases z : i = j
    · subst z
      have hi : i < ρ.length := by
        have q := (List.getElem?_eq_some_iff.mp e).1
        rwa [List.length_set] at q
      rw [List.getElem?_set_self hi] at e
      cases e
      exact ⟨v, by rw [List.getElem?_set_self (by rw [← S.len]; exact hi)], r⟩
    · rw [List.getElem?_set_ne z] at e
      obtain ⟨u, h1, h2⟩ := S.val j dj e
      exact ⟨u, by rw [List.getElem?_set_ne z]; exact h1, h2⟩
  own := fun j m ds e => by
    by_cases z : i = j
    · subst z
      have hi : i < ρ.length := by
        have q := (List.getElem?_eq_some_iff.mp e).1
        rwa [List.length_set] at q
      rw [List.getElem?_set_self hi] at e
      cases e
    · rw [List.getElem?_set_ne z] at e
      obtain ⟨l, vs, h1, h2⟩ := S.own j m ds e
      exact ⟨l, vs, by rw [List.getElem?_set_ne z]; exact h1, h2⟩
  inj := fun j1 j2 m1 m2 d1 d2 l e1 e2 q1 q2 => by
    have back : ∀ (j : Nat) (m : Bool) (ds : List PyData), (ρ.set i (Sl.val d))[j]? = some (Sl.own m ds) → (σ.set i (some v))[j]? = some (some (V.ref l)) → ρ[j]? = some (Sl.own m ds) ∧ σ[j]? = some (some (V.ref l)) := fun j m ds e q => by
      by_cases z : i = j
      · subst z
        have hi : i < ρ.length := by
          have q := (List.getElem?_eq_some_iff.mp e).1
          rwa [List.length_set] at q
        rw [List.getElem?_set_self hi] at e
        cases e
      · rw [List.getElem?_set_ne z] at e q
        exact ⟨e, q⟩
    obtain ⟨a1, b1⟩ := back j1 m1 d1 e1 q1
    obtain ⟨a2, b2⟩ := back j2 m2 d2 e2 q2
    exact S.inj j1 j2 _ _ _ _ l a1 a2 b1 b2
  m0 := S.m0
  tb := S.tb
/-- a slot gets a new list of its own -/
theorem SR.setOwn {K : PySem.W.Frag} {F0 F M : Addr → Prop} {H0 H : Hp} {ρ : List Sl} {σ : L2.St} {i : Nat} {p : Addr} {vs : List V} {ds : List PyData} (S : SR K F0 F M H0 ρ σ H) (hp : H p = some (.lst vs)) (r : RpAll K F H vs ds) (f : F p) (h0 : H0 p = none) (n0 : ¬ F0 p)
    (nw : ∀ (j : Nat) (m : Bool) (es : List PyData), ρ[j]? = some (Sl.own m es) → σ[j]? ≠ some (some (V.ref p))) : SR K F0 F M H0 (ρ.set i (.own false ds)) (σ.set i (some (.ref p))) H where
  len := by rw [List.length_set, List.length_set, S.len]
  same := S.same
  sub := S.sub
  all := S.all
  mf := S.mf
  val := fun j dj e => by
    by_cases z : i = j
    · subst z
      have hi : i < ρ.length := by
        have q := (List.getElem?_eq_some_iff.mp e).1
        rwa [List.length_set] at q
      rw [List.getElem?_set_self hi] at e
      cases e
    · rw [List.getElem?_set_ne z] at e
      obtain ⟨u, h1, h2⟩ := S.val j dj e
      exact ⟨u, by rw [List.getElem?_set_ne z]; exact h1, h2⟩
  own := fun j m es e => by
    by_cases z : i = j
    · subst z
      have hi : i < ρ.length := by
        have q := (List.getElem?_eq_some_iff.mp e).1
        rwa [List.length_set] at q
      rw [List.getElem?_set_self hi] at e
      cases e
      exact ⟨p, vs, by rw [List.getElem?_set_self (by rw [← S.len]; exact hi)], hp, r, f, by simp [h0, n0]⟩
    · rw [List.getElem?_set_ne z] at e
      obtain ⟨l, vs, h1, h2⟩ := S.own j m es e
      exact ⟨l, vs, by rw [List.getElem?_set_ne z]; exact h1, h2⟩
  inj := fun j1 j2 m1 m2 d1 d2 l e1 e2 q1 q2 => by
    have back : ∀ (j : Nat) (m : Bool) (es : List PyData), (ρ.set i (Sl.own false ds))[j]? = some (Sl.own m es) → (σ.set i (some (V.ref p)))[j]? = some (some (V.ref l)) → (i = j ∧ l = p) ∨ (i ≠ j ∧ ρ[j]? = some (Sl.own m es) ∧ σ[j]? = some (some (V.ref l))) := fun j m es e q => by
      by_cases z : i = j
      · subst z
        have hi : i < σ.length := by
          have q := (List.getElem?_eq_some_iff.mp q).1
          rwa [List.length_set] at q
        rw [List.getElem?_set_self hi] at q
        cases q
        exact .inl ⟨rfl, rfl⟩
      · rw [List.getElem?_set_ne z] at e q
        exact .inr ⟨z, e, q⟩
    rcases back j1 m1 d1 e1 q1 with ⟨a1, b1⟩ | ⟨z1, a1, b1⟩ <;> rcases back j2 m2 d2 e2 q2 with ⟨a2, b2⟩ | ⟨z2, a2, b2⟩
    · rw [← a1, ← a2]
    · subst b1
      exact absurd b2 (nw j2 _ _ a2)
    · subst b2
      exact absurd b1 (nw j1 _ _ a1)
    · exact S.inj j1 j2 _ _ _ _ l a1 a2 b1 b2
  m0 := S.m0
  tb := S.tb
/-- the list at l, held by slot i, is changed -/
theorem SR.mut {K : PySem.W.Frag} {F0 F M : Addr → Prop} {H0 H : Hp} {ρ : List Sl} {σ : L2.St} {i : Nat} {m : Bool} {l : Addr} {vs us : List V} {ds es : List PyData} (S : SR K F0 F M H0 ρ σ H) (h : ρ[i]? = some (Sl.own m ds)) (e : σ[i]? = some (some (V.ref l))) (hl : H l = some (.lst vs)) (r : RpAll K F H us es) :
    SR K F0 F M H0 (ρ.set i (.own m es)) σ (upd H l (.lst us)) ∧ Ker F H F (upd H l (.lst us)) := by
  obtain ⟨l', vs', h1, h2, h3, h4, h5⟩ := S.own i m _ h
  rw [e] at h1
  cases h1
  have kk : Ker F H F (upd H l (.lst us)) := ⟨fun b o q hk => by
    rw [upd_ne fun z => by
      rw [z, hl] at q
      cases q
      cases hk]
    exact q, fun a xs n q => by
    rw [upd_ne fun z => n (by rw [z]; exact h4)]
    exact ⟨q, n⟩⟩
  have hi : i < ρ.length := (List.getElem?_eq_some_iff.mp h).1
  refine ⟨⟨by rw [List.length_set]; exact S.len, fun b u q nb => ?_, S.sub, fun a f => ?_, S.mf, fun j dj ej => ?_, fun j mj dj ej => ?_, fun j1 j2 m1 m2 ds1 ds2 l1 e1 e2 => ?_, S.m0, S.tb.keep fun b o q hx => by
    rw [upd_ne fun z => by
      rw [z, hl] at q
      cases q
      cases hx]
    exact q⟩, kk⟩
  · rw [upd_ne fun z => ?_]
    · exact S.same b u q nb
    · subst z
      cases m with
      | true => exact nb (by simpa using h5)
      | false =>
        have h6 : H0 b = none ∧ ¬ F0 b := by simpa using h5
        rw [h6.1] at q
        cases q
  · by_cases z : a = l
    · rw [z]
      exact ⟨_, upd_same⟩
    · obtain ⟨u, q⟩ := S.all a f
      exact ⟨u, by rw [upd_ne z]; exact q⟩
  · by_cases z : i = j
    · subst z
      rw [List.getElem?_set_self hi] at ej
      cases ej
    · rw [List.getElem?_set_ne z] at ej
      obtain ⟨v, q1, q2⟩ := S.val j dj ej
      exact ⟨v, q1, q2.ker kk⟩
  · by_cases z : i = j
    · subst z
      rw [List.getElem?_set_self hi] at ej
      cases ej
      exact ⟨l, us, e, upd_same, r.ker kk, h4, h5⟩
    · rw [List.getElem?_set_ne z] at ej
      obtain ⟨l2, vs2, q1, q2, q3, q4, q5⟩ := S.own j mj dj ej
      have ne : l2 ≠ l := fun q => z (S.inj i j _ _ _ _ l h ej e (by rw [← q]; exact q1))
      exact ⟨l2, vs2, q1, by rw [upd_ne ne]; exact q2, q3.ker kk, q4, q5⟩
  · have back : ∀ (j : Nat) (mj : Bool) (dj : List PyData), (ρ.set i (Sl.own m es))[j]? = some (Sl.own mj dj) → ∃ mk dk, ρ[j]? = some (Sl.own mk dk) := fun j mj dj ej => by
      by_cases z : i = j
      · subst z
        exact ⟨_, _, h⟩
      · rw [List.getElem?_set_ne z] at ej
        exact ⟨_, _, ej⟩
    obtain ⟨_, _, b1⟩ := back j1 m1 ds1 e1
    obtain ⟨_, _, b2⟩ := back j2 m2 ds2 e2
    exact S.inj j1 j2 _ _ _ _ l1 b1 b2
/-- a new list's address is no slot's -/
theorem SR.nosl {K : PySem.W.Frag} {F0 F M : Addr → Prop} {H0 H : Hp} {ρ ρ' : List Sl} {σ : L2.St} {p : Addr} (S : SR K F0 F M H0 ρ σ H) (w : Shp ρ ρ') (hp : H p = none) (j : Nat) (m : Bool) (es : List PyData) (e : ρ'[j]? = some (Sl.own m es)) : σ[j]? ≠ some (some (V.ref p)) := fun q => by
  obtain ⟨fs, e2⟩ := (w j m).mp ⟨es, e⟩
  obtain ⟨l, vs, h1, h2, _⟩ := S.own j m fs e2
  rw [q] at h1
  cases h1
  rw [hp] at h2
  cases h2

theorem SR.h0 {K : PySem.W.Frag} {F0 F M : Addr → Prop} {H0 H : Hp} {ρ : List Sl} {σ : L2.St} {p : Addr} (S : SR K F0 F M H0 ρ σ H) (hp : H p = none) : H0 p = none := by
  cases e : H0 p with
  | none => rfl
  | some o =>
    by_cases z : M p
    · obtain ⟨o', e'⟩ := S.all p (S.mf p z)
      rw [hp] at e'
      cases e'
    · obtain ⟨o', q⟩ := (S.same p o e z).ex
      rw [hp] at q
      cases q
theorem SR.kerL {K : PySem.W.Frag} {F0 F M : Addr → Prop} {H0 H H' : Hp} {ρ : List Sl} {σ : L2.St} {p : Addr} {vs : List V} (S : SR K F0 F M H0 ρ σ H) (o : Off (Ow ρ σ) H H') (hl : H' p = some (.lst vs)) (hp : H p = none) : Ker F H (fun a => F a ∨ a = p) H' :=
  ⟨(S.ker o).k, fun a xs n q => ⟨((S.ker o).l a xs n q).1, fun z => z.elim n fun w => by
    rw [w, hp] at q
    cases q⟩⟩

section
variable {X : Cx} {ρ ρ1 ρ2 ρ3 : List Sl} {a b c e o : Expr} {es : List Expr} {pos p p2 apos : Pos} {d : D} {x m : Str} {st : Stmt} {rest : List Stmt} {P : Po} {dx : PyData} {ds fs : List PyData} {i j k : Int} {bb : Bool}
theorem rs_seq {K : PySem.W.Frag} {t u : TS} (h : RS K ρ t { P with nx := fun ρ' => RS K ρ' u P }) : RS K ρ (tSeq t u) P := fun F0 F M H0 σ H E S q1 q2 q3 q4 =>
  h F0 F M H0 σ H { E with nx := u E } S (fun F' ρ' σ' H' n S' k => n F0 F' M H0 σ' H' E S' (fun F2 ρ2 σ2 H2 n2 S2 k2 => q1 F2 ρ2 σ2 H2 n2 S2 (k.trans k2)) (fun F2 ρ2 σ2 H2 d v n2 S2 k2 r => q2 F2 ρ2 σ2 H2 d v n2 S2 (k.trans k2) r)
    (fun F2 ρ2 σ2 H2 n2 S2 k2 => q3 F2 ρ2 σ2 H2 n2 S2 (k.trans k2)) (fun F2 ρ2 σ2 H2 n2 S2 k2 => q4 F2 ρ2 σ2 H2 n2 S2 (k.trans k2))) q2 q3 q4
theorem dss_nil (h : P.nx ρ) : DSs X ρ [] P := ⟨_, pss_nil, fun F0 F M H0 σ H E S q1 q2 q3 q4 => q1 F ρ σ H h S (Ker.refl _ _)⟩
theorem dss_one (h : DS X ρ st P) : DSs X ρ [st] P := let ⟨_, p1, r1⟩ := h; ⟨_, pss_one p1, r1⟩
theorem RS.mono {K : PySem.W.Frag} {t : TS} {P P' : Po} (h : RS K ρ t P) (h1 : ∀ ρ, P.nx ρ → P'.nx ρ) (h2 : ∀ ρ d, P.rt ρ d → P'.rt ρ d) (h3 : ∀ ρ, P.bk ρ → P'.bk ρ) (h4 : ∀ ρ, P.ct ρ → P'.ct ρ) : RS K ρ t P' := fun F0 F M H0 σ H E S q1 q2 q3 q4 =>
  h F0 F M H0 σ H E S (fun F' ρ' σ' H' n => q1 F' ρ' σ' H' (h1 _ n)) (fun F' ρ' σ' H' d v n => q2 F' ρ' σ' H' d v (h2 _ _ n)) (fun F' ρ' σ' H' n => q3 F' ρ' σ' H' (h3 _ n)) (fun F' ρ' σ' H' n => q4 F' ρ' σ' H' (h4 _ n))
/-- one statement, then the rest from one environment -/
theorem dss_seq (h : DS X ρ st { P with nx := fun ρ' => ρ' = ρ1 }) (h2 : DSs X ρ1 rest P) : DSs X ρ (st :: rest) P := by
  obtain ⟨_, p1, r1⟩ := h
  obtain ⟨u, p2, r2⟩ := h2
  exact ⟨_, pss_cons p1 p2, rs_seq (r1.mono (fun ρ' e => by
    have e : ρ' = ρ1 := e
    show RS X.K ρ' u P
    rw [e]
    exact r2) (fun _ _ h => h) (fun _ h => h) fun _ h => h)⟩
/-- behind the statement all environments of Q, by a rest whose reading is one -/
theorem dss_seqQ {Q : List Sl → Prop} (h : DS X ρ st { P with nx := Q }) (h2 : ∃ u, PSs X rest u ∧ ∀ ρ', Q ρ' → RS X.K ρ' u P) : DSs X ρ (st :: rest) P := by
  obtain ⟨_, p1, r1⟩ := h
  obtain ⟨u, p2, r2⟩ := h2
  exact ⟨_, pss_cons p1 p2, rs_seq (r1.mono (fun ρ' e => r2 ρ' e) (fun _ _ h => h) (fun _ h => h) fun _ h => h)⟩
/-- the statement doesn't end in the next one -/
theorem dss_stop (h : DS X ρ st { P with nx := fun _ => False }) : DSs X ρ (st :: rest) P := by
  obtain ⟨_, p1, r1⟩ := h
  exact ⟨_, pss_cons p1 pss_never, rs_seq (r1.mono (fun _ z => z.elim) (fun _ _ h => h) (fun _ h => h) fun _ h => h)⟩
/-! assignments -/
theorem ds_asg (i : Nat) (hN : X.N.Nodup) (ha : DE X ρ e d ρ1) (hq : P.nx (ρ1.set i (.val d))) (hi : X.N[i]? = some x := by rfl) (hx : Loc X.env.scope x := by first | exact Or.inl rfl | exact Or.inr rfl) (hs : swapsWith e (some (.Name x p2)) pos.line X.env = pure false := by rfl) (hf : X.fn x = true ∨ X.env.scope.names.lookup x = some .local := by first | exact .inl rfl | exact .inr rfl) :
    DS X ρ (.Assign [.Name x p2] e pos) P := by
  obtain ⟨_, p1, r1⟩ := ha
  refine ⟨_, ps_set (i := i) hN hi hx p1 hs hf, fun F0 F M H0 σ H E S q1 q2 q3 q4 => r1 F0 F M H0 σ H _ S fun v H1 S1 w1 o1 g1 => ?_⟩
  exact q1 F _ _ H1 hq (S1.setVal g1) (S.ker o1)
/-- x = a new list, to be changed -/
theorem ds_asgO (i : Nat) (hN : X.N.Nodup) (ha : DL X ρ e ds ρ1) (hq : P.nx (ρ1.set i (.own false ds))) (hi : X.N[i]? = some x := by rfl) (hx : Loc X.env.scope x := by first | exact Or.inl rfl | exact Or.inr rfl) (hs : swapsWith e (some (.Name x p2)) pos.line X.env = pure false := by rfl) (hf : X.fn x = true ∨ X.env.scope.names.lookup x = some .local := by first | exact .inl rfl | exact .inr rfl) :
    DS X ρ (.Assign [.Name x p2] e pos) P := by
  obtain ⟨_, p1, r1⟩ := ha
  refine ⟨_, ps_set (i := i) hN hi hx p1 hs hf, fun F0 F M H0 σ H E S q1 q2 q3 q4 => r1 F0 F M H0 σ H _ S fun t vs H1 ht S1 w1 o1 hl g1 => ?_⟩
  exact q1 _ _ _ H1 hq (S1.setOwn hl g1 (.inr rfl) (S.h0 ht) (fun f => S.new ht (S.sub t f)) (S.nosl w1 ht)) (S.kerL o1 hl ht)
/-! targets -/
/-- g stores d; the environment is ρ' behind it; the slots js alone have changed -/
def RG (K : PySem.W.Frag) (ρ : List Sl) (g : TG) (d : D) (ρ' : List Sl) (js : List Nat) : Prop :=
  ∀ (F0 F M : Addr → Prop) (H0 : Hp) (σ : L2.St) (H : Hp) (v : V) (Q : L2.St → Hp → Prop), SR K F0 F M H0 ρ σ H → RD K F H v d →
    (∀ σ', SR K F0 F M H0 ρ' σ' H → σ'.length = σ.length → (∀ i, i ∉ js → σ'[i]? = σ[i]?) → (∀ a, Ow ρ' σ' a → Ow ρ σ a) → Q σ' H) → g v σ H Q
def RGs (K : PySem.W.Frag) (ρ : List Sl) (g : TGs) (ds : List PyData) (ρ' : List Sl) (js : List Nat) : Prop :=
  ∀ (F0 F M : Addr → Prop) (H0 : Hp) (σ : L2.St) (H : Hp) (vs : List V) (Q : L2.St → Hp → Prop), SR K F0 F M H0 ρ σ H → RpAll K F H vs ds →
    (∀ σ', SR K F0 F M H0 ρ' σ' H → σ'.length = σ.length → (∀ i, i ∉ js → σ'[i]? = σ[i]?) → (∀ a, Ow ρ' σ' a → Ow ρ σ a) → Q σ' H) → g vs σ H Q
theorem ow_set {ρ : List Sl} {σ : L2.St} {i : Nat} {d : D} {v : V} {a : Addr} (h : Ow (ρ.set i (.val d)) (σ.set i (some v)) a) : Ow ρ σ a := by
  obtain ⟨j, ds, h1, h2⟩ := h
  by_cases z : i = j
  · subst z
    have hi : i < ρ.length := by
      have q := (List.getElem?_eq_some_iff.mp h1).1
      rwa [List.length_set] at q
    rw [List.getElem?_set_self hi] at h1
    cases h1
  · rw [List.getElem?_set_ne z] at h1 h2
    exact ⟨j, ds, h1, h2⟩
structure DG (X : Cx) (ρ : List Sl) (tg : Expr) (d : D) (ρ' : List Sl) (js : List Nat) : Prop where
  ou : ∃ g, PG X tg g ∧ RG X.K ρ g d ρ' js
structure DGs (X : Cx) (ρ : List Sl) (tg : List Expr) (ds : List PyData) (ρ' : List Sl) (js : List Nat) : Prop where
  ou : ∃ g, PGs X tg g ∧ RGs X.K ρ g ds ρ' js
theorem rg_name {K : PySem.W.Frag} {i : Nat} : RG K ρ (gName i) d (ρ.set i (.val d)) [i] := fun F0 F M H0 σ H v Q S r q =>
  q _ (S.setVal r) List.length_set (fun j hj => List.getElem?_set_ne fun z => hj (by simp [z])) fun a h => ow_set h
theorem dg_name (i : Nat) (hN : X.N.Nodup) (hi : X.N[i]? = some x := by rfl) (hx : Loc X.env.scope x := by first | exact Or.inl rfl | exact Or.inr rfl) (hf : X.fn x = true ∨ X.env.scope.names.lookup x = some .local := by first | exact .inl rfl | exact .inr rfl) :
    DG X ρ (.Name x p2) d (ρ.set i (.val d)) [i] := ⟨_, pg_name (i := i) hN hi hx hf, rg_name⟩
theorem dgs_nil : DGs X ρ [] [] ρ [] := ⟨_, pgs_nil, fun F0 F M H0 σ H v Q S r q => by
  cases r
  exact ⟨rfl, q σ S rfl (fun _ _ => rfl) fun _ h => h⟩⟩
theorem dgs_cons {es : List Expr} {js ks : List Nat} (h : DG X ρ e (.py dx) ρ1 js) (hr : DGs X ρ1 es ds ρ2 ks) (hs : (assignEach (e :: es) X.env).map (·.2) = assign e X.env :: (assignEach es X.env).map (·.2) := by rfl) : DGs X ρ (e :: es) (dx :: ds) ρ2 (js ++ ks) := by
  obtain ⟨_, p1, r1⟩ := h
  obtain ⟨_, p2, r2⟩ := hr
  refine ⟨_, pgs_cons p1 p2 hs, fun F0 F M H0 σ H vs Q S r q => ?_⟩
  cases r with
  | cons a r =>
    exact ⟨_, _, rfl, r1 F0 F M H0 σ H _ _ S a fun σ1 S1 l1 e1 w1 => r2 F0 F M H0 σ1 H _ Q S1 r fun σ2 S2 l2 e2 w2 => q σ2 S2 (l2.trans l1) (fun i hi =>
      (e2 i fun z => hi (List.mem_append_right _ z)).trans (e1 i fun z => hi (List.mem_append_left _ z))) fun a h => w1 a (w2 a h)⟩
theorem dg_tup {es : List Expr} {js : List Nat} {n : Nat} (hc : X.calm = true) (h : DGs X ρ es ds ρ1 js) (hn : (assignEach es X.env).length = ds.length := by rfl) (hst : (assignEach es X.env).findIdx? (·.1) = none := by rfl) : DG X ρ (.Tuple es n p2) (Tu ds) ρ1 js := by
  obtain ⟨_, p1, r1⟩ := h
  refine ⟨_, pg_tup hc p1 hn hst, fun F0 F M H0 σ H v Q S r q => ?_⟩
  cases r with
  | tup a r => exact ⟨_, _, rfl, a.sq, r.length, r1 F0 F M H0 σ H _ Q S r q⟩
theorem ds_asgG {tg : Expr} {js : List Nat} (ha : DE X ρ e d ρ1) (hg : DG X ρ1 tg d ρ2 js) (hq : P.nx ρ2) (hs : swapsWithSole [tg] e pos.line X.env = pure false := by rfl) (hw : swappedStores [tg] e X.env = pure none := by rfl) (h1 : (assignEach [tg] X.env).map (·.2) = [assign tg X.env] := by rfl) : DS X ρ (.Assign [tg] e pos) P := by
  obtain ⟨_, p1, r1⟩ := ha
  obtain ⟨_, p2, r2⟩ := hg
  exact ⟨_, ps_asg p1 p2 hs hw h1, fun F0 F M H0 σ H E S q1 q2 q3 q4 => r1 F0 F M H0 σ H _ S fun v H1 S1 w1 o1 g1 => r2 F0 F M H0 σ H1 v _ S1 g1 fun σ2 S2 _ _ _ => q1 F _ σ2 H1 hq S2 (S.ker o1)⟩
/-! x += e -/
theorem ds_aug (i : Nat) (hN : X.N.Nodup) {n m : Int} (hv : ρ1[i]? = some (Sl.val (I n)) := by rfl) (ha : DE X ρ1 e (I m) ρ1) (hq : P.nx (ρ1.set i (.val (I (n + m))))) (hi : X.N[i]? = some x := by rfl) (hx : Loc X.env.scope x := by first | exact Or.inl rfl | exact Or.inr rfl) (hf : X.fn x = true ∨ X.env.scope.names.lookup x = some .local := by first | exact .inl rfl | exact .inr rfl) :
    DS X ρ1 (.AugAssign (.Name x p2) .Add e pos) P := by
  obtain ⟨_, p1, r1⟩ := ha
  refine ⟨_, ps_aug (i := i) hN hi hx p1 ip_add hf, fun F0 F M H0 σ H E S q1 q2 q3 q4 => ?_⟩
  obtain ⟨v, h1, h2⟩ := S.val i _ hv
  cases h2
  exact ⟨_, h1, r1 F0 F M H0 σ H _ S fun u H1 S1 w1 o1 g1 => by
    cases g1
    exact ⟨n, m, rfl, rfl, q1 F _ _ H1 hq (S1.setVal (Rp.int _)) (S.ker o1)⟩⟩
theorem ds_augL (i : Nat) (hN : X.N.Nodup) (hv : ρ1[i]? = some (Sl.own false ds) := by rfl) (ha : DE X ρ1 e (Li fs) ρ1) (hl : ds.length + fs.length ≤ 100000) (hq : P.nx (ρ1.set i (.own false (ds ++ fs)))) (hi : X.N[i]? = some x := by rfl) (hx : Loc X.env.scope x := by first | exact Or.inl rfl | exact Or.inr rfl)
    (hf : X.fn x = true ∨ X.env.scope.names.lookup x = some .local := by first | exact .inl rfl | exact .inr rfl) : DS X ρ1 (.AugAssign (.Name x p2) .Add e pos) P := by
  obtain ⟨_, p1, r1⟩ := ha
  refine ⟨_, ps_aug (i := i) hN hi hx p1 (ti := rExt2) (fun pins s σ H x y v u Q I rx ry h => iop_ext pins s σ H x y v u Q I rx ry h) hf, fun F0 F M H0 σ H E S q1 q2 q3 q4 => ?_⟩
  obtain ⟨l, vs, h1, h2, h3, h4, h5⟩ := S.own i false _ hv
  refine ⟨_, h1, r1 F0 F M H0 σ H _ S fun u H1 S1 w1 o1 g1 => ?_⟩
  obtain ⟨l', vs', e1, e2, e3, _⟩ := S1.own i false _ hv
  rw [h1] at e1
  cases e1
  cases g1 with
  | lst a1 a2 a3 =>
    refine ⟨_, _, _, _, rfl, rfl, e2, a1, by rw [e3.length, a3.length]; exact sz _ hl, ?_⟩
    obtain ⟨S2, k2⟩ := S1.mut (i := i) hv h1 e2 (e3.append a3)
    have e4 : σ.set i (some (V.ref l)) = σ := by
      apply List.ext_getElem?
      intro j
      by_cases z : i = j
      · subst z
        rw [List.getElem?_set_self (List.getElem?_eq_some_iff.mp h1).1, h1]
      · rw [List.getElem?_set_ne z]
    rw [e4]
    exact q1 F _ σ _ hq S2 ((S.ker o1).trans k2)
/-- an expression alone -/
theorem ds_expr (ha : DE X ρ e d ρ1) (hq : P.nx ρ1) (hs : swapsWith e none pos.line X.env = pure false := by rfl) : DS X ρ (.Expr e pos) P := by
  obtain ⟨_, p1, r1⟩ := ha
  exact ⟨_, ps_expr p1 hs, fun F0 F M H0 σ H E S q1 q2 q3 q4 => r1 F0 F M H0 σ H _ S fun v H1 S1 w1 o1 g1 => q1 F _ σ H1 hq S1 (S.ker o1)⟩
/-- x.append(e) -/
theorem ds_append (i : Nat) {p3 : Pos} (hv : ρ1[i]? = some (Sl.own false ds) := by rfl) (ha : DE X ρ1 e (.py dx) ρ1) (hl : ds.length < 100000) (hq : P.nx (ρ1.set i (.own false (ds ++ [dx])))) (hN : X.N[i]? = some x := by rfl) (hvs : Vis X.env.scope x := by first | exact Or.inl rfl | exact Or.inr (Or.inl rfl) | exact Or.inr (Or.inr rfl)) (hd : (x == ("__debug__" : Str)) = false := by decide)
    (hcd : (x == ("__classdict__" : Str)) = false := by decide) (hbase : attributeBase (.Name x p2) "append" X.env (eval (.Name x p2) X.env) = eval (.Name x p2) X.env := by rfl)
    (hfew : ((backTo p3 (starEach [e] X.env)).all (fun x => !x.1) && (backToKw p3 (keywordEach [] X.env)).all (fun x => x.1.isSome) && decide ([e].length + ([] : List Keyword).length + (if ([] : List Keyword).isEmpty then 0 else 1) < 30)) = true := by rfl)
    (hline : (apos.endLine == p3.line) = true := by rfl) (hs : starEach [e] X.env = (false, eval e X.env) :: starEach [] X.env := by rfl) (hplain : (backTo p3 (starEach [] X.env)).any (·.1) = false := by rfl)
    (hsw : swapsWith (.Call (.Attribute (.Name x p2) "append" apos) [e] [] p3) none pos.line X.env = pure false := by rfl) :
    DS X ρ1 (.Expr (.Call (.Attribute (.Name x p2) "append" apos) [e] [] p3) pos) P := by
  obtain ⟨_, p1, r1⟩ := ha
  refine ⟨_, ps_expr (pe_bm PySem.F.plainAttrs_list PySem.F.slot_list_append PySem.F.type_list_append mt_append (pe_var hN hvs hd hcd) (pa_cons p1 pa_nil hs) hbase hfew hline hs hplain) hsw, fun F0 F M H0 σ H E S q1 q2 q3 q4 => ?_⟩
  obtain ⟨l, vs, h1, h2, h3, h4, h5⟩ := S.own i false _ hv
  refine ⟨_, h1, .inl ⟨rfl, _, SqL.of h2⟩, r1 F0 F M H0 σ H _ S fun u H1 S1 w1 o1 g1 => ?_⟩
  obtain ⟨l', vs', e1, e2, e3, _⟩ := S1.own i false _ hv
  rw [h1] at e1
  cases e1
  obtain ⟨S2, k2⟩ := S1.mut (i := i) hv h1 e2 (e3.append (.cons g1 .nil))
  exact ⟨_, _, _, rfl, rfl, e2, by rw [e3.length]; exact Nat.lt_of_lt_of_le hl (by decide), q1 F _ σ _ hq S2 ((S.ker o1).trans k2)⟩
/-- x[ie] = e, x a list of one's own or the one handed in -/
theorem ds_setix (i : Nat) {mm : Bool} {bi : Expr} {j : Nat} (ha : DE X ρ1 e (.py dx) ρ1) (hb : DE X ρ1 bi (I k) ρ1) (hj : ixN ds.length k = some j) (hq : P.nx (ρ1.set i (.own mm (ds.set j dx)))) (hv : ρ1[i]? = some (Sl.own mm ds) := by rfl) (hN : X.N[i]? = some x := by rfl) (hvs : Vis X.env.scope x := by first | exact Or.inl rfl | exact Or.inr (Or.inl rfl) | exact Or.inr (Or.inr rfl)) (hd : (x == ("__debug__" : Str)) = false := by decide)
    (hcd : (x == ("__classdict__" : Str)) = false := by decide) (hs : swapsWithSole [.Subscript (.Name x p2) bi p] e pos.line X.env = pure false := by rfl) (hw : swappedStores [.Subscript (.Name x p2) bi p] e X.env = pure none := by rfl)
    (h1 : (assignEach [.Subscript (.Name x p2) bi p] X.env).map (·.2) = [assign (.Subscript (.Name x p2) bi p) X.env] := by rfl)
    (h2 : ∀ v, assign (.Subscript (.Name x p2) bi p) X.env v = (do
      let ov ← holding [v] (eval (.Name x p2) X.env)
      let iv ← holding [v, ov] (eval bi X.env)
      standAt p
      holding [v, ov, iv] (setItem ov iv v)
      release [v, ov, iv] []) := by intro _; rfl) : DS X ρ1 (.Assign [.Subscript (.Name x p2) bi p] e pos) P := by
  obtain ⟨_, p1, r1⟩ := ha
  obtain ⟨_, p2, r2⟩ := hb
  refine ⟨_, ps_asg p1 (pg_sub (pe_var hN hvs hd hcd) p2 set_list h2) hs hw h1, fun F0 F M H0 σ H E S q1 q2 q3 q4 => r1 F0 F M H0 σ H _ S fun u H1 S1 w1 o1 g1 => ?_⟩
  obtain ⟨l, vs, h1, h2, h3, h4, h5⟩ := S1.own i mm _ hv
  refine ⟨_, h1, r2 F0 F M H0 σ H1 _ S1 fun w H2 S2 w2 o2 g2 => ?_⟩
  cases g2
  obtain ⟨l', vs', e1, e2, e3, _⟩ := S2.own i mm _ hv
  rw [h1] at e1
  cases e1
  obtain ⟨S3, k3⟩ := S2.mut (i := i) hv h1 e2 (RpAll.set (Rp.ker (S1.ker o2) g1) j e3)
  exact ⟨_, _, _, _, rfl, rfl, e2, by rw [e3.length]; exact hj, q1 F _ σ _ hq S3 (((S.ker o1).trans (S1.ker o2)).trans k3)⟩
/-! if, return -/
theorem ds_if {b1 : Bool} {s1 s2 : List Stmt} (hc : DT X ρ c b1 ρ1) (h1 : b1 = true → DSs X ρ1 s1 P) (h2 : b1 = false → DSs X ρ1 s2 P) : DS X ρ (.If c s1 s2 pos) P := by
  obtain ⟨tc, p1, r1⟩ := hc
  cases b1 with
  | true =>
    obtain ⟨t1, p2, r2⟩ := h1 rfl
    exact ⟨tIfS tc t1 tNever, ps_if p1 p2 pss_never, fun F0 F M H0 σ H E S q1 q2 q3 q4 => r1 F0 F M H0 σ H _ S fun H1 S1 w1 o1 => by
      show t1 E σ H1
      have k1 := S.ker o1
      exact r2 F0 F M H0 σ H1 E S1 (fun F' ρ' σ' H' n S' k => q1 F' ρ' σ' H' n S' (k1.trans k)) (fun F' ρ' σ' H' d v n S' k r => q2 F' ρ' σ' H' d v n S' (k1.trans k) r) (fun F' ρ' σ' H' n S' k => q3 F' ρ' σ' H' n S' (k1.trans k)) (fun F' ρ' σ' H' n S' k => q4 F' ρ' σ' H' n S' (k1.trans k))⟩
  | false =>
    obtain ⟨t2, p2, r2⟩ := h2 rfl
    exact ⟨tIfS tc tNever t2, ps_if p1 pss_never p2, fun F0 F M H0 σ H E S q1 q2 q3 q4 => r1 F0 F M H0 σ H _ S fun H1 S1 w1 o1 => by
      show t2 E σ H1
      have k1 := S.ker o1
      exact r2 F0 F M H0 σ H1 E S1 (fun F' ρ' σ' H' n S' k => q1 F' ρ' σ' H' n S' (k1.trans k)) (fun F' ρ' σ' H' d v n S' k r => q2 F' ρ' σ' H' d v n S' (k1.trans k) r) (fun F' ρ' σ' H' n S' k => q3 F' ρ' σ' H' n S' (k1.trans k)) (fun F' ρ' σ' H' n S' k => q4 F' ρ' σ' H' n S' (k1.trans k))⟩
/-- a guard that lets by; one that doesn't -/
theorem ds_ifF {b1 : Bool} {s1 s2 : List Stmt} (hc : DT X ρ c b1 ρ1) (hb : b1 = false) (h2 : DSs X ρ1 s2 P) : DS X ρ (.If c s1 s2 pos) P := ds_if hc (fun e => by
  rw [hb] at e
  cases e) fun _ => h2
theorem ds_ifT {b1 : Bool} {s1 s2 : List Stmt} (hc : DT X ρ c b1 ρ1) (hb : b1 = true) (h1 : DSs X ρ1 s1 P) : DS X ρ (.If c s1 s2 pos) P := ds_if hc (fun _ => h1) fun e => by
  rw [hb] at e
  cases e
theorem ds_ret (ha : DE X ρ e d ρ1) (hq : P.rt ρ1 d) : DS X ρ (.Return (some e) pos) P := by
  obtain ⟨_, p1, r1⟩ := ha
  exact ⟨_, ps_ret p1, fun F0 F M H0 σ H E S q1 q2 q3 q4 => r1 F0 F M H0 σ H _ S fun v H1 S1 w1 o1 g1 => q2 F _ σ H1 d v hq S1 (S.ker o1) (g1.ker (ker_less S.sub))⟩
/-- return of a list of one's own -/
theorem ds_retO (i : Nat) (hq : P.rt ρ1 (Li ds)) (hv : ρ1[i]? = some (Sl.own false ds) := by rfl) (hN : X.N[i]? = some x := by rfl) (hvs : Vis X.env.scope x := by first | exact Or.inl rfl | exact Or.inr (Or.inl rfl) | exact Or.inr (Or.inr rfl)) (hd : (x == ("__debug__" : Str)) = false := by decide) (hcd : (x == ("__classdict__" : Str)) = false := by decide) :
    DS X ρ1 (.Return (some (.Name x p2)) pos) P := ⟨_, ps_ret (pe_var hN hvs hd hcd), fun F0 F M H0 σ H E S q1 q2 q3 q4 => by
  obtain ⟨l, vs, h1, h2, h3, h4, h5⟩ := S.own i false _ hv
  have h6 : H0 l = none ∧ ¬ F0 l := by simpa using h5
  exact ⟨_, h1, q2 F _ σ H (Li ds) _ hq S (Ker.refl _ _) (Rp.lst h2 h6.2 (h3.ker (ker_less S.sub)))⟩⟩
theorem ds_break (h : P.bk ρ) : DS X ρ (.Break pos) P := ⟨_, ps_break, fun F0 F M H0 σ H E S q1 q2 q3 q4 => q3 F _ σ H h S (Ker.refl _ _)⟩
theorem ds_cont (h : P.ct ρ) : DS X ρ (.Continue pos) P := ⟨_, ps_continue, fun F0 F M H0 σ H E S q1 q2 q3 q4 => q4 F _ σ H h S (Ker.refl _ _)⟩
/-- a while whose test fails at once -/
theorem ds_while0 {s1 : List Stmt} (hp : PassesOwn (model X.prog X.w) X.A X.env X.xe) (hc : DT X ρ c false ρ1) (h : P.nx ρ1) : DS X ρ (.While c s1 [] pos) P := by
  obtain ⟨tc, p1, r1⟩ := hc
  refine ⟨_, ps_while hp p1 pss_never, fun F0 F M H0 σ H E S q1 q2 q3 q4 => ?_⟩
  refine ⟨fun m σ' H' => σ' = σ ∧ H' = H, ⟨0, rfl, rfl⟩, fun m σ' H' ⟨e1, e2⟩ => ?_⟩
  subst e1 e2
  exact r1 F0 F M H0 σ' H' _ S fun H1 S1 w1 o1 => q1 F _ σ' H1 h S1 (S.ker o1)
end
/-! ### a def by its body -/
section
variable {Pg : Program} {w : World} {K : PySem.W.Frag} {mg : Str → Option Value} {base : Heap} {x qual : Str} {st : Stmt} {f : Addr} {fd : FuncData} {N ps : List Str} {k : Nat}
abbrev BX (Pg : Program) (w : World) (K : PySem.W.Frag) (mg : Str → Option Value) (base : Heap) (N : List Str) (qual : Str) (st : Stmt) (f : Addr) (cdv : Value) (A : Around) (outer : List Env) (s : Shared) (H : Hp) (E : XK) : Cx := (cxOf CX0 Pg w K mg base N qual (defScope st) f cdv A outer s H E).nox
abbrev st0 (N : List Str) (ds : List D) : List Sl := ds.map Sl.val ++ List.replicate (N.length - ds.length) Sl.any
theorem start_get {N : List Str} {vs : List V} {i : Nat} {v : V} (h : vs[i]? = some v) : (L2.start N vs)[i]? = some (some v) := by
  unfold L2.start
  rw [List.getElem?_append_left (by rw [List.length_map]; exact (List.getElem?_eq_some_iff.mp h).1), List.getElem?_map, h]
  rfl
theorem st0_val {N : List Str} {ds : List D} {i : Nat} {d : D} (h : (st0 N ds)[i]? = some (Sl.val d)) : ds[i]? = some d := by
  unfold st0 at h
  by_cases hi : i < ds.length
  · rw [List.getElem?_append_left (by rw [List.length_map]; exact hi), List.getElem?_map] at h
    cases q : ds[i]? with
    | none =>
      rw [q] at h
      cases h
    | some e =>
      rw [q] at h
      cases h
      rfl
  · rw [List.getElem?_append_right (by rw [List.length_map]; omega), List.getElem?_replicate] at h
    split at h <;> cases h
theorem st0_own {N : List Str} {ds : List D} {i : Nat} {m : Bool} {es : List PyData} (h : (st0 N ds)[i]? = some (Sl.own m es)) : False := by
  unfold st0 at h
  by_cases hi : i < ds.length
  · rw [List.getElem?_append_left (by rw [List.length_map]; exact hi), List.getElem?_map] at h
    cases q : ds[i]? with
    | none =>
      rw [q] at h
      cases h
    | some e =>
      rw [q] at h
      cases h
  · rw [List.getElem?_append_right (by rw [List.length_map]; omega), List.getElem?_replicate] at h
    split at h <;> cases h
theorem SR.start {F : Addr → Prop} {H : Hp} {vs : List V} {ds : List D} (hF : ∀ a, F a → ∃ o, H a = some o) (tb : TbI K H) (r : RDs K F H vs ds) (hl : ds.length ≤ N.length) : SR K F F (fun _ => False) H (st0 N ds) (L2.start N vs) H where
  len := by
    have e := r.length
    unfold st0 L2.start
    simp [e]
  same := fun b o e _ => .of e
  sub := fun a f => f
  all := hF
  mf := fun a f => f.elim
  val := fun i d e => by
    obtain ⟨v, h1, h2⟩ := r.get' (st0_val e)
    exact ⟨v, start_get h1, h2⟩
  own := fun i m es e => (st0_own e).elim
  inj := fun i j m n ds es l e _ _ _ => (st0_own e).elim
  m0 := fun a f => f.elim
  tb := tb
/-- THE RULE for a def that changes nothing -/
theorem fn_mk {pre : List D → D → Prop} (F : FunD K x qual (defArgs st) (defBody st) (defScope st) [] [] f fd) (S : FnScope N ps (defScope st)) (hl : ∀ ds d, pre ds d → ds.length = ps.length) (hN : ps.length ≤ N.length)
    (body : ∀ (cdv : Value) (A : Around) (outer : List Env) (s : Shared) (H : Hp) (E : XK) (ds : List D) (d : D), Room k (BX Pg w K mg base N qual st f cdv A outer s H E).A → pre ds d →
      DSs (BX Pg w K mg base N qual st f cdv A outer s H E) (st0 N ds) (defBody st) { nx := fun _ => d = .py .none, rt := fun _ d' => d' = d }) : FnOk Pg w K mg base CX0 (k + 1) f fd ps (SpD K pre) := by
  refine F.ok S (fun vs H Q E h => ?_) (fun cdv A outer s H vs Q E hr h => ?_)
  · obtain ⟨G, ds, d, _, _, r, hp, _⟩ := h
    rw [r.length, hl ds d hp]
  · obtain ⟨G, ds, d, hG, tb, r, hp, q⟩ := h
    obtain ⟨t, p1, r1⟩ := body cdv A outer s H E ds d hr hp
    refine ⟨t, p1.nox, r1 G G (fun _ => False) H _ H _ (SR.start hG tb r (by rw [hl ds d hp]; exact hN)) (fun F' ρ' σ' H' n S' k' => ?_) (fun F' ρ' σ' H' d' v n S' k' r' => ?_) (fun _ _ _ _ z => z.elim) (fun _ _ _ _ z => z.elim)⟩
    · have n : d = .py .none := n
      exact q _ H' (fun b o e => S'.same b o e fun z => z) S'.tb (by rw [n]; exact Rp.non)
    · have n : d' = d := n
      exact q v H' (fun b o e => S'.same b o e fun z => z) S'.tb (n ▸ r')
end
end Bw
/-! Lay6: what is walked; for loops and list comprehensions by an invariant over environments. -/
namespace Bw
open PySem PySem.Spec PyProof.Rows L2

/-- J yields n things, the i-th of them y i; sg: whatever the loop does; else only where all but O stands -/
def Wk (K : PySem.W.Frag) (sg : Bool) (O F : Addr → Prop) (H1 : Hp) (J : It) (n : Nat) (y : Nat → PyData) : Prop :=
  ∀ (F' : Addr → Prop) (H' : Hp), Ker F H1 F' H' → (sg = false → Off O H1 H') → ∀ i, (i < n → J.go i H' ∧ ∀ x H'', J.yld i H' x H'' → Same H' H'' ∧ Rp K F' H'' x (y i)) ∧ (n ≤ i → J.stop i H')
def RI (K : PySem.W.Frag) (sg : Bool) (ρ : List Sl) (wi : TI) (n : Nat) (y : Nat → PyData) (ρ' : List Sl) : Prop :=
  ∀ (F0 F M : Addr → Prop) (H0 : Hp) (σ : L2.St) (H : Hp) (R : It → Hp → Prop), SR K F0 F M H0 ρ σ H →
    (∀ J H1, SR K F0 F M H0 ρ' σ H1 → Shp ρ ρ' → Off (Ow ρ σ) H H1 → Wk K sg (Ow ρ σ) F H1 J n y → R J H1) → wi σ H R
structure DI (X : Cx) (sg : Bool) (ρ : List Sl) (tg iter : Expr) (n : Nat) (y : Nat → PyData) (ρ' : List Sl) : Prop where
  ou : ∃ wi, PI X tg iter wi ∧ RI X.K sg ρ wi n y ρ'
section
variable {X : Cx} {ρ ρ1 ρ2 ρ3 : List Sl} {a b c e o tg iter : Expr} {es : List Expr} {pos p p2 apos : Pos} {d : D} {x m : Str} {st : Stmt} {rest : List Stmt} {P : Po} {dx : PyData} {ds fs : List PyData} {i j k : Int} {bb sg : Bool} {n : Nat} {y : Nat → PyData}
theorem Wk.weak {K : PySem.W.Frag} {O F : Addr → Prop} {H1 : Hp} {J : It} (h : Wk K true O F H1 J n y) : Wk K false O F H1 J n y := fun F' H' k _ => h F' H' k fun z => nomatch z
theorem DI.weak (h : DI X true ρ tg iter n y ρ1) : DI X false ρ tg iter n y ρ1 := let ⟨_, p1, r1⟩ := h; ⟨_, p1, fun F0 F M H0 σ H R S q => r1 F0 F M H0 σ H R S fun J H1 S1 w o k => q J H1 S1 w o k.weak⟩
abbrev at_ (ds : List PyData) (i : Nat) : PyData := ds[i]?.getD .none
theorem at_eq {ds : List PyData} {i : Nat} {d : PyData} (h : ds[i]? = some d) : at_ ds i = d := by
  unfold at_
  rw [h]
  rfl
theorem wk_list {K : PySem.W.Frag} {O F : Addr → Prop} {H1 : Hp} {a : Addr} {vs : List V} (h : H1 a = some (.lst vs)) (r : RpAll K F H1 vs ds) (hn : if sg = true then ¬ F a else ¬ O a) : Wk K sg O F H1 (Itl K a) ds.length (at_ ds) := fun F' H' k o i => by
  have h' : H' a = some (.lst vs) := by
    cases sg with
    | true => exact (k.l a vs hn h).1
    | false => exact o rfl a _ h hn
  have r' := r.ker k
  refine ⟨fun hi => ?_, fun hi => ⟨vs, SqL.of h', by rw [r'.length]; exact hi⟩⟩
  obtain ⟨v, h1, h2⟩ := r'.get' (List.getElem?_eq_getElem hi)
  refine ⟨⟨vs, v, SqL.of h', h1⟩, fun x H'' ⟨e, q⟩ => ?_⟩
  subst e
  have := q vs (SqL.of h')
  rw [h1] at this
  cases this
  exact ⟨Same.refl _, by rw [at_eq (List.getElem?_eq_getElem hi)]; exact h2⟩
theorem wk_tup {K : PySem.W.Frag} {O F : Addr → Prop} {H1 : Hp} {a : Addr} {vs : List V} (h : Tp K H1 a vs) (r : RpAll K F H1 vs ds) : Wk K sg O F H1 (Itt K a) ds.length (at_ ds) := fun F' H' k o i => by
  have h' : Tp K H' a vs := h.ker k
  have r' := r.ker k
  refine ⟨fun hi => ?_, fun hi => ⟨vs, h'.sq, by rw [r'.length]; exact hi⟩⟩
  obtain ⟨v, h1, h2⟩ := r'.get' (List.getElem?_eq_getElem hi)
  refine ⟨⟨vs, v, h'.sq, h1⟩, fun x H'' ⟨e, q⟩ => ?_⟩
  subst e
  have := q vs h'.sq
  rw [h1] at this
  cases this
  exact ⟨Same.refl _, by rw [at_eq (List.getElem?_eq_getElem hi)]; exact h2⟩
theorem di_list (h : DE X ρ a (Li ds) ρ1) : DI X sg ρ tg a ds.length (at_ ds) ρ1 := by
  obtain ⟨_, p1, r1⟩ := h
  refine ⟨_, pi_list p1, fun F0 F M H0 σ H R S q => r1 F0 F M H0 σ H _ S fun v H1 S1 w1 o1 g1 => ?_⟩
  cases g1 with
  | lst h1 n1 g1 =>
    refine ⟨_, rfl, ⟨_, SqL.of h1⟩, q _ H1 S1 w1 o1 (wk_list h1 g1 ?_)⟩
    cases sg with
    | true => exact n1
    | false => exact fun z => n1 (S.owF z)
/-- a list that is read while the block runs -/
theorem di_own (h : DQ X ρ a true ds ρ1) : DI X false ρ tg a ds.length (at_ ds) ρ1 := by
  obtain ⟨_, p1, r1⟩ := h
  refine ⟨_, pi_list p1, fun F0 F M H0 σ H R S q => r1 F0 F M H0 σ H _ S fun t vs H1 S1 w1 o1 n1 h1 g1 => ?_⟩
  exact ⟨_, rfl, ⟨_, SqL.of h1⟩, q _ H1 S1 w1 o1 (wk_list h1 g1 (n1 rfl))⟩
theorem di_tup (h : DE X ρ a (Tu ds) ρ1) : DI X sg ρ tg a ds.length (at_ ds) ρ1 := by
  obtain ⟨_, p1, r1⟩ := h
  refine ⟨_, pi_tup p1, fun F0 F M H0 σ H R S q => r1 F0 F M H0 σ H _ S fun v H1 S1 w1 o1 g1 => ?_⟩
  cases g1 with
  | tup h1 g1 => exact ⟨_, rfl, ⟨_, h1.sq⟩, q _ H1 S1 w1 o1 (wk_tup h1 g1)⟩
theorem wk_range {K : PySem.W.Frag} {O F : Addr → Prop} {H1 : Hp} {lo : Int} : Wk K sg O F H1 (Itr lo n) n (fun i => .int (lo + i)) := fun F' H' k o i =>
  ⟨fun hi => ⟨hi, fun x H'' ⟨e1, e2⟩ => by
    subst e1 e2
    exact ⟨Same.refl _, .int _⟩⟩, fun hi => hi⟩
theorem di_range1 (ha : DE X ρ a (I (n : Int)) ρ1) (hn : n ≤ 100000) (hm : X.mg "range" = none) (hg : Gl X "range" := by rfl) (hs : starEach [a] X.env = [(false, eval a X.env)] := by rfl) : DI X sg ρ tg (.Call (.Name "range" p) [a] [] pos) n (fun i => .int (i : Int)) ρ1 := by
  obtain ⟨_, p1, r1⟩ := ha
  refine ⟨_, pi_range1 hg hm (pa_cons p1 pa_nil hs) hs, fun F0 F M H0 σ H R S q => r1 F0 F M H0 σ H _ S fun v H1 S1 w1 o1 g1 => ?_⟩
  cases g1
  refine ⟨_, rfl, by omega, by omega, q _ H1 S1 w1 o1 ?_⟩
  have e : ((n : Int)).toNat = n := Int.toNat_natCast n
  rw [e]
  have w := wk_range (K := X.K) (sg := sg) (O := Ow ρ σ) (F := F) (H1 := H1) (lo := 0) (n := n)
  have e2 : (fun i : Nat => PyData.int (0 + (i : Int))) = fun i : Nat => PyData.int (i : Int) := by
    funext i
    rw [Int.zero_add]
  rw [e2] at w
  exact w
end
/-! ### for -/
section
variable {X : Cx} {ρ ρ1 ρ2 ρ3 : List Sl} {a b c e o tg iter : Expr} {es : List Expr} {pos p p2 apos : Pos} {d : D} {x m : Str} {st : Stmt} {rest : List Stmt} {P : Po} {dx : PyData} {ds fs : List PyData} {i j k : Int} {bb sg : Bool} {n : Nat} {y : Nat → PyData}
theorem rs_for {K : PySem.W.Frag} {wi : TI} {g : TG} {tb : TS} (h : RI K true ρ wi n y ρ1) (Inv : Nat → List Sl → Prop) (h0 : Inv 0 ρ1)
    (hs : ∀ i ρi, i < n → Inv i ρi → ∃ ρj js, RG K ρi g (.py (y i)) ρj js ∧ RS K ρj tb { P with nx := Inv (i + 1), ct := Inv (i + 1), bk := P.nx }) (hd : ∀ ρ', Inv n ρ' → P.nx ρ') : RS K ρ (tFor wi g tb) P := fun F0 F M H0 σ H E S q1 q2 q3 q4 =>
  h F0 F M H0 σ H _ S fun J H1 S1 w1 o1 wk => by
    have k1 := S.ker o1
    refine ⟨fun i m σ' H' => m = n - i ∧ i ≤ n ∧ ∃ F' ρ', Inv i ρ' ∧ SR K F0 F' M H0 ρ' σ' H' ∧ Ker F H1 F' H', ⟨n, by simp, Nat.zero_le _, F, ρ1, h0, S1, Ker.refl _ _⟩, ?_⟩
    rintro i m σ' H' ⟨rfl, hi, F', ρ', hI, S', k'⟩
    have tn := wk F' H' k' (fun z => nomatch z) i
    by_cases hlt : i < n
    · obtain ⟨go, yl⟩ := tn.1 hlt
      refine .inr ⟨go, fun σ2 H2 => ∃ F2 ρ2, Inv (i + 1) ρ2 ∧ SR K F0 F2 M H0 ρ2 σ2 H2 ∧ Ker F H1 F2 H2, fun σ2 H2 ⟨F2, ρ2, a1, a2, a3⟩ => ⟨n - (i + 1), by omega, rfl, hlt, F2, ρ2, a1, a2, a3⟩, fun x H'' yx => ?_⟩
      obtain ⟨s2, r2⟩ := yl x H'' yx
      have kk : Ker F H1 F' H'' := k'.trans (Ker.same s2)
      obtain ⟨ρj, js, rg, rs⟩ := hs i ρ' hlt hI
      refine rg F0 F' M H0 σ' H'' x _ (S'.grow s2) r2 fun σ3 S3 _ _ _ => ?_
      refine rs F0 F' M H0 σ3 H'' _ S3 (fun F4 ρ4 σ4 H4 n4 S4 k4 => ⟨F4, ρ4, n4, S4, kk.trans k4⟩) (fun F4 ρ4 σ4 H4 d v n4 S4 k4 r4 => q2 F4 ρ4 σ4 H4 d v n4 S4 ((k1.trans kk).trans k4) r4) (fun F4 ρ4 σ4 H4 n4 S4 k4 => q1 F4 ρ4 σ4 H4 n4 S4 ((k1.trans kk).trans k4)) fun F4 ρ4 σ4 H4 n4 S4 k4 => ⟨F4, ρ4, n4, S4, kk.trans k4⟩
    · have e : i = n := by omega
      subst e
      exact .inl ⟨tn.2 (Nat.le_refl _), q1 F' ρ' σ' H' (hd ρ' hI) S' (k1.trans k')⟩
theorem pss_all {body : List Stmt} : PSs X body (fun D σ H => ∃ t, PSs X body t ∧ t D σ H) := ⟨fun pins s σ H D I ⟨t, h, q⟩ => h.run pins s σ H D I q⟩
theorem pg_all : PG X tg (fun v σ H Q => ∃ g, PG X tg g ∧ g v σ H Q) := ⟨fun pins s σ H v u Q I r ⟨t, h, q⟩ => h.run pins s σ H v u Q I r q⟩
/-- for tg in iter: by an invariant over the environments -/
theorem ds_for {body : List Stmt} (Inv : Nat → List Sl → Prop) (hp : PassesOwn (model X.prog X.w) X.A X.env X.xe) (hc : X.calm = true) (h : DI X true ρ tg iter n y ρ1) (h0 : Inv 0 ρ1)
    (hb : ∀ i ρi, i < n → Inv i ρi → ∃ ρj js, DG X ρi tg (.py (y i)) ρj js ∧ DSs X ρj body { P with nx := Inv (i + 1), ct := Inv (i + 1), bk := P.nx }) (hd : ∀ ρ', Inv n ρ' → P.nx ρ') (hs : ∀ x, foldedSetIterable iter X.env x = pure x := by intro _; rfl) :
    DS X ρ (.For tg iter body [] pos) P := by
  obtain ⟨wi, p1, r1⟩ := h
  refine ⟨_, ps_for hp hc p1 pg_all pss_all hs, rs_for r1 Inv h0 (fun i ρi hi hI => ?_) hd⟩
  obtain ⟨ρj, js, ⟨g, g1, g2⟩, t, t1, t2⟩ := hb i ρi hi hI
  exact ⟨ρj, js, fun F0 F M H0 σ H v Q S r q => ⟨g, g1, g2 F0 F M H0 σ H v Q S r q⟩, fun F0 F M H0 σ H E S q1 q2 q3 q4 => ⟨t, t1, t2 F0 F M H0 σ H E S q1 q2 q3 q4⟩⟩
end
/-! ### list comprehensions -/
/-- the block's own slots forgotten -/
def wpe (ρ : List Sl) : List Nat → List Sl
  | [] => ρ
  | v :: vs => (wpe ρ vs).set v .any
theorem wpe_length (ρ : List Sl) : ∀ vs : List Nat, (wpe ρ vs).length = ρ.length
  | [] => rfl
  | v :: vs => by
    unfold wpe
    rw [List.length_set, wpe_length ρ vs]
theorem wpe_get {ρ : List Sl} {i : Nat} : ∀ {vs : List Nat}, i ∉ vs → (wpe ρ vs)[i]? = ρ[i]?
  | [], _ => rfl
  | v :: vs, h => by
    unfold wpe
    rw [List.getElem?_set_ne fun e => h (by simp [e]), wpe_get fun z => h (List.mem_cons_of_mem _ z)]
theorem wpe_in {ρ : List Sl} {i : Nat} : ∀ {vs : List Nat}, i ∈ vs → ∀ z, (wpe ρ vs)[i]? = some z → z = .any
  | v :: vs, h, z, e => by
    unfold wpe at e
    by_cases q : v = i
    · subst q
      have hv : v < (wpe ρ vs).length := by
        have := (List.getElem?_eq_some_iff.mp e).1
        rwa [List.length_set] at this
      rw [List.getElem?_set_self hv] at e
      exact (Option.some.inj e).symm
    · rw [List.getElem?_set_ne q] at e
      exact wpe_in ((List.mem_cons.mp h).resolve_left fun z => q z.symm) z e
theorem wipe_get {σ : L2.St} {i : Nat} : ∀ {vs : List Nat}, i ∉ vs → (wipe σ vs)[i]? = σ[i]?
  | [], _ => rfl
  | v :: vs, h => by
    unfold wipe
    rw [List.getElem?_set_ne fun e => h (by simp [e]), wipe_get fun z => h (List.mem_cons_of_mem _ z)]
theorem wipe_in {σ : L2.St} {i : Nat} : ∀ {vs : List Nat}, i ∈ vs → (wipe σ vs)[i]? = if i < σ.length then some none else none
  | v :: vs, h => by
    unfold wipe
    by_cases q : v = i
    · subst q
      by_cases hv : v < σ.length
      · rw [List.getElem?_set_self (by rw [wipe_length]; exact hv), if_pos hv]
      · rw [if_neg hv]
        exact List.getElem?_eq_none (by rw [List.length_set, wipe_length]; omega)
    · rw [List.getElem?_set_ne q]
      exact wipe_in ((List.mem_cons.mp h).resolve_left fun z => q z.symm)
theorem wipe_ext {σ σ' : L2.St} {vs : List Nat} (hl : σ'.length = σ.length) (h : ∀ i, i ∉ vs → σ'[i]? = σ[i]?) : wipe σ' vs = wipe σ vs := by
  apply List.ext_getElem?
  intro i
  by_cases hi : i ∈ vs
  · rw [wipe_in hi, wipe_in hi, hl]
  · rw [wipe_get hi, wipe_get hi, h i hi]
/-- ρ2 is ρ but for the items of lists handed in, none of them a slot of vs -/
structure Rl (vs : List Nat) (ρ ρ2 : List Sl) : Prop where
  len : ρ2.length = ρ.length
  vs : ∀ j, j ∈ vs → ρ2[j]? = ρ[j]?
  val : ∀ (j : Nat) (d : D), ρ2[j]? = some (Sl.val d) → ρ[j]? = some (Sl.val d)
  own : ∀ (j : Nat) (ds : List PyData), ρ2[j]? = some (Sl.own false ds) → ρ[j]? = some (Sl.own false ds)
  shp : Shp ρ ρ2
theorem Rl.refl (vs : List Nat) (ρ : List Sl) : Rl vs ρ ρ := ⟨rfl, fun _ _ => rfl, fun _ _ h => h, fun _ _ h => h, Shp.refl _⟩
section
variable {K : PySem.W.Frag} {F0 F F' M : Addr → Prop} {H0 H H' : Hp} {ρ ρ2 : List Sl} {σ : L2.St} {vs : List Nat}
theorem ow_wipe {a : Addr} (h : Ow (wpe ρ vs) (L2.wipe σ vs) a) : Ow ρ σ a := by
  obtain ⟨i, ds, h1, h2⟩ := h
  have ni : i ∉ vs := fun z => by
    have := wpe_in z _ h1
    cases this
  exact ⟨i, ds, by rw [← wpe_get ni]; exact h1, by rw [← wipe_get ni]; exact h2⟩
theorem SR.wiped (S : SR K F0 F M H0 ρ σ H) (vs : List Nat) : SR K F0 F M H0 (wpe ρ vs) (L2.wipe σ vs) H where
  len := by rw [wpe_length, wipe_length, S.len]
  same := S.same
  sub := S.sub
  all := S.all
  mf := S.mf
  val := fun i d e => by
    have ni : i ∉ vs := fun z => by
      have := wpe_in z _ e
      cases this
    rw [wpe_get ni] at e
    rw [wipe_get ni]
    exact S.val i d e
  own := fun i m ds e => by
    have ni : i ∉ vs := fun z => by
      have := wpe_in z _ e
      cases this
    rw [wpe_get ni] at e
    rw [wipe_get ni]
    exact S.own i m ds e
  inj := fun i j m n ds es l e1 e2 q1 q2 => by
    have ni : i ∉ vs := fun z => by
      have := wpe_in z _ e1
      cases this
    have nj : j ∉ vs := fun z => by
      have := wpe_in z _ e2
      cases this
    rw [wpe_get ni] at e1
    rw [wpe_get nj] at e2
    rw [wipe_get ni] at q1
    rw [wipe_get nj] at q2
    exact S.inj i j m n ds es l e1 e2 q1 q2
  m0 := S.m0
  tb := S.tb
theorem SR.unwipe (S : SR K F0 F M H0 ρ σ H) (r : Rl vs ρ ρ2) (S' : SR K F0 F' M H0 (wpe ρ2 vs) (L2.wipe σ vs) H') (k : Ker F H F' H') (o : Off (Ow (wpe ρ vs) (L2.wipe σ vs)) H H') (hF : ∀ a, F a → F' a) : SR K F0 F' M H0 ρ2 σ H' where
  len := by rw [r.len, S.len]
  same := S'.same
  sub := S'.sub
  all := S'.all
  mf := S'.mf
  val := fun i d e => by
    obtain ⟨v, h1, h2⟩ := S.val i d (r.val i d e)
    exact ⟨v, h1, h2.ker k⟩
  own := fun i m ds e => by
    cases m with
    | false =>
      have e' := r.own i ds e
      obtain ⟨l, us, h1, h2, h3, h4, h5⟩ := S.own i false ds e'
      refine ⟨l, us, h1, o l _ h2 fun z => ?_, h3.ker k, hF l h4, h5⟩
      obtain ⟨j, es, a1, a2⟩ := ow_wipe z
      have q := S.inj i j _ _ _ _ l e' a1 h1 a2
      subst q
      rw [e'] at a1
      cases a1
    | true =>
      by_cases hi : i ∈ vs
      · have e' := e
        rw [r.vs i hi] at e'
        obtain ⟨l, us, h1, h2, h3, h4, h5⟩ := S.own i true ds e'
        refine ⟨l, us, h1, o l _ h2 fun ⟨j, es, a1, a2⟩ => ?_, h3.ker k, hF l h4, h5⟩
        have nj : j ∉ vs := fun z => by
          have := wpe_in z _ a1
          cases this
        rw [wpe_get nj] at a1
        rw [wipe_get nj] at a2
        have q := S.inj i j _ _ _ _ l e' a1 h1 a2
        exact nj (q ▸ hi)
      · obtain ⟨l, us, h1, h2⟩ := S'.own i true ds (by rw [wpe_get hi]; exact e)
        rw [wipe_get hi] at h1
        exact ⟨l, us, h1, h2⟩
  inj := fun i j m n ds es l e1 e2 q1 q2 => by
    obtain ⟨ds', a1⟩ := (r.shp i m).mp ⟨ds, e1⟩
    obtain ⟨es', a2⟩ := (r.shp j n).mp ⟨es, e2⟩
    exact S.inj i j m n ds' es' l a1 a2 q1 q2
  m0 := S.m0
  tb := S'.tb
/-- a list within the frame that no slot holds is changed -/
theorem SR.updF {D : Addr} {us ws : List V} (S : SR K F0 F M H0 ρ σ H) (hD : H D = some (.lst us)) (f : F D) (h0 : H0 D = none) (nw : ∀ (j : Nat) (m : Bool) (es : List PyData), ρ[j]? = some (Sl.own m es) → σ[j]? ≠ some (some (V.ref D))) : SR K F0 F M H0 ρ σ (upd H D (.lst ws)) ∧ Ker F H F (upd H D (.lst ws)) := by
  have kk : Ker F H F (upd H D (.lst ws)) := ⟨fun b o q hk => by
    rw [upd_ne fun z => by
      rw [z, hD] at q
      cases q
      cases hk]
    exact q, fun a xs n q => by
    rw [upd_ne fun z => n (by rw [z]; exact f)]
    exact ⟨q, n⟩⟩
  refine ⟨⟨S.len, fun b u q nb => ?_, S.sub, fun a g => ?_, S.mf, fun j dj ej => ?_, fun j mj dj ej => ?_, S.inj, S.m0, S.tb.keep fun b o q hx => by
    rw [upd_ne fun z => by
      rw [z, hD] at q
      cases q
      cases hx]
    exact q⟩, kk⟩
  · rw [upd_ne fun z => by
      rw [z, h0] at q
      cases q]
    exact S.same b u q nb
  · by_cases z : a = D
    · rw [z]
      exact ⟨_, upd_same⟩
    · obtain ⟨u, q⟩ := S.all a g
      exact ⟨u, by rw [upd_ne z]; exact q⟩
  · obtain ⟨v, q1, q2⟩ := S.val j dj ej
    exact ⟨v, q1, q2.ker kk⟩
  · obtain ⟨l2, vs2, q1, q2, q3, q4, q5⟩ := S.own j mj dj ej
    have ne : l2 ≠ D := fun q => nw j mj dj ej (by rw [← q]; exact q1)
    exact ⟨l2, vs2, q1, by rw [upd_ne ne]; exact q2, q3.ker kk, q4, q5⟩
end
/-- a clause's tests -/
structure DTs (X : Cx) (ρ : List Sl) (es : List Expr) (b : Bool) : Prop where
  ou : ∃ tt, PTs X es tt ∧ RT X.K ρ tt b ρ
section
variable {X : Cx} {ρ ρ1 ρ2 ρ3 : List Sl} {a b c e o tg iter elt : Expr} {es ifs : List Expr} {pos p p2 apos : Pos} {d : D} {x m : Str} {dx : PyData} {ds fs : List PyData} {i j k : Int} {bb sg : Bool} {n : Nat} {y : Nat → PyData} {scope : Scope} {own : List (Str × Nat)}
theorem dts_nil : DTs X ρ [] true := ⟨_, pts_nil, fun F0 F M H0 σ H Q S q => q H S (Shp.refl _) Off.refl⟩
theorem dts_one (h : DT X ρ c bb ρ) : DTs X ρ [c] bb := let ⟨_, p1, r1⟩ := h; ⟨_, pts_one p1, r1⟩
/-- THE RULE: E i the environment ahead of turn i, out i the list so far -/
theorem lc_all (E : Nat → List Sl) (out : Nat → List PyData) (h : DI X false ρ tg iter n y ρ1) (hn : n ≤ 100000) (e0 : E 0 = ρ1) (hE : ∀ i, i ≤ n → Rl (own.map (·.2)) ρ1 (E i)) (o0 : out 0 = [])
    (hb : ∀ i, i < n → ∃ ρj js bj, (∀ j ∈ js, j ∈ own.map (·.2)) ∧ (∀ (s : Shared) (H : Hp) (C : Addr) (cl : List (Str × Addr)) (fp : List Addr), DG (X.blk s H scope (compEnvC scope cl C X.env) fp) (wpe (E i) (own.map (·.2))) tg (.py (y i)) ρj js) ∧
      (∀ (s : Shared) (H : Hp) (C : Addr) (cl : List (Str × Addr)) (fp : List Addr), DTs (X.blk s H scope (compEnvC scope cl C X.env) fp) ρj ifs bj) ∧
      (bj = true → ∃ d ρk, (∀ (s : Shared) (H : Hp) (C : Addr) (cl : List (Str × Addr)) (fp : List Addr), DE (X.blk s H scope (compEnvC scope cl C X.env) fp) ρj elt (.py d) ρk) ∧ wpe ρk (own.map (·.2)) = wpe (E (i + 1)) (own.map (·.2)) ∧ out (i + 1) = out i ++ [d]) ∧
      (bj = false → wpe ρj (own.map (·.2)) = wpe (E (i + 1)) (own.map (·.2)) ∧ out (i + 1) = out i))  :
    ∃ wi g tt te, PI X tg iter wi ∧ (∀ (s : Shared) (H : Hp) (C : Addr) (cl : List (Str × Addr)) (fp : List Addr), PG (X.blk s H scope (compEnvC scope cl C X.env) fp) tg g) ∧ (∀ (s : Shared) (H : Hp) (C : Addr) (cl : List (Str × Addr)) (fp : List Addr), PTs (X.blk s H scope (compEnvC scope cl C X.env) fp) ifs tt) ∧
      (∀ (s : Shared) (H : Hp) (C : Addr) (cl : List (Str × Addr)) (fp : List Addr), PE (X.blk s H scope (compEnvC scope cl C X.env) fp) elt te) ∧ RL X.K ρ (tLc wi g tt te (own.map (·.2))) (out n) (E n) := by
  obtain ⟨wi, p1, r1⟩ := h
  refine ⟨wi, fun v σ H Q => ∀ (s : Shared) (H' : Hp) (C : Addr) (cl : List (Str × Addr)) (fp : List Addr), ∃ g, PG (X.blk s H' scope (compEnvC scope cl C X.env) fp) tg g ∧ g v σ H Q,
    fun σ H Q => ∀ (s : Shared) (H' : Hp) (C : Addr) (cl : List (Str × Addr)) (fp : List Addr), ∃ t, PTs (X.blk s H' scope (compEnvC scope cl C X.env) fp) ifs t ∧ t σ H Q,
    fun σ H Q => ∀ (s : Shared) (H' : Hp) (C : Addr) (cl : List (Str × Addr)) (fp : List Addr), ∃ t, PE (X.blk s H' scope (compEnvC scope cl C X.env) fp) elt t ∧ t σ H Q, p1,
    fun s H C cl fp => ⟨fun pins s1 σ1 H1 v u Q I r h => let ⟨g, h1, h2⟩ := h s H C cl fp; h1.run pins s1 σ1 H1 v u Q I r h2⟩,
    fun s H C cl fp => ⟨fun pins s1 σ1 H1 Q I h => let ⟨g, h1, h2⟩ := h s H C cl fp; h1.run pins s1 σ1 H1 Q I h2⟩,
    fun s H C cl fp => ⟨fun pins s1 σ1 H1 Q I h => let ⟨g, h1, h2⟩ := h s H C cl fp; h1.run pins s1 σ1 H1 Q I h2⟩, ?_⟩
  generalize hvs : own.map (·.2) = vs at hE hb ⊢
  intro F0 F M H0 σ H Q S q
  refine r1 F0 F M H0 σ H _ S fun J H1 S1 w1 o1 wk => ?_
  intro D hD
  have hDH : H D = none := new_back S (by exact (S1 : SR X.K F0 F M H0 ρ1 σ H1)) o1 hD
  have nD : ¬ F D := S1.new hD
  have h0D : H0 D = none := S1.h0 hD
  have nMD : ¬ M D := fun z => nD (S1.mf D z)
  have owM : ∀ {G : Addr → Prop} {ρx : List Sl} {σx : L2.St} {Hx : Hp}, SR X.K F0 G M H0 ρx σx Hx → ∀ (j : Nat) (m : Bool) (es : List PyData), ρx[j]? = some (Sl.own m es) → (σx[j]? = some (some (V.ref D)) → m = true → False) := fun Sx j m es e e2 hm => by
    obtain ⟨l, vs', a1, _, _, _, a5⟩ := Sx.own j m es e
    rw [e2] at a1
    cases a1
    subst hm
    exact nMD (by simpa using a5)
  refine ⟨fun i m H2 => m = n - i ∧ i ≤ n ∧ ∃ us, H2 D = some (.lst us) ∧ RpAll X.K (fun a => F a ∨ a = D) H2 us (out i) ∧ us.length ≤ i ∧ SR X.K F0 (fun a => F a ∨ a = D) M H0 (wpe (E i) vs) (L2.wipe σ vs) H2 ∧ Ker F H1 (fun a => F a ∨ a = D) H2 ∧ Off (Ow (wpe ρ1 vs) (L2.wipe σ vs)) H1 H2, ?_, ?_⟩
  · obtain ⟨S2, r2⟩ := rl_of_new (te' := fun _ _ _ => True) S1 hD (RpAll.nil (K := X.K) (F := F) (H := H1))
    exact ⟨n, by simp, Nat.zero_le _, [], upd_same, by rw [o0]; exact .nil, Nat.le_refl _, by rw [e0]; exact S2.wiped vs, ⟨fun b o e _ => same_new hD b o e, fun a xs nf e => ⟨same_new hD a _ e, fun z => z.elim nf fun w => by
      rw [w, hD] at e
      cases e⟩⟩, Off.same (same_new hD)⟩
  · rintro i m H2 ⟨rfl, hi, us, hus, rus, lus, S2, k2, o2⟩
    have owsub : ∀ a, Ow (wpe ρ1 vs) (L2.wipe σ vs) a → Ow ρ σ a := fun a z => w1.ow.mp (ow_wipe z)
    have tn := wk _ H2 k2 (fun _ b o e nb => o2 b o e fun z => nb (owsub b z)) i
    by_cases hlt : i < n
    · obtain ⟨go, yl⟩ := tn.1 hlt
      refine .inr ⟨go, fun H3 => ∃ us, H3 D = some (.lst us) ∧ RpAll X.K (fun a => F a ∨ a = D) H3 us (out (i + 1)) ∧ us.length ≤ i + 1 ∧ SR X.K F0 (fun a => F a ∨ a = D) M H0 (wpe (E (i + 1)) vs) (L2.wipe σ vs) H3 ∧ Ker F H1 (fun a => F a ∨ a = D) H3 ∧ Off (Ow (wpe ρ1 vs) (L2.wipe σ vs)) H1 H3,
        fun H3 ⟨us', b1, b2, b3, b4, b5, b6⟩ => ⟨n - (i + 1), by omega, rfl, hlt, us', b1, b2, b3, b4, b5, b6⟩, fun x H3 yx => ?_⟩
      obtain ⟨s3, r3⟩ := yl x H3 yx
      have S3 := S2.grow s3
      -- the addresses that a turn may change
      have owi : ∀ a, Ow (wpe (E i) vs) (L2.wipe σ vs) a → Ow (wpe ρ1 vs) (L2.wipe σ vs) a := fun a ⟨j, es, a1, a2⟩ => by
        have nj : j ∉ vs := fun z => by
          have := wpe_in z _ a1
          cases this
        rw [wpe_get nj] at a1
        obtain ⟨es', a3⟩ := ((hE i hi).shp j true).mp ⟨es, a1⟩
        exact ⟨j, es', by rw [wpe_get nj]; exact a3, a2⟩
      obtain ⟨ρj, js, bj, hjs, hG, hT, hY, hNo⟩ := hb i hlt
      intro s H' C cl fp
      obtain ⟨g, g1, g2⟩ := hG s H' C cl fp
      refine ⟨g, g1, g2 F0 _ M H0 _ H3 x _ S3 r3 fun σ4 S4 l4 e4 w4 => ?_⟩
      have ew : L2.wipe σ4 vs = L2.wipe σ vs := by
        have z1 : L2.wipe σ4 vs = L2.wipe (L2.wipe σ vs) vs := wipe_ext l4 fun j hj => e4 j fun z => hj (hjs j z)
        have z2 : L2.wipe (L2.wipe σ vs) vs = L2.wipe σ vs := wipe_ext (wipe_length σ vs) fun j hj => wipe_get hj
        rw [z1, z2]
      refine ⟨ew, ?_⟩
      intro s H' C cl fp
      obtain ⟨t, t1, t2⟩ := hT s H' C cl fp
      refine ⟨t, t1, t2 F0 _ M H0 _ H3 _ S4 fun H5 S5 w5 o5 => ?_⟩
      have ow4 : ∀ a, Ow ρj σ4 a → Ow (wpe ρ1 vs) (L2.wipe σ vs) a := fun a z => owi a (w4 a z)
      have k5 : Ker F H1 (fun a => F a ∨ a = D) H5 := (k2.trans (Ker.same s3)).trans (S4.ker o5)
      have o5' : Off (Ow (wpe ρ1 vs) (L2.wipe σ vs)) H1 H5 := (o2.trans (Off.same s3)).trans fun b o e nb => o5 b o e fun z => nb (ow4 b z)
      have noD : ∀ a, Ow (wpe ρ1 vs) (L2.wipe σ vs) a → a ≠ D := fun a z e => by
        obtain ⟨o, eo⟩ := S1.all a (S1.owF (w1.ow.mpr (owsub a z)))
        rw [e, hD] at eo
        cases eo
      have hus5 : H5 D = some (.lst us) := o5 D _ (s3 D _ hus) fun z => noD D (ow4 D z) rfl
      have rus5 := (rus.ker (Ker.same s3)).ker (S4.ker o5)
      cases bj with
      | false =>
        obtain ⟨e6, e7⟩ := hNo rfl
        have SF := S5.wiped vs
        rw [e6, ew] at SF
        show ∃ us, H5 D = some (.lst us) ∧ _
        exact ⟨us, hus5, by rw [e7]; exact rus5, by omega, SF, k5, o5'⟩
      | true =>
        obtain ⟨d, ρk, hE', e6, e7⟩ := hY rfl
        show ∀ (s : Shared) (H' : Hp) (C : Addr) (cl : List (Str × Addr)) (fp : List Addr), _
        intro s H' C cl fp
        obtain ⟨t', t1', t2'⟩ := hE' s H' C cl fp
        refine ⟨t', t1', t2' F0 _ M H0 _ H5 _ S5 fun v H6 S6 w6 o6 g6 => ?_⟩
        have k6 : Ker F H1 (fun a => F a ∨ a = D) H6 := k5.trans (S5.ker o6)
        have o6' : Off (Ow (wpe ρ1 vs) (L2.wipe σ vs)) H1 H6 := o5'.trans fun b o e nb => o6 b o e fun z => nb (ow4 b z)
        have hus6 : H6 D = some (.lst us) := o6 D _ hus5 fun z => noD D (ow4 D z) rfl
        have rus6 := rus5.ker (S5.ker o6)
        have SW := S6.wiped vs
        rw [e6, ew] at SW
        have U := SW.updF (ws := us ++ [v]) hus6 (.inr rfl) h0D fun j m es e1 e2 => by
          have nj : j ∉ vs := fun z => by
            have := wpe_in z _ e1
            cases this
          rw [wpe_get nj] at e1
          rw [wipe_get nj] at e2
          obtain ⟨es', e3⟩ := ((hE (i + 1) hlt).shp j m).mp ⟨es, e1⟩
          obtain ⟨l, us', a1, a2, _⟩ := S1.own j m es' e3
          rw [e2] at a1
          cases a1
          rw [hD] at a2
          cases a2
        refine ⟨us, hus6, Nat.lt_of_le_of_lt (Nat.le_trans lus (Nat.le_of_lt hlt)) (Nat.lt_of_le_of_lt hn (by decide)), us ++ [v], upd_same, ?_, by rw [List.length_append, List.length_singleton]; omega, ?_, ?_, fun b o e nb => ?_⟩
        · rw [e7]
          exact (rus6.append (.cons g6 .nil)).ker U.2
        · exact U.1
        · exact k6.trans U.2
        · rw [upd_ne fun z => by
            rw [z, hD] at e
            cases e]
          exact o6' b o e nb
    · have e : i = n := by omega
      subst e
      refine .inl ⟨tn.2 (Nat.le_refl _), ?_⟩
      have Sn := S1.unwipe (hE i hi) S2 k2 o2 (fun a f => .inl f)
      exact q D us H2 hDH Sn (w1.trans (hE i hi).shp) (o1.trans fun b o e nb => o2 b o e fun z => nb (owsub b z)) hus rus
/-- a comprehension's parts, its list, the environment behind it -/
structure LcW (X : Cx) (ρ : List Sl) (tg iter : Expr) (ifs : List Expr) (elt : Expr) (scope : Scope) (own : List (Str × Nat)) (out : List PyData) (ρ' : List Sl) : Prop where
  ou : ∃ wi g tt te, PI X tg iter wi ∧ (∀ (s : Shared) (H : Hp) (C : Addr) (cl : List (Str × Addr)) (fp : List Addr), PG (X.blk s H scope (compEnvC scope cl C X.env) fp) tg g) ∧ (∀ (s : Shared) (H : Hp) (C : Addr) (cl : List (Str × Addr)) (fp : List Addr), PTs (X.blk s H scope (compEnvC scope cl C X.env) fp) ifs tt) ∧
    (∀ (s : Shared) (H : Hp) (C : Addr) (cl : List (Str × Addr)) (fp : List Addr), PE (X.blk s H scope (compEnvC scope cl C X.env) fp) elt te) ∧ RL X.K ρ (tLc wi g tt te (own.map (·.2))) out ρ'
/-- [elt for tg in iter if ..] -/
theorem dl_lc {out : List PyData} (own : List (Str × Nat)) (hc : X.calm = true) (hN : X.N.Nodup) (ok : BlkOk X.N X.env.scope scope own) (h : LcW X ρ tg iter ifs elt scope own out ρ1) (hs : ∀ x, foldedSetIterable iter X.env x = pure x := by intro _; rfl) :
    DL X ρ (.ListComp elt [⟨tg, iter, ifs, 0⟩] scope pos) out ρ1 := by
  obtain ⟨wi, g, tt, te, p1, p2, p3, p4, r⟩ := h
  exact ⟨_, pe_lc hc hN p1 ok p2 p3 p4 hs, r⟩
/-- y = [elt for tg in iter if ..], y a local that no block captures -/
theorem ds_setLc {out : List PyData} {yn : Str} {py spos : Pos} {P : Po} (i : Nat) (own : List (Str × Nat)) (hc : X.calm = true) (hN : X.N.Nodup) (ok : BlkOk X.N X.env.scope scope own) (h : LcW X ρ tg iter ifs elt scope own out ρ1) (hq : P.nx (ρ1.set i (.val (Li out)))) (hy : X.N[i]? = some yn := by rfl) (hyl : X.env.scope.names.lookup yn = some .local := by rfl)
    (hsw : swapsWith (.ListComp elt [⟨tg, iter, ifs, 0⟩] scope pos) (some (.Name yn py)) spos.line X.env = pure true := by exact sw_true rfl rfl rfl (by decide +kernel)) (hs : ∀ x, foldedSetIterable iter X.env x = pure x := by intro _; rfl) :
    DS X ρ (.Assign [.Name yn py] (.ListComp elt [⟨tg, iter, ifs, 0⟩] scope pos) spos) P := by
  obtain ⟨wi, g, tt, te, p1, p2, p3, p4, r⟩ := h
  refine ⟨_, ps_setLc hc hN hy hyl hsw p1 ok p2 p3 p4 hs, fun F0 F M H0 σ H E S q1 q2 q3 q4 => r.ex F0 F M H0 σ H _ S fun v H1 S1 w1 o1 g1 => ?_⟩
  exact q1 F _ _ H1 hq (S1.setVal g1) (S.ker o1)
/-- .., the list to be changed -/
theorem ds_setLcO {out : List PyData} {yn : Str} {py spos : Pos} {P : Po} (i : Nat) (own : List (Str × Nat)) (hc : X.calm = true) (hN : X.N.Nodup) (ok : BlkOk X.N X.env.scope scope own) (h : LcW X ρ tg iter ifs elt scope own out ρ1) (hq : P.nx (ρ1.set i (.own false out))) (hy : X.N[i]? = some yn := by rfl) (hyl : X.env.scope.names.lookup yn = some .local := by rfl)
    (hsw : swapsWith (.ListComp elt [⟨tg, iter, ifs, 0⟩] scope pos) (some (.Name yn py)) spos.line X.env = pure true := by exact sw_true rfl rfl rfl (by decide +kernel)) (hs : ∀ x, foldedSetIterable iter X.env x = pure x := by intro _; rfl) :
    DS X ρ (.Assign [.Name yn py] (.ListComp elt [⟨tg, iter, ifs, 0⟩] scope pos) spos) P := by
  obtain ⟨wi, g, tt, te, p1, p2, p3, p4, r⟩ := h
  refine ⟨_, ps_setLc hc hN hy hyl hsw p1 ok p2 p3 p4 hs, fun F0 F M H0 σ H E S q1 q2 q3 q4 => r F0 F M H0 σ H _ S fun t vs H1 ht S1 w1 o1 hl g1 => ?_⟩
  exact q1 _ _ _ H1 hq (S1.setOwn hl g1 (.inr rfl) (S.h0 ht) (fun f => S.new ht (S.sub t f)) (S.nosl w1 ht)) (S.kerL o1 hl ht)
/-- what changes nothing: the kept items' values -/
theorem lcw_pure (f : Nat → PyData) (tb : Nat → Bool) (h : DI X false ρ tg iter n y ρ1) (hn : n ≤ 100000)
    (hb : ∀ i, i < n → ∃ ρj js, (∀ j ∈ js, j ∈ own.map (·.2)) ∧ wpe ρj (own.map (·.2)) = wpe ρ1 (own.map (·.2)) ∧ (∀ (s : Shared) (H : Hp) (C : Addr) (cl : List (Str × Addr)) (fp : List Addr), DG (X.blk s H scope (compEnvC scope cl C X.env) fp) (wpe ρ1 (own.map (·.2))) tg (.py (y i)) ρj js) ∧
      (∀ (s : Shared) (H : Hp) (C : Addr) (cl : List (Str × Addr)) (fp : List Addr), DTs (X.blk s H scope (compEnvC scope cl C X.env) fp) ρj ifs (tb i)) ∧
      (tb i = true → ∀ (s : Shared) (H : Hp) (C : Addr) (cl : List (Str × Addr)) (fp : List Addr), DE (X.blk s H scope (compEnvC scope cl C X.env) fp) ρj elt (.py (f i)) ρj)) :
    LcW X ρ tg iter ifs elt scope own (((List.range n).filter tb).map f) ρ1 := by
  refine ⟨lc_all (E := fun _ => ρ1) (out := fun i => ((List.range i).filter tb).map f) h hn rfl (fun _ _ => Rl.refl _ _) rfl fun i hi => ?_⟩
  obtain ⟨ρj, js, h1, h2, h3, h4, h5⟩ := hb i hi
  refine ⟨ρj, js, tb i, h1, h3, h4, fun e => ⟨f i, ρj, h5 e, h2, ?_⟩, fun e => ⟨h2, ?_⟩⟩
  · simp only [List.range_succ, List.filter_append, List.map_append]
    rw [List.filter_cons_of_pos e]
    rfl
  · simp only [List.range_succ, List.filter_append, List.map_append]
    rw [List.filter_cons_of_neg (by rw [e]; exact Bool.false_ne_true)]
    simp
theorem range_at (ds : List PyData) (p : PyData → Bool) (f : PyData → PyData) : ((List.range ds.length).filter fun i => p (at_ ds i)).map (fun i => f (at_ ds i)) = (ds.filter p).map f := by
  have e : ds = (List.range ds.length).map (at_ ds) := by
    apply List.ext_getElem?
    intro i
    by_cases hi : i < ds.length
    · rw [List.getElem?_map, List.getElem?_range hi]
      show ds[i]? = some (at_ ds i)
      unfold at_
      rw [List.getElem?_eq_getElem hi]
      rfl
    · rw [List.getElem?_eq_none (by omega), List.getElem?_eq_none (by simp; omega)]
  conv => rhs; rw [e, List.filter_map, List.map_map]
  rfl
/-- over the items of a list or a tuple; one name -/
theorem lcw_seq {xn : Str} (j : Nat) (p : PyData → Bool) (f : PyData → PyData) (h : DI X false ρ (.Name xn p2) iter ds.length (at_ ds) ρ1) (hn : ds.length ≤ 100000)
    (hg : ∀ d (s : Shared) (H : Hp) (C : Addr) (cl : List (Str × Addr)) (fp : List Addr), DG (X.blk s H scope (compEnvC scope cl C X.env) fp) (ρ1.set j .any) (.Name xn p2) d ((ρ1.set j .any).set j (.val d)) [j])
    (ht : ∀ d, d ∈ ds → ∀ (s : Shared) (H : Hp) (C : Addr) (cl : List (Str × Addr)) (fp : List Addr), DTs (X.blk s H scope (compEnvC scope cl C X.env) fp) (ρ1.set j (.val (.py d))) ifs (p d))
    (he : ∀ d, d ∈ ds → p d = true → ∀ (s : Shared) (H : Hp) (C : Addr) (cl : List (Str × Addr)) (fp : List Addr), DE (X.blk s H scope (compEnvC scope cl C X.env) fp) (ρ1.set j (.val (.py d))) elt (.py (f d)) (ρ1.set j (.val (.py d)))) :
    LcW X ρ (.Name xn p2) iter ifs elt scope [(xn, j)] ((ds.filter p).map f) ρ1 := by
  rw [← range_at]
  refine lcw_pure (fun i => f (at_ ds i)) (fun i => p (at_ ds i)) h hn fun i hi => ?_
  have hm : at_ ds i ∈ ds := by
    unfold at_
    rw [List.getElem?_eq_getElem hi]
    exact List.getElem_mem hi
  refine ⟨ρ1.set j (.val (.py (at_ ds i))), [j], fun _ h => h, ?_, fun s H C cl fp => ?_, ht _ hm, he _ hm⟩
  · show (ρ1.set j (Sl.val _)).set j Sl.any = ρ1.set j Sl.any
    rw [List.set_set]
  · have q := hg (.py (at_ ds i)) s H C cl fp
    rw [List.set_set] at q
    exact q
theorem lcw_map {xn : Str} (j : Nat) (f : PyData → PyData) (h : DI X false ρ (.Name xn p2) iter ds.length (at_ ds) ρ1) (hn : ds.length ≤ 100000)
    (hg : ∀ d (s : Shared) (H : Hp) (C : Addr) (cl : List (Str × Addr)) (fp : List Addr), DG (X.blk s H scope (compEnvC scope cl C X.env) fp) (ρ1.set j .any) (.Name xn p2) d ((ρ1.set j .any).set j (.val d)) [j])
    (he : ∀ d, d ∈ ds → ∀ (s : Shared) (H : Hp) (C : Addr) (cl : List (Str × Addr)) (fp : List Addr), DE (X.blk s H scope (compEnvC scope cl C X.env) fp) (ρ1.set j (.val (.py d))) elt (.py (f d)) (ρ1.set j (.val (.py d)))) :
    LcW X ρ (.Name xn p2) iter [] elt scope [(xn, j)] (ds.map f) ρ1 := by
  have q := lcw_seq (ifs := []) j (fun _ => true) f h hn hg (fun _ _ _ _ _ _ _ => dts_nil) fun d hd _ => he d hd
  have e : ds.filter (fun _ => true) = ds := List.filter_eq_self.mpr fun _ _ => rfl
  rw [e] at q
  exact q
/-- over a range -/
theorem lcw_range {xn : Str} (j : Nat) (tb : Nat → Bool) (f : Nat → PyData) (h : DI X false ρ (.Name xn p2) iter n y ρ1) (hn : n ≤ 100000)
    (hg : ∀ d (s : Shared) (H : Hp) (C : Addr) (cl : List (Str × Addr)) (fp : List Addr), DG (X.blk s H scope (compEnvC scope cl C X.env) fp) (ρ1.set j .any) (.Name xn p2) d ((ρ1.set j .any).set j (.val d)) [j])
    (ht : ∀ i, i < n → ∀ (s : Shared) (H : Hp) (C : Addr) (cl : List (Str × Addr)) (fp : List Addr), DTs (X.blk s H scope (compEnvC scope cl C X.env) fp) (ρ1.set j (.val (.py (y i)))) ifs (tb i))
    (he : ∀ i, i < n → tb i = true → ∀ (s : Shared) (H : Hp) (C : Addr) (cl : List (Str × Addr)) (fp : List Addr), DE (X.blk s H scope (compEnvC scope cl C X.env) fp) (ρ1.set j (.val (.py (y i)))) elt (.py (f i)) (ρ1.set j (.val (.py (y i))))) :
    LcW X ρ (.Name xn p2) iter ifs elt scope [(xn, j)] (((List.range n).filter tb).map f) ρ1 := by
  refine lcw_pure f tb h hn fun i hi => ?_
  refine ⟨ρ1.set j (.val (.py (y i))), [j], fun _ h => h, ?_, fun s H C cl fp => ?_, ht i hi, he i hi⟩
  · show (ρ1.set j (Sl.val _)).set j Sl.any = ρ1.set j Sl.any
    rw [List.set_set]
  · have q := hg (.py (y i)) s H C cl fp
    rw [List.set_set] at q
    exact q
end
end Bw
/-! Zip4: zip over 4 iterators of one length. Printed by genzip.py. -/
namespace Bw
open PySem PySem.Spec PyProof.Rows
open PySem.Sem (wp)
abbrev IsTup4 (h : Heap) (T : Addr) (a1 a2 a3 a4 : Value) : Prop := h.get? T = some { cls := .type "tuple", data := .seq #[a1, a2, a3, a4] }
structure Z4Sep (z TI TO i1 i2 i3 i4 : Addr) (fp1 fp2 fp3 fp4 : List Addr) : Prop where
  TIz : TI ≠ z
  TOz : TO ≠ z
  TITO : TI ≠ TO
  TIi1 : TI ≠ i1
  mem1 : i1 ∈ fp1
  zf1 : z ∉ fp1
  Tf1 : TO ∉ fp1
  TIi2 : TI ≠ i2
  mem2 : i2 ∈ fp2
  zf2 : z ∉ fp2
  Tf2 : TO ∉ fp2
  TIi3 : TI ≠ i3
  mem3 : i3 ∈ fp3
  zf3 : z ∉ fp3
  Tf3 : TO ∉ fp3
  TIi4 : TI ≠ i4
  mem4 : i4 ∈ fp4
  zf4 : z ∉ fp4
  Tf4 : TO ∉ fp4
  sep1_2 : i1 ∉ fp2
  sep1_3 : i1 ∉ fp3
  sep1_4 : i1 ∉ fp4
  sep2_1 : i2 ∉ fp1
  sep2_3 : i2 ∉ fp3
  sep2_4 : i2 ∉ fp4
  sep3_1 : i3 ∉ fp1
  sep3_2 : i3 ∉ fp2
  sep3_4 : i3 ∉ fp4
  sep4_1 : i4 ∉ fp1
  sep4_2 : i4 ∉ fp2
  sep4_3 : i4 ∉ fp3
section
variable {prog : Program} {w : World} {A : Around} {E : Value → Shared → Prop} {s : Shared} {z TI TO i1 i2 i3 i4 : Addr} {fp1 fp2 fp3 fp4 : List Addr} {n i : Nat} {P1 P2 P3 P4 : Nat → Value → Prop} {St1 St2 St3 St4 : Nat → Heap → Prop} {a1 a2 a3 a4 : Value}
theorem Z4Sep.zi1 (D : Z4Sep z TI TO i1 i2 i3 i4 fp1 fp2 fp3 fp4) : z ≠ i1 := fun e => D.zf1 (by rw [e]; exact D.mem1)
theorem Z4Sep.Ti1 (D : Z4Sep z TI TO i1 i2 i3 i4 fp1 fp2 fp3 fp4) : TO ≠ i1 := fun e => D.Tf1 (by rw [e]; exact D.mem1)
theorem Z4Sep.zi2 (D : Z4Sep z TI TO i1 i2 i3 i4 fp1 fp2 fp3 fp4) : z ≠ i2 := fun e => D.zf2 (by rw [e]; exact D.mem2)
theorem Z4Sep.Ti2 (D : Z4Sep z TI TO i1 i2 i3 i4 fp1 fp2 fp3 fp4) : TO ≠ i2 := fun e => D.Tf2 (by rw [e]; exact D.mem2)
theorem Z4Sep.zi3 (D : Z4Sep z TI TO i1 i2 i3 i4 fp1 fp2 fp3 fp4) : z ≠ i3 := fun e => D.zf3 (by rw [e]; exact D.mem3)
theorem Z4Sep.Ti3 (D : Z4Sep z TI TO i1 i2 i3 i4 fp1 fp2 fp3 fp4) : TO ≠ i3 := fun e => D.Tf3 (by rw [e]; exact D.mem3)
theorem Z4Sep.zi4 (D : Z4Sep z TI TO i1 i2 i3 i4 fp1 fp2 fp3 fp4) : z ≠ i4 := fun e => D.zf4 (by rw [e]; exact D.mem4)
theorem Z4Sep.Ti4 (D : Z4Sep z TI TO i1 i2 i3 i4 fp1 fp2 fp3 fp4) : TO ≠ i4 := fun e => D.Tf4 (by rw [e]; exact D.mem4)
theorem updateSeq_IsTup4 {T : Addr} {x : Value} {k : Nat} {Q : Unit → Shared → Prop} (hT : IsTup4 s.heap T a1 a2 a3 a4)
    (h : ∀ h', h'.get? T = some { cls := .type "tuple", data := .seq ((#[a1, a2, a3, a4] : Array Value).setIfInBounds k x) } → Heap.SameBut T s.heap h' → Q () { s with heap := h' }) :
    wpAny (model prog w) A (updateSeq T (·.setIfInBounds k x)) Q E s := by
  refine wpAny_updateSeq hT rfl (h _ ?_ (Heap.SameBut.update ..))
  rw [Heap.get?_update_self _ hT rfl]
  simp [Obj.mapSeq]
theorem zip4_next_item {Q : Value → Shared → Prop} (S : Z4Sep z TI TO i1 i2 i3 i4 fp1 fp2 fp3 fp4) (D1 : Draws prog w A i1 fp1 n P1 St1) (D2 : Draws prog w A i2 fp2 n P2 St2) (D3 : Draws prog w A i3 fp3 n P3 St3) (D4 : Draws prog w A i4 fp4 n P4 St4)
    (hz : IsZip s.heap z TI TO .none) (hTI : IsTup4 s.heap TI (.ref i1) (.ref i2) (.ref i3) (.ref i4)) (hTO : IsTup4 s.heap TO a1 a2 a3 a4) (st1 : St1 i s.heap) (st2 : St2 i s.heap) (st3 : St3 i s.heap) (st4 : St4 i s.heap) (hlt : i < n)
    (hQ : ∀ x1 x2 x3 x4 h' tk, P1 i x1 → P2 i x2 → P3 i x3 → P4 i x4 → IsZip h' z TI TO (rawInt s.heap.objs.size) → IsTup4 h' TO x1 x2 x3 x4 → St1 (i + 1) h' → St2 (i + 1) h' → St3 (i + 1) h' → St4 (i + 1) h' → IsTup4 h' s.heap.objs.size x1 x2 x3 x4 → h'.objs.size = s.heap.objs.size + 1 →
      (∀ c o, c ≠ z → c ≠ TO → c ≠ i1 → c ≠ i2 → c ≠ i3 → c ≠ i4 → s.heap.get? c = some o → h'.get? c = some o) → Q (.ref s.heap.objs.size) { s with heap := h', toks := tk }) :
    wpAny (model prog w) A (Builtin.«zip.__next__» ⟨[.ref z], []⟩) (fun fin s' => ∃ v, fin = .done (.ret v) ∧ Q v s') E s := by
  obtain ⟨hp, g, d, tk0, os⟩ := s
  show wpAny _ _ (field (.ref z) 2 >>= _) _ _ _
  refine wpAny_bind (wpAny_field hz rfl (x := .bool false) rfl ?_)
  show wpAny _ _ (field (.ref z) 3 >>= _) _ _ _
  refine wpAny_bind (wpAny_field hz rfl (x := .ref TI) rfl ?_)
  refine wpAny_bind (wpAny_seqItems hTI rfl ?_)
  show wpAny _ _ (Builtin.SmallTypes.ownedTupleIsFree (.ref z) >>= _) _ _ _
  refine wpAny_bind ?_
  unfold Builtin.SmallTypes.ownedTupleIsFree
  refine wpAny_bind (wpAny_field hz rfl (x := .none) rfl (wpAny_pure ?_))
  simp only [if_true]
  refine wpAny_bind (wpAny_rule ?_)
  refine wpAny_bind (wpAny_field hz rfl (x := .ref TO) rfl ?_)
  refine wpAny_bind (wpAny_setField_rec hz (by simp) fun g0 hz0 hs0 => ?_)
  replace hz0 : IsZip g0 z TI TO .ellipsis := hz0
  replace hs0 : Heap.SameBut z hp g0 := hs0
  refine wpAny_bind ?_
  simp only [List.zipIdx_cons, List.zipIdx_nil, List.forIn_cons, List.forIn_nil]
  refine wpAny_bind (wpAny_bind (wpAny_onRaise ?_))
  show wpAny _ _ (Builtin.SmallTypes.nextOf (.ref i1) >>= _) _ _ ⟨g0, g, d, tk0, os⟩
  refine wpAny_bind (D1.item i _ _ _ hlt (D1.over st1 hs0 S.zf1) fun x1 p1 tk1 hx1 sn1 hp1 => wpAny_pure ?_)
  replace hp1 : Heap.SameBut i1 g0 p1 := hp1
  have hU1 : IsTup4 p1 TO a1 a2 a3 a4 := hp1.extBut _ _ S.Ti1 (hs0.extBut _ _ S.TOz hTO)
  refine wpAny_bind (wpAny_seqItems (s := ⟨p1, g, d, tk1, os⟩) hU1 rfl ?_)
  refine wpAny_bind (updateSeq_IsTup4 (s := ⟨p1, g, d, tk1, os⟩) hU1 fun g1 hT1 hs1 => ?_)
  replace hT1 : IsTup4 g1 TO x1 a2 a3 a4 := hT1
  replace hs1 : Heap.SameBut TO p1 g1 := hs1
  refine wpAny_bind (wpAny_letGo (wpAny_pure ?_))
  refine wpAny_bind (wpAny_bind (wpAny_onRaise ?_))
  show wpAny _ _ (Builtin.SmallTypes.nextOf (.ref i2) >>= _) _ _ ⟨g1, g, d, tk1, os⟩
  refine wpAny_bind (D2.item i _ _ _ hlt (D2.over (D2.over (D2.over st2 hs0 S.zf2) hp1 S.sep1_2) hs1 S.Tf2) fun x2 p2 tk2 hx2 sn2 hp2 => wpAny_pure ?_)
  replace hp2 : Heap.SameBut i2 g1 p2 := hp2
  have hU2 : IsTup4 p2 TO x1 a2 a3 a4 := hp2.extBut _ _ S.Ti2 hT1
  refine wpAny_bind (wpAny_seqItems (s := ⟨p2, g, d, tk2, os⟩) hU2 rfl ?_)
  refine wpAny_bind (updateSeq_IsTup4 (s := ⟨p2, g, d, tk2, os⟩) hU2 fun g2 hT2 hs2 => ?_)
  replace hT2 : IsTup4 g2 TO x1 x2 a3 a4 := hT2
  replace hs2 : Heap.SameBut TO p2 g2 := hs2
  refine wpAny_bind (wpAny_letGo (wpAny_pure ?_))
  refine wpAny_bind (wpAny_bind (wpAny_onRaise ?_))
  show wpAny _ _ (Builtin.SmallTypes.nextOf (.ref i3) >>= _) _ _ ⟨g2, g, d, tk2, os⟩
  refine wpAny_bind (D3.item i _ _ _ hlt (D3.over (D3.over (D3.over (D3.over (D3.over st3 hs0 S.zf3) hp1 S.sep1_3) hs1 S.Tf3) hp2 S.sep2_3) hs2 S.Tf3) fun x3 p3 tk3 hx3 sn3 hp3 => wpAny_pure ?_)
  replace hp3 : Heap.SameBut i3 g2 p3 := hp3
  have hU3 : IsTup4 p3 TO x1 x2 a3 a4 := hp3.extBut _ _ S.Ti3 hT2
  refine wpAny_bind (wpAny_seqItems (s := ⟨p3, g, d, tk3, os⟩) hU3 rfl ?_)
  refine wpAny_bind (updateSeq_IsTup4 (s := ⟨p3, g, d, tk3, os⟩) hU3 fun g3 hT3 hs3 => ?_)
  replace hT3 : IsTup4 g3 TO x1 x2 x3 a4 := hT3
  replace hs3 : Heap.SameBut TO p3 g3 := hs3
  refine wpAny_bind (wpAny_letGo (wpAny_pure ?_))
  refine wpAny_bind (wpAny_bind (wpAny_onRaise ?_))
  show wpAny _ _ (Builtin.SmallTypes.nextOf (.ref i4) >>= _) _ _ ⟨g3, g, d, tk3, os⟩
  refine wpAny_bind (D4.item i _ _ _ hlt (D4.over (D4.over (D4.over (D4.over (D4.over (D4.over (D4.over st4 hs0 S.zf4) hp1 S.sep1_4) hs1 S.Tf4) hp2 S.sep2_4) hs2 S.Tf4) hp3 S.sep3_4) hs3 S.Tf4) fun x4 p4 tk4 hx4 sn4 hp4 => wpAny_pure ?_)
  replace hp4 : Heap.SameBut i4 g3 p4 := hp4
  have hU4 : IsTup4 p4 TO x1 x2 x3 a4 := hp4.extBut _ _ S.Ti4 hT3
  refine wpAny_bind (wpAny_seqItems (s := ⟨p4, g, d, tk4, os⟩) hU4 rfl ?_)
  refine wpAny_bind (updateSeq_IsTup4 (s := ⟨p4, g, d, tk4, os⟩) hU4 fun g4 hT4 hs4 => ?_)
  replace hT4 : IsTup4 g4 TO x1 x2 x3 x4 := hT4
  replace hs4 : Heap.SameBut TO p4 g4 := hs4
  refine wpAny_bind (wpAny_letGo (wpAny_pure (wpAny_pure ?_)))
  refine wpAny_bind (wpAny_seqItems (s := ⟨g4, g, d, tk4, os⟩) hT4 rfl ?_)
  refine wpAny_bind (wpAny_newTuple ?_)
  have hsz : g4.objs.size = hp.objs.size := by rw [hs4.1, hp4.1, hs3.1, hp3.1, hs2.1, hp2.1, hs1.1, hp1.1, hs0.1]
  have hzz : IsZip g4 z TI TO .ellipsis := (hs4.extBut _ _ S.TOz.symm (hp4.extBut _ _ S.zi4 (hs3.extBut _ _ S.TOz.symm (hp3.extBut _ _ S.zi3 (hs2.extBut _ _ S.TOz.symm (hp2.extBut _ _ S.zi2 (hs1.extBut _ _ S.TOz.symm (hp1.extBut _ _ S.zi1 hz0))))))))
  have hkk : ∀ c o, c ≠ z → c ≠ TO → c ≠ i1 → c ≠ i2 → c ≠ i3 → c ≠ i4 → hp.get? c = some o → g4.get? c = some o := fun c o cz cT c1 c2 c3 c4 e =>
    (hs4.extBut _ _ cT (hp4.extBut _ _ c4 (hs3.extBut _ _ cT (hp3.extBut _ _ c3 (hs2.extBut _ _ cT (hp2.extBut _ _ c2 (hs1.extBut _ _ cT (hp1.extBut _ _ c1 (hs0.extBut _ _ cz e)))))))))
  have hj1 : St1 (i + 1) g4 := D1.over (D1.over (D1.over (D1.over (D1.over (D1.over (D1.over sn1 hs1 S.Tf1) hp2 S.sep2_1) hs2 S.Tf1) hp3 S.sep3_1) hs3 S.Tf1) hp4 S.sep4_1) hs4 S.Tf1
  have hj2 : St2 (i + 1) g4 := D2.over (D2.over (D2.over (D2.over (D2.over sn2 hs2 S.Tf2) hp3 S.sep3_2) hs3 S.Tf2) hp4 S.sep4_2) hs4 S.Tf2
  have hj3 : St3 (i + 1) g4 := D3.over (D3.over (D3.over sn3 hs3 S.Tf3) hp4 S.sep4_3) hs4 S.Tf3
  have hj4 : St4 (i + 1) g4 := D4.over sn4 hs4 S.Tf4
  have hzlt : z < g4.objs.size := Heap.lt_size hzz
  show wpAny _ _ (Builtin.SmallTypes.ownedTupleHandOut (.ref z) (.ref g4.objs.size) >>= _) _ _ ⟨g4.push { cls := .type "tuple", data := .seq #[x1, x2, x3, x4] }, g, d, tk4, os⟩
  refine wpAny_bind ?_
  unfold Builtin.SmallTypes.ownedTupleHandOut
  have hz6 : IsZip (g4.push { cls := .type "tuple", data := .seq #[x1, x2, x3, x4] }) z TI TO .ellipsis := Heap.get?_push_of_some _ hzz
  refine wpAny_bind (wpAny_setField_rec hz6 (by simp) fun h7 hz7 hs7 => ?_)
  replace hz7 : IsZip h7 z TI TO (rawInt g4.objs.size) := hz7
  refine wpAny_setField_rec hz7 (by simp) fun h8 hz8 hs8 => ?_
  replace hz8 : IsZip h8 z TI TO (rawInt g4.objs.size) := hz8
  replace hs7 : Heap.SameBut z (g4.push { cls := .type "tuple", data := .seq #[x1, x2, x3, x4] }) h7 := hs7
  replace hs8 : Heap.SameBut z h7 h8 := hs8
  have up : ∀ c o, c ≠ z → g4.get? c = some o → h8.get? c = some o := fun c o c1 e => hs8.extBut _ _ c1 (hs7.extBut _ _ c1 (Heap.get?_push_of_some _ e))
  have hT8 : IsTup4 h8 g4.objs.size x1 x2 x3 x4 := hs8.extBut _ _ (Nat.ne_of_gt hzlt) (hs7.extBut _ _ (Nat.ne_of_gt hzlt) (Heap.get?_push_size _ rfl))
  have zz8 : h8.objs.size = g4.objs.size + 1 := by rw [hs8.1, hs7.1, Heap.size_push]
  rw [hsz] at hz8 hT8 zz8
  refine wpAny_pure ⟨_, rfl, ?_⟩
  show Q (.ref g4.objs.size) ⟨h8, g, d, tk4, os⟩
  rw [hsz]
  exact hQ x1 x2 x3 x4 h8 tk4 hx1 hx2 hx3 hx4 hz8 (up _ _ S.TOz hT4) (D1.frame _ _ _ hj1 fun b hb o e => up b o (fun q => S.zf1 (q ▸ hb)) e) (D2.frame _ _ _ hj2 fun b hb o e => up b o (fun q => S.zf2 (q ▸ hb)) e) (D3.frame _ _ _ hj3 fun b hb o e => up b o (fun q => S.zf3 (q ▸ hb)) e) (D4.frame _ _ _ hj4 fun b hb o e => up b o (fun q => S.zf4 (q ▸ hb)) e) hT8 zz8 fun c o cz cT c1 c2 c3 c4 e => up c o cz (hkk c o cz cT c1 c2 c3 c4 e)
theorem zip4_next_end {Q : Fin → Shared → Prop} (S : Z4Sep z TI TO i1 i2 i3 i4 fp1 fp2 fp3 fp4) (D1 : Draws prog w A i1 fp1 n P1 St1) (D2 : Draws prog w A i2 fp2 n P2 St2) (D3 : Draws prog w A i3 fp3 n P3 St3) (D4 : Draws prog w A i4 fp4 n P4 St4)
    (hz : IsZip s.heap z TI TO .none) (hTI : IsTup4 s.heap TI (.ref i1) (.ref i2) (.ref i3) (.ref i4)) (hTO : IsTup4 s.heap TO a1 a2 a3 a4) (st1 : St1 i s.heap) (st2 : St2 i s.heap) (st3 : St3 i s.heap) (st4 : St4 i s.heap) (hend : i = n)
    (hE : ∀ h' tk e, (∀ c o, c ≠ z → c ≠ TO → c ≠ i1 → c ≠ i2 → c ≠ i3 → c ≠ i4 → s.heap.get? c = some o → h'.get? c = some o) → (∃ o, h'.get? e = some o ∧ o.cls = .type "StopIteration") → E (.ref e) { s with heap := h', toks := tk }) :
    wpAny (model prog w) A (Builtin.«zip.__next__» ⟨[.ref z], []⟩) Q E s := by
  obtain ⟨hp, g, d, tk0, os⟩ := s
  show wpAny _ _ (field (.ref z) 2 >>= _) _ _ _
  refine wpAny_bind (wpAny_field hz rfl (x := .bool false) rfl ?_)
  show wpAny _ _ (field (.ref z) 3 >>= _) _ _ _
  refine wpAny_bind (wpAny_field hz rfl (x := .ref TI) rfl ?_)
  refine wpAny_bind (wpAny_seqItems hTI rfl ?_)
  show wpAny _ _ (Builtin.SmallTypes.ownedTupleIsFree (.ref z) >>= _) _ _ _
  refine wpAny_bind ?_
  unfold Builtin.SmallTypes.ownedTupleIsFree
  refine wpAny_bind (wpAny_field hz rfl (x := .none) rfl (wpAny_pure ?_))
  simp only [if_true]
  refine wpAny_bind (wpAny_rule ?_)
  refine wpAny_bind (wpAny_field hz rfl (x := .ref TO) rfl ?_)
  refine wpAny_bind (wpAny_setField_rec hz (by simp) fun g0 hz0 hs0 => ?_)
  replace hz0 : IsZip g0 z TI TO .ellipsis := hz0
  replace hs0 : Heap.SameBut z hp g0 := hs0
  refine wpAny_bind ?_
  simp only [List.zipIdx_cons, List.zipIdx_nil, List.forIn_cons, List.forIn_nil]
  refine wpAny_bind (wpAny_bind (wpAny_onRaise ?_))
  show wpAny _ _ (Builtin.SmallTypes.nextOf (.ref i1) >>= _) _ _ ⟨g0, g, d, tk0, os⟩
  refine wpAny_bind (D1.done ⟨g0, g, d, tk0, os⟩ _ _ (by rw [← hend]; exact (D1.over st1 hs0 S.zf1)) fun q e hq he => ?_)
  replace hq : Heap.ExtBut i1 g0 q := hq
  obtain ⟨oe, hoe, hce⟩ := he
  replace hoe : q.get? e = some oe := hoe
  have hzq : IsZip q z TI TO .ellipsis := hq _ _ S.zi1 hz0
  have hez : e ≠ z := fun x => by subst x; rw [hzq] at hoe; cases hoe; simp at hce
  refine wpAny_setField_rec (s := ⟨q, g, d, tk0, os⟩) hzq (by simp) fun q' _ hq' => ?_
  replace hq' : Heap.SameBut z q q' := hq'
  exact hE q' tk0 e (fun c o cz cT c1 c2 c3 c4 x => hq'.extBut _ _ cz (hq _ _ c1 (hs0.extBut _ _ cz x))) ⟨oe, hq'.extBut _ _ hez hoe, hce⟩
theorem pyNext_zip4_item {Q : Option Value → Shared → Prop} (S : Z4Sep z TI TO i1 i2 i3 i4 fp1 fp2 fp3 fp4) (D1 : Draws prog w A.in1 i1 fp1 n P1 St1) (D2 : Draws prog w A.in1 i2 fp2 n P2 St2) (D3 : Draws prog w A.in1 i3 fp3 n P3 St3) (D4 : Draws prog w A.in1 i4 fp4 n P4 St4)
    (hz : IsZip s.heap z TI TO .none) (hTI : IsTup4 s.heap TI (.ref i1) (.ref i2) (.ref i3) (.ref i4)) (hTO : IsTup4 s.heap TO a1 a2 a3 a4) (st1 : St1 i s.heap) (st2 : St2 i s.heap) (st3 : St3 i s.heap) (st4 : St4 i s.heap) (hlt : i < n)
    (hQ : ∀ x1 x2 x3 x4 h' tk, P1 i x1 → P2 i x2 → P3 i x3 → P4 i x4 → IsZip h' z TI TO (rawInt s.heap.objs.size) → IsTup4 h' TO x1 x2 x3 x4 → St1 (i + 1) h' → St2 (i + 1) h' → St3 (i + 1) h' → St4 (i + 1) h' → IsTup4 h' s.heap.objs.size x1 x2 x3 x4 → h'.objs.size = s.heap.objs.size + 1 →
      (∀ c o, c ≠ z → c ≠ TO → c ≠ i1 → c ≠ i2 → c ≠ i3 → c ≠ i4 → s.heap.get? c = some o → h'.get? c = some o) → Q (some (.ref s.heap.objs.size)) { s with heap := h', toks := tk }) :
    wpAny (model prog w) A (pyNext (.ref z)) Q E s := by
  have hT : s.TypeIs (.ref z) "zip" := ⟨_, hz, rfl⟩
  unfold pyNext
  exact wpAny_bind (wpAny_attempt (wpAny_callSpecial?_slot (name := Str.ofString "__next__") hT F.slot_zip_next
    (wpAny_call_entry F.slot_zip_next hT F.entry_zip_next
      (zip4_next_item S D1 D2 D3 D4 hz hTI hTO st1 st2 st3 st4 hlt fun x1 x2 x3 x4 h' tk y1 y2 y3 y4 b1 b2 d1 d2 d3 d4 b5 b6 b7 => wpAny_pure (hQ x1 x2 x3 x4 h' tk y1 y2 y3 y4 b1 b2 d1 d2 d3 d4 b5 b6 b7)) (F.args_zip_next_1 _))))
theorem pyNext_zip4_end {Q : Option Value → Shared → Prop} (S : Z4Sep z TI TO i1 i2 i3 i4 fp1 fp2 fp3 fp4) (D1 : Draws prog w A.in1 i1 fp1 n P1 St1) (D2 : Draws prog w A.in1 i2 fp2 n P2 St2) (D3 : Draws prog w A.in1 i3 fp3 n P3 St3) (D4 : Draws prog w A.in1 i4 fp4 n P4 St4)
    (hz : IsZip s.heap z TI TO .none) (hTI : IsTup4 s.heap TI (.ref i1) (.ref i2) (.ref i3) (.ref i4)) (hTO : IsTup4 s.heap TO a1 a2 a3 a4) (st1 : St1 i s.heap) (st2 : St2 i s.heap) (st3 : St3 i s.heap) (st4 : St4 i s.heap) (hend : i = n)
    (hQ : ∀ h' tk, (∀ c o, c ≠ z → c ≠ TO → c ≠ i1 → c ≠ i2 → c ≠ i3 → c ≠ i4 → s.heap.get? c = some o → h'.get? c = some o) → Q none { s with heap := h', toks := tk }) : wpAny (model prog w) A (pyNext (.ref z)) Q E s := by
  have hT : s.TypeIs (.ref z) "zip" := ⟨_, hz, rfl⟩
  unfold pyNext
  refine wpAny_bind (wpAny_attempt (wpAny_callSpecial?_slot (name := Str.ofString "__next__") hT F.slot_zip_next
    (wpAny_call_entry F.slot_zip_next hT F.entry_zip_next (zip4_next_end S D1 D2 D3 D4 hz hTI hTO st1 st2 st3 st4 hend fun h' tk e hk he => ?_) (F.args_zip_next_1 _))))
  obtain ⟨o, ho, hc⟩ := he
  refine wpAny_bind (wpAny_isInstance (T := "StopIteration") (b := true) ⟨o, ho, hc⟩ isSubtype_stop ?_)
  exact wpAny_pure (hQ _ _ hk)
theorem walks_zip4 (S : Z4Sep z TI TO i1 i2 i3 i4 fp1 fp2 fp3 fp4) (D1 : Draws prog w A.in1 i1 fp1 n P1 St1) (D2 : Draws prog w A.in1 i2 fp2 n P2 St2) (D3 : Draws prog w A.in1 i3 fp3 n P3 St3) (D4 : Draws prog w A.in1 i4 fp4 n P4 St4) :
    WalksT prog w A z (z :: TI :: TO :: (fp1 ++ fp2 ++ fp3 ++ fp4)) [z, TO, i1, i2, i3, i4] n
      (fun i vals => ∃ x1 x2 x3 x4, P1 i x1 ∧ P2 i x2 ∧ P3 i x3 ∧ P4 i x4 ∧ vals = #[x1, x2, x3, x4])
      (fun i h => IsZip h z TI TO .none ∧ IsTup4 h TI (.ref i1) (.ref i2) (.ref i3) (.ref i4) ∧ (∃ a1 a2 a3 a4, IsTup4 h TO a1 a2 a3 a4) ∧ St1 i h ∧ St2 i h ∧ St3 i h ∧ St4 i h)
      (fun i T h => IsZip h z TI TO (rawInt T) ∧ IsTup4 h TI (.ref i1) (.ref i2) (.ref i3) (.ref i4) ∧ (∃ a1 a2 a3 a4, IsTup4 h TO a1 a2 a3 a4) ∧ St1 (i + 1) h ∧ St2 (i + 1) h ∧ St3 (i + 1) h ∧ St4 (i + 1) h ∧ T ≠ z ∧ T ≠ TO ∧ T ≠ i1 ∧ T ≠ i2 ∧ T ≠ i3 ∧ T ≠ i4) where
  sub := fun c hc => by
    have hc' : c = z ∨ c = TO ∨ c = i1 ∨ c = i2 ∨ c = i3 ∨ c = i4 := by simpa using hc
    rcases hc' with rfl | rfl | rfl | rfl | rfl | rfl
    · exact List.mem_cons_self ..
    · exact List.mem_cons_of_mem _ (List.mem_cons_of_mem _ (List.mem_cons_self ..))
    · exact (List.mem_cons_of_mem _ (List.mem_cons_of_mem _ (List.mem_cons_of_mem _ (List.mem_append_left _ (List.mem_append_left _ (List.mem_append_left _ S.mem1))))))
    · exact (List.mem_cons_of_mem _ (List.mem_cons_of_mem _ (List.mem_cons_of_mem _ (List.mem_append_left _ (List.mem_append_left _ (List.mem_append_right _ S.mem2))))))
    · exact (List.mem_cons_of_mem _ (List.mem_cons_of_mem _ (List.mem_cons_of_mem _ (List.mem_append_left _ (List.mem_append_right _ S.mem3)))))
    · exact (List.mem_cons_of_mem _ (List.mem_cons_of_mem _ (List.mem_cons_of_mem _ (List.mem_append_right _ S.mem4))))
  frame := fun i h h' hst hk => by
    obtain ⟨hz, hTI, ⟨a1, a2, a3, a4, hTO⟩, st1, st2, st3, st4⟩ := hst
    exact ⟨hk z (List.mem_cons_self ..) _ hz, hk TI (List.mem_cons_of_mem _ (List.mem_cons_self ..)) _ hTI, ⟨a1, a2, a3, a4, hk TO (List.mem_cons_of_mem _ (List.mem_cons_of_mem _ (List.mem_cons_self ..))) _ hTO⟩,
      D1.frame _ _ _ st1 fun b hb o e => hk b (List.mem_cons_of_mem _ (List.mem_cons_of_mem _ (List.mem_cons_of_mem _ (List.mem_append_left _ (List.mem_append_left _ (List.mem_append_left _ hb)))))) o e, D2.frame _ _ _ st2 fun b hb o e => hk b (List.mem_cons_of_mem _ (List.mem_cons_of_mem _ (List.mem_cons_of_mem _ (List.mem_append_left _ (List.mem_append_left _ (List.mem_append_right _ hb)))))) o e, D3.frame _ _ _ st3 fun b hb o e => hk b (List.mem_cons_of_mem _ (List.mem_cons_of_mem _ (List.mem_cons_of_mem _ (List.mem_append_left _ (List.mem_append_right _ hb))))) o e, D4.frame _ _ _ st4 fun b hb o e => hk b (List.mem_cons_of_mem _ (List.mem_cons_of_mem _ (List.mem_cons_of_mem _ (List.mem_append_right _ hb)))) o e⟩
  item := fun i s Q E hi hst hQ => by
    obtain ⟨hz, hTI, ⟨a1, a2, a3, a4, hTO⟩, st1, st2, st3, st4⟩ := hst
    refine pyNext_zip4_item S D1 D2 D3 D4 hz hTI hTO st1 st2 st3 st4 hi fun x1 x2 x3 x4 h' tk y1 y2 y3 y4 b1 b2 d1 d2 d3 d4 b5 b6 hk => ?_
    have lt : ∀ {c o}, s.heap.get? c = some o → s.heap.objs.size ≠ c := fun e => Nat.ne_of_gt (Heap.lt_size e)
    have l1 : s.heap.objs.size ≠ i1 := by obtain ⟨_, e⟩ := D1.live _ _ st1; exact lt e
    have l2 : s.heap.objs.size ≠ i2 := by obtain ⟨_, e⟩ := D2.live _ _ st2; exact lt e
    have l3 : s.heap.objs.size ≠ i3 := by obtain ⟨_, e⟩ := D3.live _ _ st3; exact lt e
    have l4 : s.heap.objs.size ≠ i4 := by obtain ⟨_, e⟩ := D4.live _ _ st4; exact lt e
    exact hQ s.heap.objs.size #[x1, x2, x3, x4] h' tk ⟨x1, x2, x3, x4, y1, y2, y3, y4, rfl⟩ (Nat.le_refl _) ⟨_, b5, rfl, _, rfl⟩
      ⟨b1, hk _ _ S.TIz S.TITO S.TIi1 S.TIi2 S.TIi3 S.TIi4 hTI, ⟨_, _, _, _, b2⟩, d1, d2, d3, d4, lt hz, lt hTO, l1, l2, l3, l4⟩
      fun c o hc e => hk c o (fun x => hc (by simp [x])) (fun x => hc (by simp [x])) (fun x => hc (by simp [x])) (fun x => hc (by simp [x])) (fun x => hc (by simp [x])) (fun x => hc (by simp [x])) e
  go := fun elts k pos i T s Q E hm hQ => by
    obtain ⟨hz, hTI, ⟨a1, a2, a3, a4, hTO⟩, st1, st2, st3, st4, _⟩ := hm
    refine wpAny_letOwnedTupleGo_zip hz fun h' hz' hs' => hQ h' ⟨hz', hs'.extBut _ _ S.TIz hTI, ⟨a1, a2, a3, a4, hs'.extBut _ _ S.TOz hTO⟩, D1.over st1 hs' S.zf1, D2.over st2 hs' S.zf2, D3.over st3 hs' S.zf3, D4.over st4 hs' S.zf4⟩ fun c o hc e => hs'.extBut _ _ (fun x => hc (by simp [x])) e
  apart := fun i T h hm hT => by
    obtain ⟨_, _, _, _, _, _, _, tz, tT, t1, t2, t3, t4⟩ := hm
    have hT' : T = z ∨ T = TO ∨ T = i1 ∨ T = i2 ∨ T = i3 ∨ T = i4 := by simpa using hT
    rcases hT' with e | e | e | e | e | e
    · exact tz e
    · exact tT e
    · exact t1 e
    · exact t2 e
    · exact t3 e
    · exact t4 e
  done := fun s Q E hst hQ => by
    obtain ⟨hz, hTI, ⟨a1, a2, a3, a4, hTO⟩, st1, st2, st3, st4⟩ := hst
    exact pyNext_zip4_end S D1 D2 D3 D4 hz hTI hTO st1 st2 st3 st4 rfl fun h' tk hk => hQ h' tk fun c o hc e =>
      hk c o (fun x => hc (by simp [x])) (fun x => hc (by simp [x])) (fun x => hc (by simp [x])) (fun x => hc (by simp [x])) (fun x => hc (by simp [x])) (fun x => hc (by simp [x])) e
  self := fun i s Q E hst hQ => wpAny_pyIter_zip hst.1 hQ
end
abbrev gT4 (h : Heap) (o1 o2 o3 o4 : Obj) : Heap := ((((h.push o1).push o2).push o3).push o4).push { cls := .type "tuple", data := .seq #[.ref h.objs.size, .ref (h.push o1).objs.size, .ref ((h.push o1).push o2).objs.size, .ref (((h.push o1).push o2).push o3).objs.size] }
abbrev gO4 (h : Heap) (o1 o2 o3 o4 : Obj) : Heap := (gT4 h o1 o2 o3 o4).push { cls := .type "tuple", data := .seq #[.none, .none, .none, .none] }
abbrev gZ4 (h : Heap) (o1 o2 o3 o4 : Obj) : Heap := (gO4 h o1 o2 o3 o4).push { cls := .type "zip", data := .fields #[.none, .bool false, .bool false, .ref ((((h.push o1).push o2).push o3).push o4).objs.size, .ref (gT4 h o1 o2 o3 o4).objs.size] }
theorem typeCall_zip4 (v1 v2 v3 v4 : Value) : checkTypeCall "zip" ⟨[v1, v2, v3, v4], []⟩ = pure () := by kernel_rfl
theorem newCall_zip4 (v1 v2 v3 v4 : Value) : checkBuiltinCall "zip.__new__" ⟨[.type "zip", v1, v2, v3, v4], []⟩ = pure () := by kernel_rfl
theorem args_object_init4 (obj v1 v2 v3 v4 : Value) : argsOk "object.__init__" ⟨[obj, v1, v2, v3, v4], []⟩ := by unfold argsOk; kernel_rfl
theorem meets_zip_new4 {v1 v2 v3 v4 : Value} {o1 o2 o3 o4 : Obj} {H1 H2 H3 H4 : Heap → Prop} (B1 : Begins v1 o1 H1) (B2 : Begins v2 o2 H2) (B3 : Begins v3 o3 H3) (B4 : Begins v4 o4 H4) :
    Meets (Builtin.«zip.__new__» ⟨[.type "zip", v1, v2, v3, v4], []⟩) (fun _ R s => (H1 s.heap ∧ H2 s.heap ∧ H3 s.heap ∧ H4 s.heap) ∧
      R (.ok (.ret (.ref (gO4 s.heap o1 o2 o3 o4).objs.size))) { s with heap := gZ4 s.heap o1 o2 o3 o4 }) :=
  .of_wp fun prog w A R s h => by
    obtain ⟨hp, g, d, tk, os⟩ := s; obtain ⟨⟨h1, h2, h3, h4⟩, h⟩ := h
    have hsub := sub_zip
    have q1 : ∀ {A' : Around} {E : Value → Shared → Prop} {Q : Value → Shared → Prop}, Q (.ref hp.objs.size) ⟨(hp.push o1), g, d, tk, os⟩ → wpAny (model prog w) A' (pyIter v1) Q E ⟨hp, g, d, tk, os⟩ :=
      fun q => B1.iter prog w _ _ ⟨hp, g, d, tk, os⟩ _ (B1.keeps _ _ h1 fun b o' e => e) q
    have q2 : ∀ {A' : Around} {E : Value → Shared → Prop} {Q : Value → Shared → Prop}, Q (.ref (hp.push o1).objs.size) ⟨((hp.push o1).push o2), g, d, tk, os⟩ → wpAny (model prog w) A' (pyIter v2) Q E ⟨(hp.push o1), g, d, tk, os⟩ :=
      fun q => B2.iter prog w _ _ ⟨(hp.push o1), g, d, tk, os⟩ _ (B2.keeps _ _ h2 fun b o' e => (Heap.get?_push_of_some _ e)) q
    have q3 : ∀ {A' : Around} {E : Value → Shared → Prop} {Q : Value → Shared → Prop}, Q (.ref ((hp.push o1).push o2).objs.size) ⟨(((hp.push o1).push o2).push o3), g, d, tk, os⟩ → wpAny (model prog w) A' (pyIter v3) Q E ⟨((hp.push o1).push o2), g, d, tk, os⟩ :=
      fun q => B3.iter prog w _ _ ⟨((hp.push o1).push o2), g, d, tk, os⟩ _ (B3.keeps _ _ h3 fun b o' e => (Heap.get?_push_of_some _ (Heap.get?_push_of_some _ e))) q
    have q4 : ∀ {A' : Around} {E : Value → Shared → Prop} {Q : Value → Shared → Prop}, Q (.ref (((hp.push o1).push o2).push o3).objs.size) ⟨((((hp.push o1).push o2).push o3).push o4), g, d, tk, os⟩ → wpAny (model prog w) A' (pyIter v4) Q E ⟨(((hp.push o1).push o2).push o3), g, d, tk, os⟩ :=
      fun q => B4.iter prog w _ _ ⟨(((hp.push o1).push o2).push o3), g, d, tk, os⟩ _ (B4.keeps _ _ h4 fun b o' e => (Heap.get?_push_of_some _ (Heap.get?_push_of_some _ (Heap.get?_push_of_some _ e)))) q
    wp_walk using q1, q2, q3, q4
    exact ⟨_, rfl, h⟩
section
variable {prog : Program} {w : World} {A : Around} {E : Value → Shared → Prop} {s : Shared}
theorem zip_begins4 {v1 v2 v3 v4 : Value} {o1 o2 o3 o4 : Obj} {H1 H2 H3 H4 : Heap → Prop} {Q : Value → Shared → Prop} (B1 : Begins v1 o1 H1) (B2 : Begins v2 o2 H2) (B3 : Begins v3 o3 H3) (B4 : Begins v4 o4 H4) (h1 : H1 s.heap) (h2 : H2 s.heap) (h3 : H3 s.heap) (h4 : H4 s.heap)
    (h : ∀ h', IsZip h' (s.heap.objs.size + 6) (s.heap.objs.size + 4) (s.heap.objs.size + 5) .none → IsTup4 h' (s.heap.objs.size + 4) (.ref s.heap.objs.size) (.ref (s.heap.objs.size + 1)) (.ref (s.heap.objs.size + 2)) (.ref (s.heap.objs.size + 3)) →
      IsTup4 h' (s.heap.objs.size + 5) .none .none .none .none → h'.get? s.heap.objs.size = some o1 → h'.get? (s.heap.objs.size + 1) = some o2 → h'.get? (s.heap.objs.size + 2) = some o3 → h'.get? (s.heap.objs.size + 3) = some o4 → h'.objs.size = s.heap.objs.size + 7 →
      (∀ c o, s.heap.get? c = some o → h'.get? c = some o) → Q (.ref (s.heap.objs.size + 6)) { s with heap := h' }) :
    wpAny (model prog w) A (call (.type "zip") [v1, v2, v3, v4]) Q E s := by
  refine callType_new F.called_zip (by decide) (typeCall_zip4 _ _ _ _) (newCall_zip4 _ _ _ _) (fun obj => args_object_init4 obj _ _ _ _) F.entry_zip_new
    (meets_zip_new4 B1 B2 B3 B4) ⟨⟨h1, h2, h3, h4⟩, ?_⟩
  have z1 : (s.heap.push o1).objs.size = s.heap.objs.size + 1 := by rw [Heap.size_push]
  have z2 : ((s.heap.push o1).push o2).objs.size = s.heap.objs.size + 2 := by rw [Heap.size_push, z1]
  have z3 : (((s.heap.push o1).push o2).push o3).objs.size = s.heap.objs.size + 3 := by rw [Heap.size_push, z2]
  have z4 : ((((s.heap.push o1).push o2).push o3).push o4).objs.size = s.heap.objs.size + 4 := by rw [Heap.size_push, z3]
  have zT : (gT4 s.heap o1 o2 o3 o4).objs.size = s.heap.objs.size + 5 := by rw [Heap.size_push, z4]
  have zO : (gO4 s.heap o1 o2 o3 o4).objs.size = s.heap.objs.size + 6 := by rw [Heap.size_push, zT]
  have zZ : (gZ4 s.heap o1 o2 o3 o4).objs.size = s.heap.objs.size + 7 := by rw [Heap.size_push, zO]
  have gZ : (gZ4 s.heap o1 o2 o3 o4).get? (gO4 s.heap o1 o2 o3 o4).objs.size = some { cls := .type "zip", data := .fields #[.none, .bool false, .bool false, .ref ((((s.heap.push o1).push o2).push o3).push o4).objs.size, .ref (gT4 s.heap o1 o2 o3 o4).objs.size] } := Heap.get?_push_size _ rfl
  have gO : (gZ4 s.heap o1 o2 o3 o4).get? (gT4 s.heap o1 o2 o3 o4).objs.size = some { cls := .type "tuple", data := .seq #[.none, .none, .none, .none] } := Heap.get?_push_of_some _ (Heap.get?_push_size _ rfl)
  have gT : (gZ4 s.heap o1 o2 o3 o4).get? ((((s.heap.push o1).push o2).push o3).push o4).objs.size = some { cls := .type "tuple", data := .seq #[.ref s.heap.objs.size, .ref (s.heap.push o1).objs.size, .ref ((s.heap.push o1).push o2).objs.size, .ref (((s.heap.push o1).push o2).push o3).objs.size] } := (Heap.get?_push_of_some _ (Heap.get?_push_of_some _ (Heap.get?_push_size _ rfl)))
  have g1 : (gZ4 s.heap o1 o2 o3 o4).get? s.heap.objs.size = some o1 := (Heap.get?_push_of_some _ (Heap.get?_push_of_some _ (Heap.get?_push_of_some _ (Heap.get?_push_of_some _ (Heap.get?_push_of_some _ (Heap.get?_push_of_some _ (Heap.get?_push_size _ B1.free)))))))
  have g2 : (gZ4 s.heap o1 o2 o3 o4).get? (s.heap.push o1).objs.size = some o2 := (Heap.get?_push_of_some _ (Heap.get?_push_of_some _ (Heap.get?_push_of_some _ (Heap.get?_push_of_some _ (Heap.get?_push_of_some _ (Heap.get?_push_size _ B2.free))))))
  have g3 : (gZ4 s.heap o1 o2 o3 o4).get? ((s.heap.push o1).push o2).objs.size = some o3 := (Heap.get?_push_of_some _ (Heap.get?_push_of_some _ (Heap.get?_push_of_some _ (Heap.get?_push_of_some _ (Heap.get?_push_size _ B3.free)))))
  have g4 : (gZ4 s.heap o1 o2 o3 o4).get? (((s.heap.push o1).push o2).push o3).objs.size = some o4 := (Heap.get?_push_of_some _ (Heap.get?_push_of_some _ (Heap.get?_push_of_some _ (Heap.get?_push_size _ B4.free))))
  rw [zO, zT, z4] at gZ
  rw [zT] at gO
  rw [z4, z3, z2, z1] at gT
  rw [z1] at g2
  rw [z2] at g3
  rw [z3] at g4
  show _ ∧ _
  rw [zO]
  exact ⟨⟨_, gZ, rfl⟩, h _ gZ gT gO g1 g2 g3 g4 zZ fun c o e => (Heap.get?_push_of_some _ (Heap.get?_push_of_some _ (Heap.get?_push_of_some _ (Heap.get?_push_of_some _ (Heap.get?_push_of_some _ (Heap.get?_push_of_some _ (Heap.get?_push_of_some _ e)))))))⟩
end
theorem z4_sep {N : Nat} {fp1 fp2 fp3 fp4 : List Addr} (h1 : ∀ b ∈ fp1, b < N) (h2 : ∀ b ∈ fp2, b < N) (h3 : ∀ b ∈ fp3, b < N) (h4 : ∀ b ∈ fp4, b < N) : Z4Sep (N + 6) (N + 4) (N + 5) N (N + 1) (N + 2) (N + 3) (N :: fp1) ((N + 1) :: fp2) ((N + 2) :: fp3) ((N + 3) :: fp4) :=
  { TIz := show (N + 4 : Nat) ≠ N + 6 by omega, TOz := show (N + 5 : Nat) ≠ N + 6 by omega, TITO := show (N + 4 : Nat) ≠ N + 5 by omega, TIi1 := show (N + 4 : Nat) ≠ N by omega, mem1 := List.mem_cons_self .., zf1 := notIn_new (i := 0) h1 (by omega), Tf1 := notIn_new (i := 0) h1 (by omega), TIi2 := show (N + 4 : Nat) ≠ N + 1 by omega, mem2 := List.mem_cons_self .., zf2 := notIn_new (i := 1) h2 (by omega), Tf2 := notIn_new (i := 1) h2 (by omega), TIi3 := show (N + 4 : Nat) ≠ N + 2 by omega, mem3 := List.mem_cons_self .., zf3 := notIn_new (i := 2) h3 (by omega), Tf3 := notIn_new (i := 2) h3 (by omega), TIi4 := show (N + 4 : Nat) ≠ N + 3 by omega, mem4 := List.mem_cons_self .., zf4 := notIn_new (i := 3) h4 (by omega), Tf4 := notIn_new (i := 3) h4 (by omega), sep1_2 := notIn_new (j := 0) (i := 1) h2 (by omega), sep1_3 := notIn_new (j := 0) (i := 2) h3 (by omega), sep1_4 := notIn_new (j := 0) (i := 3) h4 (by omega), sep2_1 := notIn_new (j := 1) (i := 0) h1 (by omega), sep2_3 := notIn_new (j := 1) (i := 2) h3 (by omega), sep2_4 := notIn_new (j := 1) (i := 3) h4 (by omega), sep3_1 := notIn_new (j := 2) (i := 0) h1 (by omega), sep3_2 := notIn_new (j := 2) (i := 1) h2 (by omega), sep3_4 := notIn_new (j := 2) (i := 3) h4 (by omega), sep4_1 := notIn_new (j := 3) (i := 0) h1 (by omega), sep4_2 := notIn_new (j := 3) (i := 1) h2 (by omega), sep4_3 := notIn_new (j := 3) (i := 2) h3 (by omega) }
end Bw
/-! ZipQ: the next of a zip of two whose pairs may be held, and of an enumerate over any iterator. -/
namespace Bw
open PySem PySem.Spec PyProof.Rows
open PySem.Sem (wp)
abbrev IsZq (h : Heap) (z TI TO : Addr) (f0 : Value) (f : Bool) : Prop :=
  h.get? z = some { cls := .type "zip", dict := none, data := .fields #[f0, .bool f, .bool false, .ref TI, .ref TO], slots := #[] }
def Fq (f0 : Value) : Prop := f0 = .none ∨ ∃ T : Addr, f0 = rawInt T
section
variable {prog : Program} {w : World} {A : Around} {E : Value → Shared → Prop} {s : Shared}
theorem alive_ {a : Addr} {o : Obj} {Q : Option Obj → Shared → Prop} (ho : s.heap.get? a = some o) (h : Q (some o) s) : wpAny (model prog w) A (loadIfAlive a) Q E s := by
  have h' : Q (s.heap.get? a) s := by rw [ho]; exact h
  exact fun _ _ _ => h'
theorem dead_ {a : Addr} {Q : Option Obj → Shared → Prop} (ho : s.heap.get? a = none) (h : Q none s) : wpAny (model prog w) A (loadIfAlive a) Q E s := by
  have h' : Q (s.heap.get? a) s := by rw [ho]; exact h
  exact fun _ _ _ => h'
end
section
variable {prog : Program} {w : World} {A : Around} {E : Value → Shared → Prop} {s : Shared} {z TI TO i1 i2 : Addr} {fp1 fp2 : List Addr} {n i : Nat} {P1 P2 : Nat → Value → Prop} {St1 St2 : Nat → Heap → Prop} {f0 a1 a2 : Value} {f : Bool}
theorem zq_free {Q : Bool → Shared → Prop} (hz : IsZq s.heap z TI TO f0 f) (hf : Fq f0) (h1 : Q true s) (h2 : ∀ h' f', IsZq h' z TI TO f0 f' → Heap.SameBut z s.heap h' → Q false { s with heap := h' }) :
    wpAny (model prog w) A (Builtin.SmallTypes.ownedTupleIsFree (.ref z)) Q E s := by
  unfold Builtin.SmallTypes.ownedTupleIsFree
  refine wpAny_bind (wpAny_field hz rfl (x := f0) rfl ?_)
  rcases hf with e | ⟨T, e⟩
  · subst e
    exact wpAny_pure h1
  · subst e
    show wpAny _ _ (loadIfAlive ((T : Int).toNat) >>= _) _ _ _
    rw [Int.toNat_natCast]
    cases hT : s.heap.get? T with
    | some oT =>
      refine wpAny_bind (alive_ hT ?_)
      simp only [Option.isNone_some, Bool.false_eq_true, if_false]
      refine wpAny_bind (wpAny_field hz rfl (x := .bool f) rfl ?_)
      cases f with
      | true =>
        rw [if_neg (show ¬ ((Value.bool true != Value.bool true) = true) from Bool.false_ne_true)]
        exact wpAny_pure (h2 s.heap true hz (Heap.SameBut.refl _ _))
      | false =>
        rw [if_pos (show (Value.bool false != Value.bool true) = true from rfl)]
        exact wpAny_bind (wpAny_setField_rec hz (by simp) fun g1 hz1 hs1 => wpAny_pure (h2 g1 true hz1 hs1))
    | none =>
      refine wpAny_bind (dead_ hT ?_)
      simp only [Option.isNone_none, if_true]
      exact wpAny_pure h1
theorem zq_next_item {Q : Value → Shared → Prop} (S : ZipSep2 z TI TO i1 i2 fp1 fp2) (D1 : Draws prog w A i1 fp1 n P1 St1) (D2 : Draws prog w A i2 fp2 n P2 St2)
    (hz : IsZq s.heap z TI TO f0 f) (hf : Fq f0) (hTI : IsTupOf2 s.heap TI (.ref i1) (.ref i2)) (hTO : IsTupOf2 s.heap TO a1 a2) (st1 : St1 i s.heap) (st2 : St2 i s.heap) (hlt : i < n)
    (hQ : ∀ x1 x2 h' tk g0 g1, P1 i x1 → P2 i x2 → IsZq h' z TI TO g0 g1 → Fq g0 → (∃ b1 b2, IsTupOf2 h' TO b1 b2) → St1 (i + 1) h' → St2 (i + 1) h' → IsTupOf2 h' s.heap.objs.size x1 x2 → h'.objs.size = s.heap.objs.size + 1 →
      (∀ c o, c ≠ z → c ≠ TO → c ≠ i1 → c ≠ i2 → s.heap.get? c = some o → h'.get? c = some o) → Q (.ref s.heap.objs.size) { s with heap := h', toks := tk }) :
    wpAny (model prog w) A (Builtin.«zip.__next__» ⟨[.ref z], []⟩) (fun fin s' => ∃ v, fin = .done (.ret v) ∧ Q v s') E s := by
  obtain ⟨hp, g, d, tk0, os⟩ := s
  show wpAny _ _ (field (.ref z) 2 >>= _) _ _ _
  refine wpAny_bind (wpAny_field hz rfl (x := .bool false) rfl ?_)
  show wpAny _ _ (field (.ref z) 3 >>= _) _ _ _
  refine wpAny_bind (wpAny_field hz rfl (x := .ref TI) rfl ?_)
  refine wpAny_bind (wpAny_seqItems hTI rfl ?_)
  show wpAny _ _ (Builtin.SmallTypes.ownedTupleIsFree (.ref z) >>= _) _ _ _
  refine wpAny_bind (zq_free hz hf ?_ fun h1 f1 hz1 hs1 => ?_)
  · simp only [if_true]
    refine wpAny_bind (wpAny_rule ?_)
    refine wpAny_bind (wpAny_field hz rfl (x := .ref TO) rfl ?_)
    refine wpAny_bind (wpAny_setField_rec hz (by simp) fun g0 hz0 hs0 => ?_)
    replace hz0 : IsZq g0 z TI TO .ellipsis f := hz0
    replace hs0 : Heap.SameBut z hp g0 := hs0
    refine wpAny_bind ?_
    simp only [List.zipIdx_cons, List.zipIdx_nil, List.forIn_cons, List.forIn_nil]
    refine wpAny_bind (wpAny_bind (wpAny_onRaise ?_))
    show wpAny _ _ (Builtin.SmallTypes.nextOf (.ref i1) >>= _) _ _ ⟨g0, g, d, tk0, os⟩
    refine wpAny_bind (D1.item i _ _ _ hlt (D1.over st1 hs0 S.zf1) fun x1 p1 tk1 hx1 sn1 hp1 => wpAny_pure ?_)
    replace hp1 : Heap.SameBut i1 g0 p1 := hp1
    have hU1 : IsTupOf2 p1 TO a1 a2 := hp1.extBut _ _ S.Ti1 (hs0.extBut _ _ S.TOz hTO)
    refine wpAny_bind (wpAny_seqItems (s := ⟨p1, g, d, tk1, os⟩) hU1 rfl ?_)
    refine wpAny_bind (updateSeq_IsTupOf2 (s := ⟨p1, g, d, tk1, os⟩) hU1 fun g1 hT1 hs1 => ?_)
    replace hT1 : IsTupOf2 g1 TO x1 a2 := hT1
    replace hs1 : Heap.SameBut TO p1 g1 := hs1
    refine wpAny_bind (wpAny_letGo (wpAny_pure ?_))
    refine wpAny_bind (wpAny_bind (wpAny_onRaise ?_))
    show wpAny _ _ (Builtin.SmallTypes.nextOf (.ref i2) >>= _) _ _ ⟨g1, g, d, tk1, os⟩
    refine wpAny_bind (D2.item i _ _ _ hlt (D2.over (D2.over (D2.over st2 hs0 S.zf2) hp1 S.sep1_2) hs1 S.Tf2) fun x2 p2 tk2 hx2 sn2 hp2 => wpAny_pure ?_)
    replace hp2 : Heap.SameBut i2 g1 p2 := hp2
    have hU2 : IsTupOf2 p2 TO x1 a2 := hp2.extBut _ _ S.Ti2 hT1
    refine wpAny_bind (wpAny_seqItems (s := ⟨p2, g, d, tk2, os⟩) hU2 rfl ?_)
    refine wpAny_bind (updateSeq_IsTupOf2 (s := ⟨p2, g, d, tk2, os⟩) hU2 fun g2 hT2 hs2 => ?_)
    replace hT2 : IsTupOf2 g2 TO x1 x2 := hT2
    replace hs2 : Heap.SameBut TO p2 g2 := hs2
    refine wpAny_bind (wpAny_letGo (wpAny_pure (wpAny_pure ?_)))
    refine wpAny_bind (wpAny_seqItems (s := ⟨g2, g, d, tk2, os⟩) hT2 rfl ?_)
    refine wpAny_bind (wpAny_newTuple ?_)
    have hsz : g2.objs.size = hp.objs.size := by rw [hs2.1, hp2.1, hs1.1, hp1.1, hs0.1]
    have hzz : IsZq g2 z TI TO .ellipsis f := hs2.extBut _ _ S.TOz.symm (hp2.extBut _ _ S.zi2 (hs1.extBut _ _ S.TOz.symm (hp1.extBut _ _ S.zi1 hz0)))
    have hkk : ∀ c o, c ≠ z → c ≠ TO → c ≠ i1 → c ≠ i2 → hp.get? c = some o → g2.get? c = some o := fun c o cz cT c1 c2 e => hs2.extBut _ _ cT (hp2.extBut _ _ c2 (hs1.extBut _ _ cT (hp1.extBut _ _ c1 (hs0.extBut _ _ cz e))))
    have hj1 : St1 (i + 1) g2 := D1.over (D1.over (D1.over sn1 hs1 S.Tf1) hp2 S.sep2_1) hs2 S.Tf1
    have hj2 : St2 (i + 1) g2 := D2.over sn2 hs2 S.Tf2
    have hzlt : z < g2.objs.size := Heap.lt_size hzz
    show wpAny _ _ (Builtin.SmallTypes.ownedTupleHandOut (.ref z) (.ref g2.objs.size) >>= _) _ _ ⟨g2.push { cls := .type "tuple", data := .seq #[x1, x2] }, g, d, tk2, os⟩
    refine wpAny_bind ?_
    unfold Builtin.SmallTypes.ownedTupleHandOut
    have hz6 : IsZq (g2.push { cls := .type "tuple", data := .seq #[x1, x2] }) z TI TO .ellipsis f := Heap.get?_push_of_some _ hzz
    refine wpAny_bind (wpAny_setField_rec hz6 (by simp) fun h7 hz7 hs7 => ?_)
    replace hz7 : IsZq h7 z TI TO (rawInt g2.objs.size) f := hz7
    refine wpAny_setField_rec hz7 (by simp) fun h8 hz8 hs8 => ?_
    replace hz8 : IsZq h8 z TI TO (rawInt g2.objs.size) false := hz8
    replace hs7 : Heap.SameBut z (g2.push { cls := .type "tuple", data := .seq #[x1, x2] }) h7 := hs7
    replace hs8 : Heap.SameBut z h7 h8 := hs8
    have up : ∀ c o, c ≠ z → g2.get? c = some o → h8.get? c = some o := fun c o c1 e => hs8.extBut _ _ c1 (hs7.extBut _ _ c1 (Heap.get?_push_of_some _ e))
    have hT8 : IsTupOf2 h8 g2.objs.size x1 x2 := hs8.extBut _ _ (Nat.ne_of_gt hzlt) (hs7.extBut _ _ (Nat.ne_of_gt hzlt) (Heap.get?_push_size _ rfl))
    have zz8 : h8.objs.size = g2.objs.size + 1 := by rw [hs8.1, hs7.1, Heap.size_push]
    have hUp : IsTupOf2 h8 TO x1 x2 := up _ _ S.TOz hT2
    rw [hsz] at hz8 hT8 zz8
    refine wpAny_pure ⟨_, rfl, ?_⟩
    show Q (.ref g2.objs.size) ⟨h8, g, d, tk2, os⟩
    rw [hsz]
    exact hQ x1 x2 h8 tk2 _ _ hx1 hx2 hz8 (.inr ⟨_, rfl⟩) ⟨_, _, hUp⟩ (D1.frame _ _ _ hj1 fun b hb o e => up b o (fun q => S.zf1 (q ▸ hb)) e) (D2.frame _ _ _ hj2 fun b hb o e => up b o (fun q => S.zf2 (q ▸ hb)) e) hT8 zz8 fun c o cz cT c1 c2 e => up c o cz (hkk c o cz cT c1 c2 e)
  · simp only [Bool.false_eq_true, if_false]
    replace hs1 : Heap.SameBut z hp h1 := hs1
    refine wpAny_bind ?_
    rw [← Array.forIn_toList]
    simp only [List.forIn_cons, List.forIn_nil]
    refine wpAny_bind (wpAny_bind (wpAny_holding ?_))
    show wpAny _ _ (Builtin.SmallTypes.nextOf (.ref i1) >>= _) _ _ ⟨h1, g, d, tk0, os⟩
    refine wpAny_bind (D1.item i _ _ _ hlt (D1.over st1 hs1 S.zf1) fun x1 p1 tk1 hx1 sn1 hp1 => wpAny_pure ?_)
    replace hp1 : Heap.SameBut i1 h1 p1 := hp1
    refine wpAny_pure ?_
    refine wpAny_bind (wpAny_bind (wpAny_holding ?_))
    show wpAny _ _ (Builtin.SmallTypes.nextOf (.ref i2) >>= _) _ _ ⟨p1, g, d, tk1, os⟩
    refine wpAny_bind (D2.item i _ _ _ hlt (D2.over (D2.over st2 hs1 S.zf2) hp1 S.sep1_2) fun x2 p2 tk2 hx2 sn2 hp2 => wpAny_pure ?_)
    replace hp2 : Heap.SameBut i2 p1 p2 := hp2
    refine wpAny_pure (wpAny_pure ?_)
    show wpAny _ _ (newTuple [x1, x2] >>= _) _ _ ⟨p2, g, d, tk2, os⟩
    refine wpAny_bind (wpAny_newTuple ?_)
    have hsz : p2.objs.size = hp.objs.size := by rw [hp2.1, hp1.1, hs1.1]
    have hzz : IsZq p2 z TI TO f0 f1 := hp2.extBut _ _ S.zi2 (hp1.extBut _ _ S.zi1 hz1)
    have hkk : ∀ c o, c ≠ z → c ≠ i1 → c ≠ i2 → hp.get? c = some o → p2.get? c = some o := fun c o cz c1 c2 e => hp2.extBut _ _ c2 (hp1.extBut _ _ c1 (hs1.extBut _ _ cz e))
    have hTO2 : IsTupOf2 p2 TO a1 a2 := hkk _ _ S.TOz S.Ti1 S.Ti2 hTO
    have hj1 : St1 (i + 1) p2 := D1.over sn1 hp2 S.sep2_1
    have hT8 : IsTupOf2 (p2.push { cls := .type "tuple", data := .seq #[x1, x2] }) p2.objs.size x1 x2 := Heap.get?_push_size _ rfl
    have zz8 : (p2.push { cls := .type "tuple", data := .seq #[x1, x2] }).objs.size = p2.objs.size + 1 := Heap.size_push ..
    refine wpAny_pure ⟨_, rfl, ?_⟩
    show Q (.ref p2.objs.size) ⟨p2.push { cls := .type "tuple", data := .seq #[x1, x2] }, g, d, tk2, os⟩
    rw [hsz] at hT8 zz8 ⊢
    exact hQ x1 x2 _ tk2 _ _ hx1 hx2 (Heap.get?_push_of_some _ hzz) hf ⟨_, _, Heap.get?_push_of_some _ hTO2⟩ (D1.frame _ _ _ hj1 fun b hb o e => Heap.get?_push_of_some _ e) (D2.frame _ _ _ sn2 fun b hb o e => Heap.get?_push_of_some _ e) hT8 zz8 fun c o cz cT c1 c2 e => Heap.get?_push_of_some _ (hkk c o cz c1 c2 e)
theorem zq_next_end {Q : Fin → Shared → Prop} (S : ZipSep2 z TI TO i1 i2 fp1 fp2) (D1 : Draws prog w A i1 fp1 n P1 St1)
    (hz : IsZq s.heap z TI TO f0 f) (hf : Fq f0) (hTI : IsTupOf2 s.heap TI (.ref i1) (.ref i2)) (hTO : IsTupOf2 s.heap TO a1 a2) (st1 : St1 n s.heap)
    (hE : ∀ h' tk e, (∀ c o, c ≠ z → c ≠ TO → c ≠ i1 → c ≠ i2 → s.heap.get? c = some o → h'.get? c = some o) → (∃ o, h'.get? e = some o ∧ o.cls = .type "StopIteration") → E (.ref e) { s with heap := h', toks := tk }) :
    wpAny (model prog w) A (Builtin.«zip.__next__» ⟨[.ref z], []⟩) Q E s := by
  obtain ⟨hp, g, d, tk0, os⟩ := s
  show wpAny _ _ (field (.ref z) 2 >>= _) _ _ _
  refine wpAny_bind (wpAny_field hz rfl (x := .bool false) rfl ?_)
  show wpAny _ _ (field (.ref z) 3 >>= _) _ _ _
  refine wpAny_bind (wpAny_field hz rfl (x := .ref TI) rfl ?_)
  refine wpAny_bind (wpAny_seqItems hTI rfl ?_)
  show wpAny _ _ (Builtin.SmallTypes.ownedTupleIsFree (.ref z) >>= _) _ _ _
  refine wpAny_bind (zq_free hz hf ?_ fun h1 f1 hz1 hs1 => ?_)
  · simp only [if_true]
    refine wpAny_bind (wpAny_rule ?_)
    refine wpAny_bind (wpAny_field hz rfl (x := .ref TO) rfl ?_)
    refine wpAny_bind (wpAny_setField_rec hz (by simp) fun g0 hz0 hs0 => ?_)
    replace hz0 : IsZq g0 z TI TO .ellipsis f := hz0
    replace hs0 : Heap.SameBut z hp g0 := hs0
    refine wpAny_bind ?_
    simp only [List.zipIdx_cons, List.zipIdx_nil, List.forIn_cons, List.forIn_nil]
    refine wpAny_bind (wpAny_bind (wpAny_onRaise ?_))
    show wpAny _ _ (Builtin.SmallTypes.nextOf (.ref i1) >>= _) _ _ ⟨g0, g, d, tk0, os⟩
    refine wpAny_bind (D1.done ⟨g0, g, d, tk0, os⟩ _ _ (D1.over st1 hs0 S.zf1) fun q e hq he => ?_)
    replace hq : Heap.ExtBut i1 g0 q := hq
    obtain ⟨oe, hoe, hce⟩ := he
    replace hoe : q.get? e = some oe := hoe
    have hzq : IsZq q z TI TO .ellipsis f := hq _ _ S.zi1 hz0
    have hez : e ≠ z := fun x => by subst x; rw [hzq] at hoe; cases hoe; simp at hce
    refine wpAny_setField_rec (s := ⟨q, g, d, tk0, os⟩) hzq (by simp) fun q' _ hq' => ?_
    replace hq' : Heap.SameBut z q q' := hq'
    exact hE q' tk0 e (fun c o cz cT c1 c2 x => hq'.extBut _ _ cz (hq _ _ c1 (hs0.extBut _ _ cz x))) ⟨oe, hq'.extBut _ _ hez hoe, hce⟩
  · simp only [Bool.false_eq_true, if_false]
    replace hs1 : Heap.SameBut z hp h1 := hs1
    refine wpAny_bind ?_
    rw [← Array.forIn_toList]
    simp only [List.forIn_cons, List.forIn_nil]
    refine wpAny_bind (wpAny_bind (wpAny_holding ?_))
    show wpAny _ _ (Builtin.SmallTypes.nextOf (.ref i1) >>= _) _ _ ⟨h1, g, d, tk0, os⟩
    refine wpAny_bind (D1.done ⟨h1, g, d, tk0, os⟩ _ _ (D1.over st1 hs1 S.zf1) fun q e hq he => ?_)
    replace hq : Heap.ExtBut i1 h1 q := hq
    exact hE q tk0 e (fun c o cz cT c1 c2 x => hq _ _ c1 (hs1.extBut _ _ cz x)) he
/-- the next of an enumerate, by its own iterator's next -/
theorem en_next {e it : Addr} {c : Int} {old : Value} {Q : Value → Shared → Prop} (he : IsEnum s.heap e it c old)
    (hin : wpAny (model prog w) A (Builtin.SmallTypes.nextOf (.ref it)) (fun x s1 => IsEnum s1.heap e it c old ∧ ∀ h', IsEnumOut h' e it (c + 1) x s1.heap.objs.size →
      h'.get? s1.heap.objs.size = some { cls := .type "tuple", data := .seq #[.int c s1.toks, x] } → h'.objs.size = s1.heap.objs.size + 1 →
      (∀ b o, b ≠ e → s1.heap.get? b = some o → h'.get? b = some o) → Q (.ref s1.heap.objs.size) { s1 with heap := h', toks := s1.toks + 1 }) E s) :
    wpAny (model prog w) A (Builtin.«enumerate.__next__» ⟨[.ref e], []⟩) (fun fin s' => ∃ v, fin = .done (.ret v) ∧ Q v s') E s := by
  show wpAny _ _ (field (.ref e) 2 >>= _) _ _ _
  refine wpAny_bind (wpAny_field he rfl (x := .ref it) rfl ?_)
  refine wpAny_bind (wpAny_mono hin (fun x s1 hx => ?_) fun _ _ h => h)
  obtain ⟨hp, g, d, tk, os⟩ := s1
  obtain ⟨he1, hQ⟩ := hx
  replace he1 : IsEnum hp e it c old := he1
  show wpAny _ _ (field (.ref e) 3 >>= _) _ _ ⟨hp, g, d, tk, os⟩
  refine wpAny_bind (wpAny_field he1 rfl (x := rawInt c) rfl ?_)
  show wpAny _ _ (field (.ref e) 4 >>= _) _ _ ⟨hp, g, d, tk, os⟩
  refine wpAny_bind (wpAny_field he1 rfl (x := .none) rfl ?_)
  show wpAny _ _ (mkInt c >>= _) _ _ ⟨hp, g, d, tk, os⟩
  refine wpAny_bind (wpAny_mkInt ?_)
  show wpAny _ _ (setField (.ref e) 3 (rawInt (c + 1)) >>= _) _ _ ⟨hp, g, d, tk + 1, os⟩
  refine wpAny_bind (wpAny_setField_rec he1 (by simp) fun h2 he2 hs2 => ?_)
  replace hs2 : Heap.SameBut e hp h2 := hs2
  replace he2 : IsEnum h2 e it (c + 1) old := he2
  show wpAny _ _ (setField (.ref e) 4 .none >>= _) _ _ ⟨h2, g, d, tk + 1, os⟩
  refine wpAny_bind (wpAny_setField_rec he2 (by simp) fun h3 he3 hs3 => ?_)
  replace hs3 : Heap.SameBut e h2 h3 := hs3
  replace he3 : IsEnum h3 e it (c + 1) old := he3
  show wpAny _ _ (newTuple [.int c tk, x] >>= _) _ _ ⟨h3, g, d, tk + 1, os⟩
  refine wpAny_bind (wpAny_newTuple ?_)
  have he4 : IsEnum (h3.push { cls := .type "tuple", data := .seq #[.int c tk, x] }) e it (c + 1) old := Heap.get?_push_of_some _ he3
  generalize hh4 : h3.push { cls := .type "tuple", data := .seq #[.int c tk, x] } = h4 at he4
  have hsz : h3.objs.size = hp.objs.size := by rw [hs3.1, hs2.1]
  have hel : e < hp.objs.size := Heap.lt_size he1
  have ht4 : h4.get? hp.objs.size = some { cls := .type "tuple", data := .seq #[.int c tk, x] } := by rw [← hh4, ← hsz]; exact Heap.get?_push_size _ rfl
  have hz4 : h4.objs.size = hp.objs.size + 1 := by rw [← hh4, Heap.size_push, hsz]
  have hk4 : ∀ b o, b ≠ e → hp.get? b = some o → h4.get? b = some o := fun b o hbe hb => by
    rw [← hh4]
    exact Heap.get?_push_of_some _ (hs3.extBut b o hbe (hs2.extBut b o hbe hb))
  show wpAny _ _ (Builtin.SmallTypes.ownedTupleIsFree (.ref e) >>= _) _ _ ⟨h4, g, d, tk + 1, os⟩
  rw [hsz]
  clear hh4 he3 hs3 he2 hs2 hsz
  refine wpAny_bind ?_
  · unfold Builtin.SmallTypes.ownedTupleIsFree
    refine wpAny_bind (wpAny_field he4 rfl (x := .none) rfl (wpAny_pure ?_))
    simp only [if_true]
    refine wpAny_bind (wpAny_rule ?_)
    refine wpAny_bind (wpAny_field he4 rfl (x := old) rfl ?_)
    refine wpAny_bind (wpAny_setField_rec he4 (by simp) fun h5 he5 hs5 => ?_)
    replace hs5 : Heap.SameBut e h4 h5 := hs5
    replace he5 : IsEnum h5 e it (c + 1) x := he5
    show wpAny _ _ (Builtin.SmallTypes.ownedTupleHandOut (.ref e) (.ref hp.objs.size) >>= _) _ _ ⟨h5, g, d, tk + 1, os⟩
    refine wpAny_bind ?_
    · unfold Builtin.SmallTypes.ownedTupleHandOut
      refine wpAny_bind (wpAny_setField_rec he5 (by simp) fun h6 he6 hs6 => ?_)
      replace hs6 : Heap.SameBut e h5 h6 := hs6
      replace he6 : IsEnumOut h6 e it (c + 1) x hp.objs.size := he6
      refine wpAny_setField_rec he6 (by simp) fun h7 he7 hs7 => ?_
      replace hs7 : Heap.SameBut e h6 h7 := hs7
      replace he7 : IsEnumOut h7 e it (c + 1) x hp.objs.size := he7
      refine wpAny_bind (wpAny_letGo (wpAny_pure ⟨_, rfl, hQ h7 he7 ?_ ?_ ?_⟩))
      · exact hs7.extBut _ _ (Nat.ne_of_gt hel) (hs6.extBut _ _ (Nat.ne_of_gt hel) (hs5.extBut _ _ (Nat.ne_of_gt hel) ht4))
      · rw [hs7.1, hs6.1, hs5.1, hz4]
      · exact fun b o hbe hb => hs7.extBut b o hbe (hs6.extBut b o hbe (hs5.extBut b o hbe (hk4 b o hbe hb)))
end
end Bw
/-! Lay7: zip and enumerate of tuples. -/
namespace Bw
open PySem PySem.Spec PyProof.Rows L2
def Itn (n : Nat) (C : Hp → Prop) (row : Nat → List V → Prop) : It :=
  ⟨fun i H => i < n ∧ C H, fun i H v H' => ∃ T xs, v = .ref T ∧ H T = none ∧ H' = upd H T (.tup xs) ∧ row i xs, fun i H => n ≤ i ∧ C H⟩
theorem turn_T {P : Program} {w : World} {K : PySem.W.Frag} {elts : List Expr} {kk : Nat} {tpos : Pos} {n : Nat} {C : Hp → Prop} {row : Nat → List V → Prop} {fp : List Addr} {it : Addr} {tn : Nat → Heap → Prop}
    (mem : it ∈ fp) (obj : ∀ i h, tn i h → ∀ b ∈ fp, ∃ o, h.get? b = some o ∧ ∀ v, o.data ≠ .cell v) (keep : ∀ i h h', tn i h → (∀ b ∈ fp, ∀ o, h.get? b = some o → h'.get? b = some o) → tn i h')
    (self : ∀ (A : Around) (i : Nat) (s : Shared) (Q : Value → Shared → Prop) (E : Value → Shared → Prop), tn i s.heap → Q (.ref it) s → wpAny (model P w) A (pyIter (.ref it)) Q E s)
    (up : ∀ i h, tn i h → i ≤ n)
    (wk : ∀ (X : Cx), X.prog = P → X.w = w → X.K = K → X.calm = true → ∀ (pins : List (Addr × Obj)) (s : Shared) (σ : L2.St) (H : Hp), Inv X pins σ H s → C H → ∃ (Pt : Nat → Array Value → Prop) (St : Nat → Heap → Prop) (Mid : Nat → Addr → Heap → Prop) (fp' wr : List Addr),
      WalksT X.prog X.w X.A it fp' wr n Pt St Mid ∧ (∀ i, tn i s.heap → St i s.heap) ∧ (∀ b ∈ wr, b ∈ fp) ∧ (∀ i h, i ≤ n → St i h → tn i h) ∧ ∀ i vals, i < n → Pt i vals → ∃ xs, Vals xs vals.toList ∧ xs.length ≤ sizeLine ∧ row i xs) :
    Turn P w K (.Tuple elts kk tpos) (Itn n C row) fp it tn where
  mem := mem
  obj := obj
  keep := keep
  self := self
  item := by
    intro X hP hw hK hc i pins s σ H E I hf st hg
    obtain ⟨hi, hC⟩ := hg
    obtain ⟨Pt, St, Mid, fp', wr, W, h1, h2, h3, h4⟩ := wk X hP hw hK hc pins s σ H I hC
    subst hP hw hK
    refine W.item i s _ _ hi (h1 i st) fun T vals h' tk hPt hT hIs hm hk => ⟨_, rfl, ?_⟩
    refine W.go elts kk tpos i T { s with heap := h', toks := tk } _ _ hm fun h'' st'' hk' => ?_
    obtain ⟨xs, v1, v2, v3⟩ := h4 i vals hi hPt
    have nT : H T = none := I.hok.fresh hT
    obtain ⟨o, ho, hcl, nn, hd⟩ := hIs
    have ho' : h''.get? T = some o := hk' T o (W.apart i T h' hm) ho
    have new : ObjOk X.prog X.w (upd H T (.tup xs)) h'' T (.tup xs) := ⟨v2, vals.toList, v1, ⟨o, ho', hcl, nn, by simpa using hd⟩⟩
    have I1 : Inv X pins σ (upd H T (.tup xs)) { s with heap := h'', toks := tk } :=
      I.turnedNew (ch := fp) (fun b ob hb q => hk' b ob (fun z => hb (h2 b z)) (hk b ob (fun z => hb (h2 b z)) q)) hf hT new
    refine ⟨.ref T, _, I1, rfl, ⟨T, xs, rfl, nT, rfl, v3⟩, h3 (i + 1) h'' hi st'', fun b hb => ?_⟩
    obtain ⟨ob, eb, _⟩ := obj i s.heap st b hb
    rw [upd_ne (Nat.ne_of_lt (Nat.lt_of_lt_of_le (Heap.lt_size eb) hT))]
    exact (hf b hb).1
  done := by
    intro X hP hw hK hc i pins s σ H E I hf st hg
    obtain ⟨hi, hC⟩ := hg
    obtain ⟨Pt, St, Mid, fp', wr, W, h1, h2, h3, h4⟩ := wk X hP hw hK hc pins s σ H I hC
    subst hP hw hK
    have e : i = n := Nat.le_antisymm (up i _ st) hi
    subst e
    exact W.done s _ _ (h1 _ st) fun h' tk hk => ⟨rfl, I.turnedL (ch := fp) (fun b o hb e => hk b o (fun z => hb (h2 b z)) e) hf⟩
theorem tup_obj {h : Heap} {b : Addr} {vs : Array Value} (e : h.get? b = some { cls := .type "tuple", data := .seq vs }) : ∃ o, h.get? b = some o ∧ ∀ v, o.data ≠ .cell v := ⟨_, e, fun v q => nomatch q⟩
theorem iter_obj {h : Heap} {b t : Addr} {i : Nat} (e : h.IsTupleIter b t i) : ∃ o, h.get? b = some o ∧ ∀ v, o.data ≠ .cell v := let ⟨o, e1, _, d⟩ := e; ⟨o, e1, fun v q => by rw [d] at q; cases q⟩
theorem vals_get {xs : List V} {its : List Value} (r : Vals xs its) {i : Nat} {u : Value} (h : its[i]? = some u) : ∃ x, xs[i]? = some x ∧ RelV x u := by
  have hl := r.length
  have hi : i < xs.length := by
    have := (List.getElem?_eq_some_iff.mp h).1
    omega
  obtain ⟨u', h1, h2⟩ := r.get (List.getElem?_eq_getElem hi)
  rw [h] at h1
  cases h1
  exact ⟨_, List.getElem?_eq_getElem hi, h2⟩
def Row2 (xs ys : List V) : Nat → List V → Prop := fun i l => ∃ x y, xs[i]? = some x ∧ ys[i]? = some y ∧ l = [x, y]
theorem turn_zip2 {P : Program} {w : World} {K : PySem.W.Frag} {elts : List Expr} {kk : Nat} {tpos : Pos} {n : Nat} {z TI TO i1 i2 a b : Addr} {xs ys : List V} (S : ZipSep2 z TI TO i1 i2 [i1, a] [i2, b]) (h1 : a ≠ i1) (h2 : b ≠ i2) (l1 : xs.length = n) (l2 : ys.length = n) :
    Turn P w K (.Tuple elts kk tpos) (Itn n (fun H => SqT K H a xs ∧ SqT K H b ys) (Row2 xs ys)) [z, TI, TO, i1, i2] z
      (fun i h => i ≤ n ∧ IsZip h z TI TO .none ∧ IsTupOf2 h TI (.ref i1) (.ref i2) ∧ (∃ a1 a2, IsTupOf2 h TO a1 a2) ∧ h.IsTupleIter i1 a i ∧ h.IsTupleIter i2 b i) := by
  refine turn_T (by simp) (fun i h st c hc => ?_) (fun i h h' st k => ?_) (fun A i s Q E st h => wpAny_pyIter_zip st.2.1 h) (fun i h st => st.1) fun X hP hw hK hc pins s σ H I hC => ?_
  · obtain ⟨_, hz, hTI, ⟨x, y, hTO⟩, e1, e2⟩ := st
    have e' : c = z ∨ c = TI ∨ c = TO ∨ c = i1 ∨ c = i2 := by simpa using hc
    rcases e' with q | q | q | q | q
    · rw [q]; exact ⟨_, hz, fun v q => nomatch q⟩
    · rw [q]; exact tup_obj hTI
    · rw [q]; exact tup_obj hTO
    · rw [q]; exact iter_obj e1
    · rw [q]; exact iter_obj e2
  · obtain ⟨hi, hz, hTI, ⟨x, y, hTO⟩, e1, e2⟩ := st
    exact ⟨hi, k z (by simp) _ hz, k TI (by simp) _ hTI, ⟨x, y, k TO (by simp) _ hTO⟩, e1.at fun o q => k i1 (by simp) o q, e2.at fun o q => k i2 (by simp) o q⟩
  · subst hP hw hK
    obtain ⟨its, rv, p, _⟩ := I.tuple hC.1
    obtain ⟨its2, rv2, p2, _⟩ := I.tuple hC.2
    have hd : X.A.in1.handled = none := I.ok.hd hc
    have W := WalksT.zipD2 S (Draws.tuple (prog := X.prog) (w := X.w) hd i1 a h1 its.toArray) (Draws.tuple hd i2 b h2 its2.toArray)
    have e1 : min its.toArray.size its2.toArray.size = n := by
      have := rv.length
      have := rv2.length
      simp only [List.size_toArray]
      omega
    rw [e1] at W
    refine ⟨_, _, _, _, _, W, fun i st => ⟨st.2.1, st.2.2.1, st.2.2.2.1, ⟨st.2.2.2.2.1, p⟩, st.2.2.2.2.2, p2⟩, fun b hb => ?_, fun i h hi st => ⟨hi, st.1, st.2.1, st.2.2.1, st.2.2.2.1.1, st.2.2.2.2.1⟩, fun i vals hi ⟨x, y, hx, hy, ev⟩ => ?_⟩
    · have hb' : b = z ∨ b = TO ∨ b = i1 ∨ b = i2 := by simpa using hb
      rcases hb' with q | q | q | q <;> simp [q]
    · obtain ⟨u, q1, r1⟩ := vals_get rv (by simpa using hx)
      obtain ⟨v, q2, r2⟩ := vals_get rv2 (by simpa using hy)
      subst ev
      exact ⟨[u, v], .cons r1 (.cons r2 .nil), by show 2 ≤ sizeLine; decide, u, v, q1, q2, rfl⟩
def Row4 (xs ys zs us : List V) : Nat → List V → Prop := fun i l => ∃ x y z u, xs[i]? = some x ∧ ys[i]? = some y ∧ zs[i]? = some z ∧ us[i]? = some u ∧ l = [x, y, z, u]
theorem turn_zip4 {P : Program} {w : World} {K : PySem.W.Frag} {elts : List Expr} {kk : Nat} {tpos : Pos} {n : Nat} {z TI TO i1 i2 i3 i4 a b c d : Addr} {xs ys zs us : List V} (S : Z4Sep z TI TO i1 i2 i3 i4 [i1, a] [i2, b] [i3, c] [i4, d]) (h1 : a ≠ i1) (h2 : b ≠ i2) (h3 : c ≠ i3) (h4 : d ≠ i4)
    (l1 : xs.length = n) (l2 : ys.length = n) (l3 : zs.length = n) (l4 : us.length = n) :
    Turn P w K (.Tuple elts kk tpos) (Itn n (fun H => SqT K H a xs ∧ SqT K H b ys ∧ SqT K H c zs ∧ SqT K H d us) (Row4 xs ys zs us)) [z, TI, TO, i1, i2, i3, i4] z
      (fun i h => i ≤ n ∧ IsZip h z TI TO .none ∧ IsTup4 h TI (.ref i1) (.ref i2) (.ref i3) (.ref i4) ∧ (∃ a1 a2 a3 a4, IsTup4 h TO a1 a2 a3 a4) ∧ h.IsTupleIter i1 a i ∧ h.IsTupleIter i2 b i ∧ h.IsTupleIter i3 c i ∧ h.IsTupleIter i4 d i) := by
  refine turn_T (by simp) (fun i h st c hc => ?_) (fun i h h' st k => ?_) (fun A i s Q E st h => wpAny_pyIter_zip st.2.1 h) (fun i h st => st.1) fun X hP hw hK hc pins s σ H I hC => ?_
  · obtain ⟨_, hz, hTI, ⟨x, y, x3, x4, hTO⟩, e1, e2, e3, e4⟩ := st
    have e' : c = z ∨ c = TI ∨ c = TO ∨ c = i1 ∨ c = i2 ∨ c = i3 ∨ c = i4 := by simpa using hc
    rcases e' with q | q | q | q | q | q | q
    · rw [q]; exact ⟨_, hz, fun v q => nomatch q⟩
    · rw [q]; exact tup_obj hTI
    · rw [q]; exact tup_obj hTO
    · rw [q]; exact iter_obj e1
    · rw [q]; exact iter_obj e2
    · rw [q]; exact iter_obj e3
    · rw [q]; exact iter_obj e4
  · obtain ⟨hi, hz, hTI, ⟨x, y, x3, x4, hTO⟩, e1, e2, e3, e4⟩ := st
    exact ⟨hi, k z (by simp) _ hz, k TI (by simp) _ hTI, ⟨x, y, x3, x4, k TO (by simp) _ hTO⟩, e1.at fun o q => k i1 (by simp) o q, e2.at fun o q => k i2 (by simp) o q, e3.at fun o q => k i3 (by simp) o q, e4.at fun o q => k i4 (by simp) o q⟩
  · subst hP hw hK
    obtain ⟨its, rv, p, _⟩ := I.tuple hC.1
    obtain ⟨its2, rv2, p2, _⟩ := I.tuple hC.2.1
    obtain ⟨its3, rv3, p3, _⟩ := I.tuple hC.2.2.1
    obtain ⟨its4, rv4, p4, _⟩ := I.tuple hC.2.2.2
    have hd : X.A.in1.handled = none := I.ok.hd hc
    have g1 : its.toArray.size = n := by have := rv.length; simp only [List.size_toArray]; omega
    have g2 : its2.toArray.size = n := by have := rv2.length; simp only [List.size_toArray]; omega
    have g3 : its3.toArray.size = n := by have := rv3.length; simp only [List.size_toArray]; omega
    have g4 : its4.toArray.size = n := by have := rv4.length; simp only [List.size_toArray]; omega
    have D1 := Draws.tuple (prog := X.prog) (w := X.w) hd i1 a h1 its.toArray
    have D2 := Draws.tuple (prog := X.prog) (w := X.w) hd i2 b h2 its2.toArray
    have D3 := Draws.tuple (prog := X.prog) (w := X.w) hd i3 c h3 its3.toArray
    have D4 := Draws.tuple (prog := X.prog) (w := X.w) hd i4 d h4 its4.toArray
    rw [g1] at D1
    rw [g2] at D2
    rw [g3] at D3
    rw [g4] at D4
    have W := walks_zip4 S D1 D2 D3 D4
    refine ⟨_, _, _, _, _, W, fun i ⟨_, s1, s2, s3, s4, s5, s6, s7⟩ => ⟨s1, s2, s3, ⟨s4, p⟩, ⟨s5, p2⟩, ⟨s6, p3⟩, s7, p4⟩, fun b hb => ?_, fun i h hi ⟨s1, s2, s3, s4, s5, s6, s7⟩ => ⟨hi, s1, s2, s3, s4.1, s5.1, s6.1, s7.1⟩, fun i vals hi ⟨x, y, x3, x4, hx, hy, hx3, hx4, ev⟩ => ?_⟩
    · have hb' : b = z ∨ b = TO ∨ b = i1 ∨ b = i2 ∨ b = i3 ∨ b = i4 := by simpa using hb
      rcases hb' with q | q | q | q | q | q <;> simp [q]
    · obtain ⟨u, q1, r1⟩ := vals_get rv (by simpa using hx)
      obtain ⟨v, q2, r2⟩ := vals_get rv2 (by simpa using hy)
      obtain ⟨u3, q3, r3⟩ := vals_get rv3 (by simpa using hx3)
      obtain ⟨u4, q4, r4⟩ := vals_get rv4 (by simpa using hx4)
      subst ev
      exact ⟨[u, v, u3, u4], .cons r1 (.cons r2 (.cons r3 (.cons r4 .nil))), by show 4 ≤ sizeLine; decide, u, v, u3, u4, q1, q2, q3, q4, rfl⟩
def RowE (xs : List V) : Nat → List V → Prop := fun i l => ∃ x, xs[i]? = some x ∧ l = [.int (i : Nat), x]
theorem turn_enumT {P : Program} {w : World} {K : PySem.W.Frag} {elts : List Expr} {kk : Nat} {tpos : Pos} {n : Nat} {e it a : Addr} {xs : List V} (h1 : e ≠ it) (h2 : e ≠ a) (h3 : a ≠ it) (l1 : xs.length = n) :
    Turn P w K (.Tuple elts kk tpos) (Itn n (fun H => SqT K H a xs) (RowE xs)) [e, it] e
      (fun i h => i ≤ n ∧ (∃ old, IsEnum h e it ((i : Nat) : Int) old) ∧ h.IsTupleIter it a i) := by
  refine turn_T (by simp) (fun i h st c hc => ?_) (fun i h h' st k => ?_) (fun A i s Q E st h => let ⟨_, ⟨_, he⟩, _⟩ := st; wpAny_pyIter_enum he h) (fun i h st => st.1) fun X hP hw hK hc pins s σ H I hC => ?_
  · obtain ⟨_, ⟨old, he⟩, e1⟩ := st
    have e' : c = e ∨ c = it := by simpa using hc
    rcases e' with q | q
    · rw [q]; exact ⟨_, he, fun v q => nomatch q⟩
    · rw [q]; exact iter_obj e1
  · obtain ⟨hi, ⟨old, he⟩, e1⟩ := st
    exact ⟨hi, ⟨old, k e (by simp) _ he⟩, e1.at fun o q => k it (by simp) o q⟩
  · subst hP hw hK
    obtain ⟨its, rv, p, _⟩ := I.tuple hC
    have hd : X.A.in1.handled = none := I.ok.hd hc
    have g1 : its.toArray.size = n := by have := rv.length; simp only [List.size_toArray]; omega
    have D1 := Draws.tuple (prog := X.prog) (w := X.w) hd it a h3 its.toArray
    rw [g1] at D1
    have W := WalksT.enumFrom 0 D1 e h1 (by simp [h1, h2]) (by simp)
    refine ⟨_, _, _, _, _, W, fun i ⟨_, ⟨old, s1⟩, s2⟩ => ⟨⟨old, by rw [Int.zero_add]; exact s1⟩, s2, p⟩, fun b hb => hb, fun i h hi ⟨⟨old, s1⟩, s2⟩ => ⟨hi, ⟨old, by rw [Int.zero_add] at s1; exact s1⟩, s2.1⟩, fun i vals hi ⟨t, x, hx, ev⟩ => ?_⟩
    obtain ⟨u, q1, r1⟩ := vals_get rv (by simpa using hx)
    subst ev
    rw [Int.zero_add]
    exact ⟨[.int (i : Nat), u], .cons ⟨_, rfl⟩ (.cons r1 .nil), by show 2 ≤ sizeLine; decide, u, q1, rfl⟩
end Bw
/-! Lay8: what a for walks: zip and enumerate of tuples, ranges with a step. -/
namespace Bw
open PySem PySem.Spec PyProof.Rows L2
/-- enumerate of anything that begins a new iterator -/
theorem meets_enumerate_new1 {v : Value} {o : Obj} {H : Heap → Prop} (B : Begins v o H) :
    Meets (Builtin.«enumerate.__new__» ⟨[.type "enumerate", v], []⟩) (fun _ R s => H s.heap ∧
      R (.ok (.ret (.ref (s.heap.push o).objs.size))) { s with heap := (s.heap.push o).push { cls := .type "enumerate", data := .fields #[.none, .bool false, .ref s.heap.objs.size, rawInt 0, .none, .none] } }) :=
  .of_wp fun prog w A R s h => by
    obtain ⟨hp, g, d, tk, os⟩ := s; obtain ⟨h1, h⟩ := h
    have hsub := sub_enumerate
    have q1 : ∀ {A' : Around} {E : Value → Shared → Prop} {Q : Value → Shared → Prop}, Q (.ref hp.objs.size) ⟨hp.push o, g, d, tk, os⟩ → wpAny (model prog w) A' (pyIter v) Q E ⟨hp, g, d, tk, os⟩ :=
      fun q => B.iter prog w _ _ ⟨hp, g, d, tk, os⟩ _ h1 q
    wp_walk using q1
    refine wpAny_stack_any fun st => wpAny_pure ?_
    split
    · rename_i c _ _ _ _ _
      cases (c == Value.type "enumerate")
      · wp_walk using q1
        exact ⟨_, rfl, h⟩
      · wp_walk using q1
        exact ⟨_, rfl, h⟩
    · wp_walk using q1
      exact ⟨_, rfl, h⟩
/-- enumerate of an iterator -/
theorem meets_enumerate_newI {v : Value} {H : Heap → Prop} (B : ∀ (prog : Program) (w : World) (A : Around) (E : Value → Shared → Prop) (s : Shared) (Q : Value → Shared → Prop), H s.heap → Q v s → wpAny (model prog w) A (pyIter v) Q E s) :
    Meets (Builtin.«enumerate.__new__» ⟨[.type "enumerate", v], []⟩) (fun _ R s => H s.heap ∧
      R (.ok (.ret (.ref s.heap.objs.size))) { s with heap := s.heap.push { cls := .type "enumerate", data := .fields #[.none, .bool false, v, rawInt 0, .none, .none] } }) :=
  .of_wp fun prog w A R s h => by
    obtain ⟨hp, g, d, tk, os⟩ := s; obtain ⟨h1, h⟩ := h
    have hsub := sub_enumerate
    have q1 : ∀ {A' : Around} {E : Value → Shared → Prop} {Q : Value → Shared → Prop}, Q v ⟨hp, g, d, tk, os⟩ → wpAny (model prog w) A' (pyIter v) Q E ⟨hp, g, d, tk, os⟩ :=
      fun q => B prog w _ _ ⟨hp, g, d, tk, os⟩ _ h1 q
    wp_walk using q1
    refine wpAny_stack_any fun st => wpAny_pure ?_
    split
    · rename_i c _ _ _ _ _
      cases (c == Value.type "enumerate")
      · wp_walk using q1
        exact ⟨_, rfl, h⟩
      · wp_walk using q1
        exact ⟨_, rfl, h⟩
    · wp_walk using q1
      exact ⟨_, rfl, h⟩
theorem nne {a N : Nat} (h : a < N) (k : Nat) : a ≠ N + k := by omega
theorem nne' {a N : Nat} (h : a < N) (k : Nat) : N + k ≠ a := by omega
theorem nle {c N : Nat} (k : Nat) (h : c = N + k) : N ≤ c := by omega
section
variable {prog : Program} {w : World} {A : Around} {E : Value → Shared → Prop} {s : Shared}
theorem enum_begins1 {v : Value} {o : Obj} {H : Heap → Prop} {Q : Value → Shared → Prop} (B : Begins v o H) (h1 : H s.heap)
    (h : ∀ h', IsEnum h' (s.heap.objs.size + 1) s.heap.objs.size 0 .none → h'.get? s.heap.objs.size = some o → h'.objs.size = s.heap.objs.size + 2 →
      (∀ b o, s.heap.get? b = some o → h'.get? b = some o) → Q (.ref (s.heap.objs.size + 1)) { s with heap := h' }) :
    wpAny (model prog w) A (call (.type "enumerate") [v]) Q E s := by
  refine callType_new F.called_enumerate (by decide) (F.typeCall_enumerate_1 _) (F.newCall_enumerate_1 _) (fun obj => F.args_object_init_2 obj _) F.entry_enumerate_new
    (meets_enumerate_new1 B) ⟨h1, ?_⟩
  have hz : (s.heap.push o).objs.size = s.heap.objs.size + 1 := Heap.size_push ..
  show _ ∧ _
  rw [hz]
  have he : IsEnum ((s.heap.push o).push { cls := .type "enumerate", data := .fields #[.none, .bool false, .ref s.heap.objs.size, rawInt 0, .none, .none] }) (s.heap.objs.size + 1) s.heap.objs.size 0 .none := by
    have := Heap.get?_push_size (s.heap.push o) (o := { cls := .type "enumerate", data := .fields #[.none, .bool false, .ref s.heap.objs.size, rawInt 0, .none, .none] }) rfl
    rw [hz] at this; exact this
  refine ⟨⟨_, he, rfl⟩, h _ he (Heap.get?_push_of_some _ (Heap.get?_push_size _ B.free)) (by rw [Heap.size_push, hz]) fun b o x => Heap.get?_push_of_some _ (Heap.get?_push_of_some _ x)⟩
theorem enum_beginsI {z : Addr} {H : Heap → Prop} {Q : Value → Shared → Prop} (B : ∀ (prog : Program) (w : World) (A : Around) (E : Value → Shared → Prop) (s : Shared) (Q : Value → Shared → Prop), H s.heap → Q (.ref z) s → wpAny (model prog w) A (pyIter (.ref z)) Q E s) (h1 : H s.heap)
    (h : ∀ h', IsEnum h' s.heap.objs.size z 0 .none → h'.objs.size = s.heap.objs.size + 1 → (∀ b o, s.heap.get? b = some o → h'.get? b = some o) → Q (.ref s.heap.objs.size) { s with heap := h' }) :
    wpAny (model prog w) A (call (.type "enumerate") [.ref z]) Q E s := by
  refine callType_new F.called_enumerate (by decide) (F.typeCall_enumerate_1 _) (F.newCall_enumerate_1 _) (fun obj => F.args_object_init_2 obj _) F.entry_enumerate_new
    (meets_enumerate_newI B) ⟨h1, ?_⟩
  have he : IsEnum (s.heap.push { cls := .type "enumerate", data := .fields #[.none, .bool false, .ref z, rawInt 0, .none, .none] }) s.heap.objs.size z 0 .none := Heap.get?_push_size _ rfl
  exact ⟨⟨_, he, rfl⟩, h _ he (Heap.size_push ..) fun b o x => Heap.get?_push_of_some _ x⟩
end
section
variable {X : Cx} {e e1 e2 e3 e4 : Expr} {ta : TA} {p p2 pos pos2 tpos : Pos} {elts : List Expr} {kk : Nat}
def iEnumT (K : PySem.W.Frag) (ta : TA) : TI := fun σ H R => ta σ H fun vs H1 => ∃ a xs, vs = [.ref a] ∧ SqT K H1 a xs ∧ R (Itn xs.length (fun H => SqT K H a xs) (RowE xs)) H1
theorem pi_enumT (hg : Gl X "enumerate") (hm : X.mg "enumerate" = none) (ha : PA X [e] ta) (hs : starEach [e] X.env = [(false, eval e X.env)] := by rfl) :
    PI X (.Tuple elts kk tpos) (.Call (.Name "enumerate" p) [e] [] pos) (iEnumT X.K ta) := by
  refine ⟨fun pins s σ H R I h => ?_⟩
  refine Call_ (ld_blt I hg hm boot_enumerate (PyProof.Rows.callWith_type1 (thn (ha.run pos pins s σ H _ I h) fun us s1 ⟨vs, H1, I1, r1, q1⟩ => ?_) hs rfl))
  obtain ⟨a, xs, ex, hq, q⟩ := q1
  subst ex
  cases r1 with
  | cons r rr =>
    cases rr
    cases r
    obtain ⟨its, rv, p', hz⟩ := I1.tuple hq
    have la : a < s1.heap.objs.size := by obtain ⟨o, ho, _⟩ := p'; exact Heap.lt_size ho
    refine enum_begins1 (begins_tuple a its.toArray) p' fun h' he hit hsz hk => wpAny_pyIter_enum he ?_
    have I2 : Inv X pins σ H1 { s1 with heap := h' } := I1.kept (t' := s1.toks) hk
    have n1 : (s1.heap.objs.size + 1 : Nat) ≠ a := nne' la 1
    have n2 : a ≠ s1.heap.objs.size := nne la 0
    refine ⟨s1.heap.objs.size + 1, [s1.heap.objs.size + 1, s1.heap.objs.size], _, _, H1, rfl, I2, turn_enumT (Nat.succ_ne_self _) n1 n2 rfl, ⟨Nat.zero_le _, ⟨.none, he⟩, ⟨_, hit, rfl, rfl⟩⟩, fun b hb => ?_, q⟩
    have e' : b = s1.heap.objs.size + 1 ∨ b = s1.heap.objs.size := by simpa using hb
    have hle : s1.heap.objs.size ≤ b := by
      rcases e' with z | z
      · rw [z]; exact Nat.le_add_right _ _
      · rw [z]; exact Nat.le_refl _
    exact I1.fpOk hle (I1.hok.fresh hle)
def iZip2 (K : PySem.W.Frag) (ta : TA) : TI := fun σ H R => ta σ H fun vs H1 => ∃ a b xs ys, vs = [.ref a, .ref b] ∧ SqT K H1 a xs ∧ SqT K H1 b ys ∧ ys.length = xs.length ∧ R (Itn xs.length (fun H => SqT K H a xs ∧ SqT K H b ys) (Row2 xs ys)) H1
theorem pi_zip2 (hg : Gl X "zip") (hm : X.mg "zip" = none) (ha : PA X [e1, e2] ta) (hs : starEach [e1, e2] X.env = (false, eval e1 X.env) :: starEach [e2] X.env := by rfl) (hpl : (backTo pos (starEach [e2] X.env)).any (·.1) = false := by rfl) :
    PI X (.Tuple elts kk tpos) (.Call (.Name "zip" p) [e1, e2] [] pos) (iZip2 X.K ta) := by
  refine ⟨fun pins s σ H R I h => ?_⟩
  refine Call_ (ld_blt I hg hm PyProof.Rows.boot_zip (PyProof.Rows.callWith_type1 (thn (ha.run pos pins s σ H _ I h) fun us s1 ⟨vs, H1, I1, r1, q1⟩ => ?_) hs hpl))
  obtain ⟨a, b, xs, ys, ex, hqx, hqy, hl, q⟩ := q1
  subst ex
  cases r1 with
  | cons r rr =>
    cases rr with
    | cons r' rr =>
      cases rr
      cases r
      cases r'
      obtain ⟨its, rv, p1, _⟩ := I1.tuple hqx
      obtain ⟨its2, rv2, p2, _⟩ := I1.tuple hqy
      have la : a < s1.heap.objs.size := by obtain ⟨o, ho, _⟩ := p1; exact Heap.lt_size ho
      have lb : b < s1.heap.objs.size := by obtain ⟨o, ho, _⟩ := p2; exact Heap.lt_size ho
      refine zip_begins2 (begins_tuple a its.toArray) (begins_tuple b its2.toArray) p1 p2 fun h' hz hTI hTO h1 h2 hsz hk => wpAny_pyIter_zip hz ?_
      have I2 : Inv X pins σ H1 { s1 with heap := h' } := I1.kept (t' := s1.toks) hk
      have S := zip_sep2 (N := s1.heap.objs.size) (fp1 := [a]) (fp2 := [b]) (by simpa using la) (by simpa using lb)
      have n1 : a ≠ s1.heap.objs.size := nne la 0
      have n2 : b ≠ (s1.heap.objs.size + 1 : Nat) := nne lb 1
      refine ⟨_, _, _, _, H1, rfl, I2, turn_zip2 S n1 n2 rfl hl, ⟨Nat.zero_le _, hz, hTI, ⟨_, _, hTO⟩, ⟨_, h1, rfl, rfl⟩, ⟨_, h2, rfl, rfl⟩⟩, fun c hcm => ?_, q⟩
      have hle : s1.heap.objs.size ≤ c := by
        have e' : c = (s1.heap.objs.size + 4 : Nat) ∨ c = (s1.heap.objs.size + 2 : Nat) ∨ c = (s1.heap.objs.size + 3 : Nat) ∨ c = s1.heap.objs.size ∨ c = (s1.heap.objs.size + 1 : Nat) := by simpa using hcm
        rcases e' with z | z | z | z | z
        · exact nle 4 z
        · exact nle 2 z
        · exact nle 3 z
        · exact nle 0 z
        · exact nle 1 z
      exact I1.fpOk hle (I1.hok.fresh hle)
def iZip4 (K : PySem.W.Frag) (ta : TA) : TI := fun σ H R => ta σ H fun vs H1 => ∃ a b c d xs ys zs us, vs = [.ref a, .ref b, .ref c, .ref d] ∧ SqT K H1 a xs ∧ SqT K H1 b ys ∧ SqT K H1 c zs ∧ SqT K H1 d us ∧ ys.length = xs.length ∧ zs.length = xs.length ∧ us.length = xs.length ∧
  R (Itn xs.length (fun H => SqT K H a xs ∧ SqT K H b ys ∧ SqT K H c zs ∧ SqT K H d us) (Row4 xs ys zs us)) H1
theorem pi_zip4 (hg : Gl X "zip") (hm : X.mg "zip" = none) (ha : PA X [e1, e2, e3, e4] ta) (hs : starEach [e1, e2, e3, e4] X.env = (false, eval e1 X.env) :: starEach [e2, e3, e4] X.env := by rfl) (hpl : (backTo pos (starEach [e2, e3, e4] X.env)).any (·.1) = false := by rfl) :
    PI X (.Tuple elts kk tpos) (.Call (.Name "zip" p) [e1, e2, e3, e4] [] pos) (iZip4 X.K ta) := by
  refine ⟨fun pins s σ H R I h => ?_⟩
  refine Call_ (ld_blt I hg hm PyProof.Rows.boot_zip (PyProof.Rows.callWith_type1 (thn (ha.run pos pins s σ H _ I h) fun us s1 ⟨vs, H1, I1, r1, q1⟩ => ?_) hs hpl))
  obtain ⟨a, b, c, d, xs, ys, zs, us, ex, hqx, hqy, hqz, hqu, l1, l2, l3, q⟩ := q1
  subst ex
  cases r1 with
  | cons r rr =>
    cases rr with
    | cons r' rr =>
      cases rr with
      | cons r3 rr =>
        cases rr with
        | cons r4 rr =>
          cases rr
          cases r
          cases r'
          cases r3
          cases r4
          obtain ⟨its, rv, p1, _⟩ := I1.tuple hqx
          obtain ⟨its2, rv2, p2, _⟩ := I1.tuple hqy
          obtain ⟨its3, rv3, p3, _⟩ := I1.tuple hqz
          obtain ⟨its4, rv4, p4, _⟩ := I1.tuple hqu
          have la : a < s1.heap.objs.size := by obtain ⟨o, ho, _⟩ := p1; exact Heap.lt_size ho
          have lb : b < s1.heap.objs.size := by obtain ⟨o, ho, _⟩ := p2; exact Heap.lt_size ho
          have lc : c < s1.heap.objs.size := by obtain ⟨o, ho, _⟩ := p3; exact Heap.lt_size ho
          have ld : d < s1.heap.objs.size := by obtain ⟨o, ho, _⟩ := p4; exact Heap.lt_size ho
          refine zip_begins4 (begins_tuple a its.toArray) (begins_tuple b its2.toArray) (begins_tuple c its3.toArray) (begins_tuple d its4.toArray) p1 p2 p3 p4 fun h' hz hTI hTO h1 h2 h3 h4 hsz hk => wpAny_pyIter_zip hz ?_
          have I2 : Inv X pins σ H1 { s1 with heap := h' } := I1.kept (t' := s1.toks) hk
          have S := z4_sep (N := s1.heap.objs.size) (fp1 := [a]) (fp2 := [b]) (fp3 := [c]) (fp4 := [d]) (by simpa using la) (by simpa using lb) (by simpa using lc) (by simpa using ld)
          have n1 : a ≠ s1.heap.objs.size := nne la 0
          have n2 : b ≠ (s1.heap.objs.size + 1 : Nat) := nne lb 1
          have n3 : c ≠ (s1.heap.objs.size + 2 : Nat) := nne lc 2
          have n4 : d ≠ (s1.heap.objs.size + 3 : Nat) := nne ld 3
          refine ⟨_, _, _, _, H1, rfl, I2, turn_zip4 S n1 n2 n3 n4 rfl l1 l2 l3, ⟨Nat.zero_le _, hz, hTI, ⟨_, _, _, _, hTO⟩, ⟨_, h1, rfl, rfl⟩, ⟨_, h2, rfl, rfl⟩, ⟨_, h3, rfl, rfl⟩, ⟨_, h4, rfl, rfl⟩⟩, fun c' hcm => ?_, q⟩
          have hle : s1.heap.objs.size ≤ c' := by
            have e' : c' = (s1.heap.objs.size + 6 : Nat) ∨ c' = (s1.heap.objs.size + 4 : Nat) ∨ c' = (s1.heap.objs.size + 5 : Nat) ∨ c' = s1.heap.objs.size ∨ c' = (s1.heap.objs.size + 1 : Nat) ∨ c' = (s1.heap.objs.size + 2 : Nat) ∨ c' = (s1.heap.objs.size + 3 : Nat) := by simpa using hcm
            rcases e' with z | z | z | z | z | z | z
            · exact nle 6 z
            · exact nle 4 z
            · exact nle 5 z
            · exact nle 0 z
            · exact nle 1 z
            · exact nle 2 z
            · exact nle 3 z
          exact I1.fpOk hle (I1.hok.fresh hle)
end
/-! by data -/
section
variable {X : Cx} {ρ ρ1 ρ2 ρ3 ρ4 ρ5 : List Sl} {a b c d e : Expr} {pos p tpos : Pos} {ds fs gs hs : List PyData} {sg : Bool} {elts : List Expr} {kk : Nat} {n : Nat}
theorem wk_n {K : PySem.W.Frag} {O F : Addr → Prop} {H1 : Hp} {C : Hp → Prop} {row : Nat → List V → Prop} {y : Nat → List PyData} (hC : ∀ F' H', Ker F H1 F' H' → C H')
    (hy : ∀ F' H' i xs, Ker F H1 F' H' → i < n → row i xs → RpAll K F' H' xs (y i)) : Wk K sg O F H1 (Itn n C row) n (fun i => .tuple (y i)) := fun F' H' k o i =>
  ⟨fun hi => ⟨⟨hi, hC F' H' k⟩, fun x H'' ⟨T, xs, ev, nT, eH, r⟩ => by
    subst ev eH
    have s : Same H' (upd H' T (.tup xs)) := same_new nT
    exact ⟨s, .tup (.inl upd_same) ((hy F' H' i xs k hi r).ker (Ker.same s))⟩⟩, fun hi => ⟨hi, hC F' H' k⟩⟩
theorem rp_at {K : PySem.W.Frag} {F : Addr → Prop} {H : Hp} {vs : List V} {i : Nat} {x : V} (r : RpAll K F H vs ds) (h : vs[i]? = some x) : Rp K F H x (at_ ds i) := by
  obtain ⟨d, h1, h2⟩ := r.get h
  rw [at_eq h1]
  exact h2
theorem di_enumT (h : DE X ρ a (Tu ds) ρ1) (hm : X.mg "enumerate" = none) (hg : Gl X "enumerate" := by rfl) (hst : starEach [a] X.env = [(false, eval a X.env)] := by rfl) :
    DI X sg ρ (.Tuple elts kk tpos) (.Call (.Name "enumerate" p) [a] [] pos) ds.length (fun i => .tuple [.int (i : Int), at_ ds i]) ρ1 := by
  obtain ⟨_, p1, r1⟩ := h
  refine ⟨_, pi_enumT hg hm (pa_cons p1 pa_nil hst) hst, fun F0 F M H0 σ H R S q => r1 F0 F M H0 σ H _ S fun v H1 S1 w1 o1 g1 => ?_⟩
  cases g1 with
  | @tup t xs _ h1 g1 =>
    refine ⟨_, xs, rfl, h1.sq, ?_⟩
    rw [g1.length]
    refine q _ H1 S1 w1 o1 (wk_n (y := fun i => [.int (i : Int), at_ ds i]) (fun F' H' k => (h1.ker k).sq) fun F' H' i l k hi ⟨x, hx, el⟩ => ?_)
    subst el
    exact .cons (.int _) (.cons (rp_at (g1.ker k) hx) .nil)
theorem di_zip2 (h1 : DE X ρ a (Tu ds) ρ1) (h2 : DE X ρ1 b (Tu fs) ρ2) (hl : fs.length = ds.length) (hm : X.mg "zip" = none) (hg : Gl X "zip" := by rfl) (hst : starEach [a, b] X.env = (false, eval a X.env) :: starEach [b] X.env := by rfl) (hst2 : starEach [b] X.env = (false, eval b X.env) :: starEach [] X.env := by rfl) (hpl : (backTo pos (starEach [b] X.env)).any (·.1) = false := by rfl) :
    DI X sg ρ (.Tuple elts kk tpos) (.Call (.Name "zip" p) [a, b] [] pos) ds.length (fun i => .tuple [at_ ds i, at_ fs i]) ρ2 := by
  obtain ⟨_, p1, r1⟩ := h1
  obtain ⟨_, p2, r2⟩ := h2
  refine ⟨_, pi_zip2 hg hm (pa_cons p1 (pa_cons p2 pa_nil hst2) hst) hst hpl, fun F0 F M H0 σ H R S q => r1 F0 F M H0 σ H _ S fun v H1 S1 w1 o1 g1 => r2 F0 F M H0 σ H1 _ S1 fun v2 H2 S2 w2 o2 g2 => ?_⟩
  have g1' : RD X.K F H2 v (Tu ds) := g1.ker (S1.ker o2)
  clear g1
  cases g1' with
  | @tup t xs _ h1 g1 =>
    cases g2 with
    | @tup t2 ys _ h2 g2 =>
      refine ⟨_, _, xs, ys, rfl, h1.sq, h2.sq, by rw [g1.length, g2.length]; exact hl, ?_⟩
      rw [g1.length]
      refine q _ H2 S2 (w1.trans w2) (off2 o1 w1 o2) (wk_n (y := fun i => [at_ ds i, at_ fs i]) (fun F' H' k => ⟨(h1.ker k).sq, (h2.ker k).sq⟩) fun F' H' i l k hi ⟨x, y, hx, hy, el⟩ => ?_)
      subst el
      exact .cons (rp_at (g1.ker k) hx) (.cons (rp_at (g2.ker k) hy) .nil)
theorem di_zip4 (h1 : DE X ρ a (Tu ds) ρ) (h2 : DE X ρ b (Tu fs) ρ) (h3 : DE X ρ c (Tu gs) ρ) (h4 : DE X ρ d (Tu hs) ρ) (hl : fs.length = ds.length) (hl3 : gs.length = ds.length) (hl4 : hs.length = ds.length) (hm : X.mg "zip" = none) (hg : Gl X "zip" := by rfl)
    (hst : starEach [a, b, c, d] X.env = (false, eval a X.env) :: starEach [b, c, d] X.env := by rfl) (hst2 : starEach [b, c, d] X.env = (false, eval b X.env) :: starEach [c, d] X.env := by rfl) (hst3 : starEach [c, d] X.env = (false, eval c X.env) :: starEach [d] X.env := by rfl) (hst4 : starEach [d] X.env = (false, eval d X.env) :: starEach [] X.env := by rfl)
    (hpl : (backTo pos (starEach [b, c, d] X.env)).any (·.1) = false := by rfl) :
    DI X sg ρ (.Tuple elts kk tpos) (.Call (.Name "zip" p) [a, b, c, d] [] pos) ds.length (fun i => .tuple [at_ ds i, at_ fs i, at_ gs i, at_ hs i]) ρ := by
  obtain ⟨_, p1, r1⟩ := h1
  obtain ⟨_, p2, r2⟩ := h2
  obtain ⟨_, p3, r3⟩ := h3
  obtain ⟨_, p4, r4⟩ := h4
  refine ⟨_, pi_zip4 hg hm (pa_cons p1 (pa_cons p2 (pa_cons p3 (pa_cons p4 pa_nil hst4) hst3) hst2) hst) hst hpl, fun F0 F M H0 σ H R S q => r1 F0 F M H0 σ H _ S fun v H1 S1 w1 o1 g1 => r2 F0 F M H0 σ H1 _ S1 fun v2 H2 S2 w2 o2 g2 => r3 F0 F M H0 σ H2 _ S2 fun v3 H3 S3 w3 o3 g3 => r4 F0 F M H0 σ H3 _ S3 fun v4 H4 S4 w4 o4 g4 => ?_⟩
  have k2 := S1.ker o2
  have k3 := S2.ker o3
  have k4 := S3.ker o4
  have g1' : RD X.K F H4 v (Tu ds) := g1.ker (k2.trans (k3.trans k4))
  have g2' : RD X.K F H4 v2 (Tu fs) := g2.ker (k3.trans k4)
  have g3' : RD X.K F H4 v3 (Tu gs) := g3.ker k4
  clear g1 g2 g3
  cases g1' with
  | @tup t xs _ h1 g1 =>
    cases g2' with
    | @tup t2 ys _ h2 g2 =>
      cases g3' with
      | @tup t3 zs _ h3 g3 =>
        cases g4 with
        | @tup t4 us _ h4 g4 =>
          refine ⟨_, _, _, _, xs, ys, zs, us, rfl, h1.sq, h2.sq, h3.sq, h4.sq, by rw [g1.length, g2.length]; exact hl, by rw [g1.length, g3.length]; exact hl3, by rw [g1.length, g4.length]; exact hl4, ?_⟩
          rw [g1.length]
          refine q _ H4 S4 (Shp.refl _) (((o1.trans o2).trans o3).trans o4) (wk_n (y := fun i => [at_ ds i, at_ fs i, at_ gs i, at_ hs i]) (fun F' H' k => ⟨(h1.ker k).sq, (h2.ker k).sq, (h3.ker k).sq, (h4.ker k).sq⟩) fun F' H' i l k hi ⟨x, y, z, u, hx, hy, hz, hu, el⟩ => ?_)
          subst el
          exact .cons (rp_at (g1.ker k) hx) (.cons (rp_at (g2.ker k) hy) (.cons (rp_at (g3.ker k) hz) (.cons (rp_at (g4.ker k) hu) .nil)))
end
end Bw
/-! Lay9: enumerate(zip(t, u)), enumerate(l), range of two and three. -/
namespace Bw
open PySem PySem.Spec PyProof.Rows L2
/-- pairs (i, (x, y)) -/
def Itq (n : Nat) (C : Hp → Prop) (xs ys : List V) : It :=
  ⟨fun i H => i < n ∧ C H, fun i H v H' => ∃ T1 T2 x y, v = .ref T2 ∧ H T1 = none ∧ (upd H T1 (.tup [x, y])) T2 = none ∧ H' = upd (upd H T1 (.tup [x, y])) T2 (.tup [.int (i : Nat), .ref T1]) ∧ xs[i]? = some x ∧ ys[i]? = some y, fun i H => n ≤ i ∧ C H⟩
theorem turn_enumZ {P : Program} {w : World} {K : PySem.W.Frag} {elts : List Expr} {kk : Nat} {tpos : Pos} {n : Nat} {e z TI TO i1 i2 a b : Addr} {xs ys : List V} (S : ZipSep2 z TI TO i1 i2 [i1, a] [i2, b]) (h1 : a ≠ i1) (h2 : b ≠ i2)
    (ez : e ≠ z) (eI : e ≠ TI) (eO : e ≠ TO) (e1 : e ≠ i1) (e2 : e ≠ i2) (ea : e ≠ a) (eb : e ≠ b) (l1 : xs.length = n) (l2 : ys.length = n) :
    Turn P w K (.Tuple elts kk tpos) (Itq n (fun H => SqT K H a xs ∧ SqT K H b ys) xs ys) [e, z, TI, TO, i1, i2] e
      (fun i h => i ≤ n ∧ (∃ old, IsEnum h e z ((i : Nat) : Int) old) ∧ (∃ f0 f, IsZq h z TI TO f0 f ∧ Fq f0) ∧ IsTupOf2 h TI (.ref i1) (.ref i2) ∧ (∃ a1 a2, IsTupOf2 h TO a1 a2) ∧ h.IsTupleIter i1 a i ∧ h.IsTupleIter i2 b i) where
  mem := by simp
  obj := fun i h st c hc => by
    obtain ⟨_, ⟨old, he⟩, ⟨f0, f, hz, _⟩, hTI, ⟨x, y, hTO⟩, e1, e2⟩ := st
    have e' : c = e ∨ c = z ∨ c = TI ∨ c = TO ∨ c = i1 ∨ c = i2 := by simpa using hc
    rcases e' with q | q | q | q | q | q
    · rw [q]; exact ⟨_, he, fun v q => nomatch q⟩
    · rw [q]; exact ⟨_, hz, fun v q => nomatch q⟩
    · rw [q]; exact tup_obj hTI
    · rw [q]; exact tup_obj hTO
    · rw [q]; exact iter_obj e1
    · rw [q]; exact iter_obj e2
  keep := fun i h h' st k => by
    obtain ⟨hi, ⟨old, he⟩, ⟨f0, f, hz, hf⟩, hTI, ⟨x, y, hTO⟩, e1, e2⟩ := st
    exact ⟨hi, ⟨old, k e (by simp) _ he⟩, ⟨f0, f, k z (by simp) _ hz, hf⟩, k TI (by simp) _ hTI, ⟨x, y, k TO (by simp) _ hTO⟩, e1.at fun o q => k i1 (by simp) o q, e2.at fun o q => k i2 (by simp) o q⟩
  self := fun A i s Q E st h => let ⟨_, ⟨_, he⟩, _⟩ := st; wpAny_pyIter_enum he h
  item := by
    intro X hP hw hK hc i pins s σ H E I hf st hg
    obtain ⟨hi, hC1, hC2⟩ := hg
    subst hP hw hK
    obtain ⟨_, ⟨old, he⟩, ⟨f0, f, hz, hff⟩, hTI, ⟨x0, y0, hTO⟩, t1, t2⟩ := st
    obtain ⟨its, rv, p, _⟩ := I.tuple hC1
    obtain ⟨its2, rv2, p2, _⟩ := I.tuple hC2
    have hd : X.A.in1.in1.handled = none := I.ok.hd hc
    have g1 : its.toArray.size = n := by have := rv.length; simp only [List.size_toArray]; omega
    have g2 : its2.toArray.size = n := by have := rv2.length; simp only [List.size_toArray]; omega
    have D1 := Draws.tuple (prog := X.prog) (w := X.w) hd i1 a h1 its.toArray
    have D2 := Draws.tuple (prog := X.prog) (w := X.w) hd i2 b h2 its2.toArray
    rw [g1] at D1
    rw [g2] at D2
    have hT : s.TypeIs (.ref e) "enumerate" := ⟨_, he, rfl⟩
    have hTz : s.TypeIs (.ref z) "zip" := ⟨_, hz, rfl⟩
    unfold pyNext
    refine wpAny_bind (wpAny_attempt (wpAny_callSpecial?_slot (name := Str.ofString "__next__") hT F.slot_enumerate_next
      (wpAny_call_entry F.slot_enumerate_next hT F.entry_enumerate_next (en_next he ?_) (F.args_enumerate_next_1 _))))
    unfold Builtin.SmallTypes.nextOf
    refine wpAny_bind (wpAny_callSpecial?_slot (name := Str.ofString "__next__") hTz F.slot_zip_next (wpAny_call_entry F.slot_zip_next hTz F.entry_zip_next
      (zq_next_item S D1 D2 hz hff hTI hTO ⟨t1, p⟩ ⟨t2, p2⟩ hi fun x1 x2 h3 tk f1 fb y1 y2 z3 ff3 O3 st1 st2 pr3 sz3 hk3 => ?_) (F.args_zip_next_1 _)))
    refine wpAny_pure ⟨?_, fun h4 he4 tp4 sz4 hk4 => wpAny_pure ⟨_, rfl, ?_⟩⟩
    · exact hk3 _ _ ez eO e1 e2 he
    refine wpAny_letOwnedTupleGo_enum he4 fun h5 he5 hs5 => ?_
    obtain ⟨u, q1, r1⟩ := vals_get rv (by simpa using y1)
    obtain ⟨v, q2, r2⟩ := vals_get rv2 (by simpa using y2)
    have hel : e < s.heap.objs.size := Heap.lt_size he
    have new1 : ObjOk X.prog X.w (upd H s.heap.objs.size (.tup [u, v])) h3 s.heap.objs.size (.tup [u, v]) := ⟨by show 2 ≤ sizeLine; decide, [x1, x2], .cons r1 (.cons r2 .nil), ⟨_, pr3, rfl, _, rfl⟩⟩
    have I1 : Inv X pins σ (upd H s.heap.objs.size (.tup [u, v])) { s with heap := h3, toks := tk } :=
      I.turnedNew (ch := [e, z, TI, TO, i1, i2]) (fun c ob hb q => hk3 c ob (fun y => hb (by simp [y])) (fun y => hb (by simp [y])) (fun y => hb (by simp [y])) (fun y => hb (by simp [y])) q) hf (Nat.le_refl _) new1
    have cell : ∀ c, c ∈ [e, z, TI, TO, i1, i2] → c < s.heap.objs.size := fun c hc' => by
      have e' : c = e ∨ c = z ∨ c = TI ∨ c = TO ∨ c = i1 ∨ c = i2 := by simpa using hc'
      rcases e' with q | q | q | q | q | q
      · rw [q]; exact hel
      · rw [q]; exact Heap.lt_size hz
      · rw [q]; exact Heap.lt_size hTI
      · rw [q]; exact Heap.lt_size hTO
      · rw [q]; obtain ⟨_, y, _⟩ := t1; exact Heap.lt_size y
      · rw [q]; obtain ⟨_, y, _⟩ := t2; exact Heap.lt_size y
    have hf1 : ∀ c ∈ [e, z, TI, TO, i1, i2], FpOk X pins (upd H s.heap.objs.size (.tup [u, v])) c := fun c hc' => by
      obtain ⟨a0, a1⟩ := hf c hc'
      exact ⟨by rw [upd_ne (Nat.ne_of_lt (cell c hc'))]; exact a0, a1⟩
    have hne3 : (h3.objs.size : Addr) ≠ e := by
      rw [sz3]
      exact fun q => absurd hel (by rw [← q]; exact Nat.not_lt.mpr (Nat.le_succ _))
    have tp5 : h5.get? h3.objs.size = some { cls := .type "tuple", data := .seq #[.int ((i : Nat) : Int) tk, .ref s.heap.objs.size] } := (hs5.2 _ hne3).trans tp4
    have new2 : ObjOk X.prog X.w (upd (upd H s.heap.objs.size (.tup [u, v])) h3.objs.size (.tup [.int (i : Nat), .ref s.heap.objs.size])) h5 h3.objs.size (.tup [.int (i : Nat), .ref s.heap.objs.size]) :=
      ⟨by show 2 ≤ sizeLine; decide, [.int ((i : Nat) : Int) tk, .ref s.heap.objs.size], .cons ⟨_, rfl⟩ (.cons rfl .nil), ⟨_, tp5, rfl, _, rfl⟩⟩
    have nT : upd H s.heap.objs.size (.tup [u, v]) h3.objs.size = none := I1.hok.fresh (Nat.le_refl _)
    have up5 : ∀ c o, c ≠ e → h3.get? c = some o → h5.get? c = some o := fun c o hb q => (hs5.2 c hb).trans (hk4 c o hb q)
    have I2 : Inv X pins σ (upd (upd H s.heap.objs.size (.tup [u, v])) h3.objs.size (.tup [.int (i : Nat), .ref s.heap.objs.size])) { s with heap := h5, toks := tk + 1 } :=
      I1.turnedNew (t' := tk + 1) (ch := [e, z, TI, TO, i1, i2]) (fun c ob hb q => up5 c ob (fun y => hb (by simp [y])) q) hf1 (Nat.le_refl _) new2
    have c1 : ((i + 1 : Nat) : Int) = (i : Int) + 1 := by omega
    refine ⟨.ref h3.objs.size, _, I2, rfl, ⟨_, _, u, v, rfl, I.hok.fresh (Nat.le_refl _), nT, rfl, q1, q2⟩, ⟨hi, ⟨_, by rw [c1]; exact he5⟩, ⟨f1, fb, up5 _ _ ez.symm z3, ff3⟩, up5 _ _ eI.symm (hk3 _ _ S.TIz S.TITO S.TIi1 S.TIi2 hTI), ?_, st1.1.at fun o q => up5 _ _ e1.symm q, st2.1.at fun o q => up5 _ _ e2.symm q⟩, fun c hc' => ?_⟩
    · obtain ⟨b1, b2, q⟩ := O3
      exact ⟨b1, b2, up5 _ _ eO.symm q⟩
    · have l := cell c hc'
      rw [upd_ne (Nat.ne_of_lt (Nat.lt_of_lt_of_le l (by rw [sz3]; exact Nat.le_succ _))), upd_ne (Nat.ne_of_lt l)]
      exact (hf c hc').1
  done := by
    intro X hP hw hK hc i pins s σ H E I hf st hg
    obtain ⟨hi, hC1, hC2⟩ := hg
    subst hP hw hK
    obtain ⟨hle, ⟨old, he⟩, ⟨f0, f, hz, hff⟩, hTI, ⟨x0, y0, hTO⟩, t1, t2⟩ := st
    have ei : i = n := Nat.le_antisymm hle hi
    subst ei
    obtain ⟨its, rv, p, _⟩ := I.tuple hC1
    have hd : X.A.in1.in1.handled = none := I.ok.hd hc
    have g1 : its.toArray.size = i := by have := rv.length; simp only [List.size_toArray]; omega
    have D1 := Draws.tuple (prog := X.prog) (w := X.w) hd i1 a h1 its.toArray
    rw [g1] at D1
    have hT : s.TypeIs (.ref e) "enumerate" := ⟨_, he, rfl⟩
    have hTz : s.TypeIs (.ref z) "zip" := ⟨_, hz, rfl⟩
    unfold pyNext
    refine wpAny_bind (wpAny_attempt (wpAny_callSpecial?_slot (name := Str.ofString "__next__") hT F.slot_enumerate_next
      (wpAny_call_entry F.slot_enumerate_next hT F.entry_enumerate_next ?_ (F.args_enumerate_next_1 _))))
    show wpAny _ _ (field (.ref e) 2 >>= _) _ _ _
    refine wpAny_bind (wpAny_field he rfl (x := .ref z) rfl ?_)
    refine wpAny_bind ?_
    unfold Builtin.SmallTypes.nextOf
    refine wpAny_bind (wpAny_callSpecial?_slot (name := Str.ofString "__next__") hTz F.slot_zip_next (wpAny_call_entry F.slot_zip_next hTz F.entry_zip_next
      (zq_next_end S D1 hz hff hTI hTO ⟨t1, p⟩ fun h' tk x hk hx => ?_) (F.args_zip_next_1 _)))
    obtain ⟨o, ho, hcl⟩ := hx
    refine wpAny_bind (wpAny_isInstance (T := "StopIteration") (b := true) ⟨o, ho, hcl⟩ isSubtype_stop ?_)
    exact wpAny_pure ⟨rfl, I.turnedL (ch := [e, z, TI, TO, i1, i2]) (fun c o hb q => hk c o (fun y => hb (by simp [y])) (fun y => hb (by simp [y])) (fun y => hb (by simp [y])) (fun y => hb (by simp [y])) q) hf⟩
section
variable {X : Cx} {e e1 e2 e3 e4 : Expr} {ta : TA} {p p2 pos pos2 tpos : Pos} {elts : List Expr} {kk : Nat}
def iEnumZ (K : PySem.W.Frag) (ta : TA) : TI := fun σ H R => ta σ H fun vs H1 => ∃ a b xs ys, vs = [.ref a, .ref b] ∧ SqT K H1 a xs ∧ SqT K H1 b ys ∧ ys.length = xs.length ∧ R (Itq xs.length (fun H => SqT K H a xs ∧ SqT K H b ys) xs ys) H1
theorem pi_enumZ (hg : Gl X "zip") (hm : X.mg "zip" = none) (hge : Gl X "enumerate") (hme : X.mg "enumerate" = none) (ha : PA X [e1, e2] ta) (hs : starEach [e1, e2] X.env = (false, eval e1 X.env) :: starEach [e2] X.env := by rfl) (hpl : (backTo pos2 (starEach [e2] X.env)).any (·.1) = false := by rfl)
    (hse : starEach [.Call (.Name "zip" p2) [e1, e2] [] pos2] X.env = [(false, eval (.Call (.Name "zip" p2) [e1, e2] [] pos2) X.env)] := by rfl) :
    PI X (.Tuple elts kk tpos) (.Call (.Name "enumerate" p) [.Call (.Name "zip" p2) [e1, e2] [] pos2] [] pos) (iEnumZ X.K ta) := by
  refine ⟨fun pins s σ H R I h => ?_⟩
  refine Call_ (ld_blt I hge hme boot_enumerate (PyProof.Rows.callWith_type1 ?_ hse rfl))
  rw [hse]
  show wpAny _ _ (spliced [(false, eval (.Call (.Name "zip" p2) [e1, e2] [] pos2) X.env)]) _ _ s
  refine Calls.spliced_cons ?_
  refine Call_ (ld_blt I hg hm PyProof.Rows.boot_zip (PyProof.Rows.callWith_type1 (thn (ha.run pos2 pins s σ H _ I h) fun us s1 ⟨vs, H1, I1, r1, q1⟩ => ?_) hs hpl))
  obtain ⟨a, b, xs, ys, ex, hqx, hqy, hl, q⟩ := q1
  subst ex
  cases r1 with
  | cons r rr =>
    cases rr with
    | cons r' rr =>
      cases rr
      cases r
      cases r'
      obtain ⟨its, rv, p1, _⟩ := I1.tuple hqx
      obtain ⟨its2, rv2, p2, _⟩ := I1.tuple hqy
      have la : a < s1.heap.objs.size := by obtain ⟨o, ho, _⟩ := p1; exact Heap.lt_size ho
      have lb : b < s1.heap.objs.size := by obtain ⟨o, ho, _⟩ := p2; exact Heap.lt_size ho
      refine zip_begins2 (begins_tuple a its.toArray) (begins_tuple b its2.toArray) p1 p2 fun h' hz hTI hTO h1 h2 hsz hk => Calls.spliced_nil ?_
      refine enum_beginsI (H := fun h => ∃ f0, IsZip h (s1.heap.objs.size + 4) (s1.heap.objs.size + 2) (s1.heap.objs.size + 3) f0) (fun prog w A E s Q ⟨f0, hz⟩ hQ => wpAny_pyIter_zip hz hQ) ⟨_, hz⟩ fun h'' he hsz2 hk2 => wpAny_pyIter_enum he ?_
      have I2 : Inv X pins σ H1 { s1 with heap := h'' } := I1.kept (t' := s1.toks) fun b o e => hk2 b o (hk b o e)
      have S := zip_sep2 (N := s1.heap.objs.size) (fp1 := [a]) (fp2 := [b]) (by simpa using la) (by simpa using lb)
      have n1 : a ≠ s1.heap.objs.size := nne la 0
      have n2 : b ≠ (s1.heap.objs.size + 1 : Nat) := nne lb 1
      have en : h'.objs.size = s1.heap.objs.size + 5 := hsz
      have nk : ∀ k : Nat, k < 5 → h'.objs.size ≠ s1.heap.objs.size + k := fun k hk e => by omega
      have nl : ∀ c : Nat, c < s1.heap.objs.size → h'.objs.size ≠ c := fun c hc e => by omega
      have k2 : ∀ {c o}, h'.get? c = some o → h''.get? c = some o := fun {c o} y => hk2 c o y
      refine ⟨_, _, _, _, H1, rfl, I2, turn_enumZ S n1 n2 (nk 4 (by decide)) (nk 2 (by decide)) (nk 3 (by decide)) (nk 0 (by decide)) (nk 1 (by decide)) (nl a la) (nl b lb) rfl hl, ⟨Nat.zero_le _, ⟨.none, he⟩, ⟨_, _, k2 hz, .inl rfl⟩, k2 hTI, ⟨_, _, k2 hTO⟩, ⟨_, k2 h1, rfl, rfl⟩, ⟨_, k2 h2, rfl, rfl⟩⟩, fun c hcm => ?_, q⟩
      have hle : s1.heap.objs.size ≤ c := by
        have e' : c = h'.objs.size ∨ c = (s1.heap.objs.size + 4 : Nat) ∨ c = (s1.heap.objs.size + 2 : Nat) ∨ c = (s1.heap.objs.size + 3 : Nat) ∨ c = s1.heap.objs.size ∨ c = (s1.heap.objs.size + 1 : Nat) := by simpa using hcm
        rcases e' with z | z | z | z | z | z
        · exact nle 5 (z.trans en)
        · exact nle 4 z
        · exact nle 2 z
        · exact nle 3 z
        · exact nle 0 z
        · exact nle 1 z
      exact I1.fpOk hle (I1.hok.fresh hle)
end
section
variable {X : Cx} {ρ ρ1 ρ2 ρ3 ρ4 ρ5 : List Sl} {a b c d e : Expr} {pos p p2 pos2 tpos : Pos} {ds fs gs hs : List PyData} {sg : Bool} {elts : List Expr} {kk : Nat} {n : Nat} {tg : Expr}
theorem di_enumZ (h1 : DE X ρ a (Tu ds) ρ) (h2 : DE X ρ b (Tu fs) ρ) (hl : fs.length = ds.length) (hm : X.mg "zip" = none) (hme : X.mg "enumerate" = none) (hg : Gl X "zip" := by rfl) (hge : Gl X "enumerate" := by rfl) (hst : starEach [a, b] X.env = (false, eval a X.env) :: starEach [b] X.env := by rfl) (hst2 : starEach [b] X.env = (false, eval b X.env) :: starEach [] X.env := by rfl)
    (hpl : (backTo pos2 (starEach [b] X.env)).any (·.1) = false := by rfl) (hse : starEach [.Call (.Name "zip" p2) [a, b] [] pos2] X.env = [(false, eval (.Call (.Name "zip" p2) [a, b] [] pos2) X.env)] := by rfl) :
    DI X sg ρ (.Tuple elts kk tpos) (.Call (.Name "enumerate" p) [.Call (.Name "zip" p2) [a, b] [] pos2] [] pos) ds.length (fun i => .tuple [.int (i : Int), .tuple [at_ ds i, at_ fs i]]) ρ := by
  obtain ⟨_, p1, r1⟩ := h1
  obtain ⟨_, p2, r2⟩ := h2
  refine ⟨_, pi_enumZ hg hm hge hme (pa_cons p1 (pa_cons p2 pa_nil hst2) hst) hst hpl hse, fun F0 F M H0 σ H R S q => r1 F0 F M H0 σ H _ S fun v H1 S1 w1 o1 g1 => r2 F0 F M H0 σ H1 _ S1 fun v2 H2 S2 w2 o2 g2 => ?_⟩
  have g1' : RD X.K F H2 v (Tu ds) := g1.ker (S1.ker o2)
  clear g1
  cases g1' with
  | @tup t xs _ h1 g1 =>
    cases g2 with
    | @tup t2 ys _ h2 g2 =>
      refine ⟨_, _, xs, ys, rfl, h1.sq, h2.sq, by rw [g1.length, g2.length]; exact hl, ?_⟩
      rw [g1.length]
      refine q _ H2 S2 (Shp.refl _) (o1.trans o2) fun F' H' k o i => ⟨fun hi => ⟨⟨hi, (h1.ker k).sq, (h2.ker k).sq⟩, fun x H'' ⟨T1, T2, u, v, ev, n1, n2, eH, q1, q2⟩ => ?_⟩, fun hi => ⟨hi, (h1.ker k).sq, (h2.ker k).sq⟩⟩
      subst ev eH
      have s1 : Same H' (upd H' T1 (.tup [u, v])) := same_new n1
      have s2 : Same (upd H' T1 (.tup [u, v])) (upd (upd H' T1 (.tup [u, v])) T2 (.tup [.int (i : Nat), .ref T1])) := same_new n2
      refine ⟨s1.trans s2, .tup (.inl upd_same) (.cons (.int _) (.cons (.tup (.inl (s2 T1 _ upd_same)) ?_) .nil))⟩
      have kk := k.trans ((Ker.same s1).trans (Ker.same s2))
      exact .cons (rp_at (g1.ker kk) q1) (.cons (rp_at (g2.ker kk) q2) .nil)
/-- enumerate of a new list -/
theorem di_enumL (h : DE X ρ a (Li ds) ρ1) (hm : X.mg "enumerate" = none) (hg : Gl X "enumerate" := by rfl) (hst : starEach [a] X.env = [(false, eval a X.env)] := by rfl) :
    DI X sg ρ (.Tuple elts kk tpos) (.Call (.Name "enumerate" p) [a] [] pos) ds.length (fun i => .tuple [.int (i : Int), at_ ds i]) ρ1 := by
  obtain ⟨_, p1, r1⟩ := h
  refine ⟨_, pi_enum hg hm (pa_cons p1 pa_nil hst) hst, fun F0 F M H0 σ H R S q => r1 F0 F M H0 σ H _ S fun v H1 S1 w1 o1 g1 => ?_⟩
  cases g1 with
  | @lst t xs _ h1 nF g1 =>
    refine ⟨_, xs, rfl, SqL.of h1, ?_⟩
    refine q _ H1 S1 w1 o1 fun F' H' k o i => ?_
    have h' : H' t = some (.lst xs) := by
      cases sg with
      | true => exact (k.l t xs nF h1).1
      | false => exact o rfl t _ h1 (fun z => nF (S.owF z))
    have g' := g1.ker k
    refine ⟨fun hi => ?_, fun hi => ⟨xs, SqL.of h', by rw [g1.length]; exact hi⟩⟩
    obtain ⟨x, q1, q2⟩ := g'.get' (List.getElem?_eq_getElem hi)
    refine ⟨⟨xs, x, SqL.of h', q1⟩, fun v H'' ⟨T, y, ev, nT, eH, hy⟩ => ?_⟩
    subst ev eH
    have hx := hy xs (SqL.of h')
    have s : Same H' (upd H' T (.tup [.int (i : Nat), y])) := same_new nT
    exact ⟨s, .tup (.inl upd_same) (.cons (.int _) (.cons (rp_at (g'.ker (Ker.same s)) hx) .nil))⟩
theorem di_range3 {i j k : Int} (h1 : DE X ρ a (I i) ρ1) (h2 : DE X ρ1 b (I j) ρ2) (h3 : DE X ρ2 c (I k) ρ3) (hr : RgC i j k n) (hm : X.mg "range" = none) (hg : Gl X "range" := by rfl) (hst : starEach [a, b, c] X.env = (false, eval a X.env) :: starEach [b, c] X.env := by rfl) (hst2 : starEach [b, c] X.env = (false, eval b X.env) :: starEach [c] X.env := by rfl)
    (hst3 : starEach [c] X.env = (false, eval c X.env) :: starEach [] X.env := by rfl) (hpl : (backTo pos (starEach [b, c] X.env)).any (·.1) = false := by rfl) :
    DI X sg ρ tg (.Call (.Name "range" p) [a, b, c] [] pos) n (fun m => .int (i + (m : Int) * k)) ρ3 := by
  obtain ⟨_, p1, r1⟩ := h1
  obtain ⟨_, p2, r2⟩ := h2
  obtain ⟨_, p3, r3⟩ := h3
  refine ⟨_, pi_range3 hg hm (pa_cons p1 (pa_cons p2 (pa_cons p3 pa_nil hst3) hst2) hst) hst hpl, fun F0 F M H0 σ H R S q => r1 F0 F M H0 σ H _ S fun v H1 S1 w1 o1 g1 => r2 F0 F M H0 σ H1 _ S1 fun v2 H2 S2 w2 o2 g2 => r3 F0 F M H0 σ H2 _ S2 fun v3 H3 S3 w3 o3 g3 => ?_⟩
  cases g1
  cases g2
  cases g3
  exact ⟨i, j, k, n, rfl, hr, q _ H3 S3 (w1.trans (w2.trans w3)) (off2 o1 w1 (off2 o2 w2 o3)) fun F' H' kk o m => ⟨fun hi => ⟨hi, fun x H'' ⟨e1, e2⟩ => by
    subst e1 e2
    exact ⟨Same.refl _, .int _⟩⟩, fun hi => hi⟩⟩
end
end Bw
/-! Top: the text by places; the built-in names that the module does not bind. -/
namespace Bw
open PySem PySem.Spec PyProof.Rows L2
def top (i : Nat) : Stmt := PySem.Challenge.pw_bothwire_k95_whole_errors_mended.main.body.getD i (.Pass ⟨0, 0, 0, 0⟩)
abbrev s_is_whole : Stmt := top 8
abbrev s_lowest : Stmt := top 9
abbrev s_is_eighth : Stmt := top 10
abbrev s_turned : Stmt := top 11
abbrev s_State_init : Stmt := inClass (top 16) 0
abbrev s_State_many : Stmt := inClass (top 16) 1
abbrev s_State_eighths : Stmt := inClass (top 16) 2
abbrev s_is_bit_row : Stmt := top 18
abbrev s_is_sign_row : Stmt := top 19
abbrev s_need_alike : Stmt := top 20
abbrev s_turns_at : Stmt := top 21
abbrev s_done : Stmt := top 22
abbrev s_goes_with : Stmt := top 23
abbrev s_product : Stmt := top 24
abbrev s_both : Stmt := top 26
abbrev s_bits_of : Stmt := top 27
abbrev s_go_together : Stmt := top 28
abbrev s_cleared : Stmt := top 29
abbrev s_reduced : Stmt := top 30
abbrev s_bit_rows : Stmt := top 32
abbrev s_size_of : Stmt := top 33
abbrev s_all_errors : Stmt := top 34
abbrev s_Code_init : Stmt := inClass (top 35) 0
abbrev s_Code_many : Stmt := inClass (top 35) 1
abbrev s_Code_rows : Stmt := inClass (top 35) 2
abbrev s_Code_need_error : Stmt := inClass (top 35) 3
abbrev s_Code_signs : Stmt := inClass (top 35) 4
abbrev s_Code_same : Stmt := inClass (top 35) 5
abbrev s_Code_far : Stmt := inClass (top 35) 6
abbrev s_errors : Stmt := top 37
abbrev s_mends : Stmt := top 38
abbrev s_signs_of : Stmt := top 39
abbrev s_mended : Stmt := top 40
abbrev s_l_draw : Stmt := top 42
abbrev s_l_state : Stmt := top 43
abbrev s_l_turned : Stmt := top 44
abbrev s_l_sum : Stmt := top 45
abbrev s_l_done : Stmt := top 46
abbrev s_l_put : Stmt := top 47
abbrev s_l_behind : Stmt := top 48
abbrev s_l_both : Stmt := top 49
abbrev s_l_group : Stmt := top 50
abbrev s_l_unlike : Stmt := top 51
abbrev s_l_table : Stmt := top 53
abbrev s_l_mixed : Stmt := top 54
abbrev s_l_code : Stmt := top 56
abbrev s_l_bits : Stmt := top 57
abbrev s_l_size : Stmt := top 58
abbrev s_l_all_errors : Stmt := top 59
abbrev s_l_product_bits : Stmt := top 60
abbrev s_l_signs : Stmt := top 61
abbrev s_l_code_numbers : Stmt := top 62
abbrev s_l_pairs : Stmt := top 63
abbrev s_l_back : Stmt := top 64
abbrev s_l_all_back : Stmt := top 65
abbrev s_l_right : Stmt := top 66
abbrev s_law : Stmt := top 67
structure Bl (mg : Str → Option Value) : Prop where
  b_abs : mg "abs" = none
  b_all : mg "all" = none
  b_bool : mg "bool" = none
  b_dict : mg "dict" = none
  b_enumerate : mg "enumerate" = none
  b_int : mg "int" = none
  b_isinstance : mg "isinstance" = none
  b_len : mg "len" = none
  b_list : mg "list" = none
  b_max : mg "max" = none
  b_min : mg "min" = none
  b_range : mg "range" = none
  b_sorted : mg "sorted" = none
  b_sum : mg "sum" = none
  b_tuple : mg "tuple" = none
  b_zip : mg "zip" = none
theorem bt_int : bootBuiltins "int" = some (.type "int") := by decide +kernel
theorem bt_bool : bootBuiltins "bool" = some (.type "bool") := by decide +kernel
theorem bt_list : bootBuiltins "list" = some (.type "list") := by decide +kernel
theorem bt_tuple : bootBuiltins "tuple" = some (.type "tuple") := by decide +kernel
theorem kit_ii {i : Int} : kitB (tyD (.int i)) "int" = some true := by show kitB "int" "int" = some true; decide +kernel
theorem kit_ib {i : Int} : kitB (tyD (.int i)) "bool" = some false := by show kitB "int" "bool" = some false; decide +kernel
theorem kit_ll {ds : List PyData} : kitB (tyD (.list ds)) "list" = some true := by show kitB "list" "list" = some true; decide +kernel
theorem kit_tt {ds : List PyData} : kitB (tyD (.tuple ds)) "tuple" = some true := by show kitB "tuple" "tuple" = some true; decide +kernel
abbrev FnP (K : PySem.W.Frag) (x q : Str) (st : Stmt) (f : Addr) (fd : FuncData) : Prop := FunD K x q (defArgs st) (defBody st) (defScope st) [] [] f fd
end Bw
/-! Hd1: the top's run, what is told of it. -/
namespace Bw
open PySem PySem.Spec PyProof.Rows L2
abbrev mkD (c : Str × Option Str) (n q : Str) (s : Stmt) : He.DefD := ⟨c, n, q, defArgs s, defBody s, defScope s, [], []⟩
def fn : List He.DefD := [
  mkD ("is_whole", none) "is_whole" "is_whole" s_is_whole,
  mkD ("lowest", none) "lowest" "lowest" s_lowest,
  mkD ("is_eighth", none) "is_eighth" "is_eighth" s_is_eighth,
  mkD ("turned", none) "turned" "turned" s_turned,
  mkD ("State", some "__init__") "__init__" "State.__init__" s_State_init,
  mkD ("State", some "many") "many" "State.many" s_State_many,
  mkD ("State", some "eighths") "eighths" "State.eighths" s_State_eighths,
  mkD ("is_bit_row", none) "is_bit_row" "is_bit_row" s_is_bit_row,
  mkD ("is_sign_row", none) "is_sign_row" "is_sign_row" s_is_sign_row,
  mkD ("need_alike", none) "need_alike" "need_alike" s_need_alike,
  mkD ("turns_at", none) "turns_at" "turns_at" s_turns_at,
  mkD ("done", none) "done" "done" s_done,
  mkD ("goes_with", none) "goes_with" "goes_with" s_goes_with,
  mkD ("product", none) "product" "product" s_product,
  mkD ("both", none) "both" "both" s_both,
  mkD ("bits_of", none) "bits_of" "bits_of" s_bits_of,
  mkD ("go_together", none) "go_together" "go_together" s_go_together,
  mkD ("cleared", none) "cleared" "cleared" s_cleared,
  mkD ("reduced", none) "reduced" "reduced" s_reduced,
  mkD ("bit_rows", none) "bit_rows" "bit_rows" s_bit_rows,
  mkD ("size_of", none) "size_of" "size_of" s_size_of,
  mkD ("all_errors", none) "all_errors" "all_errors" s_all_errors,
  mkD ("Code", some "__init__") "__init__" "Code.__init__" s_Code_init,
  mkD ("Code", some "many") "many" "Code.many" s_Code_many,
  mkD ("Code", some "rows") "rows" "Code.rows" s_Code_rows,
  mkD ("Code", some "need_error") "need_error" "Code.need_error" s_Code_need_error,
  mkD ("Code", some "signs") "signs" "Code.signs" s_Code_signs,
  mkD ("Code", some "same") "same" "Code.same" s_Code_same,
  mkD ("Code", some "far") "far" "Code.far" s_Code_far,
  mkD ("errors", none) "errors" "errors" s_errors,
  mkD ("mends", none) "mends" "mends" s_mends,
  mkD ("signs_of", none) "signs_of" "signs_of" s_signs_of,
  mkD ("mended", none) "mended" "mended" s_mended,
  mkD ("_law_draw", none) "_law_draw" "_law_draw" s_l_draw,
  mkD ("_law_state", none) "_law_state" "_law_state" s_l_state,
  mkD ("_law_turned", none) "_law_turned" "_law_turned" s_l_turned,
  mkD ("_law_sum", none) "_law_sum" "_law_sum" s_l_sum,
  mkD ("_law_done", none) "_law_done" "_law_done" s_l_done,
  mkD ("_law_put", none) "_law_put" "_law_put" s_l_put,
  mkD ("_law_behind", none) "_law_behind" "_law_behind" s_l_behind,
  mkD ("_law_both", none) "_law_both" "_law_both" s_l_both,
  mkD ("_law_group", none) "_law_group" "_law_group" s_l_group,
  mkD ("_law_unlike", none) "_law_unlike" "_law_unlike" s_l_unlike,
  mkD ("_law_table", none) "_law_table" "_law_table" s_l_table,
  mkD ("_law_mixed", none) "_law_mixed" "_law_mixed" s_l_mixed,
  mkD ("_law_code", none) "_law_code" "_law_code" s_l_code,
  mkD ("_law_bits", none) "_law_bits" "_law_bits" s_l_bits,
  mkD ("_law_size", none) "_law_size" "_law_size" s_l_size,
  mkD ("_law_all_errors", none) "_law_all_errors" "_law_all_errors" s_l_all_errors,
  mkD ("_law_product_bits", none) "_law_product_bits" "_law_product_bits" s_l_product_bits,
  mkD ("_law_signs", none) "_law_signs" "_law_signs" s_l_signs,
  mkD ("_law_code_numbers", none) "_law_code_numbers" "_law_code_numbers" s_l_code_numbers,
  mkD ("_law_pairs", none) "_law_pairs" "_law_pairs" s_l_pairs,
  mkD ("_law_back", none) "_law_back" "_law_back" s_l_back,
  mkD ("_law_all_back", none) "_law_all_back" "_law_all_back" s_l_all_back,
  mkD ("_law_right", none) "_law_right" "_law_right" s_l_right,
  mkD ("law", none) "law" "law" s_law]
def fa : List He.Fa := [
  .glo "is_whole",
  .glo "lowest",
  .glo "is_eighth",
  .glo "turned",
  .glo "is_bit_row",
  .glo "is_sign_row",
  .glo "need_alike",
  .glo "turns_at",
  .glo "done",
  .glo "goes_with",
  .glo "product",
  .glo "both",
  .glo "bits_of",
  .glo "go_together",
  .glo "cleared",
  .glo "reduced",
  .glo "bit_rows",
  .glo "size_of",
  .glo "all_errors",
  .glo "errors",
  .glo "mends",
  .glo "signs_of",
  .glo "mended",
  .glo "_law_draw",
  .glo "_law_state",
  .glo "_law_turned",
  .glo "_law_sum",
  .glo "_law_done",
  .glo "_law_put",
  .glo "_law_behind",
  .glo "_law_both",
  .glo "_law_group",
  .glo "_law_unlike",
  .glo "_law_table",
  .glo "_law_mixed",
  .glo "_law_code",
  .glo "_law_bits",
  .glo "_law_size",
  .glo "_law_all_errors",
  .glo "_law_product_bits",
  .glo "_law_signs",
  .glo "_law_code_numbers",
  .glo "_law_pairs",
  .glo "_law_back",
  .glo "_law_all_back",
  .glo "_law_right",
  .glo "law",
  .glo "State",
  .glo "Code",
  .glo "SIZES",
  .glo "NOUGHT",
  .int "MOST_WIRES" 5,
  .cls "State",
  .mkr "State",
  .noat "State" "kept",
  .cls "Code",
  .mkr "Code",
  .noat "Code" "kept",
  .meth "State" "many",
  .meth "State" "eighths",
  .meth "Code" "many",
  .meth "Code" "rows",
  .meth "Code" "need_error",
  .meth "Code" "signs",
  .meth "Code" "same",
  .meth "Code" "far",
  .free "abs",
  .free "all",
  .free "bool",
  .free "dict",
  .free "enumerate",
  .free "int",
  .free "isinstance",
  .free "len",
  .free "list",
  .free "max",
  .free "min",
  .free "range",
  .free "sorted",
  .free "sum",
  .free "tuple",
  .free "zip"]
/-- only all_errors' code has its table; it is there -/
def tbOne (K : PySem.W.Frag) : Bool := K.all fun q => match q.2.data with
  | .fields vs => (match vs.toList[1]?, vs.toList[11]? with
    | some (Value.str s _), some (Value.ref P) => !(s == ("all_errors" : Str)) || decide (P = (He.cT K ("all_errors", none)).2)
    | _, _ => true)
  | _ => true
def tbAt (K : PySem.W.Frag) : Bool := match K.lookup (He.cT K ("all_errors", none)).1 with
  | some o => (match o.data with
    | .fields vs => (match vs.toList[1]?, vs.toList[11]? with
      | some (Value.str s _), some (Value.ref P) => (s == ("all_errors" : Str)) && decide (P = (He.cT K ("all_errors", none)).2)
      | _, _ => false)
    | _ => false)
  | none => false
def isB (K : PySem.W.Frag) : Bool := He.eqO (PySem.W.findIn K (.ref (He.ga K "State")) "__class__") (some (some (.builtin "object.__class__"))) && (He.eqO (PySem.W.specialIn K (.builtin "object.__class__") "__get__") (some (some (.builtin "getset_descriptor.__get__"))) && (decide (PySem.W.takesIn K (.builtin "object.__class__") = some true) && decide (PySem.W.mroIn K (He.ga K "State") (.type "object") = some true)))
def ktB (K : PySem.W.Frag) (x : Str) (ns : List Int) : Bool := match K.lookup (He.ga K x) with
  | some ⟨.type c, none, .seq its _, _⟩ => decide (c = "tuple") && (decide (its.size ≤ sizeLine) && He.relAll (ns.map V.int) its.toList)
  | _ => false
def ex (K : PySem.W.Frag) : Bool := (ktB K "SIZES" [2, 4, 8, 16, 32] && ktB K "NOUGHT" [0, 0, 0, 0, 0]) && (isB K && (tbOne K && tbAt K))
def tf : List He.Defn := [("all_errors", none)]
abbrev R : PySem.W.OpenRow := PySem.W.OpenLaw.row PySem.Challenge.rw_bothwire_k95_whole_errors_mended
abbrev hk : PySem.W.Hook := He.hookX 5 fa fn [] tf ex
def ob (s : PySem.W.SharedT) : He.AlX := He.obsX 5 fa fn [] tf ex (HandSHeadRun.getT s)
theorem ob_eq (s : PySem.W.SharedT) : ob s = hk.obs s.abs := He.obsX_eq (HandSHeadRun.getT_eq s)
def loose0 : List PySem.Str := ["_wall", "__name__", "WireError", "NoNumber", "NoState", "NoTable", "NoCode", "is_whole", "lowest", "is_eighth", "turned", "SIZES", "NOUGHT", "MOST_WIRES", "State", "is_bit_row", "is_sign_row", "need_alike", "turns_at", "done", "goes_with", "product", "both", "bits_of", "go_together", "cleared", "reduced", "bit_rows", "size_of", "all_errors"]
def loose1 : List PySem.Str := ["Code", "errors", "mends", "signs_of", "mended", "_law_draw", "_law_state", "_law_turned", "_law_sum", "_law_done", "_law_put", "_law_behind", "_law_both", "_law_group", "_law_unlike", "_law_told_right", "_law_table", "_law_mixed", "_law_against", "_law_code", "_law_bits", "_law_size", "_law_all_errors", "_law_product_bits", "_law_signs", "_law_code_numbers", "_law_pairs", "_law_back", "_law_all_back", "_law_right"]
abbrev loose : List PySem.Str := loose0 ++ loose1
theorem run (w : World) : HandSHeadRun.RunEq R (PySem.W.view R.prog [67]) hk ob 6000 loose w := by
  intro os
  kernel_rfl
end Bw
/-! Enc: rows of bits, sign rows, numbers, as Lean data and as Python's. -/
namespace Bw
open PySem PySem.Spec PyProof.Rows L2
def bi (b : Bool) : Int := if b then 1 else 0
theorem bi_range (b : Bool) : 0 ≤ bi b ∧ bi b ≤ 1 := by cases b <;> decide
abbrev Pl := List (Bool × Bool)
structure Row where
  t : Bool
  p : Pl
deriving DecidableEq
structure Amp where
  a : Int
  b : Int
  c : Int
  d : Int
deriving DecidableEq
def eB (b : Bool) : PyData := .int (bi b)
def eBits (l : List Bool) : PyData := .tuple (l.map eB)
def Row.xs (r : Row) : List Bool := r.p.map (·.1)
def Row.zs (r : Row) : List Bool := r.p.map (·.2)
def eRow (r : Row) : PyData := .tuple [.int (bi r.t), eBits r.xs, eBits r.zs]
def eRows (l : List Row) : PyData := .list (l.map eRow)
def eAmp (z : Amp) : PyData := .tuple [.int z.a, .int z.b, .int z.c, .int z.d]
def e8 (z : Amp) : PyData := .tuple [.int z.a, .int z.b, .int z.c, .int z.d, .int 0]
def rot (z : Amp) : Amp := ⟨-z.d, z.a, z.b, z.c⟩
def rotN : Nat → Amp → Amp
  | 0, z => z
  | n + 1, z => rot (rotN n z)
def zeroA : Amp := ⟨0, 0, 0, 0⟩
abbrev Wd (n : Nat) : Prop := 1 ≤ n ∧ n ≤ 5
theorem xs_len (r : Row) : r.xs.length = r.p.length := List.length_map ..
theorem zs_len (r : Row) : r.zs.length = r.p.length := List.length_map ..
/-- how deep, and of what, data is -/
theorem shaped_of {d : PyData} (h1 : d.canLay0 = true) (h2 : d.depth ≤ 64) : SeqAt.shaped d = true := by
  unfold SeqAt.shaped
  rw [h1, decide_eq_true h2]
  rfl
theorem eB_lay (l : List Bool) : PyData.canLayAll0 (l.map eB) = true := by
  induction l with
  | nil => rfl
  | cons b l ih =>
    show (PyData.canLay0 (eB b) && PyData.canLayAll0 (l.map eB)) = true
    rw [ih]
    rfl
theorem eB_depth (l : List Bool) : PyData.depthAll (l.map eB) ≤ 1 := by
  induction l with
  | nil => decide
  | cons b l ih =>
    show max (PyData.depth (eB b)) (PyData.depthAll (l.map eB)) ≤ 1
    have : PyData.depth (eB b) ≤ 1 := by
      show PyData.depth (.int _) ≤ 1
      simp [PyData.depth]
    omega
end Bw
/-! Lay10: tuples of numbers that have no dict (their index), list.remove and list.index of data, defs that change the list handed in, __init__. -/
namespace Bw
open PySem PySem.Spec PyProof.Rows L2
/-- the object at a is a plain tuple of these numbers -/
def Bt (a : Addr) (ns : List Int) : Heap → Prop := fun h => ∃ its : List Value, IntsAre its ns ∧ h.get? a = some { cls := .type "tuple", data := .seq its.toArray }
def TB (ns : List Int) : D := .ob fun F H v => ∃ a, v = .ref a ∧ H a = some (.ext (Bt a ns))
theorem rd_tb {K : PySem.W.Frag} {F : Addr → Prop} {H : Hp} {v : V} {ns : List Int} : RD K F H v (TB ns) ↔ ∃ a, v = .ref a ∧ H a = some (.ext (Bt a ns)) :=
  ⟨fun h => h.1, fun ⟨a, e, h⟩ => ⟨⟨a, e, h⟩, fun F' H' k => ⟨a, e, k.k a _ h rfl⟩⟩⟩
theorem Bt.get {X : Cx} {pins : List (Addr × Obj)} {σ : L2.St} {H : Hp} {s : Shared} {a : Addr} {ns : List Int} (I : Inv X pins σ H s) (h : H a = some (.ext (Bt a ns))) : Bt a ns s.heap := (I.hok a _ h).1
theorem ints_vals : ∀ {ns : List Int} {us : List Value}, Vals (ns.map V.int) us → IntsAre us ns
  | [], _, .nil => .nil
  | n :: ns, _, .cons r h => by
    obtain ⟨t, rfl⟩ := r
    exact .cons n t (ints_vals h)
theorem rp_mkInts {K : PySem.W.Frag} {F : Addr → Prop} {H : Hp} : ∀ ns : List Int, RpAll K F H (ns.map V.int) (ns.map PyData.int)
  | [] => .nil
  | n :: ns => .cons (.int n) (rp_mkInts ns)
section
variable {X : Cx}
def rCatB (K : PySem.W.Frag) : R2 := fun x y H Q => ∃ a b xs ys, x = .ref a ∧ y = .ref b ∧ SqT K H a (xs.map V.int) ∧ SqT K H b (ys.map V.int) ∧ xs ≠ [] ∧ ys ≠ [] ∧ xs.length + ys.length ≤ sizeLine ∧ ∀ p, H p = none → Q (.ref p) (upd H p (.ext (Bt p (xs ++ ys))))
theorem ints_app {as bs : List Value} {ns ms : List Int} (h : IntsAre as ns) (k : IntsAre bs ms) : IntsAre (as ++ bs) (ns ++ ms) := h.append k
theorem op_catB : OpR X (binaryOp .Add) (rCatB X.K) := by
  intro pins s σ H x y v u Q I rx ry h
  obtain ⟨a, b, xs, ys, rfl, rfl, ha, hb, hx, hy, hz, q⟩ := h
  cases rx
  cases ry
  obtain ⟨its, r1, p1, _⟩ := I.tuple ha
  obtain ⟨its2, r2, p2, _⟩ := I.tuple hb
  have i1 := ints_vals r1
  have i2 := ints_vals r2
  have l1 := r1.length
  have l2 := r2.length
  rw [List.length_map] at l1 l2
  have n1 : its ≠ [] := fun z => hx (by rw [z] at l1; exact List.length_eq_zero_iff.mp l1)
  have n2 : its2 ≠ [] := fun z => hy (by rw [z] at l2; exact List.length_eq_zero_iff.mp l2)
  refine HT.cat_tup p1 p2 n1 (fun z => absurd z n2) (fun z => ?_) (by rw [← l1, ← l2]; exact hz)
  have hB : Bt s.heap.objs.size (xs ++ ys) (s.heap.push { cls := .type "tuple", data := .seq (its ++ its2).toArray }) := ⟨its ++ its2, ints_app i1 i2, Heap.get?_push_size _ rfl⟩
  refine ⟨.ref s.heap.objs.size, _, I.laid (t' := s.toks) (o := .ext (Bt s.heap.objs.size (xs ++ ys))) (fun b ob q => Heap.get?_push_of_some _ q) (Nat.le_refl _) ?_, rfl, q _ (I.hok.fresh (Nat.le_refl _))⟩
  refine ⟨?_, ⟨_, Heap.get?_push_size _ rfl⟩, fun h1 h2 ⟨ts, e1, e2⟩ k => ⟨ts, e1, k _ e2⟩⟩
  first | exact hB | (simpa using hB)
def rIxB : R2 := fun x y H Q => ∃ p ns i n, x = .ref p ∧ y = .int i ∧ H p = some (.ext (Bt p ns)) ∧ ns.length ≤ 100000 ∧ atI ns i = some n ∧ Q (.int n) H
theorem ix_B : IxR X rIxB := by
  intro value slice pins s σ H x y v u Q I rx ry h hs
  obtain ⟨p, ns, i, n, rfl, rfl, hq, hz, he, q⟩ := h
  cases rx
  obtain ⟨t, rfl⟩ := ry
  obtain ⟨its, r, e⟩ := Bt.get I hq
  obtain ⟨j, h1, h2, h3, h4, h5⟩ := atI_get he
  obtain ⟨tt, ew⟩ := r.get j n h2
  have hl : its.length = ns.length := r.length
  have hn := line63
  have hsl := sizeLine_eq
  have pl : IsTup s.heap p its.toArray := ⟨_, e, rfl, _, rfl⟩
  have fin : EP X pins σ Q (.int n tt) s := ⟨.int n, H, I, ⟨tt, rfl⟩, q⟩
  exact subscriptTail_builtinR (x := .int n tt) pl.typeIs slot_tuple_getitem.lookup
    (getItem_tuple (j := j) (Q := fun r s' => r = .int n tt ∧ EP X pins σ Q r s') pl (by omega) (by omega) (by rw [List.size_toArray, hl]; exact h1) (by simpa using ew) ⟨rfl, fin⟩) hs
def rNotB : R2 := fun x y H Q => ∃ p ns i, y = .ref p ∧ x = .int i ∧ H p = some (.ext (Bt p ns)) ∧ Q (.bl (!decide (i ∈ ns))) H
theorem vals_ofInts {its : List Value} {ns : List Int} (h : IntsAre its ns) : Vals (ns.map V.int) its := by
  induction h with
  | nil => exact .nil
  | cons n t _ ih => exact .cons ⟨t, rfl⟩ ih
theorem op_notB : OpR X (compareOp .NotIn) rNotB := by
  intro pins s σ H x y v u Q I rx ry h
  obtain ⟨p, ns, i, rfl, rfl, hq, q⟩ := h
  cases ry
  obtain ⟨its, r, e⟩ := Bt.get I hq
  have pl : IsTup s.heap p its.toArray := ⟨_, e, rfl, _, rfl⟩
  have rv := vals_ofInts r
  refine SeqAt.notIn_tupleAt (eqU (.int i)) pl (fun w hw => mem_eqAt rx rfl rv (flat_ints ns) w (by simpa using hw)) ⟨.bl _, H, I, rfl, ?_⟩
  rw [show its.toArray.any (eqU (.int i)) = its.any (eqU (.int i)) by simp, any_eqU rv (flat_ints ns)]
  have e2 : ((ns.map V.int).any fun y => eqV y (.int i)) = decide (i ∈ ns) := inV_ints
  rw [e2]
  exact q
/-- t.index(k) of a tuple without a dict -/
def Tid (K : PySem.W.Frag) (H : Hp) (a : Addr) (ns : List Int) : Prop := H a = some (.ext (Bt a ns)) ∨ ∃ o its n, K.lookup a = some o ∧ o.cls = .type "tuple" ∧ o.dict = none ∧ o.data = .seq its n ∧ IntsAre its.toList ns
theorem Tid.get {pins : List (Addr × Obj)} {σ : L2.St} {H : Hp} {s : Shared} {a : Addr} {ns : List Int} (I : Inv X pins σ H s) (h : Tid X.K H a ns) : ∃ o its n, s.heap.get? a = some o ∧ o.cls = .type "tuple" ∧ o.dict = none ∧ o.data = .seq its n ∧ IntsAre its.toList ns := by
  rcases h with hk | ⟨o, its, n, h1, h2, h3, h4, h5⟩
  · obtain ⟨its, r, e⟩ := Bt.get I hk
    exact ⟨_, its.toArray, _, e, rfl, rfl, rfl, r⟩
  · exact ⟨o, its, n, I.kIn a o h1, h2, h3, h4, h5⟩
def tIdx (K : PySem.W.Frag) (to te : TE) : TE := fun σ H Q => to σ H fun x H1 => ∃ (a : Addr) (ns : List Int), x = .ref a ∧ Tid K H1 a ns ∧ te σ H1 fun y H2 => ∃ k, y = .int k ∧ k ∈ ns ∧ Tid K H2 a ns ∧ Q (.int (ns.idxOf k : Nat)) H2
variable {o e : Expr} {to te : TE} {apos cpos : Pos}
theorem pe_tidx (ho : PE X o to) (ha : PE X e te)
    (hbase : attributeBase o "index" X.env (eval o X.env) = eval o X.env := by rfl)
    (hfew : ((backTo cpos (starEach [e] X.env)).all (fun x => !x.1) && (backToKw cpos (keywordEach [] X.env)).all (fun x => x.1.isSome)
      && decide ([e].length + ([] : List Keyword).length + (if ([] : List Keyword).isEmpty then 0 else 1) < 30)) = true := by rfl)
    (hline : (apos.endLine == cpos.line) = true := by rfl) (hs : starEach [e] X.env = (false, eval e X.env) :: starEach [] X.env := by rfl) (hplain : (backTo cpos (starEach [] X.env)).any (·.1) = false := by rfl) :
    PE X (.Call (.Attribute o "index" apos) [e] [] cpos) (tIdx X.K to te) := by
  refine ⟨fun pins s σ H Q I h => ?_⟩
  refine wpAny_Call_method_late hbase hfew hline rfl (thn (ho.run pins s σ H _ I h) fun v s1 ⟨x, H1, I1, r1, a, ns, ex, hk, q1⟩ => ?_)
  subst ex
  cases r1
  obtain ⟨o1, its1, n1, g1, g2, g3, g4, g5⟩ := hk.get I1
  refine ⟨"tuple", "tuple.index", PySem.F.plainAttrs_tuple, PySem.F.slot_tuple_index, PySem.F.type_tuple_index, ⟨o1, g1, g2⟩, fun b eb => ?_, ?_⟩
  · cases eb
    exact ⟨o1, g1, g3⟩
  have hA := (pa_cons ha pa_nil hs).run cpos pins s1 σ H1 (fun vs H2 => ∃ k, vs = [.int k] ∧ k ∈ ns ∧ Tid X.K H2 a ns ∧ Q (.int (ns.idxOf k : Nat)) H2) I1 (by
    show te σ H1 fun y H2 => ∃ k, [y] = [.int k] ∧ k ∈ ns ∧ Tid X.K H2 a ns ∧ Q (.int (ns.idxOf k : Nat)) H2
    have e1 : (fun y H2 => ∃ k, [y] = [V.int k] ∧ k ∈ ns ∧ Tid X.K H2 a ns ∧ Q (.int (ns.idxOf k : Nat)) H2) = fun y H2 => ∃ k, y = V.int k ∧ k ∈ ns ∧ Tid X.K H2 a ns ∧ Q (.int (ns.idxOf k : Nat)) H2 := by
      funext y H2
      simp
    rw [e1]
    exact q1)
  rw [hs] at hA ⊢
  refine Calls.callWith_builtin (by show (false || (backTo cpos (starEach [] X.env)).any (·.1)) = false; rw [hplain] <;> rfl) (Calls.evalArgs_plain ?_)
  refine thn hA fun us s2 ⟨vs, H2, I2, r2, k, ev, hkn, hk2, q2⟩ => ?_
  subst ev
  obtain ⟨u, rfl, ru⟩ := vals1 r2
  obtain ⟨t, rfl⟩ := ru
  obtain ⟨o2, its2, n2, f1, f2, f3, f4, f5⟩ := hk2.get I2
  exact SeqAt.tuple_index_ints (vs := its2.toList) ⟨o2, f1, f2, n2, by simpa using f4⟩ f5 hkn ⟨.int _, H2, I2.tok _, ⟨_, rfl⟩, q2⟩
end
/-! by data -/
section
variable {X : Cx} {ρ ρ1 ρ2 ρ3 : List Sl} {a b c e o : Expr} {pos p p2 apos cpos : Pos} {ns ms : List Int} {i j k n : Int}
theorem de_catB (ha : DE X ρ a (Tu (ns.map PyData.int)) ρ1) (hb : DE X ρ1 b (Tu (ms.map PyData.int)) ρ2) (h1 : ns ≠ []) (h2 : ms ≠ []) (hl : ns.length + ms.length ≤ 100000) : DE X ρ (.BinOp a .Add b pos) (TB (ns ++ ms)) ρ2 := by
  obtain ⟨_, p1, r1⟩ := ha
  obtain ⟨_, p2, r2⟩ := hb
  refine ⟨_, pe_op op_catB p1 p2, re_op r1 r2 fun F H v w q1 q2 Q q => ?_⟩
  cases q1 with
  | tup t1 g1 =>
    cases q2 with
    | tup t2 g2 =>
      have e1 := rp_ints g1
      have e2 := rp_ints g2
      subst e1 e2
      exact ⟨_, _, ns, ms, rfl, rfl, t1.sq, t2.sq, h1, h2, sz _ hl, fun p hp => q _ _ (same_new hp) (rd_tb.mpr ⟨p, rfl, upd_same⟩)⟩
theorem de_ixB (ha : DE X ρ a (TB ns) ρ1) (hb : DE X ρ1 b (I k) ρ2) (h : atI ns k = some n) (hl : ns.length ≤ 100000) (hs : PlainIx b := by exact fun _ _ => rfl) : DE X ρ (.Subscript a b pos) (I n) ρ2 := by
  obtain ⟨_, p1, r1⟩ := ha
  obtain ⟨_, p2, r2⟩ := hb
  refine ⟨_, pe_ix ix_B p1 p2 hs, re_op r1 r2 fun F H v w q1 q2 Q q => ?_⟩
  obtain ⟨t, rfl, ht⟩ := rd_tb.mp q1
  cases q2
  exact ⟨t, ns, k, n, rfl, rfl, ht, hl, h, q _ H (Same.refl _) (.int _)⟩
theorem dc_notInB (ha : DE X ρ a (I k) ρ1) (hb : DE X ρ1 b (TB ns) ρ2) : DC X ρ a .NotIn b (!decide (k ∈ ns)) ρ2 := by
  obtain ⟨_, p1, r1⟩ := ha
  obtain ⟨_, p2, r2⟩ := hb
  refine ⟨_, _, _, op_notB, p1, p2, re_op r1 r2 fun F H v w q1 q2 Q q => ?_⟩
  obtain ⟨t, rfl, ht⟩ := rd_tb.mp q2
  cases q1
  exact ⟨t, ns, k, rfl, rfl, ht, q _ H (Same.refl _) (.bl _)⟩
theorem de_idxB (ho : DE X ρ o (TB ns) ρ1) (ha : DE X ρ1 e (I k) ρ2) (hk : k ∈ ns) (hbase : attributeBase o "index" X.env (eval o X.env) = eval o X.env := by rfl)
    (hfew : ((backTo cpos (starEach [e] X.env)).all (fun x => !x.1) && (backToKw cpos (keywordEach [] X.env)).all (fun x => x.1.isSome)
      && decide ([e].length + ([] : List Keyword).length + (if ([] : List Keyword).isEmpty then 0 else 1) < 30)) = true := by rfl)
    (hline : (apos.endLine == cpos.line) = true := by rfl) (hs : starEach [e] X.env = (false, eval e X.env) :: starEach [] X.env := by rfl) (hplain : (backTo cpos (starEach [] X.env)).any (·.1) = false := by rfl) :
    DE X ρ (.Call (.Attribute o "index" apos) [e] [] cpos) (I (ns.idxOf k : Nat)) ρ2 := by
  obtain ⟨_, p1, r1⟩ := ho
  obtain ⟨_, p2, r2⟩ := ha
  refine ⟨_, pe_tidx p1 p2 hbase hfew hline hs hplain, fun F0 F M H0 σ H Q S q => r1 F0 F M H0 σ H _ S fun v H1 S1 w1 o1 g1 => ?_⟩
  obtain ⟨t, rfl, ht⟩ := rd_tb.mp g1
  refine ⟨t, ns, rfl, .inl ht, r2 F0 F M H0 σ H1 _ S1 fun u H2 S2 w2 o2 g2 => ?_⟩
  cases g2
  exact ⟨k, rfl, hk, .inl ((S1.ker o2).k t _ ht rfl), q _ H2 S2 (w1.trans w2) (off2 o1 w1 o2) (.int _)⟩
/-- of a module's tuple -/
structure KTup (K : PySem.W.Frag) (mg : Str → Option Value) (x : Str) (ns : List Int) : Prop where
  ex : ∃ t o its n, mg x = some (.ref t) ∧ K.lookup t = some o ∧ o.cls = .type "tuple" ∧ o.dict = none ∧ o.data = .seq its n ∧ its.size ≤ sizeLine ∧ IntsAre its.toList ns
theorem KTup.de {x : Str} (h : KTup X.K X.mg x ns) (hg : Gl X x := by rfl) (hd : (x == ("__debug__" : Str)) = false := by decide) : DE X ρ (.Name x pos) (Tu (ns.map PyData.int)) ρ := by
  obtain ⟨t, o, its, n, h1, h2, h3, h4, h5, h6, h7⟩ := h.ex
  refine de_globT (xs := ns.map V.int) (fun H => .inr ⟨o, its, n, h2, h3, h5, h6, vals_ofInts h7⟩) (fun F H => rp_mkInts ns) h1 hg hd
theorem KTup.idx {x : Str} (h : KTup X.K X.mg x ns) (ha : DE X ρ e (I k) ρ2) (hk : k ∈ ns) (hg : Gl X x := by rfl) (hd : (x == ("__debug__" : Str)) = false := by decide) (hbase : attributeBase (.Name x p) "index" X.env (eval (.Name x p) X.env) = eval (.Name x p) X.env := by rfl)
    (hfew : ((backTo cpos (starEach [e] X.env)).all (fun x => !x.1) && (backToKw cpos (keywordEach [] X.env)).all (fun x => x.1.isSome)
      && decide ([e].length + ([] : List Keyword).length + (if ([] : List Keyword).isEmpty then 0 else 1) < 30)) = true := by rfl)
    (hline : (apos.endLine == cpos.line) = true := by rfl) (hs : starEach [e] X.env = (false, eval e X.env) :: starEach [] X.env := by rfl) (hplain : (backTo cpos (starEach [] X.env)).any (·.1) = false := by rfl) :
    DE X ρ (.Call (.Attribute (.Name x p) "index" apos) [e] [] cpos) (I (ns.idxOf k : Nat)) ρ2 := by
  obtain ⟨t, o, its, n, h1, h2, h3, h4, h5, h6, h7⟩ := h.ex
  obtain ⟨_, p2, r2⟩ := ha
  refine ⟨_, pe_tidx (pe_glob (v := .ref t) hg h1 rfl hd) p2 hbase hfew hline hs hplain, fun F0 F M H0 σ H Q S q => ⟨t, ns, rfl, .inr ⟨o, its, n, h2, h3, h4, h5, h7⟩, r2 F0 F M H0 σ H _ S fun u H2 S2 w2 o2 g2 => ?_⟩⟩
  cases g2
  exact ⟨k, rfl, hk, .inr ⟨o, its, n, h2, h3, h4, h5, h7⟩, q _ H2 S2 w2 o2 (.int _)⟩
end
end Bw
/-! Lay11: list.remove and list.index of data; defs that change the list handed in; __init__; the module's names. -/
namespace Bw
open PySem PySem.Spec PyProof.Rows L2
section
variable {X : Cx}
def rRemD (K : PySem.W.Frag) : V → List V → Hp → VK → Prop := fun x xs H Q => ∃ (l : Addr) (vs : List V) (y : V) (d : PyData) (ds : List PyData) (j : Nat) (z : PyData), x = .ref l ∧ xs = [y] ∧ H l = some (.lst vs) ∧ DpAll K H vs ds ∧ Dp K H y d ∧ SeqAt.shaped (.list ds) = true ∧ SeqAt.shaped d = true ∧ ds[j]? = some z ∧ PyData.eqv z d = true ∧
  (∀ (m : Nat) (z' : PyData), m < j → ds[m]? = some z' → PyData.eqv z' d = false) ∧ Q .non (upd H l (.lst (vs.eraseIdx j)))
theorem vals_erase {vs : List V} {us : List Value} (h : Vals vs us) : ∀ j : Nat, Vals (vs.eraseIdx j) (us.eraseIdx j) := by
  induction h with
  | nil => intro j; exact .nil
  | cons r _ ih =>
    intro j
    cases j with
    | zero => assumption
    | succ j => exact .cons r (ih j)
theorem len_erase' {α : Type} (l : List α) (j : Nat) : (l.eraseIdx j).length ≤ l.length := by
  rw [List.length_eraseIdx]
  split <;> omega
theorem mt_removeD (hu : X.A.units + 65 < cLine) : MtM X "list.remove" (rRemD X.K) := by
  intro pins s σ H x xs v us Q I rx rxs h
  obtain ⟨l, vs, y, d, ds, j, z, rfl, rfl, hH, ha, hy, sl, sd, hz, hzj, hno, q⟩ := h
  cases rx
  obtain ⟨uy, rfl, ry⟩ := rxs.one
  obtain ⟨bs, r1⟩ := Dp.reads I d y uy hy ry
  have hxs : PyData.canLayAll0 ds = true := SeqAt.canLay_of_shaped sl
  have hroom : X.A.units + 1 + min (PyData.depthAll ds) d.depth < cLine := room_in_shaped sd hu
  obtain ⟨its, n, rv, ho, hlen⟩ := I.lst hH
  obtain ⟨as, h4⟩ := Dp.readsAll I ds _ its ha rv
  have hn : its.length = ds.length := SeqAt.ReadsAll.length ds its as h4
  have hmap : its.map (SeqAt.readOf s.heap) = ds := SeqAt.readsAll_map ds its as hxs h4
  have hvl := rv.length
  have hsl := sizeLine_eq
  obtain ⟨hjd, _⟩ := List.getElem?_eq_some_iff.mp hz
  have hjl : j < its.length := by omega
  have hj : j < its.toArray.size := by simpa using hjl
  have at_ : ∀ (m : Nat) (hm : m < its.toArray.size) (z' : PyData), ds[m]? = some z' → SeqAt.readOf s.heap its.toArray[m] = z' := by
    intro m hm z' hz'
    have hml : m < its.length := by simpa using hm
    rw [← hmap, List.getElem?_map, List.getElem?_eq_getElem hml] at hz'
    have e1 : SeqAt.readOf s.heap its[m] = z' := Option.some.inj (show some (SeqAt.readOf s.heap its[m]) = some z' from hz')
    simpa using e1
  refine call_meets PySem.F.slot_list_remove ⟨_, ho, rfl⟩ PySem.F.entry_list_remove (PySem.F.args_list_remove_2 _ _)
    (SeqAt.list_removeAt l its.toArray n _ _ uy (fun u => PyData.eqv (SeqAt.readOf s.heap u) d) j hj ?_ ?_ (by rw [List.size_toArray]; omega)) ⟨ho, SeqAt.items_eqAt (vs := its.toArray) (show ReadsAll s.heap its.toArray.toList ds as from h4) r1 hxs (SeqAt.canLay_of_shaped sd) hroom, ?_⟩
  · show PyData.eqv (SeqAt.readOf s.heap its.toArray[j]) d = true
    rw [at_ j hj z hz]
    exact hzj
  · intro m hm hmj
    have hmd : m < ds.length := by omega
    have hz' : ds[m]? = some ds[m] := List.getElem?_eq_getElem hmd
    show PyData.eqv (SeqAt.readOf s.heap its.toArray[m]) d = false
    rw [at_ m hm _ hz']
    exact hno m _ hmj hz'
  · refine ⟨.non, _, I.lset (its' := its.eraseIdx j) (t' := s.toks) hH ho ?_ (vals_erase rv j) ?_, rfl, q⟩
    · show its.toArray.eraseIdxIfInBounds j = (its.eraseIdx j).toArray
      rw [List.eraseIdxIfInBounds_toArray]
    · exact Nat.le_trans (len_erase' vs j) hlen
end
theorem RpAll.erase {K : PySem.W.Frag} {F : Addr → Prop} {H : Hp} : ∀ {vs : List V} {ds : List PyData} (j : Nat), RpAll K F H vs ds → RpAll K F H (vs.eraseIdx j) (ds.eraseIdx j)
  | _, _, _, .nil => .nil
  | _, _, 0, .cons _ r => r
  | _, _, j + 1, .cons a r => .cons a (RpAll.erase j r)
section
variable {X : Cx} {ρ ρ1 ρ2 ρ3 : List Sl} {a b c e o : Expr} {pos p p2 apos cpos : Pos} {d : D} {x : Str} {P : Po} {dx z : PyData} {ds : List PyData}
/-- x.remove(e) -/
theorem ds_remove (i : Nat) {p3 : Pos} {j : Nat} (hu : X.A.units + 65 < cLine) (hv : ρ1[i]? = some (Sl.own false ds) := by rfl) (ha : DE X ρ1 e (.py dx) ρ1) (s1 : SeqAt.shaped (.list ds) = true) (s2 : SeqAt.shaped dx = true) (hz : ds[j]? = some z) (hzj : PyData.eqv z dx = true) (hno : ∀ (m : Nat) (z' : PyData), m < j → ds[m]? = some z' → PyData.eqv z' dx = false)
    (hq : P.nx (ρ1.set i (.own false (ds.eraseIdx j)))) (hN : X.N[i]? = some x := by rfl) (hvs : Vis X.env.scope x := by first | exact Or.inl rfl | exact Or.inr (Or.inl rfl) | exact Or.inr (Or.inr rfl)) (hd : (x == ("__debug__" : Str)) = false := by decide)
    (hcd : (x == ("__classdict__" : Str)) = false := by decide) (hbase : attributeBase (.Name x p2) "remove" X.env (eval (.Name x p2) X.env) = eval (.Name x p2) X.env := by rfl)
    (hfew : ((backTo p3 (starEach [e] X.env)).all (fun x => !x.1) && (backToKw p3 (keywordEach [] X.env)).all (fun x => x.1.isSome) && decide ([e].length + ([] : List Keyword).length + (if ([] : List Keyword).isEmpty then 0 else 1) < 30)) = true := by rfl)
    (hline : (apos.endLine == p3.line) = true := by rfl) (hs : starEach [e] X.env = (false, eval e X.env) :: starEach [] X.env := by rfl) (hplain : (backTo p3 (starEach [] X.env)).any (·.1) = false := by rfl)
    (hsw : swapsWith (.Call (.Attribute (.Name x p2) "remove" apos) [e] [] p3) none pos.line X.env = pure false := by rfl) :
    DS X ρ1 (.Expr (.Call (.Attribute (.Name x p2) "remove" apos) [e] [] p3) pos) P := by
  obtain ⟨_, p1, r1⟩ := ha
  refine ⟨_, ps_expr (pe_bm PySem.F.plainAttrs_list PySem.F.slot_list_remove PySem.F.type_list_remove (mt_removeD hu) (pe_var hN hvs hd hcd) (pa_cons p1 pa_nil hs) hbase hfew hline hs hplain) hsw, fun F0 F M H0 σ H E S q1 q2 q3 q4 => ?_⟩
  obtain ⟨l, vs, h1, h2, h3, h4, h5⟩ := S.own i false _ hv
  refine ⟨_, h1, .inl ⟨rfl, _, SqL.of h2⟩, r1 F0 F M H0 σ H _ S fun u H1 S1 w1 o1 g1 => ?_⟩
  obtain ⟨l', vs', e1, e2, e3, _⟩ := S1.own i false _ hv
  rw [h1] at e1
  cases e1
  obtain ⟨S2, k2⟩ := S1.mut (i := i) hv h1 e2 (e3.erase j)
  exact ⟨_, vs', u, dx, ds, j, z, rfl, rfl, e2, e3.dp, Rp.dp g1, s1, s2, hz, hzj, hno, q1 F _ σ _ hq S2 ((S.ker o1).trans k2)⟩
/-- l.index(e) of data -/
theorem de_indexL {j : Nat} (hu : X.A.units + 65 < cLine) (ho : DE X ρ o (Li ds) ρ) (ha : DE X ρ e (.py dx) ρ) (s1 : SeqAt.shaped (.list ds) = true) (s2 : SeqAt.shaped dx = true) (hz : ds[j]? = some z) (hzj : PyData.eqv z dx = true) (hno : ∀ (m : Nat) (z' : PyData), m < j → ds[m]? = some z' → PyData.eqv z' dx = false)
    (hbase : attributeBase o "index" X.env (eval o X.env) = eval o X.env := by rfl)
    (hfew : ((backTo cpos (starEach [e] X.env)).all (fun x => !x.1) && (backToKw cpos (keywordEach [] X.env)).all (fun x => x.1.isSome) && decide ([e].length + ([] : List Keyword).length + (if ([] : List Keyword).isEmpty then 0 else 1) < 30)) = true := by rfl)
    (hline : (apos.endLine == cpos.line) = true := by rfl) (hs : starEach [e] X.env = (false, eval e X.env) :: starEach [] X.env := by rfl) (hplain : (backTo cpos (starEach [] X.env)).any (·.1) = false := by rfl) :
    DE X ρ (.Call (.Attribute o "index" apos) [e] [] cpos) (I (j : Int)) ρ := by
  obtain ⟨_, p0, r0⟩ := ho
  obtain ⟨_, p1, r1⟩ := ha
  refine ⟨_, pe_bm PySem.F.plainAttrs_list PySem.F.slot_list_index PySem.F.type_list_index (mt_indexD hu) p0 (pa_cons p1 pa_nil hs) hbase hfew hline hs hplain, fun F0 F M H0 σ H Q S q => r0 F0 F M H0 σ H _ S fun v H1 S1 w1 o1 g0 => ?_⟩
  cases g0 with
  | @lst t vs _ h1 n1 g1 =>
    refine ⟨.inl ⟨rfl, _, SqL.of h1⟩, r1 F0 F M H0 σ H1 _ S1 fun u H2 S2 w2 o2 g2 => ?_⟩
    have g3 : RD X.K F H2 (.ref t) (Li ds) := Rp.ker (S1.ker o2) (.lst h1 n1 g1)
    exact ⟨t, u, dx, ds, j, z, rfl, rfl, Rp.dp g3, Rp.dp g2, s1, s2, hz, hzj, hno, q _ H2 S2 (Shp.refl _) (o1.trans o2) (.int _)⟩
end
/-! ### defs -/
section
variable {Pg : Program} {w : World} {K : PySem.W.Frag} {mg : Str → Option Value} {base : Heap} {x qual : Str} {st : Stmt} {f : Addr} {fd : FuncData} {N ps : List Str} {k : Nat}
abbrev st1 (N : List Str) (d1 : List D) (n : Int) (d2 : List D) : List Sl := d1.map Sl.val ++ Sl.own true [.int n] :: (d2.map Sl.val ++ List.replicate (N.length - (d1.length + d2.length + 1)) Sl.any)
theorem st1_get {d1 d2 : List D} {n : Int} {i : Nat} {z : Sl} (h : (st1 N d1 n d2)[i]? = some z) (hz : z ≠ .any) : (i < d1.length ∧ ∃ d, d1[i]? = some d ∧ z = .val d) ∨ (i = d1.length ∧ z = .own true [.int n]) ∨ ∃ j d, i = d1.length + 1 + j ∧ d2[j]? = some d ∧ z = .val d := by
  unfold st1 at h
  by_cases h1 : i < d1.length
  · rw [List.getElem?_append_left (by rw [List.length_map]; exact h1), List.getElem?_map, List.getElem?_eq_getElem h1] at h
    exact .inl ⟨h1, _, List.getElem?_eq_getElem h1, (Option.some.inj h).symm⟩
  · rw [List.getElem?_append_right (by rw [List.length_map]; omega), List.length_map] at h
    by_cases h2 : i = d1.length
    · subst h2
      rw [Nat.sub_self] at h
      exact .inr (.inl ⟨rfl, (Option.some.inj h).symm⟩)
    · obtain ⟨j, hj⟩ : ∃ j, i - d1.length = j + 1 := ⟨i - d1.length - 1, by omega⟩
      rw [hj, List.getElem?_cons_succ] at h
      by_cases h3 : j < d2.length
      · rw [List.getElem?_append_left (by rw [List.length_map]; exact h3), List.getElem?_map, List.getElem?_eq_getElem h3] at h
        exact .inr (.inr ⟨j, _, by omega, List.getElem?_eq_getElem h3, (Option.some.inj h).symm⟩)
      · rw [List.getElem?_append_right (by rw [List.length_map]; omega), List.getElem?_replicate] at h
        split at h
        · exact absurd (Option.some.inj h).symm hz
        · cases h
theorem SR.start1 {F : Addr → Prop} {H : Hp} {v1 v2 : List V} {d1 d2 : List D} {s : Addr} {n : Int} (hF : ∀ a, F a → ∃ o, H a = some o) (tb : TbI K H) (hs : F s) (hl : H s = some (.lst [.int n])) (r1 : RDs K F H v1 d1) (r2 : RDs K F H v2 d2) (hN : d1.length + d2.length + 1 ≤ N.length) :
    SR K F F (fun a => a = s) H (st1 N d1 n d2) (L2.start N (v1 ++ V.ref s :: v2)) H := by
  have e1 := r1.length
  have e2 := r2.length
  have gs : (L2.start N (v1 ++ V.ref s :: v2))[d1.length]? = some (some (V.ref s)) := start_get (by
    rw [List.getElem?_append_right (by omega), e1, Nat.sub_self]
    rfl)
  refine ⟨?_, fun b o e _ => .of e, fun a f => f, hF, fun a e => by rw [e]; exact hs, fun i d e => ?_, fun i m ds e => ?_, fun i j m n' ds es l q1 q2 _ _ => ?_, fun a e => ⟨_, (congrArg H e).trans hl⟩, tb⟩
  · unfold st1 L2.start
    simp [e1, e2]
    omega
  · rcases st1_get e (fun z => nomatch z) with ⟨h1, d', h2, h3⟩ | ⟨h1, h2⟩ | ⟨j, d', h1, h2, h3⟩
    · cases h3
      obtain ⟨v, g1, g2⟩ := r1.get' h2
      exact ⟨v, start_get (by rw [List.getElem?_append_left (by omega)]; exact g1), g2⟩
    · cases h2
    · cases h3
      obtain ⟨v, g1, g2⟩ := r2.get' h2
      refine ⟨v, start_get ?_, g2⟩
      rw [List.getElem?_append_right (by omega), h1, e1]
      have e3 : d1.length + 1 + j - d1.length = j + 1 := by omega
      rw [e3, List.getElem?_cons_succ]
      exact g1
  · rcases st1_get e (fun z => nomatch z) with ⟨h1, d', h2, h3⟩ | ⟨h1, h2⟩ | ⟨j, d', h1, h2, h3⟩
    · cases h3
    · cases h2
      subst h1
      exact ⟨s, [.int n], gs, hl, .cons (.int n) .nil, hs, by simp⟩
    · cases h3
  · have at_ : ∀ {i m ds}, (st1 N d1 n d2)[i]? = some (Sl.own m ds) → i = d1.length := fun {i m ds} e => by
      rcases st1_get e (fun z => nomatch z) with ⟨h1, d', h2, h3⟩ | ⟨h1, h2⟩ | ⟨j, d', h1, h2, h3⟩
      · cases h3
      · exact h1
      · cases h3
    rw [at_ q1, at_ q2]
/-- THE RULE for a def that changes the list of one number handed in -/
theorem fn_mkS {pre : Int → List D → List D → D → Int → Prop} (F : FunD K x qual (defArgs st) (defBody st) (defScope st) [] [] f fd) (S : FnScope N ps (defScope st)) (hl : ∀ n d1 d2 d n', pre n d1 d2 d n' → d1.length + d2.length + 1 = ps.length) (hN : ps.length ≤ N.length)
    (body : ∀ (cdv : Value) (A : Around) (outer : List Env) (s : Shared) (H : Hp) (E : XK) (n : Int) (d1 d2 : List D) (d : D) (n' : Int), Room k (BX Pg w K mg base N qual st f cdv A outer s H E).A → pre n d1 d2 d n' →
      DSs (BX Pg w K mg base N qual st f cdv A outer s H E) (st1 N d1 n d2) (defBody st) { nx := fun _ => False, rt := fun ρ' d' => d' = d ∧ ρ'[d1.length]? = some (Sl.own true [.int n']) }) : FnOk Pg w K mg base CX0 (k + 1) f fd ps (SpS K pre) := by
  refine F.ok S (fun vs H Q E h => ?_) (fun cdv A outer s H vs Q E hr h => ?_)
  · obtain ⟨G, s, n, v1, v2, d1, d2, d, n', ev, _, _, _, _, r1, r2, hp, _⟩ := h
    rw [ev, ← hl n d1 d2 d n' hp, List.length_append, List.length_cons, r1.length, r2.length]
    omega
  · obtain ⟨G, s0, n, v1, v2, d1, d2, d, n', ev, hG, tb, hs, hH, r1, r2, hp, q⟩ := h
    subst ev
    obtain ⟨t, p1, rr⟩ := body cdv A outer s H E n d1 d2 d n' hr hp
    refine ⟨t, p1.nox, rr G G (fun a => a = s0) H _ H _ (SR.start1 hG tb hs hH r1 r2 (by rw [hl n d1 d2 d n' hp]; exact hN)) (fun _ _ _ _ z => z.elim) (fun F' ρ' σ' H' d' v nn S' k' r' => ?_) (fun _ _ _ _ z => z.elim) (fun _ _ _ _ z => z.elim)⟩
    obtain ⟨e1, e2⟩ := nn
    obtain ⟨l, us, g1, g2, g3, g4, g5⟩ := S'.own _ _ _ e2
    have e3 : l = s0 := by simpa using g5
    subst e3
    have e4 := rp_int1 g3
    subst e4
    exact q v H' (fun b o e nb => S'.same b o e nb) S'.tb g2 (e1 ▸ r')
def Ins0 (C t dx : Addr) : D := .ob fun F H v => v = .ref t ∧ H t = some (.ins C dx [])
theorem Tp.updI {K : PySem.W.Frag} {H : Hp} {t C dx C' dx' : Addr} {fs fs' : List (Str × V)} (ht : H t = some (.ins C dx fs)) {a : Addr} {xs : List V} (h : Tp K H a xs) : Tp K (upd H t (.ins C' dx' fs')) a xs := by
  rcases h with h | h
  · refine .inl ?_
    rw [upd_ne fun z => by
      rw [z, ht] at h
      cases h]
    exact h
  · exact .inr h
mutual
theorem Rp.updI {K : PySem.W.Frag} {F : Addr → Prop} {H : Hp} {t C dx C' dx' : Addr} {fs fs' : List (Str × V)} (ht : H t = some (.ins C dx fs)) : ∀ {v : V} {d : PyData}, Rp K F H v d → Rp K F (upd H t (.ins C' dx' fs')) v d
  | _, _, .non => .non
  | _, _, .bl b => .bl b
  | _, _, .int i => .int i
  | _, _, .str x => .str x
  | _, _, .lst h n r => .lst (by
    rw [upd_ne fun z => by
      rw [z, ht] at h
      cases h]
    exact h) n (RpAll.updI ht r)
  | _, _, .tup h r => .tup (h.updI ht) (RpAll.updI ht r)
theorem RpAll.updI {K : PySem.W.Frag} {F : Addr → Prop} {H : Hp} {t C dx C' dx' : Addr} {fs fs' : List (Str × V)} (ht : H t = some (.ins C dx fs)) : ∀ {vs : List V} {ds : List PyData}, RpAll K F H vs ds → RpAll K F (upd H t (.ins C' dx' fs')) vs ds
  | _, _, .nil => .nil
  | _, _, .cons a r => .cons (Rp.updI ht a) (RpAll.updI ht r)
end
/-- THE RULE for an __init__ of one argument that sets the one attribute: a guard, the store, the rest -/
theorem fn_mkI {C : Addr} {nm sn : Str} {pre : D → PyData → Prop} {s1 : Stmt} {e : Expr} {post : List Stmt} {p1 p2 p3 : Pos} (F : FunD K x qual (defArgs st) (defBody st) (defScope st) [] [] f fd) (S : FnScope N ps (defScope st)) (h2p : ps.length = 2) (hN : 2 ≤ N.length) (hN0 : N[0]? = some sn)
    (hpy : ∀ d dt, pre d dt → ∃ dd, d = .py dd)
    (hb : defBody st = s1 :: .Assign [.Attribute (.Name sn p1) nm p2] e p3 :: post) (cl : Cls K C) (na : NoAttr K C nm) (hd : (sn == ("__debug__" : Str)) = false) (hcd : (sn == ("__classdict__" : Str)) = false)
    (hv : ∀ (cdv : Value) (A : Around) (outer : List Env) (s : Shared) (H : Hp) (E : XK), Vis (BX Pg w K mg base N qual st f cdv A outer s H E).env.scope sn)
    (hs : ∀ (cdv : Value) (A : Around) (outer : List Env) (s : Shared) (H : Hp) (E : XK), swapsWith e (some (.Attribute (.Name sn p1) nm p2)) p3.line (BX Pg w K mg base N qual st f cdv A outer s H E).env = pure false)
    (g1 : ∀ (cdv : Value) (A : Around) (outer : List Env) (s : Shared) (H : Hp) (E : XK) (t dx : Addr) (d : PyData) (dt : PyData), Room k (BX Pg w K mg base N qual st f cdv A outer s H E).A → pre (.py d) dt →
      DS (BX Pg w K mg base N qual st f cdv A outer s H E) (st0 N [Ins0 C t dx, .py d]) s1 { nx := fun ρ => ρ = st0 N [Ins0 C t dx, .py d], rt := fun _ _ => False })
    (g2 : ∀ (cdv : Value) (A : Around) (outer : List Env) (s : Shared) (H : Hp) (E : XK) (t dx : Addr) (d : PyData) (dt : PyData), Room k (BX Pg w K mg base N qual st f cdv A outer s H E).A → pre (.py d) dt →
      DE (BX Pg w K mg base N qual st f cdv A outer s H E) (st0 N [Ins0 C t dx, .py d]) e (.py dt) (st0 N [Ins0 C t dx, .py d]))
    (g3 : ∀ (cdv : Value) (A : Around) (outer : List Env) (s : Shared) (H : Hp) (E : XK) (d : PyData) (dt : PyData), Room k (BX Pg w K mg base N qual st f cdv A outer s H E).A → pre (.py d) dt →
      DSs (BX Pg w K mg base N qual st f cdv A outer s H E) (st0 N [Ins K C nm dt, .py d]) post { nx := fun _ => True, rt := fun _ _ => False }) : FnOk Pg w K mg base CX0 (k + 1) f fd ps (SpI K C nm pre) := by
  refine F.ok S (fun vs H Q E h => ?_) (fun cdv A outer s H vs Q E hr h => ?_)
  · obtain ⟨G, t, dx, v, d, dt, ev, _⟩ := h
    rw [ev, h2p]
    rfl
  · obtain ⟨G, t, dx, v, d', dt, ev, hG, tb, ht, rd, hp, q⟩ := h
    obtain ⟨d, rfl⟩ := hpy d' dt hp
    subst ev
    obtain ⟨t1, a1, r1⟩ := g1 cdv A outer s H E t dx d dt hr hp
    obtain ⟨t2, a2, r2⟩ := g2 cdv A outer s H E t dx d dt hr hp
    obtain ⟨t3, a3, r3⟩ := g3 cdv A outer s H E d dt hr hp
    have b1 : PSs (BX Pg w K mg base N qual st f cdv A outer s H E) (defBody st) (tSeq t1 (tSeq (sFld K (tVar 0) t2 nm) t3)) := by
      rw [hb]
      exact pss_cons a1 (pss_cons (ps_fld (pe_var hN0 (hv cdv A outer s H E) hd hcd) a2 (hs cdv A outer s H E)) a3)
    refine ⟨_, b1.nox, ?_⟩
    have S0 : SR K G G (fun _ => False) H (st0 N [Ins0 C t dx, .py d]) (L2.start N [.ref t, v]) H := SR.start hG tb (.cons ⟨⟨rfl, ht⟩, fun F' H' k => ⟨rfl, k.k t _ ht rfl⟩⟩ (.cons rd .nil)) hN
    refine r1 G G (fun _ => False) H _ H _ S0 (fun F1 ρ1 σ1 H1 n1 S1 k1 => ?_) (fun _ _ _ _ _ _ z => z.elim) (fun _ _ _ _ z => z.elim) (fun _ _ _ _ z => z.elim)
    have n1 : ρ1 = st0 N [Ins0 C t dx, .py d] := n1
    subst n1
    show sFld K (tVar 0) t2 nm _ σ1 H1
    refine r2 G F1 (fun _ => False) H σ1 H1 _ S1 fun u H2 S2 w2 o2 g => ?_
    obtain ⟨v0, c1, c2⟩ := S2.val 0 (Ins0 C t dx) (by rfl)
    obtain ⟨v1', c3, c4⟩ := S2.val 1 (.py d) (by rfl)
    obtain ⟨⟨rfl, c5⟩, _⟩ := c2
    have sm : Sm H H2 := fun b o e => S2.same b o e fun z => z
    refine ⟨.ref t, c1, t, C, dx, [], rfl, c5, cl, na, by show (0 : Nat) < 1000; decide, ?_⟩
    have hu : upd H2 t (.ins C dx (putF nm u [])) t = some (.ins C dx [(nm, u)]) := upd_same
    generalize hH3 : upd H2 t (.ins C dx (putF nm u [])) = H3 at hu
    have g' : Rp K F1 H3 u dt := by rw [← hH3]; exact Rp.updI c5 g
    have c4' : Rp K F1 H3 v1' d := by rw [← hH3]; exact Rp.updI c5 c4
    have S3 : SR K F1 F1 (fun _ => False) H3 (st0 N [Ins K C nm dt, .py d]) σ1 H3 := by
      refine ⟨S2.len, fun b o e _ => .of e, fun a f => f, fun a f => ?_, fun a f => f.elim, fun i dd e => ?_, fun i m es e => (st0_own e).elim, fun i j m n ds es l e _ _ _ => (st0_own e).elim, fun a f => f.elim, S2.tb.keep fun b o q hx => ?_⟩
      · obtain ⟨o, eo⟩ := S2.all a f
        by_cases z : a = t
        · rw [z]
          exact ⟨_, hu⟩
        · exact ⟨o, by rw [← hH3, upd_ne z]; exact eo⟩
      · have e' := st0_val e
        match i, e' with
        | 0, e' =>
          cases e'
          exact ⟨_, c1, ins_rd rfl hu g'⟩
        | 1, e' =>
          cases e'
          exact ⟨_, c3, c4'⟩
        | i + 2, e' => cases e'
      · rw [← hH3, upd_ne fun z => by
          rw [z, c5] at q
          cases q
          cases hx]
        exact q
    show t3 _ σ1 H3
    refine r3 F1 F1 (fun _ => False) H3 σ1 H3 _ S3 (fun F4 ρ4 σ4 H4 _ S4 k4 => ?_) (fun _ _ _ _ _ _ z => z.elim) (fun _ _ _ _ z => z.elim) (fun _ _ _ _ z => z.elim)
    have s4 : Sm H3 H4 := fun b o e => S4.same b o e fun z => z
    refine q u H4 (fun b o e nb => (sm b o e).trans fun w ew => s4 b w ?_) S4.tb (s4 t _ hu) ((g'.ker k4).ker (ker_less fun a f => S4.sub a (S1.sub a f)))
    rw [← hH3, upd_ne nb]
    exact ew
end
/-! ### the module's names -/
structure GkP (K : PySem.W.Frag) (mg : Str → Option Value) (CS CC : Addr) : Prop where
  cl_State : Cls K CS
  cl_Code : Cls K CC
  na_State : NoAttr K CS "kept"
  na_Code : NoAttr K CC "kept"
  is1 : PySem.W.findIn K (.ref CS) "__class__" = some (some (.builtin "object.__class__"))
  is2 : PySem.W.specialIn K (.builtin "object.__class__") "__get__" = some (some (.builtin "getset_descriptor.__get__"))
  is3 : PySem.W.takesIn K (.builtin "object.__class__") = some true
  is4 : PySem.W.mroIn K CS (.type "object") = some true
  mg_State : mg "State" = some (.ref CS)
  nought : KTup K mg "NOUGHT" [0, 0, 0, 0, 0]
  sizes : KTup K mg "SIZES" [2, 4, 8, 16, 32]
  most : ∃ t, mg "MOST_WIRES" = some (.int 5 t)
section
variable {X : Cx} {ρ : List Sl} {pos : Pos} {CS CC : Addr}
theorem de_NOUGHT (G : GkP X.K X.mg CS CC) (hg : Gl X "NOUGHT" := by rfl) : DE X ρ (.Name "NOUGHT" pos) (Tu [.int 0, .int 0, .int 0, .int 0, .int 0]) ρ := G.nought.de hg (by decide)
theorem de_SIZES (G : GkP X.K X.mg CS CC) (hg : Gl X "SIZES" := by rfl) : DE X ρ (.Name "SIZES" pos) (Tu (([2, 4, 8, 16, 32] : List Int).map PyData.int)) ρ := G.sizes.de hg (by decide)
theorem de_MOST_WIRES (G : GkP X.K X.mg CS CC) (hg : Gl X "MOST_WIRES" := by rfl) : DE X ρ (.Name "MOST_WIRES" pos) (I 5) ρ := let ⟨_, h⟩ := G.most; de_globI h hg (by decide)
end
end Bw
/-! Lay12: all and sum of comprehensions; pairs of names. -/
namespace Bw
open PySem PySem.Spec PyProof.Rows L2
/-! data without lists: the frame does not matter -/
mutual
inductive NL : PyData → Prop
  | non : NL .none
  | bl (b : Bool) : NL (.bool b)
  | int (i : Int) : NL (.int i)
  | str (x : Str) : NL (.str x)
  | tup {ds : List PyData} : NLs ds → NL (.tuple ds)
inductive NLs : List PyData → Prop
  | nil : NLs []
  | cons {d : PyData} {ds : List PyData} : NL d → NLs ds → NLs (d :: ds)
end
theorem NLs.of : ∀ {ds : List PyData}, (∀ d ∈ ds, NL d) → NLs ds
  | [], _ => .nil
  | d :: ds, h => .cons (h d (by simp)) (NLs.of fun e he => h e (by simp [he]))
mutual
theorem Rp.nl {K : PySem.W.Frag} {F F' : Addr → Prop} {H : Hp} : ∀ {v : V} {d : PyData}, NL d → Rp K F H v d → Rp K F' H v d
  | _, _, _, .non => .non
  | _, _, _, .bl b => .bl b
  | _, _, _, .int i => .int i
  | _, _, _, .str x => .str x
  | _, _, n, .lst _ _ _ => nomatch n
  | _, _, .tup n, .tup h r => .tup h (RpAll.nl n r)
theorem RpAll.nl {K : PySem.W.Frag} {F F' : Addr → Prop} {H : Hp} : ∀ {vs : List V} {ds : List PyData}, NLs ds → RpAll K F H vs ds → RpAll K F' H vs ds
  | _, _, _, .nil => .nil
  | _, _, .cons n m, .cons a r => .cons (Rp.nl n a) (RpAll.nl m r)
end
section
variable {X : Cx} {ρ ρ1 ρ2 ρ3 : List Sl} {a b c e o tg iter elt : Expr} {es ifs : List Expr} {pos p p2 p3 apos cpos : Pos} {ds fs : List PyData} {i j k : Int} {n : Nat} {y : Nat → PyData} {scope : Scope} {own : List (Str × Nat)}
theorem rp_trues {α : Type} {K : PySem.W.Frag} {F : Addr → Prop} {H : Hp} : ∀ {ds : List α} {vs : List V}, RpAll K F H vs (ds.map fun _ => PyData.bool true) → vs = (ds.map fun _ => true).map V.bl
  | [], _, .nil => rfl
  | d :: ds, _, .cons a r => by
    cases a
    rw [rp_trues r]
    rfl
theorem de_allT {α : Type} {l : List α} (ha : DQ X ρ a true (l.map fun _ => PyData.bool true) ρ1) (hc : X.calm = true) (hm : X.mg "all" = none) (hg : Gl X "all" := by rfl) (he : starEach [a] X.env = (false, eval a X.env) :: starEach [] X.env := by rfl) : DE X ρ (.Call (.Name "all" p) [a] [] pos) (B true) ρ1 := by
  have e : (l.map fun _ => PyData.bool true) = (l.map fun _ => true).map PyData.bool := by rw [List.map_map]; rfl
  rw [e] at ha
  have q := de_all (pos := pos) (p := p) ha hc hm hg he
  have e2 : (l.map fun _ => true).all id = true := by
    rw [List.all_map]
    exact List.all_eq_true.mpr fun _ _ => rfl
  rw [e2] at q
  exact q
theorem de_allC {α : Type} {l : List α} (own : List (Str × Nat)) (hc : X.calm = true) (hN : X.N.Nodup) (ok : BlkOk X.N X.env.scope scope own) (h : LcW X ρ tg iter ifs elt scope own (l.map fun _ => PyData.bool true) ρ1) (hm : X.mg "all" = none) (hs : ∀ x, foldedSetIterable iter X.env x = pure x := by intro _; rfl) (hg : Gl X "all" := by rfl)
    (he : starEach [.ListComp elt [⟨tg, iter, ifs, 0⟩] scope p3] X.env = (false, eval (.ListComp elt [⟨tg, iter, ifs, 0⟩] scope p3) X.env) :: starEach [] X.env := by rfl) :
    DE X ρ (.Call (.Name "all" p) [.ListComp elt [⟨tg, iter, ifs, 0⟩] scope p3] [] pos) (B true) ρ1 := de_allT (DL.lst (dl_lc own hc hN ok h hs)) hc hm hg he
theorem de_sumC {α : Type} {l : List α} (f : α → Int) (own : List (Str × Nat)) (hc : X.calm = true) (hN : X.N.Nodup) (ok : BlkOk X.N X.env.scope scope own) (h : LcW X ρ tg iter ifs elt scope own (l.map fun x => PyData.int (f x)) ρ1) (hm : X.mg "sum" = none) (hs : ∀ x, foldedSetIterable iter X.env x = pure x := by intro _; rfl) (hg : Gl X "sum" := by rfl)
    (he : starEach [.ListComp elt [⟨tg, iter, ifs, 0⟩] scope p3] X.env = (false, eval (.ListComp elt [⟨tg, iter, ifs, 0⟩] scope p3) X.env) :: starEach [] X.env := by rfl) :
    DE X ρ (.Call (.Name "sum" p) [.ListComp elt [⟨tg, iter, ifs, 0⟩] scope p3] [] pos) (I (l.map f).sum) ρ1 := by
  have e : (l.map fun x => PyData.int (f x)) = (l.map f).map PyData.int := by rw [List.map_map]; rfl
  rw [e] at h
  exact de_sum (DL.lst (dl_lc own hc hN ok h hs)) hc hm hg he
/-- over things told by their place; several names -/
theorem lcw_at {ρj : Nat → List Sl} (js : List Nat) (f : Nat → PyData) (h : DI X false ρ tg iter n y ρ1) (hn : n ≤ 100000) (hjs : ∀ j ∈ js, j ∈ own.map (·.2)) (hw : ∀ i, wpe (ρj i) (own.map (·.2)) = wpe ρ1 (own.map (·.2)))
    (hg : ∀ i, i < n → ∀ (s : Shared) (H : Hp) (C : Addr) (cl : List (Str × Addr)) (fp : List Addr), DG (X.blk s H scope (compEnvC scope cl C X.env) fp) (wpe ρ1 (own.map (·.2))) tg (.py (y i)) (ρj i) js)
    (he : ∀ i, i < n → ∀ (s : Shared) (H : Hp) (C : Addr) (cl : List (Str × Addr)) (fp : List Addr), DE (X.blk s H scope (compEnvC scope cl C X.env) fp) (ρj i) elt (.py (f i)) (ρj i)) :
    LcW X ρ tg iter [] elt scope own ((List.range n).map f) ρ1 := by
  have q := lcw_pure (ifs := []) f (fun _ => true) h hn fun i hi => ⟨ρj i, js, hjs, hw i, hg i hi, fun s H C cl fp => dts_nil, fun _ => he i hi⟩
  have e : (List.range n).filter (fun _ => true) = List.range n := List.filter_eq_self.mpr fun _ _ => rfl
  rw [e] at q
  exact q
theorem lcw_atF {ρj : Nat → List Sl} (js : List Nat) (tb : Nat → Bool) (f : Nat → PyData) (h : DI X false ρ tg iter n y ρ1) (hn : n ≤ 100000) (hjs : ∀ j ∈ js, j ∈ own.map (·.2)) (hw : ∀ i, wpe (ρj i) (own.map (·.2)) = wpe ρ1 (own.map (·.2)))
    (hg : ∀ i, i < n → ∀ (s : Shared) (H : Hp) (C : Addr) (cl : List (Str × Addr)) (fp : List Addr), DG (X.blk s H scope (compEnvC scope cl C X.env) fp) (wpe ρ1 (own.map (·.2))) tg (.py (y i)) (ρj i) js)
    (ht : ∀ i, i < n → ∀ (s : Shared) (H : Hp) (C : Addr) (cl : List (Str × Addr)) (fp : List Addr), DTs (X.blk s H scope (compEnvC scope cl C X.env) fp) (ρj i) ifs (tb i))
    (he : ∀ i, i < n → tb i = true → ∀ (s : Shared) (H : Hp) (C : Addr) (cl : List (Str × Addr)) (fp : List Addr), DE (X.blk s H scope (compEnvC scope cl C X.env) fp) (ρj i) elt (.py (f i)) (ρj i)) :
    LcW X ρ tg iter ifs elt scope own (((List.range n).filter tb).map f) ρ1 :=
  lcw_pure f tb h hn fun i hi => ⟨ρj i, js, hjs, hw i, hg i hi, ht i hi, he i hi⟩
theorem dss_seqA {st : Stmt} {rest : List Stmt} {P : Po} {Q : List Sl → Prop} (h : DS X ρ st { P with nx := Q }) (h2 : ∀ ρ', Q ρ' → DSs X ρ' rest P) : DSs X ρ (st :: rest) P :=
  dss_seqQ h ⟨_, pss_all, fun ρ' hq F0 F M H0 σ H E S q1 q2 q3 q4 => by
    obtain ⟨t, t1, t2⟩ := h2 ρ' hq
    exact ⟨t, t1, t2 F0 F M H0 σ H E S q1 q2 q3 q4⟩⟩
theorem natI (m : Int) (h : 0 ≤ m) : D.py (.int m) = I ((m.toNat : Nat) : Int) := by rw [Int.toNat_of_nonneg h]
/-- C(x), x a list of one's own that the instance doesn't keep -/
theorem de_makeO (i : Nat) {x y : Str} {k : Nat} {ps : List Str} {C : Addr} {nm : Str} {dt : PyData} {j : Nat} {ipre : D → PyData → Prop} {m : Bool} (M : CaI X.prog X.w X.K X.mg X.base x C k ps (SpI X.K C nm ipre)) (hr : Room j X.A) (hp : ipre (Li ds) dt) (hnl : NL dt) (hv : ρ[i]? = some (Sl.own m ds) := by rfl) (hj : k + 1 ≤ j := by decide) (hN : X.N[i]? = some y := by rfl) (hvs : Vis X.env.scope y := by first | exact Or.inl rfl | exact Or.inr (Or.inl rfl) | exact Or.inr (Or.inr rfl)) (hdy : (y == ("__debug__" : Str)) = false := by decide) (hcy : (y == ("__classdict__" : Str)) = false := by decide)
    (hg : Gl X x := by rfl) (hdb : (x == ("__debug__" : Str)) = false := by decide) (he : starEach [.Name y p2] X.env = (false, eval (.Name y p2) X.env) :: starEach [] X.env := by rfl) : DE X ρ (.Call (.Name x p) [.Name y p2] [] pos) (Ins X.K C nm dt) ρ := by
  obtain ⟨f, fd, mk, hb, F⟩ := M.ex
  refine ⟨_, pe_make mk F (hr.mono hj) hg M.mgC hb .nil pass0 (pa_cons (pe_var hN hvs hdy hcy) pa_nil he) hdb he, fun F0 F M0 H0 σ H Q S q => ?_⟩
  obtain ⟨l, vs, h1, h2, h3, h4, h5⟩ := S.own i m _ hv
  refine ⟨_, h1, fun t dx nt ndx ne => ?_⟩
  have s1 : Same H (upd (upd H dx (.own t)) t (.ins C dx [])) := fun b u eb => by
    rw [upd_ne (ne_of_none eb nt), upd_ne (ne_of_none eb ndx)]
    exact eb
  refine ⟨fun _ => False, t, dx, .ref l, Li ds, dt, rfl, fun _ f => f.elim, S.tb.same s1, upd_same, Rp.lst (s1 l _ h2) (fun z => z) ((h3.ker (Ker.same s1)).ker (ker_less fun a f => f.elim)), hp, fun u H2 o2 t2 h2 r2 => ⟨rfl, ?_⟩⟩
  have s2 : Sm H H2 := fun b u' eb => o2 b u' (s1 b u' eb) (ne_of_none eb nt)
  exact q _ H2 (S.growT s2 t2) (Shp.refl _) (Off.sm s2) (ins_rd rfl h2 (Rp.nl hnl r2))
end
end Bw
/-! Lay13: comprehensions over coded lists. -/
namespace Bw
open PySem PySem.Spec PyProof.Rows L2
theorem range_filter {α β : Type} (d : β) : ∀ (l : List α) (p : α → Bool) (f : α → β), ((List.range l.length).filter fun i => (l[i]?.map p).getD false).map (fun i => (l[i]?.map f).getD d) = (l.filter p).map f
  | [], p, f => rfl
  | a :: l, p, f => by
    have ih := range_filter d l p f
    rw [List.length_cons, List.range_succ_eq_map, List.filter_cons, List.filter_map, List.filter_cons]
    have e0 : ((a :: l)[0]?.map p).getD false = p a := rfl
    have e1 : ((fun i => ((a :: l)[i]?.map p).getD false) ∘ Nat.succ) = fun i => (l[i]?.map p).getD false := rfl
    have e2 : ((fun i => ((a :: l)[i]?.map f).getD d) ∘ Nat.succ) = fun i => (l[i]?.map f).getD d := rfl
    rw [e0, e1]
    cases p a with
    | true =>
      simp only [if_true, List.map_cons, List.map_map]
      rw [e2, ih]
      rfl
    | false =>
      simp only [Bool.false_eq_true, if_false, List.map_map]
      rw [e2, ih]
theorem range_mapA {α β : Type} (d : β) (l : List α) (f : α → β) : (List.range l.length).map (fun i => (l[i]?.map f).getD d) = l.map f := by
  have h := range_filter d l (fun _ => true) f
  have e1 : ((List.range l.length).filter fun i => (l[i]?.map fun _ => true).getD false) = List.range l.length := by
    apply List.filter_eq_self.mpr
    intro i hi
    rw [List.getElem?_eq_getElem (List.mem_range.mp hi)]
    rfl
  have e2 : l.filter (fun _ => true) = l := List.filter_eq_self.mpr fun _ _ => rfl
  rw [e1, e2] at h
  exact h
theorem find_at {α : Type} {l : List α} {p : α → Bool} {i : Nat} (hi : i < l.length) (h : (l.take i).find? p = none) (hb : p l[i] = true) : l.find? p = some l[i] := by
  have e : l = l.take i ++ l[i] :: l.drop (i + 1) := by rw [← List.drop_eq_getElem_cons hi, List.take_append_drop]
  have q := congrArg (List.find? p) e
  rw [List.find?_append, h, List.find?_cons, hb] at q
  exact q
theorem find_next {α : Type} {l : List α} {p : α → Bool} {i : Nat} (hi : i < l.length) (h : (l.take i).find? p = none) (hb : p l[i] = false) : (l.take (i + 1)).find? p = none := by
  rw [List.take_succ, List.find?_append, h, List.getElem?_eq_getElem hi]
  show Option.or none ([l[i]].find? p) = none
  rw [List.find?_cons, hb]
  rfl
section
variable {X : Cx} {ρ ρ1 ρ2 ρ3 : List Sl} {a b c e o tg iter elt : Expr} {es ifs : List Expr} {pos p p2 p3 apos cpos : Pos} {ds fs : List PyData} {i j k : Int} {n : Nat} {y : Nat → PyData} {scope : Scope} {own : List (Str × Nat)}
theorem lcw_seqA {α : Type} {xn : Str} {e : α → PyData} {l : List α} (j : Nat) (p : α → Bool) (f : α → PyData) (h : DI X false ρ (.Name xn p2) iter (l.map e).length (at_ (l.map e)) ρ1) (hn : l.length ≤ 100000)
    (hg : ∀ d (s : Shared) (H : Hp) (C : Addr) (cl : List (Str × Addr)) (fp : List Addr), DG (X.blk s H scope (compEnvC scope cl C X.env) fp) (ρ1.set j .any) (.Name xn p2) d ((ρ1.set j .any).set j (.val d)) [j])
    (ht : ∀ a, a ∈ l → ∀ (s : Shared) (H : Hp) (C : Addr) (cl : List (Str × Addr)) (fp : List Addr), DTs (X.blk s H scope (compEnvC scope cl C X.env) fp) (ρ1.set j (.val (.py (e a)))) ifs (p a))
    (he : ∀ a, a ∈ l → p a = true → ∀ (s : Shared) (H : Hp) (C : Addr) (cl : List (Str × Addr)) (fp : List Addr), DE (X.blk s H scope (compEnvC scope cl C X.env) fp) (ρ1.set j (.val (.py (e a)))) elt (.py (f a)) (ρ1.set j (.val (.py (e a))))) :
    LcW X ρ (.Name xn p2) iter ifs elt scope [(xn, j)] ((l.filter p).map f) ρ1 := by
  rw [← range_filter .none l p f]
  have en : (l.map e).length = l.length := List.length_map ..
  rw [en] at h
  refine lcw_pure (fun i => (l[i]?.map f).getD .none) (fun i => (l[i]?.map p).getD false) h hn fun i hi => ?_
  have hm : l[i] ∈ l := List.getElem_mem hi
  have e1 : at_ (l.map e) i = e l[i] := at_eq (by rw [List.getElem?_map, List.getElem?_eq_getElem hi]; rfl)
  have e2 : (l[i]?.map p).getD false = p l[i] := by rw [List.getElem?_eq_getElem hi]; rfl
  have e3 : (l[i]?.map f).getD .none = f l[i] := by rw [List.getElem?_eq_getElem hi]; rfl
  rw [e1, e2, e3]
  refine ⟨ρ1.set j (.val (.py (e l[i]))), [j], fun _ h => h, ?_, fun s H C cl fp => ?_, ht _ hm, he _ hm⟩
  · show (ρ1.set j (Sl.val _)).set j Sl.any = ρ1.set j Sl.any
    rw [List.set_set]
  · have q := hg (.py (e l[i])) s H C cl fp
    rw [List.set_set] at q
    exact q
theorem lcw_mapA {α : Type} {xn : Str} {e : α → PyData} {l : List α} (j : Nat) (f : α → PyData) (h : DI X false ρ (.Name xn p2) iter (l.map e).length (at_ (l.map e)) ρ1) (hn : l.length ≤ 100000)
    (hg : ∀ d (s : Shared) (H : Hp) (C : Addr) (cl : List (Str × Addr)) (fp : List Addr), DG (X.blk s H scope (compEnvC scope cl C X.env) fp) (ρ1.set j .any) (.Name xn p2) d ((ρ1.set j .any).set j (.val d)) [j])
    (he : ∀ a, a ∈ l → ∀ (s : Shared) (H : Hp) (C : Addr) (cl : List (Str × Addr)) (fp : List Addr), DE (X.blk s H scope (compEnvC scope cl C X.env) fp) (ρ1.set j (.val (.py (e a)))) elt (.py (f a)) (ρ1.set j (.val (.py (e a))))) :
    LcW X ρ (.Name xn p2) iter [] elt scope [(xn, j)] (l.map f) ρ1 := by
  have q := lcw_seqA (ifs := []) j (fun _ => true) f h hn hg (fun _ _ _ _ _ _ _ => dts_nil) fun d hd _ => he d hd
  have e : l.filter (fun _ => true) = l := List.filter_eq_self.mpr fun _ _ => rfl
  rw [e] at q
  exact q
theorem at_map {α : Type} {e : α → PyData} {l : List α} {i : Nat} (h : i < l.length) : at_ (l.map e) i = e l[i] := at_eq (by rw [List.getElem?_map, List.getElem?_eq_getElem h]; rfl)
end
end Bw
/-! Lay14: calls that change the list handed in, their arguments changing it too. -/
namespace Bw
open PySem PySem.Spec PyProof.Rows L2
section
variable {X : Cx} {ρ ρ1 ρ2 ρ3 : List Sl} {a b c e o : Expr} {es : List Expr} {pos p p2 apos : Pos} {d : D} {x m : Str} {k : Nat} {ps : List Str} {dr : List D} {pre : List D → D → Prop}
theorem das_consE {i : Nat} {d1 d2 : List D} (ha : DE X ρ a d ρ1) (hr : DAS X ρ1 i es d1 d2 ρ2) (hs : starEach (a :: es) X.env = (false, eval a X.env) :: starEach es X.env := by rfl) : DAS X ρ i (a :: es) (d :: d1) d2 ρ2 := by
  obtain ⟨_, p1, r1⟩ := ha
  obtain ⟨_, p2, r2⟩ := hr
  exact ⟨_, pa_cons p1 p2 hs, fun F0 F M H0 σ H Q S q => r1 F0 F M H0 σ H _ S fun v H1 S1 w1 o1 g1 => r2 F0 F M H0 σ H1 _ S1 fun v1 l v2 H2 S2 w2 o2 e g2 g3 =>
    q (v :: v1) l v2 H2 S2 (w1.trans w2) (off2 o1 w1 o2) e (.cons (g1.ker (S1.ker o2)) g2) g3⟩
theorem de_callSE {j i : Nat} {n n' : Int} {d1 d2 : List D} {spre : Int → List D → List D → D → Int → Prop} (C : Cal X.prog X.w X.K X.mg X.base x k ps (SpS X.K spre)) (hr : Room j X.A) (ha : DAS X ρ i (a :: es) d1 d2 ρ1) (h : ρ1[i]? = some (Sl.own true [.int n])) (hp : spre n d1 d2 d n') (hj : k ≤ j := by decide) (hg : Gl X x := by rfl)
    (hdb : (x == ("__debug__" : Str)) = false := by decide) (he : starEach (a :: es) X.env = (false, eval a X.env) :: starEach es X.env := by rfl) (hpl : (backTo pos (starEach es X.env)).any (·.1) = false := by rfl) : DE X ρ (.Call (.Name x p) (a :: es) [] pos) d (ρ1.set i (.own true [.int n'])) := by
  obtain ⟨f, fd, hm, hk, hb, F⟩ := C.ex
  obtain ⟨_, p1, r1⟩ := ha
  refine ⟨_, pe_call F (hr.mono hj) hg hm hk hb .nil pass0 p1 hdb he hpl, fun F0 F M H0 σ H Q S q => r1 F0 F M H0 σ H _ S fun v1 l v2 H1 S1 w1 o1 e g1 g2 => ?_⟩
  obtain ⟨l', vs, h1, h2, h3, h4, h5⟩ := S1.own i true _ h
  rw [e] at h1
  cases h1
  have ev := rp_int1 h3
  subst ev
  refine ⟨F, l, n, v1, v2, d1, d2, d, n', by rw [List.append_nil], S1.all, S1.tb, h4, h2, g1, g2, hp, fun v H2 o2 t2 hl r2 => ?_⟩
  obtain ⟨S2, w2, oo⟩ := S1.put h e o2 t2 hl
  exact q v H2 S2 (w1.trans w2) (off2 o1 w1 oo) r2
/-- an item of the list handed in -/
theorem de_ixM (i : Nat) {mm : Bool} {ds : List PyData} {kk : Int} {y : Str} {z : PyData} (hb : DE X ρ b (I kk) ρ) (h : atI ds kk = some z) (hv : ρ[i]? = some (Sl.own mm ds) := by rfl) (hN : X.N[i]? = some y := by rfl) (hvs : Vis X.env.scope y := by first | exact Or.inl rfl | exact Or.inr (Or.inl rfl) | exact Or.inr (Or.inr rfl)) (hd : (y == ("__debug__" : Str)) = false := by decide)
    (hcd : (y == ("__classdict__" : Str)) = false := by decide) (hs : PlainIx b := by exact fun _ _ => rfl) : DE X ρ (.Subscript (.Name y p) b pos) (.py z) ρ := by
  obtain ⟨_, p2, r2⟩ := hb
  refine ⟨_, pe_ix ix_seq (pe_var hN hvs hd hcd) p2 hs, fun F0 F M H0 σ H Q S q => ?_⟩
  obtain ⟨l, vs, h1, h2, h3, h4, h5⟩ := S.own i mm _ hv
  refine ⟨_, h1, r2 F0 F M H0 σ H _ S fun w H2 S2 w2 o2 g2 => ?_⟩
  cases g2
  obtain ⟨l', vs', e1, e2, e3, _⟩ := S2.own i mm _ hv
  rw [h1] at e1
  cases e1
  obtain ⟨v, q1, q2⟩ := atI_map (R := fun v d => Rp X.K F H2 v d) e3.length (fun j y e => e3.get' e) h
  exact .inl ⟨_, _, _, _, rfl, rfl, SqL.of e2, q1, q _ H2 S2 w2 o2 q2⟩
end
end Bw
/-! Lay15: comprehensions over a range. -/
namespace Bw
open PySem PySem.Spec PyProof.Rows L2
section
variable {X : Cx} {ρ ρ1 ρ2 ρ3 : List Sl} {a b c e o tg iter elt : Expr} {es ifs : List Expr} {pos p p2 p3 apos cpos : Pos} {ds fs : List PyData} {i j k : Int} {n : Nat} {y : Nat → PyData} {scope : Scope} {own : List (Str × Nat)}
theorem lcw_rangeM {xn : Str} (j : Nat) (f : Nat → PyData) (h : DI X false ρ (.Name xn p2) iter n y ρ1) (hn : n ≤ 100000)
    (hg : ∀ d (s : Shared) (H : Hp) (C : Addr) (cl : List (Str × Addr)) (fp : List Addr), DG (X.blk s H scope (compEnvC scope cl C X.env) fp) (ρ1.set j .any) (.Name xn p2) d ((ρ1.set j .any).set j (.val d)) [j])
    (he : ∀ i, i < n → ∀ (s : Shared) (H : Hp) (C : Addr) (cl : List (Str × Addr)) (fp : List Addr), DE (X.blk s H scope (compEnvC scope cl C X.env) fp) (ρ1.set j (.val (.py (y i)))) elt (.py (f i)) (ρ1.set j (.val (.py (y i))))) :
    LcW X ρ (.Name xn p2) iter [] elt scope [(xn, j)] ((List.range n).map f) ρ1 := by
  have q := lcw_range (ifs := []) j (fun _ => true) f h hn hg (fun _ _ _ _ _ _ _ => dts_nil) fun i hi _ => he i hi
  have e : (List.range n).filter (fun _ => true) = List.range n := List.filter_eq_self.mpr fun _ _ => rfl
  rw [e] at q
  exact q
/-- a list of one's own that is not changed any more -/
theorem dss_freeze {st : List Stmt} {P : Po} (i : Nat) (h : DSs X (ρ.set i (.val (Li ds))) st P) (hv : ρ[i]? = some (Sl.own false ds) := by rfl) : DSs X ρ st P := by
  obtain ⟨t, p1, r1⟩ := h
  refine ⟨t, p1, fun F0 F M H0 σ H E S q1 q2 q3 q4 => ?_⟩
  obtain ⟨l, vs, h1, h2, h3, h4, h5⟩ := S.own i false _ hv
  have h6 : H0 l = none ∧ ¬ F0 l := by simpa using h5
  have hi : i < ρ.length := (List.getElem?_eq_some_iff.mp hv).1
  have nM : ¬ M l := fun z => by
    obtain ⟨o, e⟩ := S.m0 l z
    rw [h6.1] at e
    cases e
  have less : ∀ a, (F a ∧ a ≠ l) → F a := fun a z => z.1
  have S2 : SR X.K F0 (fun a => F a ∧ a ≠ l) M H0 (ρ.set i (.val (Li ds))) σ H := by
    refine ⟨by rw [List.length_set]; exact S.len, S.same, fun a f => ⟨S.sub a f, fun z => h6.2 (z ▸ f)⟩, fun a z => S.all a z.1, fun a z => ⟨S.mf a z, fun e => nM (e ▸ z)⟩, fun j d e => ?_, fun j m es e => ?_, fun j1 j2 m1 m2 d1 d2 l' e1 e2 g1 g2 => ?_, S.m0, S.tb⟩
    · by_cases z : i = j
      · subst z
        rw [List.getElem?_set_self hi] at e
        cases e
        exact ⟨_, h1, Rp.lst h2 (fun q => q.2 rfl) (h3.ker (ker_less less))⟩
      · rw [List.getElem?_set_ne z] at e
        obtain ⟨v, g1, g2⟩ := S.val j d e
        exact ⟨v, g1, g2.ker (ker_less less)⟩
    · by_cases z : i = j
      · subst z
        rw [List.getElem?_set_self hi] at e
        cases e
      · rw [List.getElem?_set_ne z] at e
        obtain ⟨l2, vs2, g1, g2, g3, g4, g5⟩ := S.own j m es e
        have ne : l2 ≠ l := fun q => z (S.inj i j _ _ _ _ l hv e h1 (by rw [← q]; exact g1))
        exact ⟨l2, vs2, g1, g2, g3.ker (ker_less less), ⟨g4, ne⟩, g5⟩
    · have back : ∀ (j : Nat) (m : Bool) (es : List PyData), (ρ.set i (Sl.val (Li ds)))[j]? = some (Sl.own m es) → ρ[j]? = some (Sl.own m es) := fun j m es e => by
        by_cases z : i = j
        · subst z
          rw [List.getElem?_set_self hi] at e
          cases e
        · rw [List.getElem?_set_ne z] at e
          exact e
      exact S.inj j1 j2 _ _ _ _ l' (back _ _ _ e1) (back _ _ _ e2) g1 g2
  have kk : ∀ {F' : Addr → Prop} {H' : Hp}, Ker (fun a => F a ∧ a ≠ l) H F' H' → Ker F H F' H' := fun k => ⟨k.k, fun a xs n e => k.l a xs (fun z => n z.1) e⟩
  exact r1 F0 _ M H0 σ H E S2 (fun F' ρ' σ' H' n S' k => q1 F' ρ' σ' H' n S' (kk k)) (fun F' ρ' σ' H' d v n S' k r => q2 F' ρ' σ' H' d v n S' (kk k) r) (fun F' ρ' σ' H' n S' k => q3 F' ρ' σ' H' n S' (kk k)) (fun F' ρ' σ' H' n S' k => q4 F' ρ' σ' H' n S' (kk k))
theorem rl_state {vs : List Nat} {ρt : List Sl} {a b : List PyData} (h0 : 0 ∉ vs) : Rl vs (Sl.own true a :: ρt) (Sl.own true b :: ρt) := by
  refine ⟨rfl, fun j hj => ?_, fun j d e => ?_, fun j d e => ?_, fun j m => ?_⟩
  · cases j with
    | zero => exact absurd hj h0
    | succ j => rfl
  · cases j with
    | zero => cases e
    | succ j => exact e
  · cases j with
    | zero => cases e
    | succ j => exact e
  · cases j with
    | zero =>
      constructor
      · rintro ⟨d, e⟩
        cases e
        exact ⟨_, rfl⟩
      · rintro ⟨d, e⟩
        cases e
        exact ⟨_, rfl⟩
    | succ j => exact Iff.rfl
/-- a comprehension whose element changes the list of one number handed in at slot 0 -/
theorem lcw_st {xn : Str} {ρt : List Sl} (st : Nat → Int) (j : Nat) (f : Nat → PyData) (hj : j ≠ 0) (h : DI X false ρ (.Name xn p2) iter n y (Sl.own true [.int (st 0)] :: ρt)) (hn : n ≤ 100000)
    (hg : ∀ i d (s : Shared) (H : Hp) (C : Addr) (cl : List (Str × Addr)) (fp : List Addr), DG (X.blk s H scope (compEnvC scope cl C X.env) fp) ((Sl.own true [.int (st i)] :: ρt).set j .any) (.Name xn p2) d (((Sl.own true [.int (st i)] :: ρt).set j .any).set j (.val d)) [j])
    (he : ∀ i, i < n → ∀ (s : Shared) (H : Hp) (C : Addr) (cl : List (Str × Addr)) (fp : List Addr), DE (X.blk s H scope (compEnvC scope cl C X.env) fp) ((Sl.own true [.int (st i)] :: ρt).set j (.val (.py (y i)))) elt (.py (f i)) ((Sl.own true [.int (st (i + 1))] :: ρt).set j (.val (.py (y i))))) :
    LcW X ρ (.Name xn p2) iter [] elt scope [(xn, j)] ((List.range n).map f) (Sl.own true [.int (st n)] :: ρt) := by
  refine ⟨lc_all (E := fun i => Sl.own true [.int (st i)] :: ρt) (out := fun i => (List.range i).map f) h hn rfl (fun i _ => rl_state (by simpa using hj.symm)) rfl fun i hi => ?_⟩
  refine ⟨(Sl.own true [.int (st i)] :: ρt).set j (.val (.py (y i))), [j], true, fun _ h => h, fun s H C cl fp => ?_, fun s H C cl fp => dts_nil, fun _ => ⟨f i, _, he i hi, ?_, ?_⟩, fun z => nomatch z⟩
  · have q := hg i (.py (y i)) s H C cl fp
    rw [List.set_set] at q
    exact q
  · show ((Sl.own true [PyData.int (st (i + 1))] :: ρt).set j (Sl.val _)).set j Sl.any = (Sl.own true [PyData.int (st (i + 1))] :: ρt).set j Sl.any
    rw [List.set_set]
  · rw [List.range_succ, List.map_append]
    rfl
end
end Bw
/-! Lay16: a slice whose bound changes the list handed in. -/
namespace Bw
open PySem PySem.Spec PyProof.Rows L2
section
variable {X : Cx} {ρ ρ1 ρ2 ρ3 : List Sl} {a b c e o tg iter elt : Expr} {pos p p2 : Pos} {ds fs : List PyData} {i : Int}
theorem dl_slVE (ha : DE X ρ a (Li ds) ρ) (hb : DE X ρ b (I i) ρ1) : DL X ρ (.Subscript a (.Slice none (some b) none p2) pos) (cutD ds none (some i)) ρ1 := by
  obtain ⟨_, p1, r1⟩ := ha
  obtain ⟨_, q1, s1⟩ := hb
  refine ⟨_, pe_slice sl_list p1 po_none (po_some q1), fun F0 F M H0 σ H Q S q => r1 F0 F M H0 σ H _ S fun v H1 S1 w1 o1 g1 => s1 F0 F M H0 σ H1 _ S1 fun u H2 S2 w2 o2 g2 => ?_⟩
  cases g2
  refine ⟨_, rfl, ?_⟩
  have g3 : RD X.K F H2 v (Li ds) := g1.ker (S1.ker o2)
  clear g1
  have oo : Off (Ow ρ σ) H H2 := o1.trans o2
  cases g3 with
  | @lst t vs _ h1 n1 g1 =>
    refine ⟨t, vs, rfl, SqL.of h1, fun p hp => ?_⟩
    obtain ⟨S4, r4⟩ := rl_of_new (te' := fun _ _ _ => True) S2 hp (g1.cut none (some i))
    exact q p _ _ (new_back S S2 oo hp) S4 w2 (oo.trans (Off.same (same_new hp))) upd_same r4
end
end Bw
/-! Lay17: sorted of a list of data. -/
namespace Bw
open PySem PySem.Spec PyProof.Rows L2
open PySem.W (EachIs AllAlike Sortable dataLe)
def srt (ds : List PyData) : List PyData := ds.mergeSort (dataLe false id)
def rSortD (K : PySem.W.Frag) : List V → Hp → VK → Prop := fun vs H Q => ∃ (a : Addr) (bs : List (V × PyData)), vs = [.ref a] ∧ SqL K H a (bs.map (·.1)) ∧ (∀ b ∈ bs, Dp K H b.1 b.2) ∧ AllAlike (bs.map (·.2)) ∧ Sortable (bs.map (·.2)) ∧ bs.length ≤ sizeLine ∧ (∀ b ∈ bs, b.2.depth ≤ 60) ∧
  ∀ p, H p = none → Q (.ref p) (upd H p (.lst ((bs.mergeSort (dataLe false (·.2))).map (·.1))))
theorem each_vals : ∀ {bs : List (V × PyData)} {us : List Value}, Vals (bs.map (·.1)) us → EachIs (fun v (b : V × PyData) => RelV b.1 v) us bs
  | [], _, .nil => .nil
  | b :: bs, _, .cons r h => .cons r (each_vals h)
theorem vals_each : ∀ {bs : List (V × PyData)} {us : List Value}, EachIs (fun v (b : V × PyData) => RelV b.1 v) us bs → Vals (bs.map (·.1)) us
  | [], _, .nil => .nil
  | b :: bs, _, .cons r h => .cons r (vals_each h)
section
variable {X : Cx}
theorem cr_sortD (hu : X.A.units + 66 < cLine) : CallR X (.builtin "sorted") (rSortD X.K) := by
  intro pins s σ H xs us Q I r h
  obtain ⟨a, bs, rfl, hs, hd, hal, hk, hL, hdep, q⟩ := h
  obtain rfl := Vals.ref1 r
  obtain ⟨its, rv, pl, hz⟩ := I.list hs
  have e := each_vals rv
  have er : EachIs (fun v (b : V × PyData) => ∃ as, Reads s.heap v b.2 as) its bs := by
    have : ∀ {bs : List (V × PyData)} {us : List Value}, (∀ b ∈ bs, Dp X.K H b.1 b.2) → EachIs (fun v (b : V × PyData) => RelV b.1 v) us bs → EachIs (fun v (b : V × PyData) => ∃ as, Reads s.heap v b.2 as) us bs := fun {bs us} hb he => by
      induction he with
      | nil => exact .nil
      | cons r _ ih => exact .cons (Dp.reads I _ _ _ (hb _ (by simp)) r) (ih fun b hb' => hb b (by simp [hb']))
    exact this hd e
  refine PySem.W.sorted_data pl.isList e er hal hk hL (fun b hb => ?_) fun out hlen eo => ?_
  · have := hdep b hb
    omega
  · obtain ⟨ep, he'⟩ := PyProof.Rows.sortedAll_at s.heap its out.toArray
    have rv' := vals_each eo
    have hlen2 : ((bs.mergeSort (dataLe false (·.2))).map (·.1)).length ≤ sizeLine := by rw [List.length_map, List.length_mergeSort]; exact hL
    exact ⟨.ref _, upd H (s.heap.objs.size + 1) (.lst ((bs.mergeSort (dataLe false (·.2))).map (·.1))), I.laid (t' := s.toks) (fun _ _ => PyProof.Rows.sortedAll_old) (Nat.le_succ _) ⟨hlen2, _, ep, rv', he'⟩, rfl, q _ (I.hok.fresh (Nat.le_succ _))⟩
end
theorem rp_zip {K : PySem.W.Frag} {F : Addr → Prop} {H : Hp} : ∀ {vs : List V} {ds : List PyData}, RpAll K F H vs ds → (vs.zip ds).map (·.1) = vs ∧ (vs.zip ds).map (·.2) = ds ∧ ∀ b ∈ vs.zip ds, Rp K F H b.1 b.2
  | _, _, .nil => ⟨rfl, rfl, fun b hb => by simp at hb⟩
  | _, _, .cons a r => by
    obtain ⟨h1, h2, h3⟩ := rp_zip r
    refine ⟨by rw [List.zip_cons_cons, List.map_cons, h1], by rw [List.zip_cons_cons, List.map_cons, h2], fun b hb => ?_⟩
    rw [List.zip_cons_cons] at hb
    rcases List.mem_cons.mp hb with h | h
    · rw [h]
      exact a
    · exact h3 b h
theorem rp_of_zip {K : PySem.W.Frag} {F : Addr → Prop} {H : Hp} : ∀ {bs : List (V × PyData)}, (∀ b ∈ bs, Rp K F H b.1 b.2) → RpAll K F H (bs.map (·.1)) (bs.map (·.2))
  | [], _ => .nil
  | b :: bs, h => .cons (h b (by simp)) (rp_of_zip fun c hc => h c (by simp [hc]))
theorem srt_zip (bs : List (V × PyData)) : (bs.mergeSort (dataLe false (·.2))).map (·.2) = srt (bs.map (·.2)) := PySem.W.sort_maps (fun b : V × PyData => b.2) fun _ _ _ _ => rfl
section
variable {X : Cx} {ρ ρ1 : List Sl} {a : Expr} {p pos : Pos} {ds : List PyData} {bb : Bool}
theorem dl_sorted (ha : DE X ρ a (Li ds) ρ1) (hu : X.A.units + 66 < cLine) (hal : AllAlike ds) (hk : Sortable ds) (hL : ds.length ≤ 100000) (hd : ∀ d ∈ ds, d.depth ≤ 60) (hm : X.mg "sorted" = none) (hg : Gl X "sorted" := by rfl) (he : starEach [a] X.env = (false, eval a X.env) :: starEach [] X.env := by rfl) :
    DL X ρ (.Call (.Name "sorted" p) [a] [] pos) (srt ds) ρ1 := by
  obtain ⟨_, p1, r1⟩ := ha
  refine ⟨_, pe_callB (cr_sortD hu) hg hm (by decide +kernel) (pa_cons p1 pa_nil he) (by decide) (by decide) he, fun F0 F M H0 σ H Q S q => r1 F0 F M H0 σ H _ S fun v H1 S1 w1 o1 g1 => ?_⟩
  cases g1 with
  | @lst t vs _ h1 n1 g1 =>
    obtain ⟨e1, e2, e3⟩ := rp_zip g1
    refine ⟨t, vs.zip ds, rfl, by rw [e1]; exact SqL.of h1, fun b hb => (e3 b hb).dp, by rw [e2]; exact hal, by rw [e2]; exact hk, ?_, fun b hb => ?_, fun l hl => ?_⟩
    · rw [List.length_zip, g1.length, Nat.min_self]
      exact sz _ hL
    · have m : b.2 ∈ ds := by rw [← e2]; exact List.mem_map_of_mem hb
      exact hd _ m
    · have rp := rp_of_zip (K := X.K) (F := F) (H := H1) (bs := (vs.zip ds).mergeSort (dataLe false (·.2))) fun b hb => e3 b ((List.mergeSort_perm _ _).mem_iff.mp hb)
      rw [srt_zip, e2] at rp
      obtain ⟨S2, r2⟩ := rl_of_new (te' := fun _ _ _ => True) S1 hl rp
      exact q l _ _ (new_back S S1 o1 hl) S2 w1 (o1.trans (Off.same (same_new hl))) upd_same r2
end
theorem srt_eq {α : Type} {enc : α → PyData} {l m : List α} (hp : l.Perm m) (hs : m.Pairwise fun a b => dataLe false enc a b = true) (ha : ∀ a ∈ l, ∀ b ∈ m, dataLe false enc a b = true → dataLe false enc b a = true → a = b) : srt (l.map enc) = m.map enc := by
  have e : srt (l.map enc) = (l.mergeSort (dataLe false enc)).map enc := (PySem.W.sort_maps enc fun _ _ _ _ => rfl).symm
  rw [e]
  have T : PySem.W.TotalLe (dataLe false enc) := PySem.W.sortLe_total _ _ _
  refine congrArg (List.map enc) (List.Perm.eq_of_pairwise (le := fun a b => dataLe false enc a b = true) (fun a b h1 h2 h3 h4 => ha a ((List.mergeSort_perm _ _).mem_iff.mp h1) b h2 h3 h4) (PySem.W.sort_pairwise T l) hs ((List.mergeSort_perm _ _).trans hp))
end Bw
/-! Lay18: ranges with a step, upwards. -/
namespace Bw
open PySem PySem.Spec PyProof.Rows L2
def stepN (i j k : Int) : Nat := (Builtin.Range.rangeSize i j k).toNat
theorem rgc_up {i j k : Int} (h1 : 0 ≤ i) (h2 : i ≤ 1000000) (h3 : 0 ≤ j) (h4 : j ≤ 1000000) (h5 : 1 ≤ k) (h6 : k ≤ 1000000) : RgC i j k (stepN i j k) := by
  have hk : k > 0 := by omega
  by_cases hij : i < j
  · have d0 : 0 ≤ (j - i - 1) / k := Int.ediv_nonneg (by omega) (by omega)
    have d1 : (j - i - 1) / k ≤ j - i - 1 := Int.ediv_le_self _ (by omega)
    have es : Builtin.Range.rangeSize i j k = (j - i - 1) / k + 1 := by
      unfold Builtin.Range.rangeSize
      rw [if_pos hk, if_pos hij]
    have dm := Int.mul_ediv_add_emod (j - i - 1) k
    have m0 : 0 ≤ k * ((j - i - 1) / k) := Int.mul_nonneg (by omega) d0
    have m1 : k * ((j - i - 1) / k) ≤ j - i - 1 := by
      have := Int.emod_nonneg (j - i - 1) (b := k) (by omega)
      omega
    refine ⟨by omega, by omega, ?_, ?_⟩
    · unfold Builtin.Range.small
      rw [es]
      simp only [Builtin.Range.rangeFitsLong, Bool.and_eq_true, Bool.or_eq_true, decide_eq_true_eq, beq_iff_eq, hk, if_true]
      first | omega | (refine ⟨?_, ?_⟩ <;> omega) | (simp; omega) | (split <;> omega)
    · unfold stepN
      rw [es]
      omega
  · have es : Builtin.Range.rangeSize i j k = 0 := by
      unfold Builtin.Range.rangeSize
      rw [if_pos hk, if_neg hij]
    refine ⟨by omega, by omega, ?_, ?_⟩
    · unfold Builtin.Range.small
      rw [es]
      simp only [Builtin.Range.rangeFitsLong, Bool.and_eq_true, Bool.or_eq_true, decide_eq_true_eq, beq_iff_eq, hk, if_true]
      first | omega | (refine ⟨?_, ?_⟩ <;> omega) | (simp; omega) | (split <;> omega)
    · unfold stepN
      rw [es]
      rfl
theorem stepN_lt {i j k : Int} (h1 : 0 ≤ i) (h5 : 1 ≤ k) {m : Nat} (hm : m < stepN i j k) : 0 ≤ i + (m : Int) * k ∧ i + (m : Int) * k < j := by
  have hk : k > 0 := by omega
  by_cases hij : i < j
  · have es : Builtin.Range.rangeSize i j k = (j - i - 1) / k + 1 := by
      unfold Builtin.Range.rangeSize
      rw [if_pos hk, if_pos hij]
    have d0 : 0 ≤ (j - i - 1) / k := Int.ediv_nonneg (by omega) (by omega)
    unfold stepN at hm
    rw [es] at hm
    have hm2 : (m : Int) ≤ (j - i - 1) / k := by omega
    have q := Int.mul_le_of_le_ediv hk hm2
    have p0 : 0 ≤ (m : Int) * k := Int.mul_nonneg (by omega) (by omega)
    omega
  · have es : Builtin.Range.rangeSize i j k = 0 := by
      unfold Builtin.Range.rangeSize
      rw [if_pos hk, if_neg hij]
    unfold stepN at hm
    rw [es] at hm
    exact absurd hm (Nat.not_lt_zero m)
end Bw
/-! Lay19: tuples known to be new. -/
namespace Bw
open PySem PySem.Spec PyProof.Rows L2
/-- a new tuple -/
def TupN (K : PySem.W.Frag) (ds : List PyData) : D := .ob fun F H v => ∃ (a : Addr) (vs : List V), v = .ref a ∧ H a = some (.tup vs) ∧ RpAll K F H vs ds
theorem tupN_rd {K : PySem.W.Frag} {F : Addr → Prop} {H : Hp} {v : V} {a : Addr} {vs : List V} {ds : List PyData} (e : v = .ref a) (h : H a = some (.tup vs)) (r : RpAll K F H vs ds) : RD K F H v (TupN K ds) :=
  ⟨⟨a, vs, e, h, r⟩, fun F' H' k => ⟨a, vs, e, k.k a _ h rfl, r.ker k⟩⟩
section
variable {X : Cx} {ρ ρ1 ρ2 : List Sl} {a b e : Expr} {p pos : Pos} {ds : List PyData}
theorem DQis {bb : Bool} {fs : List PyData} (h : DQ X ρ a bb ds ρ1) (e : ds = fs) : DQ X ρ a bb fs ρ1 := e ▸ h
theorem DE.tu (h : DE X ρ a (TupN X.K ds) ρ1) : DE X ρ a (Tu ds) ρ1 := by
  obtain ⟨t, p1, r1⟩ := h
  refine ⟨t, p1, fun F0 F M H0 σ H Q S q => r1 F0 F M H0 σ H Q S fun v H1 S1 w1 o1 g1 => ?_⟩
  obtain ⟨⟨c, vs, rfl, h1, h2⟩, _⟩ := g1
  exact q _ H1 S1 w1 o1 (Rp.tup (.inl h1) h2)
theorem de_tupleN (ha : DQ X ρ a true ds ρ1) (hm : X.mg "tuple" = none) (hg : Gl X "tuple" := by rfl) (he : starEach [a] X.env = (false, eval a X.env) :: starEach [] X.env := by rfl) : DE X ρ (.Call (.Name "tuple" p) [a] [] pos) (TupN X.K ds) ρ1 := by
  obtain ⟨_, p1, r1⟩ := ha
  refine ⟨_, pe_callTy call_tuple_of hg hm (by decide +kernel) (pa_cons p1 pa_nil he) (by decide) (by decide) he, re_cbq r1 fun F H t vs q1 q2 Q q => ?_⟩
  refine ⟨t, vs, rfl, .inl ⟨SqL.of q1, fun l hl => ?_⟩⟩
  have s : Same H (upd H l (.tup vs)) := same_new hl
  exact q _ _ s (tupN_rd rfl upd_same (q2.ker (Ker.same s)))
end
end Bw
/-! Pl1: what the rows do to a list of numbers, in plain terms. -/
namespace Bw
open PySem
theorem bi_mul (a b : Bool) : bi a * bi b = bi (a && b) := by cases a <;> cases b <;> rfl
theorem bi_xor (a b : Bool) : Builtin.bitXor (bi a) (bi b) = bi (a ^^ b) := by cases a <;> cases b <;> rfl
theorem bitAnd_nat (a b : Nat) : Builtin.bitAnd (a : Int) (b : Int) = ((a &&& b : Nat) : Int) := by
  unfold Builtin.bitAnd
  simp
theorem add_xa : ∀ (n a b : Nat), a ≤ n → a + b = (a ^^^ b) + 2 * (a &&& b)
  | 0, a, b, h => by
    have : a = 0 := by omega
    subst this
    simp
  | n + 1, a, b, h => by
    by_cases ha : a = 0
    · subst ha
      simp
    have ih := add_xa n (a / 2) (b / 2) (by omega)
    have x1 := @Nat.xor_div_two a b
    have x2 := @Nat.and_div_two a b
    have x3 := @Nat.xor_mod_two_pow a b 1
    have x4 := @Nat.and_mod_two_pow a b 1
    rw [← x1, ← x2] at ih
    have ca : a % 2 = 0 ∨ a % 2 = 1 := by omega
    have cb : b % 2 = 0 ∨ b % 2 = 1 := by omega
    simp only [Nat.pow_one] at x3 x4
    have e0 : (0 : Nat) ^^^ 0 = 0 := rfl
    have e1 : (0 : Nat) ^^^ 1 = 1 := rfl
    have e2 : (1 : Nat) ^^^ 0 = 1 := rfl
    have e3 : (1 : Nat) ^^^ 1 = 0 := rfl
    have f0 : (0 : Nat) &&& 0 = 0 := rfl
    have f1 : (0 : Nat) &&& 1 = 0 := rfl
    have f2 : (1 : Nat) &&& 0 = 0 := rfl
    have f3 : (1 : Nat) &&& 1 = 1 := rfl
    rcases ca with ca | ca <;> rcases cb with cb | cb <;> rw [ca, cb] at x3 x4 <;> simp only [e0, e1, e2, e3, f0, f1, f2, f3] at x3 x4 <;> omega
theorem bitXor_nat (a b : Nat) : Builtin.bitXor (a : Int) (b : Int) = ((a ^^^ b : Nat) : Int) := by
  rw [PyProof.Rows.bitXor_and, bitAnd_nat]
  have h := add_xa a a b (Nat.le_refl a)
  omega
theorem bit_val (h k : Nat) : Builtin.bitAnd ((h : Int) / 2 ^ k) 1 = bi (h.testBit k) := by
  have e : (h : Int) / 2 ^ k = ((h / 2 ^ k : Nat) : Int) := by
    rw [Int.natCast_ediv, Int.natCast_pow]
    rfl
  rw [PyProof.Rows.bitAnd_m1, e, Nat.testBit_eq_decide_div_mod_eq]
  have c : h / 2 ^ k % 2 = 0 ∨ h / 2 ^ k % 2 = 1 := by omega
  rcases c with c | c
  · rw [c]
    show _ = (0 : Int)
    omega
  · rw [c]
    show _ = (1 : Int)
    omega
def tnR : Pl → Nat → Int
  | [], _ => 0
  | (x, z) :: p, h => (if z then 4 * bi (h.testBit p.length) + 2 * bi x else 0) + tnR p h
def flR : Pl → Nat
  | [] => 0
  | (x, _) :: p => (if x then 2 ^ p.length else 0) + flR p
def ampAt (zs : List Amp) (h : Nat) : Amp := zs[h]?.getD zeroA
def act (r : Row) (zs : List Amp) : List Amp := (List.range zs.length).map fun j => rotN ((4 * bi r.t + tnR r.p (j ^^^ flR r.p)) % 8).toNat (ampAt zs (j ^^^ flR r.p))
theorem flR_lt : ∀ p : Pl, flR p < 2 ^ p.length
  | [] => by decide
  | (x, z) :: p => by
    have ih := flR_lt p
    simp only [flR, List.length_cons, Nat.pow_succ]
    cases x <;> simp <;> omega
end Bw
/-! Pl2: rows' products and whether they commute, in plain terms. -/
namespace Bw
open PySem
def plAt (p : Pl) (i : Nat) : Bool × Bool := p[i]?.getD (false, false)
def omw (a b : Bool × Bool) : Bool := (a.1 && b.2) ^^ (a.2 && b.1)
def om : Pl → Pl → Bool
  | a :: p, b :: q => omw a b ^^ om p q
  | _, _ => false
def xw (a b : Bool × Bool) : Bool × Bool := (a.1 ^^ b.1, a.2 ^^ b.2)
def plx : Pl → Pl → Pl
  | a :: p, b :: q => xw a b :: plx p q
  | _, _ => []
def qw (a b : Bool × Bool) : Int := bi a.1 * bi a.2 + bi b.1 * bi b.2 + 2 * bi a.2 * bi b.1 - bi (a.1 ^^ b.1) * bi (a.2 ^^ b.2)
def qs : Pl → Pl → Int
  | a :: p, b :: q => qw a b + qs p q
  | _, _ => 0
def quar (r s : Row) : Int := 2 * (bi r.t + bi s.t) + qs r.p s.p
def mul (r s : Row) : Row := ⟨decide (quar r s % 4 / 2 = 1), plx r.p s.p⟩
theorem plx_len : ∀ {p q : Pl}, q.length = p.length → (plx p q).length = p.length
  | [], [], _ => rfl
  | a :: p, b :: q, h => by
    simp only [plx, List.length_cons] at h ⊢
    rw [plx_len (by omega)]
theorem plAt_get {p : Pl} {i : Nat} (h : i < p.length) : p[i]? = some (plAt p i) := by
  unfold plAt
  rw [List.getElem?_eq_getElem h]
  rfl
theorem pl_drop {p : Pl} {i : Nat} (h : i < p.length) : p.drop i = plAt p i :: p.drop (i + 1) := by
  have e : p[i] = plAt p i := by
    have := plAt_get h
    rw [List.getElem?_eq_getElem h] at this
    exact Option.some.inj this
  rw [List.drop_eq_getElem_cons h, e]
theorem plx_get : ∀ {p q : Pl} {i : Nat}, q.length = p.length → i < p.length → (plx p q)[i]? = some (xw (plAt p i) (plAt q i))
  | a :: p, b :: q, 0, _, _ => rfl
  | a :: p, b :: q, i + 1, h, hi => by
    simp only [List.length_cons] at h hi
    show (plx p q)[i]? = _
    rw [plx_get (i := i) (by omega) (by omega)]
    rfl
theorem plx_take {p q : Pl} {i : Nat} (h : q.length = p.length) (hi : i < p.length) : (plx p q).take (i + 1) = (plx p q).take i ++ [xw (plAt p i) (plAt q i)] := by
  rw [List.take_succ, plx_get h hi]
  rfl
theorem sum_range {f : Nat → Int} : ∀ n : Nat, ((List.range (n + 1)).map f).sum = f 0 + ((List.range n).map fun i => f (i + 1)).sum := fun n => by
  rw [List.range_succ_eq_map, List.map_cons, List.sum_cons, List.map_map]
  rfl
theorem om_sum : ∀ (p q : Pl), q.length = p.length → ((List.range p.length).map fun i => bi (omw (plAt p i) (plAt q i))).sum % 2 = bi (om p q)
  | [], [], _ => rfl
  | a :: p, b :: q, h => by
    simp only [List.length_cons] at h
    have ih := om_sum p q (by omega)
    rw [List.length_cons, sum_range]
    have e : ((List.range p.length).map fun i => bi (omw (plAt (a :: p) (i + 1)) (plAt (b :: q) (i + 1)))) = (List.range p.length).map fun i => bi (omw (plAt p i) (plAt q i)) := rfl
    rw [e]
    show (bi (omw a b) + _) % 2 = bi (omw a b ^^ om p q)
    rw [Int.add_emod, ih]
    cases omw a b <;> cases om p q <;> rfl
theorem flips_sum : ∀ p : Pl, ((List.range p.length).map fun i => bi (plAt p i).1 * 2 ^ (p.length - 1 - i)).sum = ((flR p : Nat) : Int)
  | [] => rfl
  | (x, z) :: p => by
    have ih := flips_sum p
    rw [List.length_cons, sum_range]
    have e : ((List.range p.length).map fun i => bi (plAt ((x, z) :: p) (i + 1)).1 * (2 : Int) ^ (p.length + 1 - 1 - (i + 1))) = (List.range p.length).map fun i => bi (plAt p i).1 * (2 : Int) ^ (p.length - 1 - i) := by
      apply List.map_congr_left
      intro i hi
      have e2 : p.length + 1 - 1 - (i + 1) = p.length - 1 - i := by omega
      rw [e2]
      rfl
    rw [e, ih]
    show bi x * 2 ^ (p.length + 1 - 1 - 0) + ((flR p : Nat) : Int) = (((if x then 2 ^ p.length else 0) + flR p : Nat) : Int)
    have e3 : p.length + 1 - 1 - 0 = p.length := by omega
    rw [e3]
    cases x <;> simp [bi]
end Bw
/-! Pl3: clearing and reducing rows, in plain terms; rows as data. -/
namespace Bw
open PySem L2
def bitB (r : Row) (k : Nat) : Bool := (r.xs ++ r.zs)[k]?.getD false
def bitsI (r : Row) : List Int := r.xs.map bi ++ r.zs.map bi
theorem bitsI_eq (r : Row) : bitsI r = (r.xs ++ r.zs).map bi := by simp [bitsI]
theorem bitsI_len (r : Row) : (bitsI r).length = 2 * r.p.length := by
  simp [bitsI, Row.xs, Row.zs]
  omega
theorem atI_bits {r : Row} {k : Nat} (h : k < 2 * r.p.length) : atI (bitsI r) ((k : Nat) : Int) = some (bi (bitB r k)) := by
  have hl := bitsI_len r
  unfold atI ixN
  rw [if_pos (by omega), if_pos (by omega)]
  show (bitsI r)[((k : Nat) : Int).toNat]? = _
  rw [Int.toNat_natCast, bitsI_eq, List.getElem?_map]
  unfold bitB
  have hk : k < (r.xs ++ r.zs).length := by simp [Row.xs, Row.zs]; omega
  rw [List.getElem?_eq_getElem hk]
  rfl
def mixR (k : Nat) (first row : Row) : Row := if bitB row k = true then mul first row else row
def clStep (k : Nat) (st : List Row × List Row) : List Row × List Row :=
  match st.1.find? (fun r => bitB r k) with
  | none => st
  | some first => ((st.1.eraseIdx (st.1.findIdx fun r => bitB r k)).map (mixR k first), st.2.map (mixR k first) ++ [first])
def clLoop (rs : List Row) : Nat → List Row × List Row
  | 0 => (rs, [])
  | k + 1 => clStep k (clLoop rs k)
def clearR (n : Nat) (rs : List Row) : List Row := (clLoop rs (2 * n)).2
def leadI (r : Row) : Nat := (bitsI r).idxOf 1
def redStep (row one : Row) : Row := if bitB row (leadI one) = true then mul one row else row
def redR (row : Row) (rows : List Row) : Row := rows.foldl redStep row
/-- all of n wires -/
def AllN (n : Nat) (rs : List Row) : Prop := ∀ r ∈ rs, r.p.length = n
theorem mul_len {r s : Row} {n : Nat} (h : r.p.length = n) (h2 : s.p.length = n) : (mul r s).p.length = n := by
  show (plx r.p s.p).length = n
  rw [plx_len (by omega), h]
theorem mixR_len {k : Nat} {r s : Row} {n : Nat} (h : r.p.length = n) (h2 : s.p.length = n) : (mixR k r s).p.length = n := by
  unfold mixR
  split
  · exact mul_len h h2
  · exact h2
theorem clStep_ok {n k : Nat} {a b : List Row} (ha : AllN n a) (hb : AllN n b) : AllN n (clStep k (a, b)).1 ∧ AllN n (clStep k (a, b)).2 ∧ (clStep k (a, b)).1.length + (clStep k (a, b)).2.length ≤ a.length + b.length := by
  unfold clStep
  cases h : a.find? (fun r => bitB r k) with
  | none => exact ⟨ha, hb, Nat.le_refl _⟩
  | some first =>
    have hf := ha first (List.mem_of_find?_eq_some h)
    have hex : ∃ x ∈ a, bitB x k = true := ⟨first, List.mem_of_find?_eq_some h, by simpa using List.find?_some h⟩
    have hi : a.findIdx (fun r => bitB r k) < a.length := List.findIdx_lt_length_of_exists hex
    refine ⟨fun r hr => ?_, fun r hr => ?_, ?_⟩
    · obtain ⟨s, hs, rfl⟩ := List.mem_map.mp hr
      exact mixR_len hf (ha s (List.mem_of_mem_eraseIdx hs))
    · rcases List.mem_append.mp hr with hr | hr
      · obtain ⟨s, hs, rfl⟩ := List.mem_map.mp hr
        exact mixR_len hf (hb s hs)
      · rw [List.mem_singleton.mp hr]
        exact hf
    · simp only [List.length_map, List.length_append, List.length_singleton, List.length_eraseIdx, hi, if_true]
      omega
theorem clLoop_ok {n : Nat} {rs : List Row} (h : AllN n rs) : ∀ k, AllN n (clLoop rs k).1 ∧ AllN n (clLoop rs k).2 ∧ (clLoop rs k).1.length + (clLoop rs k).2.length ≤ rs.length
  | 0 => ⟨h, fun r hr => by simp [clLoop] at hr, by simp [clLoop]⟩
  | k + 1 => by
    obtain ⟨h1, h2, h3⟩ := clLoop_ok h k
    obtain ⟨q1, q2, q3⟩ := clStep_ok (k := k) h1 h2
    exact ⟨q1, q2, Nat.le_trans q3 h3⟩
theorem find_facts {α : Type} {p : α → Bool} {x : α} : ∀ {l : List α}, l.find? p = some x → l[l.findIdx p]? = some x ∧ (∀ m y, m < l.findIdx p → l[m]? = some y → p y = false) ∧ (l.filter p)[0]? = some x ∧ p x = true
  | [], h => by simp at h
  | a :: l, h => by
    rw [List.find?_cons] at h
    cases hp : p a with
    | true =>
      rw [hp] at h
      cases h
      refine ⟨by rw [List.findIdx_cons, hp]; rfl, fun m y hm => ?_, by rw [List.filter_cons_of_pos hp]; rfl, hp⟩
      rw [List.findIdx_cons, hp] at hm
      exact absurd hm (Nat.not_lt_zero m)
    | false =>
      rw [hp] at h
      obtain ⟨h1, h2, h3, h4⟩ := find_facts h
      refine ⟨by rw [List.findIdx_cons, hp]; simpa using h1, fun m y hm hy => ?_, by rw [List.filter_cons_of_neg (by simp [hp])]; exact h3, h4⟩
      rw [List.findIdx_cons, hp] at hm
      simp only [cond_false] at hm
      cases m with
      | zero => simp at hy; rw [← hy]; exact hp
      | succ m => exact h2 m y (by omega) (by simpa using hy)
theorem atI_n {α : Type} {l : List α} {i : Nat} {x : α} (h : l[i]? = some x) : atI l ((i : Nat) : Int) = some x := by
  have hi : i < l.length := (List.getElem?_eq_some_iff.mp h).1
  unfold atI ixN
  rw [if_pos (by omega), if_pos (by omega)]
  show l[((i : Nat) : Int).toNat]? = _
  rw [Int.toNat_natCast, h]
theorem erase_map {α β : Type} (g : α → β) : ∀ (l : List α) (j : Nat), (l.map g).eraseIdx j = (l.eraseIdx j).map g
  | [], j => by simp
  | a :: l, 0 => rfl
  | a :: l, j + 1 => by
    show g a :: (l.map g).eraseIdx j = g a :: (l.eraseIdx j).map g
    rw [erase_map g l j]
theorem sel_bi {α : Type} (b : Bool) (x y : α) : atI [x, y] (bi b) = some (if b = true then y else x) := by
  cases b
  · exact atI_n (i := 0) rfl
  · exact atI_n (i := 1) rfl
theorem sel_int (b : Bool) (x y : Int) : atI [PyData.int x, .int y] (bi b) = some (.int (if b = true then y else x)) := by
  rw [sel_bi]
  cases b <;> rfl
/-! rows as data -/
theorem eBits_lay (l : List Bool) : (eBits l).canLay0 = true := eB_lay l
theorem eBits_depth (l : List Bool) : (eBits l).depth ≤ 2 := by
  show PyData.depthAll (l.map eB) + 1 ≤ 2
  have := eB_depth l
  omega
theorem eRow_lay (r : Row) : (eRow r).canLay0 = true := by
  show (PyData.canLay0 (.int (bi r.t)) && (PyData.canLay0 (eBits r.xs) && (PyData.canLay0 (eBits r.zs) && true))) = true
  rw [eBits_lay, eBits_lay]
  rfl
theorem eRow_depth (r : Row) : (eRow r).depth ≤ 3 := by
  show max (PyData.depth (.int (bi r.t))) (max (PyData.depth (eBits r.xs)) (max (PyData.depth (eBits r.zs)) 0)) + 1 ≤ 3
  have h1 := eBits_depth r.xs
  have h2 := eBits_depth r.zs
  have h3 : PyData.depth (.int (bi r.t)) ≤ 1 := by simp [PyData.depth]
  omega
theorem lays_of {α : Type} {e : α → PyData} (h : ∀ a, (e a).canLay0 = true) : ∀ l : List α, PyData.canLayAll0 (l.map e) = true
  | [] => rfl
  | a :: l => by
    show (PyData.canLay0 (e a) && PyData.canLayAll0 (l.map e)) = true
    rw [h, lays_of h l]
    rfl
theorem depths_of {α : Type} {e : α → PyData} {n : Nat} (h : ∀ a, (e a).depth ≤ n) : ∀ l : List α, PyData.depthAll (l.map e) ≤ n
  | [] => Nat.zero_le _
  | a :: l => by
    show max (PyData.depth (e a)) (PyData.depthAll (l.map e)) ≤ n
    have h1 := h a
    have h2 := depths_of h l
    omega
theorem row_shaped (r : Row) : SeqAt.shaped (eRow r) = true := shaped_of (eRow_lay r) (Nat.le_trans (eRow_depth r) (by decide))
theorem rows_shaped (l : List Row) : SeqAt.shaped (.list (l.map eRow)) = true := shaped_of (lays_of eRow_lay l) (by
  show PyData.depthAll (l.map eRow) + 1 ≤ 64
  have := depths_of eRow_depth l
  omega)
theorem eB_eqv (a b : Bool) : PyData.eqv (eB a) (eB b) = (a == b) := by cases a <;> cases b <;> simp [eB, PyData.eqv, bi]
theorem eBs_eqv : ∀ a b : List Bool, PyData.eqvAll (a.map eB) (b.map eB) = (a == b)
  | [], [] => by simp [PyData.eqvAll]
  | [], b :: l => by simp [PyData.eqvAll]
  | a :: l, [] => by simp [PyData.eqvAll]
  | a :: l, b :: m => by
    show (PyData.eqv (eB a) (eB b) && PyData.eqvAll (l.map eB) (m.map eB)) = _
    rw [eB_eqv, eBs_eqv l m]
    rfl
theorem eBits_eqv (a b : List Bool) : PyData.eqv (eBits a) (eBits b) = (a == b) := by
  show PyData.eqvAll (a.map eB) (b.map eB) = _
  exact eBs_eqv a b
theorem pl_ext : ∀ {p q : Pl}, p.map (·.1) = q.map (·.1) → p.map (·.2) = q.map (·.2) → p = q
  | [], [], _, _ => rfl
  | [], b :: q, h, _ => by simp at h
  | a :: p, [], h, _ => by simp at h
  | (x, z) :: p, (u, v) :: q, h, k => by
    simp only [List.map_cons, List.cons.injEq] at h k
    obtain ⟨rfl, h⟩ := h
    obtain ⟨rfl, k⟩ := k
    rw [pl_ext h k]
theorem eRow_eqv (r s : Row) : PyData.eqv (eRow r) (eRow s) = decide (r = s) := by
  show (PyData.eqv (eB r.t) (eB s.t) && (PyData.eqv (eBits r.xs) (eBits s.xs) && (PyData.eqv (eBits r.zs) (eBits s.zs) && true))) = _
  rw [eB_eqv, eBits_eqv, eBits_eqv, Bool.and_true]
  by_cases h : r = s
  · subst h
    simp
  · rw [decide_eq_false h]
    by_cases h1 : r.t = s.t
    · by_cases h2 : r.xs = s.xs
      · have h3 : r.zs ≠ s.zs := fun h3 => h (by
          cases r
          cases s
          simp only [Row.mk.injEq]
          exact ⟨h1, pl_ext h2 h3⟩)
        simp [h3]
      · simp [h2]
    · simp [h1]
end Bw
/-! Pl4: errors by size, signs, a code's rows, in plain terms. -/
namespace Bw
open PySem L2
def szw (a : Bool × Bool) : Bool := a.1 || a.2
def wt (p : Pl) : Nat := (p.filter szw).length
theorem wt_le (p : Pl) : wt p ≤ p.length := List.length_filter_le ..
theorem wt_range (p : Pl) : ((List.range p.length).filter fun i => (p[i]?.map szw).getD false).length = wt p := by
  have h := congrArg List.length (range_filter () p szw fun _ => ())
  simp only [List.length_map] at h
  exact h
/-- all rows of bits, in order -/
def blR : Nat → List (List Bool)
  | 0 => [[]]
  | n + 1 => (blR n).map (false :: ·) ++ (blR n).map (true :: ·)
def zipB (xs zs : List Bool) : Pl := xs.zip zs
def allR (n : Nat) : List Row := (blR n).flatMap fun xs => (blR n).map fun zs => ⟨false, zipB xs zs⟩
/-- all errors of n wires, the smaller first -/
def errR (n : Nat) : List Row := (List.range (n + 1)).flatMap fun k => (allR n).filter fun e => wt e.p == k
theorem blR_each : ∀ n, ∀ l ∈ blR n, l.length = n
  | 0, l, h => by simp [blR] at h; rw [h]; rfl
  | n + 1, l, h => by
    simp only [blR, List.mem_append, List.mem_map] at h
    rcases h with ⟨m, hm, rfl⟩ | ⟨m, hm, rfl⟩ <;> simp [blR_each n m hm]
theorem blR_len : ∀ n, (blR n).length = 2 ^ n
  | 0 => rfl
  | n + 1 => by
    simp only [blR, List.length_append, List.length_map, blR_len n]
    omega
theorem allR_each {n : Nat} {e : Row} (h : e ∈ allR n) : e.t = false ∧ e.p.length = n := by
  unfold allR at h
  obtain ⟨xs, hx, h⟩ := List.mem_flatMap.mp h
  obtain ⟨zs, hz, rfl⟩ := List.mem_map.mp h
  exact ⟨rfl, by simp [zipB, blR_each n xs hx, blR_each n zs hz]⟩
theorem errR_each {n : Nat} {e : Row} (h : e ∈ errR n) : e.t = false ∧ e.p.length = n := by
  unfold errR at h
  obtain ⟨k, hk, h⟩ := List.mem_flatMap.mp h
  exact allR_each (List.mem_filter.mp h).1
theorem errR_few {n : Nat} (h : n ≤ 5) : (errR n).length ≤ 1024 := by
  have : n = 0 ∨ n = 1 ∨ n = 2 ∨ n = 3 ∨ n = 4 ∨ n = 5 := by omega
  rcases this with h | h | h | h | h | h <;> subst h <;> decide +kernel
/-- errors of at most this size -/
def errS (n k : Nat) : List Row := (errR n).filter fun e => decide (wt e.p ≤ k)
def sgns (rows : List Row) (e : Row) : List Bool := rows.map fun r => om r.p e.p
def nullR (n : Nat) : Row := ⟨false, List.replicate n (false, false)⟩
/-- the two errors do the same, by the code's rows -/
def sameR (rows : List Row) (a b : Row) : Bool := !(bitsI (redR ⟨false, plx a.p b.p⟩ rows)).contains 1
def farR (n : Nat) (rows : List Row) : Option Nat := ((errR n).find? fun e => !(sgns rows e).contains true && !sameR rows e (nullR n)).map fun e => wt e.p
/-- a code's rows: each has a 1 -/
structure Kept (n : Nat) (rows : List Row) : Prop where
  wd : Wd n
  ne : rows ≠ []
  few : rows.length ≤ 100
  alln : AllN n rows
  one : ∀ r ∈ rows, (1 : Int) ∈ bitsI r
end Bw
/-! Pl5: what the law draws, in plain terms. -/
namespace Bw
open PySem L2
def nx (n : Int) : Int := (n * 48271 + 11) % 2147483647
def dv (n m : Int) : Int := nx n / 7 % m
/-- the state behind k draws -/
def nxs (n : Int) : Nat → Int
  | 0 => n
  | k + 1 => nx (nxs n k)
def stR (ns : List Int) (k : Int) : Int :=
  let q := (ns.sum * 48271 + (ns.length : Int) * 7919 + k * 104729 + 17) % 2147483647
  1 + (q * q + 69621 * k) % 2147483629
def addA (a b : Amp) : Amp := ⟨a.a + b.a, a.b + b.b, a.c + b.c, a.d + b.d⟩
def hR (a : Nat) (r : Row) : Row := ⟨r.t ^^ ((plAt r.p a).1 && (plAt r.p a).2), r.p.set a ((plAt r.p a).2, (plAt r.p a).1)⟩
def sR (a : Nat) (r : Row) : Row := ⟨r.t ^^ ((plAt r.p a).1 && (plAt r.p a).2), r.p.set a ((plAt r.p a).1, (plAt r.p a).1 ^^ (plAt r.p a).2)⟩
def cxR (a b : Nat) (r : Row) : Row :=
  ⟨r.t ^^ ((plAt r.p a).1 && (plAt r.p b).2 && !((plAt r.p b).1 ^^ (plAt r.p a).2)), (r.p.set a ((plAt r.p a).1, (plAt r.p a).2 ^^ (plAt r.p b).2)).set b ((plAt r.p a).1 ^^ (plAt r.p b).1, (plAt r.p b).2)⟩
def tabI (n : Nat) (st : Int) : List Row := (List.range n).map fun w => ⟨decide (dv (nxs st w) 2 = 1), (List.replicate n (false, false)).set w (false, true)⟩
def tabStep (n : Nat) (s : List Row × Int) : List Row × Int :=
  let a := (dv (nx s.2) n).toNat
  if dv s.2 (if 1 < n then 3 else 2) = 2 then
    (s.1.map (cxR a (((a : Int) + 1 + dv (nx (nx s.2)) ((n : Int) - 1)) % n).toNat), nx (nx (nx s.2)))
  else (s.1.map (if dv s.2 (if 1 < n then 3 else 2) = 0 then hR a else sR a), nx (nx s.2))
def tabL (n : Nat) (st : Int) : Nat → List Row × Int
  | 0 => (tabI n st, nxs st n)
  | k + 1 => tabStep n (tabL n st k)
def rowAt (rs : List Row) (i : Nat) : Row := rs[i]?.getD ⟨false, []⟩
def mixStep (s : List Row × Int) : List Row × Int :=
  let i := (dv s.2 s.1.length).toNat
  let j := (dv (nx s.2) s.1.length).toNat
  (if i = j then s.1 else s.1.set i (mul (rowAt s.1 j) (rowAt s.1 i)), nx (nx s.2))
def mixL (rs : List Row) (st : Int) : Nat → List Row × Int
  | 0 => (rs, st)
  | k + 1 => mixStep (mixL rs st k)
def mixR8 (rs : List Row) (st : Int) : List Row × Int :=
  let s := mixL rs st 8
  let c := (dv s.2 s.1.length).toNat
  (s.1.drop c ++ s.1.take c, nx s.2)
def pz (xs zs : List Nat) : Pl := (xs.map (· == 1)).zip (zs.map (· == 1))
def rowsA : List Pl := [pz [1, 0, 0, 1, 0] [0, 1, 1, 0, 0], pz [0, 1, 0, 0, 1] [0, 0, 1, 1, 0], pz [1, 0, 1, 0, 0] [0, 0, 0, 1, 1], pz [0, 1, 0, 1, 0] [1, 0, 0, 0, 1]]
def plB1 : Pl := pz [1, 1, 1, 1] [0, 0, 0, 0]
def plB2 : Pl := pz [0, 0, 0, 0] [1, 1, 1, 1]
def plC1 : Pl := pz [0, 0, 0] [1, 1, 0]
def plC2 : Pl := pz [0, 0, 0] [0, 1, 1]
def bitD (st : Int) : Bool := decide (dv st 2 = 1)
/-- the code's rows and the state behind them -/
def codeR (st : Int) : List Row × Int :=
  let way := dv st 6
  let s1 := nx st
  if way = 0 then ((List.range 4).map fun k => ⟨bitD (nxs s1 k), rowsA[k]?.getD []⟩, nxs s1 4)
  else if way = 1 then ([⟨bitD s1, plB1⟩, ⟨bitD (nx s1), plB2⟩], nx (nx s1))
  else if way = 2 then ([⟨false, plC1⟩, ⟨bitD s1, plC2⟩], nx s1)
  else
    let n := (1 + dv s1 (if way % 2 = 0 then 4 else 5)).toNat
    let s2 := nx s1
    let t := tabL n (nx s2) (1 + dv s2 25).toNat
    let m := mixR8 t.1 t.2
    (m.1.take (1 + dv m.2 n).toNat, nx m.2)
end Bw
/-! Pl6: flipping wire by wire. -/
namespace Bw
open PySem L2
def upR (p : Pl) (i : Nat) : Nat := flR p - flR (p.drop i)
theorem flR_drop_le : ∀ (p : Pl) (i : Nat), flR (p.drop i) ≤ flR p
  | _, 0 => Nat.le_refl _
  | [], _ + 1 => Nat.le_refl _
  | (x, z) :: p, i + 1 => by
    have := flR_drop_le p i
    show flR (p.drop i) ≤ (if x = true then 2 ^ p.length else 0) + flR p
    omega
theorem upR_step {p : Pl} {i : Nat} (h : i < p.length) : upR p (i + 1) = upR p i + (if (plAt p i).1 = true then 2 ^ (p.length - 1 - i) else 0) := by
  have h1 := flR_drop_le p i
  have h2 := flR_drop_le p (i + 1)
  have e : flR (p.drop i) = (if (plAt p i).1 = true then 2 ^ (p.length - 1 - i) else 0) + flR (p.drop (i + 1)) := by
    rw [pl_drop h]
    have hk : (p.drop (i + 1)).length = p.length - 1 - i := by rw [List.length_drop]; omega
    rw [← hk]
    rfl
  unfold upR
  omega
theorem upR_div {p : Pl} : ∀ i, i ≤ p.length → 2 ^ (p.length - i) ∣ upR p i
  | 0, _ => by
    unfold upR
    rw [List.drop_zero, Nat.sub_self]
    exact Nat.dvd_zero _
  | i + 1, h => by
    have ih := upR_div (p := p) i (by omega)
    rw [upR_step (by omega)]
    have e : p.length - (i + 1) = p.length - 1 - i := by omega
    rw [e]
    refine Nat.dvd_add (Nat.dvd_trans (Nat.pow_dvd_pow 2 (by omega)) ih) ?_
    split
    · exact Nat.dvd_refl _
    · exact Nat.dvd_zero _
theorem bit_up {p : Pl} {i : Nat} (h : i < p.length) : (upR p i).testBit (p.length - 1 - i) = false := by
  obtain ⟨q, hq⟩ := upR_div (p := p) i (by omega)
  rw [hq, Nat.testBit_eq_decide_div_mod_eq]
  have e : p.length - i = (p.length - 1 - i) + 1 := by omega
  rw [e, Nat.pow_succ, Nat.mul_assoc, Nat.mul_div_cancel_left _ (Nat.two_pow_pos _)]
  simp
theorem and_pow (T k : Nat) : T &&& 2 ^ k = (T.testBit k).toNat * 2 ^ k := by
  apply Nat.eq_of_testBit_eq
  intro i
  rw [Nat.testBit_and, Nat.testBit_two_pow]
  by_cases h : k = i
  · subst h
    cases T.testBit k
    · simp
    · simp [Nat.testBit_two_pow]
  · cases T.testBit k
    · simp [h]
    · simp [Nat.testBit_two_pow, h]
theorem xor_pow (T k : Nat) : ((T ^^^ 2 ^ k : Nat) : Int) = (T : Int) + (if T.testBit k = true then -((2 ^ k : Nat) : Int) else ((2 ^ k : Nat) : Int)) := by
  have h := add_xa T T (2 ^ k) (Nat.le_refl T)
  rw [and_pow] at h
  cases hb : T.testBit k with
  | true =>
    rw [hb] at h
    simp only [Bool.toNat_true, Nat.one_mul] at h
    simp only [if_true]
    omega
  | false =>
    rw [hb] at h
    simp only [Bool.toNat_false, Nat.zero_mul, Nat.mul_zero, Nat.add_zero] at h
    simp only [Bool.false_eq_true, if_false]
    omega
theorem up_xor {p : Pl} {i : Nat} (h : i < p.length) (hx : (plAt p i).1 = true) : upR p (i + 1) = upR p i ^^^ 2 ^ (p.length - 1 - i) := by
  rw [upR_step h, hx, if_pos rfl]
  have q := add_xa (upR p i) (upR p i) (2 ^ (p.length - 1 - i)) (Nat.le_refl _)
  rw [and_pow, bit_up h] at q
  simpa using q
/-- one wire's flip -/
theorem flip_step {p : Pl} {i h : Nat} (hi : i < p.length) (hx : (plAt p i).1 = true) :
    ((h ^^^ upR p (i + 1) : Nat) : Int) = ((h ^^^ upR p i : Nat) : Int) + (if h.testBit (p.length - 1 - i) = true then -((2 ^ (p.length - 1 - i) : Nat) : Int) else ((2 ^ (p.length - 1 - i) : Nat) : Int)) := by
  rw [up_xor hi hx, ← Nat.xor_assoc, xor_pow, Nat.testBit_xor, bit_up hi, Bool.xor_false]
theorem flip_stay {p : Pl} {i h : Nat} (hi : i < p.length) (hx : (plAt p i).1 = false) : h ^^^ upR p (i + 1) = h ^^^ upR p i := by
  rw [upR_step hi, hx]
  simp
theorem upR_all (p : Pl) : upR p p.length = flR p := by
  unfold upR
  rw [List.drop_length]
  simp [flR]
theorem upR_zero (p : Pl) : upR p 0 = 0 := by
  unfold upR
  rw [List.drop_zero, Nat.sub_self]
theorem div_bit (h k : Nat) : (h : Int) / ((2 ^ k : Nat) : Int) % 2 = bi (h.testBit k) := by
  have e : (h : Int) / ((2 ^ k : Nat) : Int) = ((h / 2 ^ k : Nat) : Int) := (Int.natCast_ediv ..).symm
  rw [e, Nat.testBit_eq_decide_div_mod_eq]
  have c : h / 2 ^ k % 2 = 0 ∨ h / 2 ^ k % 2 = 1 := by omega
  rcases c with c | c
  · rw [c]
    show _ = (0 : Int)
    omega
  · rw [c]
    show _ = (1 : Int)
    omega
theorem pow_few {k : Nat} (h : k ≤ 5) : 1 ≤ 2 ^ k ∧ 2 ^ k ≤ 32 := by
  have : k = 0 ∨ k = 1 ∨ k = 2 ∨ k = 3 ∨ k = 4 ∨ k = 5 := by omega
  rcases this with h | h | h | h | h | h <;> subst h <;> decide
end Bw
/-! Pl7: the law's own product, counts. -/
namespace Bw
open PySem L2
def prW (a : Bool × Bool) : PyData := .tuple [eB a.1, eB a.2]
def ordD : List PyData := [.tuple [.int 1, .int 0], .tuple [.int 1, .int 1], .tuple [.int 0, .int 1]]
def pidx (a : Bool × Bool) : Nat := if a.1 = true then (if a.2 = true then 1 else 0) else 2
theorem prW_shaped (a : Bool × Bool) : SeqAt.shaped (prW a) = true := by obtain ⟨x, z⟩ := a; cases x <;> cases z <;> decide +kernel
theorem ordD_shaped : SeqAt.shaped (.list ordD) = true := by decide +kernel
theorem prW_eqv (a b : Bool × Bool) : PyData.eqv (prW a) (prW b) = (a == b) := by obtain ⟨x, z⟩ := a; obtain ⟨u, v⟩ := b; cases x <;> cases z <;> cases u <;> cases v <;> decide +kernel
theorem prW_nul (a : Bool × Bool) : PyData.eqv (prW a) (.tuple [.int 0, .int 0]) = !szw a := by obtain ⟨x, z⟩ := a; cases x <;> cases z <;> decide +kernel
theorem ord_in (a : Bool × Bool) : (ordD.any fun z => PyData.eqv z (prW a)) = szw a := by obtain ⟨x, z⟩ := a; cases x <;> cases z <;> decide +kernel
theorem ord_at (a : Bool × Bool) (h : szw a = true) : ordD[pidx a]? = some (prW a) := by obtain ⟨x, z⟩ := a; cases x <;> cases z <;> first | rfl | cases h
theorem ord_no (a : Bool × Bool) (m : Nat) (z' : PyData) (hm : m < pidx a) (hz : ordD[m]? = some z') : PyData.eqv z' (prW a) = false := by
  obtain ⟨x, z⟩ := a
  have h2 : m = 0 ∨ m = 1 := by
    have : pidx (x, z) ≤ 2 := by cases x <;> cases z <;> decide
    omega
  rcases h2 with h | h <;> subst h <;> cases hz <;> cases x <;> cases z <;> first | decide +kernel | (exact absurd hm (by decide))
/-- what a wire adds to the quarters, by the law -/
def lqw (a b : Bool × Bool) : Int := if omw a b = true then (if ((pidx b : Int) - pidx a) % 3 = 1 then 1 else 3) else 0
theorem lqw_ok (a b : Bool × Bool) : lqw a b % 4 = qw a b % 4 := by obtain ⟨x, z⟩ := a; obtain ⟨u, v⟩ := b; cases x <;> cases z <;> cases u <;> cases v <;> decide +kernel
def lqs : Pl → Pl → Int
  | a :: p, b :: q => lqw a b + lqs p q
  | _, _ => 0
theorem lqs_ok : ∀ p q : Pl, lqs p q % 4 = qs p q % 4
  | [], _ => by rfl
  | a :: p, [] => by rfl
  | a :: p, b :: q => by
    have h1 := lqw_ok a b
    have h2 := lqs_ok p q
    show (lqw a b + lqs p q) % 4 = (qw a b + qs p q) % 4
    omega
theorem omw_iff (a b : Bool × Bool) : (szw a && (szw b && !(a == b))) = omw a b := by obtain ⟨x, z⟩ := a; obtain ⟨u, v⟩ := b; cases x <;> cases z <;> cases u <;> cases v <;> decide
theorem plx_range : ∀ p q : Pl, q.length = p.length → (List.range p.length).map (fun i => xw (plAt p i) (plAt q i)) = plx p q
  | [], [], _ => rfl
  | a :: p, b :: q, h => by
    simp only [List.length_cons] at h
    have ih := plx_range p q (by omega)
    rw [List.length_cons, List.range_succ_eq_map, List.map_cons, List.map_map]
    show xw a b :: (List.range p.length).map (fun i => xw (plAt p i) (plAt q i)) = _
    rw [ih]
    rfl
def unlS (p q : Pl) (i : Nat) : Int := ((List.range i).map fun j => bi (omw (plAt p j) (plAt q j))).sum
theorem unlS_step (p q : Pl) (i : Nat) : unlS p q (i + 1) = unlS p q i + bi (omw (plAt p i) (plAt q i)) := by
  unfold unlS
  rw [List.range_succ, List.map_append, List.sum_append]
  simp
end Bw
/-! Pl8: code numbers, in plain terms. -/
namespace Bw
open PySem L2
def addL (zs ys : List Amp) : List Amp := (List.range zs.length).map fun k => addA (ampAt zs k) (ampAt ys k)
def unitA (n b : Nat) : List Amp := (List.replicate (2 ^ n) zeroA).set b ⟨1, 0, 0, 0⟩
def cnStep (z : List Amp) (r : Row) : List Amp := addL z (act r z)
def cnR (n : Nat) (rows : List Row) (b : Nat) : List Amp := rows.foldl cnStep (unitA n b)
theorem addL_len (zs ys : List Amp) : (addL zs ys).length = zs.length := by simp [addL]
theorem unitA_len (n b : Nat) : (unitA n b).length = 2 ^ n := by simp [unitA]
theorem foldCn_len : ∀ (rows : List Row) (z : List Amp), (rows.foldl cnStep z).length = z.length
  | [], _ => rfl
  | r :: rows, z => by
    rw [List.foldl_cons, foldCn_len rows]
    exact addL_len _ _
theorem cnR_len (n : Nat) (rows : List Row) (b : Nat) : (cnR n rows b).length = 2 ^ n := by
  unfold cnR
  rw [foldCn_len, unitA_len]
theorem cn_take {rows : List Row} {n b i : Nat} (h : i < rows.length) : cnR n (rows.take (i + 1)) b = cnStep (cnR n (rows.take i) b) rows[i] := by
  unfold cnR
  rw [List.take_succ, List.getElem?_eq_getElem h, List.foldl_append]
  rfl
end Bw
/-! Pl9: the states that the law mends, in plain terms. -/
namespace Bw
open PySem L2
def absI (i : Int) : Int := if i < 0 then -i else i
def nzA (zs : List Amp) : Bool := decide (0 < (zs.map fun z => absI z.a).sum)
def someR (n : Nat) (rows : List Row) : List (List Amp) := ((List.range (2 ^ n)).map (cnR n rows)).filter nzA
def mixA (zs ys : List Amp) (v : Int) : List Amp := (List.range zs.length).map fun k => addA (ampAt zs k) (rotN (v % 8).toNat (ampAt ys k))
def abN (n size : Nat) (st : Int) : Int :=
  nxs (nx st) (2 * stepN (dv st (1 + ((errS n size).length : Int) / 60)) ((errS n size).length : Int) (1 + ((errS n size).length : Int) / 60))
theorem someR_len {n : Nat} {rows : List Row} {zs : List Amp} (h : zs ∈ someR n rows) : zs.length = 2 ^ n := by
  obtain ⟨b, _, rfl⟩ := List.mem_map.mp (List.mem_filter.mp h).1
  exact cnR_len n rows b
theorem mixA_len (zs ys : List Amp) (v : Int) : (mixA zs ys v).length = zs.length := by simp [mixA]
end Bw
namespace Bw
open PySem PySem.Spec PyProof.Rows L2
local macro_rules | `(tactic| walk_at "lv") => `(tactic| first
  | fail)
local macro_rules | `(tactic| walk_at "cd") => `(tactic| first
  | assumption | exact Iff.rfl | omega | (rw [xs_len]; assumption) | (rw [zs_len]; assumption) | (refine ⟨?_, ?_⟩ <;> assumption) | (refine ⟨?_, ?_, ?_⟩ <;> assumption) | (simp only [xs_len, zs_len]; assumption) | (simp only [xs_len, zs_len]; omega) | walk_at "lv")
local macro_rules | `(tactic| walk_at "dxp") => `(tactic| first
  | assumption
  | exact ⟨_, rfl, rfl⟩
  | exact ⟨_, _, rfl, rfl⟩
  | exact ⟨_, _, _, rfl, rfl⟩
  | exact ⟨_, _, _, _, rfl, rfl⟩
  | exact ⟨_, rfl, rfl, by walk_at "cd"⟩
  | exact ⟨_, _, rfl, rfl, by walk_at "cd"⟩
  | exact ⟨_, _, _, rfl, rfl, by walk_at "cd"⟩
  | exact ⟨_, _, _, _, rfl, rfl, by walk_at "cd"⟩
  | exact ⟨_, _, _, _, _, rfl, rfl, by walk_at "cd"⟩
  | exact ⟨_, _, _, _, _, _, rfl, rfl, by walk_at "cd"⟩
  | exact ⟨_, _, _, _, _, _, _, rfl, rfl, by walk_at "cd"⟩
  | exact ⟨_, _, _, _, _, _, _, _, rfl, rfl, by walk_at "cd"⟩
  | exact ⟨_, _, _, _, _, _, _, _, _, rfl, rfl, by walk_at "cd"⟩
  | exact ⟨_, rfl, rfl, rfl, rfl, by walk_at "side"⟩
  | walk_at "lv")
local macro_rules | `(tactic| walk_at "kit") => `(tactic| first
  | exact kit_ii | exact kit_ib | exact kit_ll | exact kit_tt)
local macro_rules | `(tactic| walk_at "side") => `(tactic| first
  | assumption | exact sel_int _ _ _ | exact sel_bi _ _ _ | rfl | decide | omega | exact Nat.le_of_ble_eq_true rfl | (simp; done) | (simp; omega) | (refine Or.inl ⟨?_, ?_⟩ <;> decide) | (refine Or.inr ⟨?_, ?_⟩ <;> decide) | (refine Or.inl ⟨?_, ?_⟩ <;> omega) | (refine Or.inr ⟨?_, ?_⟩ <;> omega) | (rw [bi_xor]; refine Or.inl ⟨?_, ?_⟩ <;> omega) | (refine And.intro ?_ (And.intro ?_ ?_) <;> omega) | (refine And.intro ?_ ?_ <;> omega) | walk_at "lv")
section
variable {Pg : Program} {w : World} {K : PySem.W.Frag} {mg : Str → Option Value} {base : Heap} {f : Addr} {fd : FuncData}
abbrev N_is_whole : List Str := ["thing"]
abbrev P_is_whole : List Str := ["thing"]
theorem sc_is_whole : FnScope N_is_whole P_is_whole (defScope s_is_whole) := ⟨rfl, rfl, rfl, by decide +kernel, rfl, by decide +kernel, by decide +kernel⟩
abbrev N_lowest : List Str := ["a", "b", "c", "d", "k"]
abbrev P_lowest : List Str := ["a", "b", "c", "d", "k"]
theorem sc_lowest : FnScope N_lowest P_lowest (defScope s_lowest) := ⟨rfl, rfl, rfl, by decide +kernel, rfl, by decide +kernel, by decide +kernel⟩
abbrev N_is_eighth : List Str := ["thing", "one", "a", "b", "c", "d", "k"]
abbrev P_is_eighth : List Str := ["thing"]
theorem sc_is_eighth : FnScope N_is_eighth P_is_eighth (defScope s_is_eighth) := ⟨rfl, rfl, rfl, by decide +kernel, rfl, by decide +kernel, by decide +kernel⟩
abbrev N_turned : List Str := ["one", "many", "a", "b", "c", "d", "k", "turn"]
abbrev P_turned : List Str := ["one", "many"]
theorem sc_turned : FnScope N_turned P_turned (defScope s_turned) := ⟨rfl, rfl, rfl, by decide +kernel, rfl, by decide +kernel, by decide +kernel⟩
def p_is_whole : List D → D → Prop := fun ds d => ∃ i : Int, ds = [I i] ∧ d = B true
theorem ok_is_whole (F : FnP K "is_whole" "is_whole" s_is_whole f fd) (BT : Bl mg) : FnOk Pg w K mg base CX0 1 f fd P_is_whole (SpD K p_is_whole) := by
  refine fn_mk F sc_is_whole (fun ds d h => ?_) (by decide) fun cdv A outer s H E ds d hr h => ?_
  · obtain ⟨i, rfl, rfl⟩ := h
    rfl
  · obtain ⟨i, rfl, rfl⟩ := h
    refine dss_one (ds_ret (de_andV (de_isi (de_var 0) bt_int (by walk_at "kit") BT.b_isinstance BT.b_int) fun _ => (de_one (de_notV (de_isi (de_var 0) bt_bool (by walk_at "kit") BT.b_isinstance BT.b_bool)))) ?_)
    rfl
def p_lowest : List D → D → Prop := fun ds d => ∃ z : Amp, ds = [I z.a, I z.b, I z.c, I z.d, I 0] ∧ d = .py (e8 z)
theorem ok_lowest (F : FnP K "lowest" "lowest" s_lowest f fd) (BT : Bl mg) : FnOk Pg w K mg base CX0 1 f fd P_lowest (SpD K p_lowest) := by
  refine fn_mk F sc_lowest (fun ds d h => ?_) (by decide) fun cdv A outer s H E ds d hr h => ?_
  · obtain ⟨z, rfl, rfl⟩ := h
    rfl
  · obtain ⟨z, rfl, rfl⟩ := h
    refine dss_seq (ds_if (DW.t (dw_and (dt_cmp (dc_eqI (de_var 0) de_int)) fun _ => (dw_and (dt_cmp (dc_eqI (de_var 1) de_int)) fun _ => (dw_and (dt_cmp (dc_eqI (de_var 2) de_int)) fun _ => (dw_and1 (dt_cmp (dc_eqI (de_var 3) de_int))))))) (fun hb => ?_) fun hb => dss_nil rfl) ?_
    · refine dss_one (ds_ret (de_tup (dp_cons de_int (dp_cons de_int (dp_cons de_int (dp_cons de_int (dp_cons de_int dp_nil))))) (by walk_at "side")) ?_)
      simp at hb
      obtain ⟨h1, h2, h3, h4⟩ := hb
      show D.py _ = D.py (e8 z)
      unfold e8
      rw [h1, h2, h3, h4]
    refine dss_seq (ds_while0 PassesOwn.never (DT.is (DW.t (dw_and (dt_cmp (dc_gt (de_var 4) de_int)) fun _ => (dw_and (dt_cmp (dc_eqI (de_mod (de_sub (de_var 0) (de_var 2)) de_int (by walk_at "side")) de_int)) fun _ => (dw_and1 (dt_cmp (dc_eqI (de_mod (de_sub (de_var 1) (de_var 3)) de_int (by walk_at "side")) de_int)))))) rfl) rfl) ?_
    refine dss_one (ds_ret (de_tup (dp_cons (de_var 0) (dp_cons (de_var 1) (dp_cons (de_var 2) (dp_cons (de_var 3) (dp_cons (de_var 4) dp_nil))))) (by walk_at "side")) ?_)
    rfl
def p_is_eighth : List D → D → Prop := fun ds d => ∃ z : Amp, ds = [.py (e8 z)] ∧ d = B true
theorem e8_all (z : Amp) : ∀ d ∈ [PyData.int z.a, .int z.b, .int z.c, .int z.d, .int 0], ∃ i : Int, d = .int i := by
  intro d hd
  simp only [List.mem_cons, List.not_mem_nil, or_false] at hd
  rcases hd with h | h | h | h | h <;> exact ⟨_, h⟩
theorem e8_eqv (z : Amp) : PyData.eqv (e8 z) (e8 z) = true := by
  simp [e8, PyData.eqv, PyData.eqvAll]
theorem e8_shaped (z : Amp) : SeqAt.shaped (e8 z) = true := by
  simp [e8, SeqAt.shaped, PyData.canLay0, PyData.canLayAll0, PyData.depth, PyData.depthAll]
theorem ok_is_eighth (F : FnP K "is_eighth" "is_eighth" s_is_eighth f fd) (BT : Bl mg) (C_is_whole : Cal Pg w K mg base "is_whole" 1 P_is_whole (SpD K p_is_whole)) (C_lowest : Cal Pg w K mg base "lowest" 1 P_lowest (SpD K p_lowest)) : FnOk Pg w K mg base CX0 2 f fd P_is_eighth (SpD K p_is_eighth) := by
  refine fn_mk F sc_is_eighth (fun ds d h => ?_) (by decide) fun cdv A outer s H E ds d hr h => ?_
  · obtain ⟨z, rfl, rfl⟩ := h
    rfl
  · obtain ⟨z, rfl, rfl⟩ := h
    have nd := sc_is_eighth.nd
    refine dss_seq (ds_ifF (DW.t (dw_or (dt_not (dt_of (de_isi (de_var 0) bt_tuple (by walk_at "kit") BT.b_isinstance BT.b_tuple))) fun _ => (dw_or (dt_cmp (dc_neI (de_len (DE.tpl (de_var 0)) BT.b_len) de_int)) fun _ => (dw_or1 (dt_not (dt_of (de_allC [("one", 1)] rfl nd (blkOk_by (by show blkC N_is_eighth (defScope s_is_eighth) _ _ = true; decide +kernel)) (lcw_map 1 (fun _ => .bool true) (di_tup (de_var 0)) (Nat.le_of_ble_eq_true rfl) (fun d _ _ _ _ _ => dg_name 1 nd) fun d hd s H C cl fp => by
      obtain ⟨i, rfl⟩ := e8_all z d hd
      exact (de_call C_is_whole hr (da_cons (de_var 1) da_nil) (by walk_at "dxp"))) BT.b_all))))))) rfl (dss_nil rfl)) ?_
    refine dss_seq (ds_asgG (de_var 0) (dg_tup rfl (dgs_cons (dg_name 2 nd) (dgs_cons (dg_name 3 nd) (dgs_cons (dg_name 4 nd) (dgs_cons (dg_name 5 nd) (dgs_cons (dg_name 6 nd) dgs_nil)))))) rfl) ?_
    refine dss_one (ds_ret ((de_andV (de_cmp (dc_ge (de_var 6) de_int)) fun _ => (de_one (de_cmp (dc_eq (de_call C_lowest hr (da_cons (de_var 2) (da_cons (de_var 3) (da_cons (de_var 4) (da_cons (de_var 5) (da_cons (de_var 6) da_nil))))) (by walk_at "dxp")) (de_var 0) hr.units (by walk_at "side") (by walk_at "side")))))) ?_)
    rw [e8_eqv]
    rfl
def p_turned : List D → D → Prop := fun ds d => ∃ (z : Amp) (m : Int), ds = [.py (e8 z), I m] ∧ d = .py (e8 (rotN (m % 8).toNat z))
theorem ok_turned (F : FnP K "turned" "turned" s_turned f fd) (BT : Bl mg) (C_is_whole : Cal Pg w K mg base "is_whole" 1 P_is_whole (SpD K p_is_whole)) : FnOk Pg w K mg base CX0 2 f fd P_turned (SpD K p_turned) := by
  refine fn_mk F sc_turned (fun ds d h => ?_) (by decide) fun cdv A outer s H E ds d hr h => ?_
  · obtain ⟨z, m, rfl, rfl⟩ := h
    rfl
  · obtain ⟨z, m, rfl, rfl⟩ := h
    have nd := sc_turned.nd
    refine dss_seq (ds_ifF (dt_not (dt_of (de_call C_is_whole hr (da_cons (de_var 1) da_nil) (by walk_at "dxp")))) rfl (dss_nil rfl)) ?_
    refine dss_seq (ds_asgG (de_var 0) (dg_tup rfl (dgs_cons (dg_name 2 nd) (dgs_cons (dg_name 3 nd) (dgs_cons (dg_name 4 nd) (dgs_cons (dg_name 5 nd) (dgs_cons (dg_name 6 nd) dgs_nil)))))) rfl) ?_
    refine dss_seqA (ds_for (fun i ρ => ∃ t, ρ = [.val (.py (e8 z)), .val (I m), .val (I (rotN i z).a), .val (I (rotN i z).b), .val (I (rotN i z).c), .val (I (rotN i z).d), .val (I 0), t]) PassesOwn.never rfl
      (di_range1 (DE.is (de_mod (de_var 1) de_int (by walk_at "side")) (natI _ (by omega))) (by omega) BT.b_range) ⟨_, rfl⟩ (fun i ρi hi hI => ?_) fun ρ' hI => hI) fun ρ' hI => ?_
    · obtain ⟨t, rfl⟩ := hI
      refine ⟨_, _, dg_name 7 nd, dss_one (ds_asgG (de_tup (dp_cons (de_neg (de_var 5)) (dp_cons (de_var 2) (dp_cons (de_var 3) (dp_cons (de_var 4) dp_nil)))) (by walk_at "side")) (dg_tup rfl (dgs_cons (dg_name 2 nd) (dgs_cons (dg_name 3 nd) (dgs_cons (dg_name 4 nd) (dgs_cons (dg_name 5 nd) dgs_nil))))) ?_)⟩
      exact ⟨_, rfl⟩
    · obtain ⟨t, rfl⟩ := hI
      refine dss_one (ds_ret ((de_tup (dp_cons (de_var 2) (dp_cons (de_var 3) (dp_cons (de_var 4) (dp_cons (de_var 5) (dp_cons (de_var 6) dp_nil))))) (by walk_at "side"))) ?_)
      rfl
end
end Bw
namespace Bw
open PySem PySem.Spec PyProof.Rows L2
local macro_rules | `(tactic| walk_at "lv") => `(tactic| first
  | fail)
local macro_rules | `(tactic| walk_at "cd") => `(tactic| first
  | assumption | exact Iff.rfl | omega | (rw [xs_len]; assumption) | (rw [zs_len]; assumption) | (refine ⟨?_, ?_⟩ <;> assumption) | (refine ⟨?_, ?_, ?_⟩ <;> assumption) | (simp only [xs_len, zs_len]; assumption) | (simp only [xs_len, zs_len]; omega) | walk_at "lv")
local macro_rules | `(tactic| walk_at "dxp") => `(tactic| first
  | assumption
  | exact ⟨_, rfl, rfl⟩
  | exact ⟨_, _, rfl, rfl⟩
  | exact ⟨_, _, _, rfl, rfl⟩
  | exact ⟨_, _, _, _, rfl, rfl⟩
  | exact ⟨_, rfl, rfl, by walk_at "cd"⟩
  | exact ⟨_, _, rfl, rfl, by walk_at "cd"⟩
  | exact ⟨_, _, _, rfl, rfl, by walk_at "cd"⟩
  | exact ⟨_, _, _, _, rfl, rfl, by walk_at "cd"⟩
  | exact ⟨_, _, _, _, _, rfl, rfl, by walk_at "cd"⟩
  | exact ⟨_, _, _, _, _, _, rfl, rfl, by walk_at "cd"⟩
  | exact ⟨_, _, _, _, _, _, _, rfl, rfl, by walk_at "cd"⟩
  | exact ⟨_, _, _, _, _, _, _, _, rfl, rfl, by walk_at "cd"⟩
  | exact ⟨_, _, _, _, _, _, _, _, _, rfl, rfl, by walk_at "cd"⟩
  | exact ⟨_, rfl, rfl, rfl, rfl, by walk_at "side"⟩
  | walk_at "lv")
local macro_rules | `(tactic| walk_at "kit") => `(tactic| first
  | exact kit_ii | exact kit_ib | exact kit_ll | exact kit_tt)
local macro_rules | `(tactic| walk_at "side") => `(tactic| first
  | assumption | exact sel_int _ _ _ | exact sel_bi _ _ _ | rfl | decide | omega | exact Nat.le_of_ble_eq_true rfl | (simp; done) | (simp; omega) | (refine Or.inl ⟨?_, ?_⟩ <;> decide) | (refine Or.inr ⟨?_, ?_⟩ <;> decide) | (refine Or.inl ⟨?_, ?_⟩ <;> omega) | (refine Or.inr ⟨?_, ?_⟩ <;> omega) | (rw [bi_xor]; refine Or.inl ⟨?_, ?_⟩ <;> omega) | (refine And.intro ?_ (And.intro ?_ ?_) <;> omega) | (refine And.intro ?_ ?_ <;> omega) | walk_at "lv")
abbrev St (K : PySem.W.Frag) (CS : Addr) (zs : List Amp) : D := Ins K CS "kept" (.tuple (zs.map e8))
section
variable {Pg : Program} {w : World} {K : PySem.W.Frag} {mg : Str → Option Value} {base : Heap} {f CS CC : Addr} {fd : FuncData}
abbrev N_State_init : List Str := ["self", "eighths", "one"]
abbrev P_State_init : List Str := ["self", "eighths"]
theorem sc_State_init : FnScope N_State_init P_State_init (defScope s_State_init) := ⟨rfl, rfl, rfl, by decide +kernel, rfl, by decide +kernel, by decide +kernel⟩
abbrev N_State_many : List Str := ["self"]
abbrev P_State_many : List Str := ["self"]
theorem sc_State_many : FnScope N_State_many P_State_many (defScope s_State_many) := ⟨rfl, rfl, rfl, by decide +kernel, rfl, by decide +kernel, by decide +kernel⟩
abbrev N_State_eighths : List Str := ["self"]
abbrev P_State_eighths : List Str := ["self"]
theorem sc_State_eighths : FnScope N_State_eighths P_State_eighths (defScope s_State_eighths) := ⟨rfl, rfl, rfl, by decide +kernel, rfl, by decide +kernel, by decide +kernel⟩
def p_State_init : D → PyData → Prop := fun d dt => ∃ zs : List Amp, d = Li (zs.map e8) ∧ dt = .tuple (zs.map e8) ∧ ((zs.length : Nat) : Int) ∈ ([2, 4, 8, 16, 32] : List Int)
theorem len32 {n : Nat} (h : (n : Int) ∈ ([2, 4, 8, 16, 32] : List Int)) : n ≤ 32 := by
  simp only [List.mem_cons, List.not_mem_nil, or_false] at h
  omega
theorem ok_State_init (F : FunD K "__init__" "State.__init__" (defArgs s_State_init) (defBody s_State_init) (defScope s_State_init) [] [] f fd) (BT : Bl mg) (GK : GkP K mg CS CC) (C_is_eighth : Cal Pg w K mg base "is_eighth" 2 P_is_eighth (SpD K p_is_eighth)) :
    FnOk Pg w K mg base CX0 3 f fd P_State_init (SpI K CS "kept" p_State_init) := by
  refine fn_mkI F sc_State_init rfl (by decide) rfl (fun d dt h => ?_) rfl GK.cl_State GK.na_State (by decide) (by decide) (fun _ _ _ _ _ _ => .inl rfl) (fun _ _ _ _ _ _ => rfl) (fun cdv A outer s H E t dx d dt hr h => ?_) (fun cdv A outer s H E t dx d dt hr h => ?_) (fun cdv A outer s H E d dt hr h => dss_nil trivial)
  · obtain ⟨zs, rfl, _⟩ := h
    exact ⟨_, rfl⟩
  · obtain ⟨zs, e, rfl, hl⟩ := h
    cases e
    have nd := sc_State_init.nd
    have hl2 := len32 hl
    refine ds_ifF (DW.t (dw_or (dt_not (dt_of (de_isi (de_var 1) bt_list (by walk_at "kit") BT.b_isinstance BT.b_list))) fun _ => (dw_or (dt_cmp (dc_notInI (de_len (DE.lst (de_var 1)) BT.b_len) (de_SIZES GK))) fun _ => (dw_or1 (dt_not (dt_of (de_allC [("one", 2)] rfl nd (blkOk_by (by show blkC N_State_init (defScope s_State_init) _ _ = true; decide +kernel)) (lcw_map 2 (fun _ => .bool true) (di_list (de_var 1)) (by rw [List.length_map]; omega) (fun d _ _ _ _ _ => dg_name 2 nd) fun d hd s H C cl fp => by
      obtain ⟨z, _, rfl⟩ := List.mem_map.mp hd
      exact (de_call C_is_eighth hr (da_cons (de_var 2) da_nil) (by walk_at "dxp"))) BT.b_all))))))) ?_ (dss_nil rfl)
    simp [hl]
  · obtain ⟨zs, e, rfl, hl⟩ := h
    cases e
    exact (de_tuple (DE.lst (de_var 1)) BT.b_tuple)
def p_State_many : List D → D → Prop := fun ds d => ∃ (zs : List Amp) (n : Nat), ds = [St K CS zs] ∧ d = I n ∧ zs.length = 2 ^ n ∧ Wd n
theorem size_at {n : Nat} (h1 : 1 ≤ n) (h5 : n ≤ 5) : ((2 ^ n : Nat) : Int) ∈ ([2, 4, 8, 16, 32] : List Int) ∧ ((([2, 4, 8, 16, 32] : List Int).idxOf ((2 ^ n : Nat) : Int) : Nat) : Int) + 1 = n := by
  have : n = 1 ∨ n = 2 ∨ n = 3 ∨ n = 4 ∨ n = 5 := by omega
  rcases this with h | h | h | h | h <;> subst h <;> exact ⟨by decide, by decide⟩
theorem ok_State_many (F : FunD K "many" "State.many" (defArgs s_State_many) (defBody s_State_many) (defScope s_State_many) [] [] f fd) (BT : Bl mg) (GK : GkP K mg CS CC) :
    FnOk Pg w K mg base CX0 1 f fd P_State_many (SpD K (p_State_many (K := K) (CS := CS))) := by
  refine fn_mk F sc_State_many (fun ds d h => ?_) (by decide) fun cdv A outer s H E ds d hr h => ?_
  · obtain ⟨zs, n, rfl, rfl, hl, h1, h5⟩ := h
    rfl
  · obtain ⟨zs, n, rfl, rfl, hl, h1, h5⟩ := h
    obtain ⟨q1, q2⟩ := size_at h1 h5
    have q3 : (((zs.map e8).length : Nat) : Int) ∈ ([2, 4, 8, 16, 32] : List Int) := by rw [List.length_map, hl]; exact q1
    refine dss_one (ds_ret ((de_add (GK.sizes.idx (de_len (DE.tpl (de_fld (de_var 0) GK.cl_State GK.na_State)) BT.b_len) (by walk_at "side")) de_int)) ?_)
    show D.py (.int _) = I n
    rw [List.length_map, hl, q2]
def p_State_eighths : List D → D → Prop := fun ds d => ∃ (zs : List Amp), ds = [St K CS zs] ∧ d = Li (zs.map e8)
theorem ok_State_eighths (F : FunD K "eighths" "State.eighths" (defArgs s_State_eighths) (defBody s_State_eighths) (defScope s_State_eighths) [] [] f fd) (BT : Bl mg) (GK : GkP K mg CS CC) :
    FnOk Pg w K mg base CX0 1 f fd P_State_eighths (SpD K (p_State_eighths (K := K) (CS := CS))) := by
  refine fn_mk F sc_State_eighths (fun ds d h => ?_) (by decide) fun cdv A outer s H E ds d hr h => ?_
  · obtain ⟨zs, rfl, rfl⟩ := h
    rfl
  · obtain ⟨zs, rfl, rfl⟩ := h
    exact dss_one (ds_ret ((DL.ex (dl_list (DE.tpl (de_fld (de_var 0) GK.cl_State GK.na_State)) BT.b_list))) rfl)
end
end Bw
namespace Bw
open PySem PySem.Spec PyProof.Rows L2
local macro_rules | `(tactic| walk_at "lv") => `(tactic| first
  | fail)
local macro_rules | `(tactic| walk_at "cd") => `(tactic| first
  | assumption | exact Iff.rfl | omega | (rw [xs_len]; assumption) | (rw [zs_len]; assumption) | (refine ⟨?_, ?_⟩ <;> assumption) | (refine ⟨?_, ?_, ?_⟩ <;> assumption) | (simp only [xs_len, zs_len]; assumption) | (simp only [xs_len, zs_len]; omega) | walk_at "lv")
local macro_rules | `(tactic| walk_at "dxp") => `(tactic| first
  | assumption
  | exact ⟨_, rfl, rfl⟩
  | exact ⟨_, _, rfl, rfl⟩
  | exact ⟨_, _, _, rfl, rfl⟩
  | exact ⟨_, _, _, _, rfl, rfl⟩
  | exact ⟨_, rfl, rfl, by walk_at "cd"⟩
  | exact ⟨_, _, rfl, rfl, by walk_at "cd"⟩
  | exact ⟨_, _, _, rfl, rfl, by walk_at "cd"⟩
  | exact ⟨_, _, _, _, rfl, rfl, by walk_at "cd"⟩
  | exact ⟨_, _, _, _, _, rfl, rfl, by walk_at "cd"⟩
  | exact ⟨_, _, _, _, _, _, rfl, rfl, by walk_at "cd"⟩
  | exact ⟨_, _, _, _, _, _, _, rfl, rfl, by walk_at "cd"⟩
  | exact ⟨_, _, _, _, _, _, _, _, rfl, rfl, by walk_at "cd"⟩
  | exact ⟨_, _, _, _, _, _, _, _, _, rfl, rfl, by walk_at "cd"⟩
  | exact ⟨_, rfl, rfl, rfl, rfl, by walk_at "side"⟩
  | walk_at "lv")
local macro_rules | `(tactic| walk_at "kit") => `(tactic| first
  | exact kit_ii | exact kit_ib | exact kit_ll | exact kit_tt)
local macro_rules | `(tactic| walk_at "side") => `(tactic| first
  | assumption | exact sel_int _ _ _ | exact sel_bi _ _ _ | rfl | decide | omega | exact Nat.le_of_ble_eq_true rfl | (simp; done) | (simp; omega) | (refine Or.inl ⟨?_, ?_⟩ <;> decide) | (refine Or.inr ⟨?_, ?_⟩ <;> decide) | (refine Or.inl ⟨?_, ?_⟩ <;> omega) | (refine Or.inr ⟨?_, ?_⟩ <;> omega) | (rw [bi_xor]; refine Or.inl ⟨?_, ?_⟩ <;> omega) | (refine And.intro ?_ (And.intro ?_ ?_) <;> omega) | (refine And.intro ?_ ?_ <;> omega) | walk_at "lv")
section
variable {Pg : Program} {w : World} {K : PySem.W.Frag} {mg : Str → Option Value} {base : Heap} {f CS CC : Addr} {fd : FuncData}
abbrev N_is_bit_row : List Str := ["thing", "bit"]
abbrev P_is_bit_row : List Str := ["thing"]
theorem sc_is_bit_row : FnScope N_is_bit_row P_is_bit_row (defScope s_is_bit_row) := ⟨rfl, rfl, rfl, by decide +kernel, rfl, by decide +kernel, by decide +kernel⟩
abbrev N_is_sign_row : List Str := ["thing"]
abbrev P_is_sign_row : List Str := ["thing"]
theorem sc_is_sign_row : FnScope N_is_sign_row P_is_sign_row (defScope s_is_sign_row) := ⟨rfl, rfl, rfl, by decide +kernel, rfl, by decide +kernel, by decide +kernel⟩
abbrev N_need_alike : List Str := ["one", "other"]
abbrev P_need_alike : List Str := ["one", "other"]
theorem sc_need_alike : FnScope N_need_alike P_need_alike (defScope s_need_alike) := ⟨rfl, rfl, rfl, by decide +kernel, rfl, by decide +kernel, by decide +kernel⟩
abbrev N_turns_at : List Str := ["row", "xs", "zs", "found", "wire", "x", "z"]
abbrev P_turns_at : List Str := ["row", "xs", "zs"]
theorem sc_turns_at : FnScope N_turns_at P_turns_at (defScope s_turns_at) := ⟨rfl, rfl, rfl, by decide +kernel, rfl, by decide +kernel, by decide +kernel⟩
def p_is_bit_row : List D → D → Prop := fun ds d => ∃ l : List Bool, ds = [.py (eBits l)] ∧ d = B true ∧ Wd l.length
theorem ok_is_bit_row (F : FnP K "is_bit_row" "is_bit_row" s_is_bit_row f fd) (BT : Bl mg) (GK : GkP K mg CS CC) (C_is_whole : Cal Pg w K mg base "is_whole" 1 P_is_whole (SpD K p_is_whole)) : FnOk Pg w K mg base CX0 2 f fd P_is_bit_row (SpD K p_is_bit_row) := by
  refine fn_mk F sc_is_bit_row (fun ds d h => ?_) (by decide) fun cdv A outer s H E ds d hr h => ?_
  · obtain ⟨l, rfl, rfl, _⟩ := h
    rfl
  · obtain ⟨l, rfl, rfl, h1, h5⟩ := h
    have nd := sc_is_bit_row.nd
    refine dss_seq (ds_ifF (DW.t (dw_or (dt_not (dt_of (de_isi (de_var 0) bt_tuple (by walk_at "kit") BT.b_isinstance BT.b_tuple))) fun _ => (dw_or1 (dt_not (dt_chain de_int (de_len (DE.tpl (de_var 0)) BT.b_len) (de_MOST_WIRES GK)))))) ?_ (dss_nil rfl)) ?_
    · simp
      omega
    refine dss_one (ds_ret (de_allC [("bit", 1)] rfl nd (blkOk_by (by show blkC N_is_bit_row (defScope s_is_bit_row) _ _ = true; decide +kernel)) (lcw_map 1 (fun _ => .bool true) (di_tup (de_var 0)) (by rw [List.length_map]; omega) (fun d _ _ _ _ _ => dg_name 1 nd) fun d hd s H C cl fp => by
      obtain ⟨b, _, rfl⟩ := List.mem_map.mp hd
      exact DE.is (de_andV (de_call C_is_whole hr (da_cons (de_var 1) da_nil) (by walk_at "dxp")) fun _ => (de_one (de_chain de_int (de_var 1) de_int))) (by cases b <;> rfl)) BT.b_all) rfl)
def p_is_sign_row : List D → D → Prop := fun ds d => ∃ r : Row, ds = [.py (eRow r)] ∧ d = B true ∧ Wd r.p.length
theorem ok_is_sign_row (F : FnP K "is_sign_row" "is_sign_row" s_is_sign_row f fd) (BT : Bl mg) (GK : GkP K mg CS CC) (C_is_whole : Cal Pg w K mg base "is_whole" 1 P_is_whole (SpD K p_is_whole)) (C_is_bit_row : Cal Pg w K mg base "is_bit_row" 2 P_is_bit_row (SpD K p_is_bit_row)) :
    FnOk Pg w K mg base CX0 3 f fd P_is_sign_row (SpD K p_is_sign_row) := by
  refine fn_mk F sc_is_sign_row (fun ds d h => ?_) (by decide) fun cdv A outer s H E ds d hr h => ?_
  · obtain ⟨r, rfl, rfl, _⟩ := h
    rfl
  · obtain ⟨r, rfl, rfl, hw⟩ := h
    have nd := sc_is_sign_row.nd
    have hb := bi_range r.t
    refine dss_seq (ds_ifF (DW.t (dw_or (dt_not (dt_of (de_isi (de_var 0) bt_tuple (by walk_at "kit") BT.b_isinstance BT.b_tuple))) fun _ => (dw_or (dt_cmp (dc_neI (de_len (DE.tpl (de_var 0)) BT.b_len) de_int)) fun _ => (dw_or (dt_not (dt_of (de_call C_is_whole hr (da_cons (de_ix (DE.tpl (de_var 0)) de_int (by walk_at "side")) da_nil) (by walk_at "dxp")))) fun _ => (dw_or1 (dt_not (dt_chain de_int (de_ix (DE.tpl (de_var 0)) de_int (by walk_at "side")) de_int))))))) ?_ (dss_nil rfl)) ?_
    · simp
      omega
    refine dss_one (ds_ret ((de_andV (de_call C_is_bit_row hr (da_cons (de_ix (DE.tpl (de_var 0)) de_int (by walk_at "side")) da_nil) (by walk_at "dxp")) fun _ => (de_andV (de_call C_is_bit_row hr (da_cons (de_ix (DE.tpl (de_var 0)) de_int (by walk_at "side")) da_nil) (by walk_at "dxp")) fun _ => (de_one (de_cmp (dc_eqI (de_len (DE.tpl (de_ix (DE.tpl (de_var 0)) de_int (by walk_at "side"))) BT.b_len) (de_len (DE.tpl (de_ix (DE.tpl (de_var 0)) de_int (by walk_at "side"))) BT.b_len))))))) ?_)
    show B _ = B true
    simp [xs_len, zs_len]
def p_need_alike : List D → D → Prop := fun ds d => ∃ r s : Row, ds = [.py (eRow r), .py (eRow s)] ∧ d = .py .none ∧ Wd r.p.length ∧ s.p.length = r.p.length
theorem ok_need_alike (F : FnP K "need_alike" "need_alike" s_need_alike f fd) (BT : Bl mg) (C_is_sign_row : Cal Pg w K mg base "is_sign_row" 3 P_is_sign_row (SpD K p_is_sign_row)) : FnOk Pg w K mg base CX0 4 f fd P_need_alike (SpD K p_need_alike) := by
  refine fn_mk F sc_need_alike (fun ds d h => ?_) (by decide) fun cdv A outer s H E ds d hr h => ?_
  · obtain ⟨r, s, rfl, rfl, _⟩ := h
    rfl
  · obtain ⟨r, s, rfl, rfl, hw, hl⟩ := h
    have hw2 : Wd s.p.length := by rw [hl]; exact hw
    refine dss_one (ds_ifF (DW.t (dw_or (dt_not (dt_of (de_call C_is_sign_row hr (da_cons (de_var 0) da_nil) (by walk_at "dxp")))) fun _ => (dw_or (dt_not (dt_of (de_call C_is_sign_row hr (da_cons (de_var 1) da_nil) (by walk_at "dxp")))) fun _ => (dw_or1 (dt_cmp (dc_neI (de_len (DE.tpl (de_ix (DE.tpl (de_var 0)) de_int (by walk_at "side"))) BT.b_len) (de_len (DE.tpl (de_ix (DE.tpl (de_var 1)) de_int (by walk_at "side"))) BT.b_len))))))) ?_ (dss_nil rfl))
    simp [xs_len, hl]
theorem pick {p : Pl} {i : Nat} (h : i < p.length) : ∃ x z, p.drop i = (x, z) :: p.drop (i + 1) ∧ at_ ((p.map (·.1)).map eB) i = eB x ∧ at_ ((p.map (·.2)).map eB) i = eB z := by
  refine ⟨p[i].1, p[i].2, List.drop_eq_getElem_cons h, at_eq ?_, at_eq ?_⟩
  · simp [h]
  · simp [h]
def p_turns_at : List D → D → Prop := fun ds d => ∃ (h : Nat) (p : Pl), ds = [I h, .py (eBits (p.map (·.1))), .py (eBits (p.map (·.2)))] ∧ d = I (tnR p h) ∧ p.length ≤ 5
theorem ok_turns_at (F : FnP K "turns_at" "turns_at" s_turns_at f fd) (BT : Bl mg) : FnOk Pg w K mg base CX0 1 f fd P_turns_at (SpD K p_turns_at) := by
  refine fn_mk F sc_turns_at (fun ds d h => ?_) (by decide) fun cdv A outer s H E ds d hr h => ?_
  · obtain ⟨h, p, rfl, rfl, _⟩ := h
    rfl
  · obtain ⟨h, p, rfl, rfl, h5⟩ := h
    have nd := sc_turns_at.nd
    have l1 : ((p.map (·.1)).map eB).length = p.length := by simp
    have l2 : ((p.map (·.2)).map eB).length = p.length := by simp
    refine dss_seq (ds_asg 3 nd de_int rfl) ?_
    refine dss_seqA (ds_for (fun i ρ => ∃ a b c, ρ = [.val (I h), .val (.py (eBits (p.map (·.1)))), .val (.py (eBits (p.map (·.2)))), .val (I (tnR p h - tnR (p.drop i) h)), a, b, c]) PassesOwn.never rfl
      (di_enumZ (de_var 1) (de_var 2) (l2.trans l1.symm) BT.b_zip BT.b_enumerate) ⟨.any, .any, .any, by rw [List.drop_zero, Int.sub_self]; rfl⟩ (fun i ρi hi hI => ?_) fun ρ' hI => hI) fun ρ' hI => ?_
    · obtain ⟨a, b, c, rfl⟩ := hI
      rw [l1] at hi
      obtain ⟨x, z, hd, e1, e2⟩ := pick hi
      have hk : (p.drop (i + 1)).length = p.length - 1 - i := by rw [List.length_drop]; omega
      have bx := bi_range x
      refine ⟨_, _, (dg_tup rfl (dgs_cons (dg_name 4 nd) (dgs_cons (dg_tup rfl (dgs_cons (dg_name 5 nd) (dgs_cons (dg_name 6 nd) dgs_nil))) dgs_nil))), ?_⟩
      rw [e1, e2]
      refine dss_one (ds_if (dt_cmp (dc_eqI (de_var 6) de_int)) (fun hb => dss_one (ds_aug 3 nd rfl (de_add (de_mul de_int (de_and (de_shr (de_var 0) (de_sub (de_sub (de_len (DE.tpl (de_var 1)) BT.b_len) de_int) (de_var 4)) (by walk_at "side")) de_int) (by walk_at "side")) (de_mul de_int (de_var 5) (by walk_at "side"))) ?_)) fun hb => dss_nil ?_)
      · have hz : z = true := by cases z <;> first | rfl | cases hb
        subst hz
        have ek : (((((p.map (·.1)).map eB).length : Nat) : Int) - 1 - (i : Int)).toNat = (p.drop (i + 1)).length := by rw [l1, hk]; omega
        have ev : tnR p h - tnR (p.drop (i + 1)) h = tnR p h - tnR (p.drop i) h + (4 * Builtin.bitAnd ((h : Int) / 2 ^ (((((p.map (·.1)).map eB).length : Nat) : Int) - 1 - (i : Int)).toNat) 1 + 2 * bi x) := by
          rw [ek, bit_val, hd]
          simp only [tnR, if_true]
          omega
        exact ⟨_, _, _, by rw [ev]; rfl⟩
      · have hz : z = false := by cases z <;> first | rfl | cases hb
        subst hz
        have ev : tnR p h - tnR (p.drop (i + 1)) h = tnR p h - tnR (p.drop i) h := by
          rw [hd]
          simp [tnR]
        exact ⟨_, _, _, by rw [ev]; rfl⟩
    · obtain ⟨a, b, c, rfl⟩ := hI
      refine dss_one (ds_ret ((de_var 3)) ?_)
      show I _ = I _
      rw [l1, List.drop_length]
      show I (tnR p h - 0) = _
      rw [Int.sub_zero]
end
end Bw
namespace Bw
open PySem PySem.Spec PyProof.Rows L2
local macro_rules | `(tactic| walk_at "lv") => `(tactic| first
  | fail)
local macro_rules | `(tactic| walk_at "cd") => `(tactic| first
  | assumption | exact Iff.rfl | omega | (rw [xs_len]; assumption) | (rw [zs_len]; assumption) | (refine ⟨?_, ?_⟩ <;> assumption) | (refine ⟨?_, ?_, ?_⟩ <;> assumption) | (simp only [xs_len, zs_len]; assumption) | (simp only [xs_len, zs_len]; omega) | walk_at "lv")
local macro_rules | `(tactic| walk_at "dxp") => `(tactic| first
  | assumption
  | exact ⟨_, rfl, rfl⟩
  | exact ⟨_, _, rfl, rfl⟩
  | exact ⟨_, _, _, rfl, rfl⟩
  | exact ⟨_, _, _, _, rfl, rfl⟩
  | exact ⟨_, rfl, rfl, by walk_at "cd"⟩
  | exact ⟨_, _, rfl, rfl, by walk_at "cd"⟩
  | exact ⟨_, _, _, rfl, rfl, by walk_at "cd"⟩
  | exact ⟨_, _, _, _, rfl, rfl, by walk_at "cd"⟩
  | exact ⟨_, _, _, _, _, rfl, rfl, by walk_at "cd"⟩
  | exact ⟨_, _, _, _, _, _, rfl, rfl, by walk_at "cd"⟩
  | exact ⟨_, _, _, _, _, _, _, rfl, rfl, by walk_at "cd"⟩
  | exact ⟨_, _, _, _, _, _, _, _, rfl, rfl, by walk_at "cd"⟩
  | exact ⟨_, _, _, _, _, _, _, _, _, rfl, rfl, by walk_at "cd"⟩
  | exact ⟨_, rfl, rfl, rfl, rfl, by walk_at "side"⟩
  | walk_at "lv")
local macro_rules | `(tactic| walk_at "kit") => `(tactic| first
  | exact kit_ii | exact kit_ib | exact kit_ll | exact kit_tt)
local macro_rules | `(tactic| walk_at "side") => `(tactic| first
  | assumption | exact sel_int _ _ _ | exact sel_bi _ _ _ | rfl | decide | omega | exact Nat.le_of_ble_eq_true rfl | (simp; done) | (simp; omega) | (refine Or.inl ⟨?_, ?_⟩ <;> decide) | (refine Or.inr ⟨?_, ?_⟩ <;> decide) | (refine Or.inl ⟨?_, ?_⟩ <;> omega) | (refine Or.inr ⟨?_, ?_⟩ <;> omega) | (rw [bi_xor]; refine Or.inl ⟨?_, ?_⟩ <;> omega) | (refine And.intro ?_ (And.intro ?_ ?_) <;> omega) | (refine And.intro ?_ ?_ <;> omega) | walk_at "lv")
section
variable {Pg : Program} {w : World} {K : PySem.W.Frag} {mg : Str → Option Value} {base : Heap} {f CS CC : Addr} {fd : FuncData}
abbrev N_goes_with : List Str := ["one", "other", "unlike", "x", "z", "u", "v"]
abbrev P_goes_with : List Str := ["one", "other"]
theorem sc_goes_with : FnScope N_goes_with P_goes_with (defScope s_goes_with) := ⟨rfl, rfl, rfl, by decide +kernel, rfl, by decide +kernel, by decide +kernel⟩
abbrev N_product : List Str := ["one", "other", "quarters", "xs", "zs", "x", "z", "u", "v"]
abbrev P_product : List Str := ["one", "other"]
theorem sc_product : FnScope N_product P_product (defScope s_product) := ⟨rfl, rfl, rfl, by decide +kernel, rfl, by decide +kernel, by decide +kernel⟩
abbrev N_done : List Str := ["row", "state", "turn", "xs", "zs", "flips", "wire", "x", "found", "here", "one"]
abbrev P_done : List Str := ["row", "state"]
theorem sc_done : FnScope N_done P_done (defScope s_done) := ⟨rfl, rfl, rfl, by decide +kernel, rfl, by decide +kernel, by decide +kernel⟩
theorem at_x {p : Pl} {i : Nat} (h : i < p.length) : at_ ((p.map (·.1)).map eB) i = eB (plAt p i).1 := at_eq (by rw [List.getElem?_map, List.getElem?_map, plAt_get h]; rfl)
theorem at_z {p : Pl} {i : Nat} (h : i < p.length) : at_ ((p.map (·.2)).map eB) i = eB (plAt p i).2 := at_eq (by rw [List.getElem?_map, List.getElem?_map, plAt_get h]; rfl)
def p_goes_with : List D → D → Prop := fun ds d => ∃ r s : Row, ds = [.py (eRow r), .py (eRow s)] ∧ d = B (!om r.p s.p) ∧ Wd r.p.length ∧ s.p.length = r.p.length
theorem ok_goes_with (F : FnP K "goes_with" "goes_with" s_goes_with f fd) (BT : Bl mg) (C_need_alike : Cal Pg w K mg base "need_alike" 4 P_need_alike (SpD K p_need_alike)) : FnOk Pg w K mg base CX0 5 f fd P_goes_with (SpD K p_goes_with) := by
  refine fn_mk F sc_goes_with (fun ds d h => ?_) (by decide) fun cdv A outer s H E ds d hr h => ?_
  · obtain ⟨r, s, rfl, rfl, _⟩ := h
    rfl
  · obtain ⟨r, s, rfl, rfl, hw, hl⟩ := h
    have nd := sc_goes_with.nd
    have l1 : (r.xs.map eB).length = r.p.length := by simp [Row.xs]
    have l2 : (r.zs.map eB).length = r.p.length := by simp [Row.zs]
    have l3 : (s.xs.map eB).length = r.p.length := by simp [Row.xs, hl]
    have l4 : (s.zs.map eB).length = r.p.length := by simp [Row.zs, hl]
    refine dss_seq (ds_expr (de_call C_need_alike hr (da_cons (de_var 0) (da_cons (de_var 1) da_nil)) (by walk_at "dxp")) rfl) ?_
    refine dss_seq (ds_setLc (out := (List.range (r.xs.map eB).length).map fun i => .int (bi (omw (plAt r.p i) (plAt s.p i)))) 2 [("x", 3), ("z", 4), ("u", 5), ("v", 6)] rfl nd (blkOk_by (by show blkC N_goes_with (defScope s_goes_with) _ _ = true; decide +kernel))
      (lcw_at (ρj := fun i => [.val (.py (eRow r)), .val (.py (eRow s)), .any, .val (.py (eB (plAt r.p i).1)), .val (.py (eB (plAt r.p i).2)), .val (.py (eB (plAt s.p i).1)), .val (.py (eB (plAt s.p i).2))]) [3, 4, 5, 6] _
        (di_zip4 (de_ix (DE.tpl (de_var 0)) de_int (by walk_at "side")) (de_ix (DE.tpl (de_var 0)) de_int (by walk_at "side")) (de_ix (DE.tpl (de_var 1)) de_int (by walk_at "side")) (de_ix (DE.tpl (de_var 1)) de_int (by walk_at "side")) (l2.trans l1.symm) (l3.trans l1.symm) (l4.trans l1.symm) BT.b_zip)
        (by rw [l1]; have := hw.2; omega) (fun _ h => h) (fun _ => rfl) (fun i hi s' H' C cl fp => ?_) fun i hi s' H' C cl fp => ?_) rfl) ?_
    · rw [l1] at hi
      have hi2 : i < s.p.length := by rw [hl]; exact hi
      have e1 : at_ (r.xs.map eB) i = eB (plAt r.p i).1 := at_x hi
      have e2 : at_ (r.zs.map eB) i = eB (plAt r.p i).2 := at_z hi
      have e3 : at_ (s.xs.map eB) i = eB (plAt s.p i).1 := at_x hi2
      have e4 : at_ (s.zs.map eB) i = eB (plAt s.p i).2 := at_z hi2
      rw [e1, e2, e3, e4]
      exact (dg_tup rfl (dgs_cons (dg_name 3 nd) (dgs_cons (dg_name 4 nd) (dgs_cons (dg_name 5 nd) (dgs_cons (dg_name 6 nd) dgs_nil)))))
    · have bx := bi_range (plAt r.p i).1
      have bz := bi_range (plAt r.p i).2
      have bu := bi_range (plAt s.p i).1
      have bv := bi_range (plAt s.p i).2
      refine DE.is (de_xor (de_mul (de_var 3) (de_var 6) (by walk_at "side")) (de_mul (de_var 4) (de_var 5) (by walk_at "side"))) ?_
      show I _ = I _
      unfold omw
      cases (plAt r.p i).1 <;> cases (plAt r.p i).2 <;> cases (plAt s.p i).1 <;> cases (plAt s.p i).2 <;> rfl
    refine dss_one (ds_ret (de_cmp (dc_eqI (de_mod (de_sum (ns := (List.range r.p.length).map fun i => bi (omw (plAt r.p i) (plAt s.p i))) (DE.lst (DE.is (de_var 2) ?_)) rfl BT.b_sum) de_int (by decide)) de_int)) ?_)
    · rw [l1, List.map_map]
      rfl
    · rw [om_sum r.p s.p hl]
      cases om r.p s.p <;> rfl
end
end Bw
namespace Bw
open PySem PySem.Spec PyProof.Rows L2
local macro_rules | `(tactic| walk_at "lv") => `(tactic| first
  | fail)
local macro_rules | `(tactic| walk_at "cd") => `(tactic| first
  | assumption | exact Iff.rfl | omega | (rw [xs_len]; assumption) | (rw [zs_len]; assumption) | (refine ⟨?_, ?_⟩ <;> assumption) | (refine ⟨?_, ?_, ?_⟩ <;> assumption) | (simp only [xs_len, zs_len]; assumption) | (simp only [xs_len, zs_len]; omega) | walk_at "lv")
local macro_rules | `(tactic| walk_at "dxp") => `(tactic| first
  | assumption
  | exact ⟨_, rfl, rfl⟩
  | exact ⟨_, _, rfl, rfl⟩
  | exact ⟨_, _, _, rfl, rfl⟩
  | exact ⟨_, _, _, _, rfl, rfl⟩
  | exact ⟨_, rfl, rfl, by walk_at "cd"⟩
  | exact ⟨_, _, rfl, rfl, by walk_at "cd"⟩
  | exact ⟨_, _, _, rfl, rfl, by walk_at "cd"⟩
  | exact ⟨_, _, _, _, rfl, rfl, by walk_at "cd"⟩
  | exact ⟨_, _, _, _, _, rfl, rfl, by walk_at "cd"⟩
  | exact ⟨_, _, _, _, _, _, rfl, rfl, by walk_at "cd"⟩
  | exact ⟨_, _, _, _, _, _, _, rfl, rfl, by walk_at "cd"⟩
  | exact ⟨_, _, _, _, _, _, _, _, rfl, rfl, by walk_at "cd"⟩
  | exact ⟨_, _, _, _, _, _, _, _, _, rfl, rfl, by walk_at "cd"⟩
  | exact ⟨_, rfl, rfl, rfl, rfl, by walk_at "side"⟩
  | walk_at "lv")
local macro_rules | `(tactic| walk_at "kit") => `(tactic| first
  | exact kit_ii | exact kit_ib | exact kit_ll | exact kit_tt)
local macro_rules | `(tactic| walk_at "side") => `(tactic| first
  | assumption | exact sel_int _ _ _ | exact sel_bi _ _ _ | rfl | decide | omega | exact Nat.le_of_ble_eq_true rfl | (simp; done) | (simp; omega) | (refine Or.inl ⟨?_, ?_⟩ <;> decide) | (refine Or.inr ⟨?_, ?_⟩ <;> decide) | (refine Or.inl ⟨?_, ?_⟩ <;> omega) | (refine Or.inr ⟨?_, ?_⟩ <;> omega) | (rw [bi_xor]; refine Or.inl ⟨?_, ?_⟩ <;> omega) | (refine And.intro ?_ (And.intro ?_ ?_) <;> omega) | (refine And.intro ?_ ?_ <;> omega) | walk_at "lv")
theorem ixN_nat {n j : Nat} (h : j < n) : ixN n ((j : Nat) : Int) = some j := by
  unfold ixN
  simp [h]
section
variable {Pg : Program} {w : World} {K : PySem.W.Frag} {mg : Str → Option Value} {base : Heap} {f CS CC : Addr} {fd : FuncData}
def p_product : List D → D → Prop := fun ds d => ∃ r s : Row, ds = [.py (eRow r), .py (eRow s)] ∧ d = Tu [.int (quar r s % 4), eRow ⟨false, plx r.p s.p⟩] ∧ Wd r.p.length ∧ s.p.length = r.p.length
theorem ok_product (F : FnP K "product" "product" s_product f fd) (BT : Bl mg) (C_need_alike : Cal Pg w K mg base "need_alike" 4 P_need_alike (SpD K p_need_alike)) : FnOk Pg w K mg base CX0 5 f fd P_product (SpD K p_product) := by
  refine fn_mk F sc_product (fun ds d h => ?_) (by decide) fun cdv A outer s H E ds d hr h => ?_
  · obtain ⟨r, s, rfl, rfl, _⟩ := h
    rfl
  · obtain ⟨r, s, rfl, rfl, hw, hl⟩ := h
    have nd := sc_product.nd
    have l1 : (r.xs.map eB).length = r.p.length := by simp [Row.xs]
    have l2 : (r.zs.map eB).length = r.p.length := by simp [Row.zs]
    have l3 : (s.xs.map eB).length = r.p.length := by simp [Row.xs, hl]
    have l4 : (s.zs.map eB).length = r.p.length := by simp [Row.zs, hl]
    refine dss_seq (ds_expr (de_call C_need_alike hr (da_cons (de_var 0) (da_cons (de_var 1) da_nil)) (by walk_at "dxp")) rfl) ?_
    refine dss_seq (ds_asg 2 nd (de_mul de_int (de_add (de_ix (DE.tpl (de_var 0)) de_int (by walk_at "side")) (de_ix (DE.tpl (de_var 1)) de_int (by walk_at "side"))) (by walk_at "side")) rfl) ?_
    refine dss_seq (ds_asgO 3 nd (dl_lst dp_nil (by walk_at "side")) rfl) ?_
    refine dss_seq (ds_asgO 4 nd (dl_lst dp_nil (by walk_at "side")) rfl) ?_
    refine dss_seqA (ds_for (fun i ρ => ∃ a b c e, ρ = [.val (.py (eRow r)), .val (.py (eRow s)), .val (I (quar r s - qs (r.p.drop i) (s.p.drop i))), .own false (((plx r.p s.p).take i).map fun w => eB w.1), .own false (((plx r.p s.p).take i).map fun w => eB w.2), a, b, c, e]) PassesOwn.never rfl
      (di_zip4 (de_ix (DE.tpl (de_var 0)) de_int (by walk_at "side")) (de_ix (DE.tpl (de_var 0)) de_int (by walk_at "side")) (de_ix (DE.tpl (de_var 1)) de_int (by walk_at "side")) (de_ix (DE.tpl (de_var 1)) de_int (by walk_at "side")) (l2.trans l1.symm) (l3.trans l1.symm) (l4.trans l1.symm) BT.b_zip) ⟨.any, .any, .any, .any, ?_⟩ (fun i ρi hi hI => ?_) fun ρ' hI => hI) fun ρ' hI => ?_
    · have e : quar r s - qs (r.p.drop 0) (s.p.drop 0) = 2 * (bi r.t + bi s.t) := by
        rw [List.drop_zero, List.drop_zero]
        unfold quar
        omega
      rw [e]
      rfl
    · obtain ⟨a, b, c, e, rfl⟩ := hI
      rw [l1] at hi
      have hi2 : i < s.p.length := by rw [hl]; exact hi
      have e1 : at_ (r.xs.map eB) i = eB (plAt r.p i).1 := at_x hi
      have e2 : at_ (r.zs.map eB) i = eB (plAt r.p i).2 := at_z hi
      have e3 : at_ (s.xs.map eB) i = eB (plAt s.p i).1 := at_x hi2
      have e4 : at_ (s.zs.map eB) i = eB (plAt s.p i).2 := at_z hi2
      have lt : ((plx r.p s.p).take i).length ≤ 5 := by rw [List.length_take, plx_len hl]; have := hw.2; omega
      have bx := bi_range (plAt r.p i).1
      have bz := bi_range (plAt r.p i).2
      have bu := bi_range (plAt s.p i).1
      have bv := bi_range (plAt s.p i).2
      have bxu := bi_range ((plAt r.p i).1 ^^ (plAt s.p i).1)
      refine ⟨_, _, (dg_tup rfl (dgs_cons (dg_name 5 nd) (dgs_cons (dg_name 6 nd) (dgs_cons (dg_name 7 nd) (dgs_cons (dg_name 8 nd) dgs_nil))))), ?_⟩
      rw [e1, e2, e3, e4]
      refine dss_seq (ds_aug 2 nd rfl (DE.is (de_sub (de_add (de_add (de_mul (de_var 5) (de_var 6) (by walk_at "side")) (de_mul (de_var 7) (de_var 8) (by walk_at "side"))) (de_mul (de_mul de_int (de_var 6) (by walk_at "side")) (de_var 7) (by walk_at "side"))) (de_mul (de_xor (de_var 5) (de_var 7)) (de_xor (de_var 6) (de_var 8)) (by walk_at "side"))) (d' := I (qw (plAt r.p i) (plAt s.p i))) ?_) rfl) ?_
      · show I _ = I _
        unfold qw
        rw [bi_xor, bi_xor]
      refine dss_seq (ds_append 3 rfl (DE.is (de_xor (de_var 5) (de_var 7)) (d' := .py (eB (xw (plAt r.p i) (plAt s.p i)).1)) ?_) (by rw [List.length_map]; omega) rfl) ?_
      · show I _ = I _
        rw [bi_xor]
        rfl
      refine dss_one (ds_append 4 rfl (DE.is (de_xor (de_var 6) (de_var 8)) (d' := .py (eB (xw (plAt r.p i) (plAt s.p i)).2)) ?_) (by rw [List.length_map]; omega) ?_)
      · show I _ = I _
        rw [bi_xor]
        rfl
      · have eq1 : quar r s - qs (r.p.drop (i + 1)) (s.p.drop (i + 1)) = quar r s - qs (r.p.drop i) (s.p.drop i) + qw (plAt r.p i) (plAt s.p i) := by
          rw [pl_drop hi, pl_drop hi2]
          simp only [qs]
          omega
        exact ⟨_, _, _, _, by rw [eq1, plx_take hl hi, List.map_append, List.map_append]; rfl⟩
    · obtain ⟨a, b, c, e, rfl⟩ := hI
      rw [l1]
      refine dss_one (ds_ret ((de_tup (dp_cons (de_mod (de_var 2) de_int (by walk_at "side")) (dp_cons (de_tup (dp_cons de_int (dp_cons (de_tuple (dq_own 3) BT.b_tuple) (dp_cons (de_tuple (dq_own 4) BT.b_tuple) dp_nil))) (by walk_at "side")) dp_nil)) (by walk_at "side"))) ?_)
      have e5 : (plx r.p s.p).take r.p.length = plx r.p s.p := by rw [← plx_len hl, List.take_length]
      show Tu _ = Tu _
      rw [e5, ← hl, List.drop_length]
      have e6 : ∀ p : Pl, qs p [] = 0 := fun p => by cases p <;> rfl
      rw [e6, Int.sub_zero]
      simp only [eRow, eBits, Row.xs, Row.zs, List.map_map]
      rfl
end
end Bw
namespace Bw
open PySem PySem.Spec PyProof.Rows L2
local macro_rules | `(tactic| walk_at "lv") => `(tactic| first
  | fail)
local macro_rules | `(tactic| walk_at "cd") => `(tactic| first
  | assumption | exact Iff.rfl | omega | (rw [xs_len]; assumption) | (rw [zs_len]; assumption) | (refine ⟨?_, ?_⟩ <;> assumption) | (refine ⟨?_, ?_, ?_⟩ <;> assumption) | (simp only [xs_len, zs_len]; assumption) | (simp only [xs_len, zs_len]; omega) | walk_at "lv")
local macro_rules | `(tactic| walk_at "dxp") => `(tactic| first
  | assumption
  | exact ⟨_, rfl, rfl⟩
  | exact ⟨_, _, rfl, rfl⟩
  | exact ⟨_, _, _, rfl, rfl⟩
  | exact ⟨_, _, _, _, rfl, rfl⟩
  | exact ⟨_, rfl, rfl, by walk_at "cd"⟩
  | exact ⟨_, _, rfl, rfl, by walk_at "cd"⟩
  | exact ⟨_, _, _, rfl, rfl, by walk_at "cd"⟩
  | exact ⟨_, _, _, _, rfl, rfl, by walk_at "cd"⟩
  | exact ⟨_, _, _, _, _, rfl, rfl, by walk_at "cd"⟩
  | exact ⟨_, _, _, _, _, _, rfl, rfl, by walk_at "cd"⟩
  | exact ⟨_, _, _, _, _, _, _, rfl, rfl, by walk_at "cd"⟩
  | exact ⟨_, _, _, _, _, _, _, _, rfl, rfl, by walk_at "cd"⟩
  | exact ⟨_, _, _, _, _, _, _, _, _, rfl, rfl, by walk_at "cd"⟩
  | exact ⟨_, rfl, rfl, rfl, rfl, by walk_at "side"⟩
  | walk_at "lv")
local macro_rules | `(tactic| walk_at "kit") => `(tactic| first
  | exact kit_ii | exact kit_ib | exact kit_ll | exact kit_tt)
local macro_rules | `(tactic| walk_at "side") => `(tactic| first
  | assumption | exact sel_int _ _ _ | exact sel_bi _ _ _ | rfl | decide | omega | exact Nat.le_of_ble_eq_true rfl | (simp; done) | (simp; omega) | (refine Or.inl ⟨?_, ?_⟩ <;> decide) | (refine Or.inr ⟨?_, ?_⟩ <;> decide) | (refine Or.inl ⟨?_, ?_⟩ <;> omega) | (refine Or.inr ⟨?_, ?_⟩ <;> omega) | (rw [bi_xor]; refine Or.inl ⟨?_, ?_⟩ <;> omega) | (refine And.intro ?_ (And.intro ?_ ?_) <;> omega) | (refine And.intro ?_ ?_ <;> omega) | walk_at "lv")
theorem e8_nl (z : Amp) : NL (e8 z) := .tup (.cons (.int _) (.cons (.int _) (.cons (.int _) (.cons (.int _) (.cons (.int _) .nil)))))
theorem e8s_nl (zs : List Amp) : NL (.tuple (zs.map e8)) := .tup (NLs.of fun d hd => by
  obtain ⟨z, _, rfl⟩ := List.mem_map.mp hd
  exact e8_nl z)
theorem len_pow {n : Nat} (h : Wd n) : ((2 ^ n : Nat) : Int) ∈ ([2, 4, 8, 16, 32] : List Int) := (size_at h.1 h.2).1
/-- what the row puts from place h -/
def putv (r : Row) (zs : List Amp) (h : Nat) : Amp := rotN ((4 * bi r.t + tnR r.p h) % 8).toNat (ampAt zs h)
def fnd (r : Row) (zs : List Amp) (i : Nat) : List Amp := (List.range zs.length).map fun j => if j ^^^ flR r.p < i then putv r zs (j ^^^ flR r.p) else zeroA
theorem fnd_len (r : Row) (zs : List Amp) (i : Nat) : (fnd r zs i).length = zs.length := by simp [fnd]
theorem xor_lt {r : Row} {zs : List Amp} (hz : zs.length = 2 ^ r.p.length) {i : Nat} (hi : i < zs.length) : i ^^^ flR r.p < zs.length := by
  rw [hz] at hi ⊢
  exact Nat.xor_lt_two_pow hi (flR_lt _)
theorem xor_back (i k : Nat) : (i ^^^ k) ^^^ k = i := by rw [Nat.xor_assoc, Nat.xor_self, Nat.xor_zero]
theorem fnd_step {r : Row} {zs : List Amp} (hz : zs.length = 2 ^ r.p.length) {i : Nat} (hi : i < zs.length) : (fnd r zs i).set (i ^^^ flR r.p) (putv r zs i) = fnd r zs (i + 1) := by
  apply List.ext_getElem?
  intro j
  by_cases hj : j < zs.length
  · have e1 : ∀ k, (fnd r zs k)[j]? = some (if j ^^^ flR r.p < k then putv r zs (j ^^^ flR r.p) else zeroA) := fun k => by
      unfold fnd
      rw [List.getElem?_map, List.getElem?_range hj]
      rfl
    by_cases q : i ^^^ flR r.p = j
    · rw [q, List.getElem?_set_self (by rw [fnd_len]; exact hj), e1]
      have e2 : j ^^^ flR r.p = i := by rw [← q, xor_back]
      rw [e2, if_pos (Nat.lt_succ_self i)]
    · rw [List.getElem?_set_ne q, e1, e1]
      have e2 : j ^^^ flR r.p ≠ i := fun z => q (by rw [← z, xor_back])
      by_cases h : j ^^^ flR r.p < i
      · rw [if_pos h, if_pos (by omega)]
      · rw [if_neg h, if_neg (by omega)]
  · rw [List.getElem?_eq_none (by rw [List.length_set, fnd_len]; omega), List.getElem?_eq_none (by rw [fnd_len]; omega)]
theorem fnd_all {r : Row} {zs : List Amp} (hz : zs.length = 2 ^ r.p.length) : fnd r zs zs.length = act r zs := by
  unfold fnd act
  apply List.map_congr_left
  intro j hj
  rw [if_pos (xor_lt hz (List.mem_range.mp hj))]
  rfl
theorem fnd_none (r : Row) (zs : List Amp) : (fnd r zs 0).map e8 = (List.replicate zs.length [PyData.tuple [.int 0, .int 0, .int 0, .int 0, .int 0]]).flatten := by
  have e : fnd r zs 0 = List.replicate zs.length zeroA := by
    unfold fnd
    apply List.ext_getElem?
    intro j
    by_cases hj : j < zs.length
    · rw [List.getElem?_map, List.getElem?_range hj, List.getElem?_replicate, if_pos hj]
      rfl
    · rw [List.getElem?_eq_none (by simp; omega), List.getElem?_eq_none (by simp; omega)]
  rw [e]
  induction zs.length with
  | zero => rfl
  | succ n ih =>
    rw [List.replicate_succ, List.map_cons, ih, List.replicate_succ, List.flatten_cons]
    rfl
theorem at_amp {zs : List Amp} {i : Nat} (h : i < zs.length) : at_ (zs.map e8) i = e8 (ampAt zs i) := at_eq (by
  unfold ampAt
  rw [List.getElem?_map, List.getElem?_eq_getElem h]
  rfl)
section
variable {Pg : Program} {w : World} {K : PySem.W.Frag} {mg : Str → Option Value} {base : Heap} {f CS CC : Addr} {fd : FuncData}
def p_done : List D → D → Prop := fun ds d => ∃ (r : Row) (zs : List Amp), ds = [.py (eRow r), St K CS zs] ∧ d = St K CS (act r zs) ∧ Wd r.p.length ∧ zs.length = 2 ^ r.p.length
theorem ok_done (F : FnP K "done" "done" s_done f fd) (BT : Bl mg) (GK : GkP K mg CS CC) (C_is_sign_row : Cal Pg w K mg base "is_sign_row" 3 P_is_sign_row (SpD K p_is_sign_row)) (C_turned : Cal Pg w K mg base "turned" 2 P_turned (SpD K p_turned)) (C_turns_at : Cal Pg w K mg base "turns_at" 1 P_turns_at (SpD K p_turns_at))
    (C_State : CaI Pg w K mg base "State" CS 3 P_State_init (SpI K CS "kept" p_State_init)) (M_State_many : Cam Pg w K mg base CS "many" 1 P_State_many (SpD K (p_State_many (K := K) (CS := CS)))) (M_State_eighths : Cam Pg w K mg base CS "eighths" 1 P_State_eighths (SpD K (p_State_eighths (K := K) (CS := CS)))) :
    FnOk Pg w K mg base CX0 5 f fd P_done (SpD K (p_done (K := K) (CS := CS))) := by
  refine fn_mk F sc_done (fun ds d h => ?_) (by decide) fun cdv A outer s H E ds d hr h => ?_
  · obtain ⟨r, zs, rfl, rfl, _⟩ := h
    rfl
  · obtain ⟨r, zs, rfl, rfl, hw, hz⟩ := h
    have nd := sc_done.nd
    have l1 : (r.xs.map eB).length = r.p.length := by simp [Row.xs]
    have lz : (zs.map e8).length = zs.length := by simp
    have lz5 : zs.length ≤ 32 := len32 (by rw [hz]; exact len_pow hw)
    have hw5 := hw.2
    refine dss_seq (ds_ifF (dt_not (dt_of (de_call C_is_sign_row hr (da_cons (de_var 0) da_nil) (by walk_at "dxp")))) rfl (dss_nil rfl)) ?_
    refine dss_seq (ds_asgG (de_var 0) (dg_tup rfl (dgs_cons (dg_name 2 nd) (dgs_cons (dg_name 3 nd) (dgs_cons (dg_name 4 nd) dgs_nil)))) rfl) ?_
    refine dss_seq (ds_ifF (DW.t (dw_or (dt_not (dt_of (de_isiO (de_var 1) GK.cl_State GK.is1 GK.is2 GK.is3 GK.is4 BT.b_isinstance GK.mg_State))) fun _ => (dw_or1 (dt_cmp (dc_neI (de_meth0 (de_var 1) M_State_many hr (by walk_at "dxp")) (de_len (DE.tpl (de_var 3)) BT.b_len)))))) ?_ (dss_nil rfl)) ?_
    · rw [l1]
      simp
    refine dss_seq (ds_asg 5 nd (DE.is (de_sumC ((fun i => bi (plAt r.p i).1 * 2 ^ (r.p.length - 1 - i))) [("wire", 6), ("x", 7)] rfl nd (blkOk_by (by show blkC N_done (defScope s_done) _ _ = true; decide +kernel)) (lcw_at (ρj := fun i => [.val (.py (eRow r)), .val (St K CS zs), .val (I (bi r.t)), .val (.py (eBits r.xs)), .val (.py (eBits r.zs)), .any, .val (I (i : Int)), .val (.py (eB (plAt r.p i).1)), .any, .any, .any]) [6, 7] _
        (di_enumT (de_var 3) BT.b_enumerate) (by rw [l1]; omega) (fun _ h => h) (fun _ => rfl) (fun i hi s' H' C cl fp => by
          rw [l1] at hi
          have e1 : at_ (r.xs.map eB) i = eB (plAt r.p i).1 := at_x hi
          rw [e1]
          exact (dg_tup rfl (dgs_cons (dg_name 6 nd) (dgs_cons (dg_name 7 nd) dgs_nil)))) fun i hi s' H' C cl fp => by
          have bx := bi_range (plAt r.p i).1
          refine DE.is (de_shl (de_var 7) (de_sub (de_sub (de_len (DE.tpl (de_var 3)) BT.b_len) de_int) (de_var 6)) (by walk_at "side")) ?_
          have e2 : ((((r.xs.map eB).length : Nat) : Int) - 1 - (i : Int)).toNat = r.p.length - 1 - i := by rw [l1]; omega
          show I _ = I _
          rw [e2]) BT.b_sum) (d' := I ((flR r.p : Nat) : Int)) (by rw [l1, flips_sum])) rfl) ?_
    have ek : (1 : Int) * 2 ^ (((r.xs.map eB).length : Nat) : Int).toNat = ((zs.length : Nat) : Int) := by rw [l1, hz, Int.toNat_natCast, Int.one_mul, Int.natCast_pow]; rfl
    refine dss_seq (ds_asgO 8 nd (dl_rep (DL.ex (dl_lst (dp_cons (de_NOUGHT GK) dp_nil) (by walk_at "side"))) (DE.is (de_shl de_int (de_len (DE.tpl (de_var 3)) BT.b_len) (by walk_at "side")) (by rw [ek])) (by omega) (by omega) (by simp)) rfl) ?_
    refine dss_seqA (ds_for (fun i ρ => ∃ a b, ρ = [.val (.py (eRow r)), .val (St K CS zs), .val (I (bi r.t)), .val (.py (eBits r.xs)), .val (.py (eBits r.zs)), .val (I ((flR r.p : Nat) : Int)), .any, .any, .own false ((fnd r zs i).map e8), a, b]) PassesOwn.never rfl
      (di_enumL (de_meth0 (de_var 1) M_State_eighths hr (by walk_at "dxp")) BT.b_enumerate) ⟨.any, .any, ?_⟩ (fun i ρi hi hI => ?_) fun ρ' hI => hI) fun ρ' hI => ?_
    · rw [fnd_none, Int.toNat_natCast]
      rfl
    · obtain ⟨a, b, rfl⟩ := hI
      rw [lz] at hi
      have e1 : at_ (zs.map e8) i = e8 (ampAt zs i) := at_amp hi
      have bt := bi_range r.t
      have hx := xor_lt hz hi
      refine ⟨_, _, (dg_tup rfl (dgs_cons (dg_name 9 nd) (dgs_cons (dg_name 10 nd) dgs_nil))), ?_⟩
      rw [e1]
      refine dss_one (ds_setix 8 (de_call C_turned hr (da_cons (de_var 10) (da_cons (de_add (de_mul de_int (de_var 2) (by walk_at "side")) (de_call C_turns_at hr (da_cons (de_var 9) (da_cons (de_var 3) (da_cons (de_var 4) da_nil))) (by walk_at "dxp"))) da_nil)) (by walk_at "dxp")) (DE.is (de_xor (de_var 9) (de_var 5)) (by rw [bitXor_nat])) (ixN_nat (n := ((fnd r zs i).map e8).length) (j := i ^^^ flR r.p) (by rw [List.length_map, fnd_len]; exact hx)) ?_)
      exact ⟨_, _, by rw [← fnd_step hz hi, List.map_set]; rfl⟩
    · obtain ⟨a, b, rfl⟩ := hI
      rw [lz, fnd_all hz]
      exact dss_one (ds_ret (de_makeO 8 C_State hr ⟨_, rfl, rfl, by rw [show (act r zs).length = zs.length by simp [act], hz]; exact len_pow hw⟩ (e8s_nl _)) rfl)
end
end Bw
namespace Bw
open PySem PySem.Spec PyProof.Rows L2
local macro_rules | `(tactic| walk_at "lv") => `(tactic| first
  | fail)
local macro_rules | `(tactic| walk_at "cd") => `(tactic| first
  | assumption | exact Iff.rfl | omega | (rw [xs_len]; assumption) | (rw [zs_len]; assumption) | (refine ⟨?_, ?_⟩ <;> assumption) | (refine ⟨?_, ?_, ?_⟩ <;> assumption) | (simp only [xs_len, zs_len]; assumption) | (simp only [xs_len, zs_len]; omega) | walk_at "lv")
local macro_rules | `(tactic| walk_at "dxp") => `(tactic| first
  | assumption
  | exact ⟨_, rfl, rfl⟩
  | exact ⟨_, _, rfl, rfl⟩
  | exact ⟨_, _, _, rfl, rfl⟩
  | exact ⟨_, _, _, _, rfl, rfl⟩
  | exact ⟨_, rfl, rfl, by walk_at "cd"⟩
  | exact ⟨_, _, rfl, rfl, by walk_at "cd"⟩
  | exact ⟨_, _, _, rfl, rfl, by walk_at "cd"⟩
  | exact ⟨_, _, _, _, rfl, rfl, by walk_at "cd"⟩
  | exact ⟨_, _, _, _, _, rfl, rfl, by walk_at "cd"⟩
  | exact ⟨_, _, _, _, _, _, rfl, rfl, by walk_at "cd"⟩
  | exact ⟨_, _, _, _, _, _, _, rfl, rfl, by walk_at "cd"⟩
  | exact ⟨_, _, _, _, _, _, _, _, rfl, rfl, by walk_at "cd"⟩
  | exact ⟨_, _, _, _, _, _, _, _, _, rfl, rfl, by walk_at "cd"⟩
  | exact ⟨_, rfl, rfl, rfl, rfl, by walk_at "side"⟩
  | walk_at "lv")
local macro_rules | `(tactic| walk_at "kit") => `(tactic| first
  | exact kit_ii | exact kit_ib | exact kit_ll | exact kit_tt)
local macro_rules | `(tactic| walk_at "side") => `(tactic| first
  | assumption | exact sel_int _ _ _ | exact sel_bi _ _ _ | rfl | decide | omega | exact Nat.le_of_ble_eq_true rfl | (simp; done) | (simp; omega) | (refine Or.inl ⟨?_, ?_⟩ <;> decide) | (refine Or.inr ⟨?_, ?_⟩ <;> decide) | (refine Or.inl ⟨?_, ?_⟩ <;> omega) | (refine Or.inr ⟨?_, ?_⟩ <;> omega) | (rw [bi_xor]; refine Or.inl ⟨?_, ?_⟩ <;> omega) | (refine And.intro ?_ (And.intro ?_ ?_) <;> omega) | (refine And.intro ?_ ?_ <;> omega) | walk_at "lv")
section
variable {Pg : Program} {w : World} {K : PySem.W.Frag} {mg : Str → Option Value} {base : Heap} {f CS CC : Addr} {fd : FuncData}
abbrev N_both : List Str := ["one", "other", "quarters", "row"]
abbrev P_both : List Str := ["one", "other"]
theorem sc_both : FnScope N_both P_both (defScope s_both) := ⟨rfl, rfl, rfl, by decide +kernel, rfl, by decide +kernel, by decide +kernel⟩
abbrev N_bits_of : List Str := ["row"]
abbrev P_bits_of : List Str := ["row"]
theorem sc_bits_of : FnScope N_bits_of P_bits_of (defScope s_bits_of) := ⟨rfl, rfl, rfl, by decide +kernel, rfl, by decide +kernel, by decide +kernel⟩
abbrev N_go_together : List Str := ["rows", "row", "one", "other"]
abbrev P_go_together : List Str := ["rows"]
theorem sc_go_together : FnScope N_go_together P_go_together (defScope s_go_together) := ⟨rfl, rfl, rfl, by decide +kernel, rfl, by decide +kernel, by decide +kernel⟩
abbrev N_cleared : List Str := ["rows", "left", "found", "place", "here", "row", "first"]
abbrev P_cleared : List Str := ["rows"]
theorem sc_cleared : FnScope N_cleared P_cleared (defScope s_cleared) := ⟨rfl, rfl, rfl, by decide +kernel, rfl, by decide +kernel, by decide +kernel⟩
abbrev N_reduced : List Str := ["row", "rows", "one"]
abbrev P_reduced : List Str := ["row", "rows"]
theorem sc_reduced : FnScope N_reduced P_reduced (defScope s_reduced) := ⟨rfl, rfl, rfl, by decide +kernel, rfl, by decide +kernel, by decide +kernel⟩
def p_both : List D → D → Prop := fun ds d => ∃ r s : Row, ds = [.py (eRow r), .py (eRow s)] ∧ d = .py (eRow (mul r s)) ∧ Wd r.p.length ∧ s.p.length = r.p.length
theorem ok_both (F : FnP K "both" "both" s_both f fd) (BT : Bl mg) (C_product : Cal Pg w K mg base "product" 5 P_product (SpD K p_product)) : FnOk Pg w K mg base CX0 6 f fd P_both (SpD K p_both) := by
  refine fn_mk F sc_both (fun ds d h => ?_) (by decide) fun cdv A outer s H E ds d hr h => ?_
  · obtain ⟨r, s, rfl, rfl, _⟩ := h
    rfl
  · obtain ⟨r, s, rfl, rfl, hw, hl⟩ := h
    have nd := sc_both.nd
    refine dss_seq (ds_asgG (de_call C_product hr (da_cons (de_var 0) (da_cons (de_var 1) da_nil)) (by walk_at "dxp")) (dg_tup rfl (dgs_cons (dg_name 2 nd) (dgs_cons (dg_name 3 nd) dgs_nil))) rfl) ?_
    refine dss_one (ds_ret ((de_tup (dp_cons (de_div (de_var 2) de_int (by walk_at "side")) (dp_cons (de_ix (DE.tpl (de_var 3)) de_int (by walk_at "side")) (dp_cons (de_ix (DE.tpl (de_var 3)) de_int (by walk_at "side")) dp_nil))) (by walk_at "side"))) ?_)
    show Tu _ = Tu _
    have e : quar r s % 4 / 2 = bi (decide (quar r s % 4 / 2 = 1)) := by
      have h : quar r s % 4 / 2 = 0 ∨ quar r s % 4 / 2 = 1 := by omega
      rcases h with h | h <;> rw [h] <;> rfl
    rw [e]
    rfl
def p_bits_of : List D → D → Prop := fun ds d => ∃ r : Row, ds = [.py (eRow r)] ∧ d = TB (bitsI r) ∧ Wd r.p.length
theorem map_eB (l : List Bool) : l.map eB = (l.map bi).map PyData.int := by rw [List.map_map]; rfl
theorem ok_bits_of (F : FnP K "bits_of" "bits_of" s_bits_of f fd) (BT : Bl mg) : FnOk Pg w K mg base CX0 1 f fd P_bits_of (SpD K p_bits_of) := by
  refine fn_mk F sc_bits_of (fun ds d h => ?_) (by decide) fun cdv A outer s H E ds d hr h => ?_
  · obtain ⟨r, rfl, rfl, _⟩ := h
    rfl
  · obtain ⟨r, rfl, rfl, hw⟩ := h
    have h1 := hw.1
    have h5 := hw.2
    have lx : (r.xs.map bi).length = r.p.length := by simp [Row.xs]
    have lz : (r.zs.map bi).length = r.p.length := by simp [Row.zs]
    refine dss_one (ds_ret (de_catB (ns := r.xs.map bi) (ms := r.zs.map bi) (DE.is (de_ix (DE.tpl (de_var 0)) de_int (by walk_at "side")) (d' := Tu ((r.xs.map bi).map PyData.int)) ?_) (DE.is (de_ix (DE.tpl (de_var 0)) de_int (by walk_at "side")) (d' := Tu ((r.zs.map bi).map PyData.int)) ?_) (fun z => ?_) (fun z => ?_) (by omega)) rfl)
    · exact congrArg (fun l => Tu l) (map_eB r.xs)
    · exact congrArg (fun l => Tu l) (map_eB r.zs)
    · rw [z] at lx
      simp at lx
      omega
    · rw [z] at lz
      simp at lz
      omega
/-- rows of n wires that go together -/
structure Good (n : Nat) (rs : List Row) : Prop where
  wd : Wd n
  ne : rs ≠ []
  few : rs.length ≤ 100
  alln : AllN n rs
  com : ∀ r ∈ rs, ∀ s ∈ rs, om r.p s.p = false
def p_go_together : List D → D → Prop := fun ds d => ∃ (rs : List Row) (n : Nat), ds = [Li (rs.map eRow)] ∧ d = B true ∧ Good n rs
theorem ok_go_together (F : FnP K "go_together" "go_together" s_go_together f fd) (BT : Bl mg) (C_is_sign_row : Cal Pg w K mg base "is_sign_row" 3 P_is_sign_row (SpD K p_is_sign_row)) (C_goes_with : Cal Pg w K mg base "goes_with" 5 P_goes_with (SpD K p_goes_with)) :
    FnOk Pg w K mg base CX0 6 f fd P_go_together (SpD K p_go_together) := by
  refine fn_mk F sc_go_together (fun ds d h => ?_) (by decide) fun cdv A outer s H E ds d hr h => ?_
  · obtain ⟨rs, n, rfl, rfl, _⟩ := h
    rfl
  · obtain ⟨rs, n, rfl, rfl, g⟩ := h
    have nd := sc_go_together.nd
    have few := g.few
    have hsr := rows_shaped rs
    refine dss_seq (ds_ifF (DW.t (dw_or (dt_not (dt_of (de_isi (de_var 0) bt_list (by walk_at "kit") BT.b_isinstance BT.b_list))) fun _ => (dw_or (dt_cmp (dc_eq (de_var 0) (DL.ex (dl_lst dp_nil (by walk_at "side"))) hr.units (by walk_at "side") (by walk_at "side"))) fun _ => (dw_or1 (dt_not (dt_of (de_allC [("row", 1)] rfl nd (blkOk_by (by show blkC N_go_together (defScope s_go_together) _ _ = true; decide +kernel)) (lcw_mapA 1 (fun _ => .bool true) (di_list (de_var 0)) (by omega) (fun d _ _ _ _ _ => dg_name 1 nd) fun r hrs s H C cl fp => by
      have hw : Wd r.p.length := by rw [g.alln r hrs]; exact g.wd
      exact (de_call C_is_sign_row hr (da_cons (de_var 1) da_nil) (by walk_at "dxp"))) BT.b_all))))))) ?_ (dss_nil rfl)) ?_
    · have ne := g.ne
      cases rs with
      | nil => exact absurd rfl ne
      | cons r rest => simp [PyData.eqv, PyData.eqvAll]
    obtain ⟨r0, rest, e0⟩ : ∃ r0 rest, rs = r0 :: rest := by
      cases hrs : rs with
      | nil => exact absurd hrs g.ne
      | cons r rest => exact ⟨r, rest, rfl⟩
    have h0 : atI (rs.map eRow) 0 = some (eRow r0) := atI_n (i := 0) (by rw [e0]; rfl)
    have m0 : r0 ∈ rs := by rw [e0]; simp
    have len2 : ∀ r ∈ rs, ∀ s ∈ rs, s.p.length = r.p.length := fun r hr s hs => by rw [g.alln r hr, g.alln s hs]
    have wd2 : ∀ r ∈ rs, Wd r.p.length := fun r hr => by rw [g.alln r hr]; exact g.wd
    refine dss_seq (ds_ifF (dt_not (dt_of (de_allC [("row", 1)] rfl nd (blkOk_by (by show blkC N_go_together (defScope s_go_together) _ _ = true; decide +kernel)) (lcw_mapA 1 (fun _ => .bool true) (di_list (de_var 0)) (by omega) (fun d _ _ _ _ _ => dg_name 1 nd) fun r hrs s H C cl fp => by
      refine DE.is (de_cmp (dc_eqI (de_len (DE.tpl (de_ix (DE.tpl (de_var 1)) de_int (by walk_at "side"))) BT.b_len) (de_len (DE.tpl (de_ix (DE.tpl (de_ix (DE.lst (de_var 0)) de_int (by walk_at "side"))) de_int (by walk_at "side"))) BT.b_len))) ?_
      have e := len2 r0 m0 r hrs
      show B _ = B true
      simp [Row.xs, e]) BT.b_all))) rfl (dss_nil rfl)) ?_
    refine dss_seqA (ds_for (fun i ρ => ∃ a, ρ = [.val (Li (rs.map eRow)), .any, a, .any]) PassesOwn.never rfl (di_list (de_var 0)) ⟨_, rfl⟩ (fun i ρi hi hI => ?_) fun ρ' hI => hI) fun ρ' hI => ?_
    · obtain ⟨a, rfl⟩ := hI
      rw [List.length_map] at hi
      have mi : rs[i] ∈ rs := List.getElem_mem hi
      refine ⟨_, _, (dg_name 2 nd), ?_⟩
      rw [at_map hi]
      refine dss_one (ds_ifF (dt_not (dt_of (de_allC [("other", 3)] rfl nd (blkOk_by (by show blkC N_go_together (defScope s_go_together) _ _ = true; decide +kernel)) (lcw_mapA 3 (fun _ => .bool true) (di_list (de_var 0)) (by omega) (fun d _ _ _ _ _ => dg_name 3 nd) fun r hrs s H C cl fp => by
        have hl := len2 rs[i] mi r hrs
        have hw := wd2 rs[i] mi
        refine DE.is (de_call C_goes_with hr (da_cons (de_var 2) (da_cons (de_var 3) da_nil)) (by walk_at "dxp")) ?_
        rw [g.com rs[i] mi r hrs]
        rfl) BT.b_all))) rfl (dss_nil ⟨_, rfl⟩))
    · obtain ⟨a, rfl⟩ := hI
      exact dss_one (ds_ret (de_bl) rfl)
def p_cleared : List D → D → Prop := fun ds d => ∃ (rs : List Row) (n : Nat), ds = [Li (rs.map eRow)] ∧ d = Li ((clearR n rs).map eRow) ∧ Wd n ∧ rs ≠ [] ∧ rs.length ≤ 100 ∧ AllN n rs
theorem ok_cleared (F : FnP K "cleared" "cleared" s_cleared f fd) (BT : Bl mg) (C_both : Cal Pg w K mg base "both" 6 P_both (SpD K p_both)) (C_bits_of : Cal Pg w K mg base "bits_of" 1 P_bits_of (SpD K p_bits_of)) :
    FnOk Pg w K mg base CX0 7 f fd P_cleared (SpD K p_cleared) := by
  refine fn_mk F sc_cleared (fun ds d h => ?_) (by decide) fun cdv A outer s H E ds d hr h => ?_
  · obtain ⟨rs, n, rfl, rfl, _⟩ := h
    rfl
  · obtain ⟨rs, n, rfl, rfl, wn, ne, few, hall⟩ := h
    have nd := sc_cleared.nd
    obtain ⟨r0, rest, e0⟩ : ∃ r0 rest, rs = r0 :: rest := by
      cases hrs : rs with
      | nil => exact absurd hrs ne
      | cons r rest => exact ⟨r, rest, rfl⟩
    have h0 : atI (rs.map eRow) 0 = some (eRow r0) := atI_n (i := 0) (by rw [e0]; rfl)
    have m0 : r0 ∈ rs := by rw [e0]; simp
    have hn0 := hall r0 m0
    have lx0 : (r0.xs.map eB).length = n := by simp [Row.xs, hn0]
    have wn5 := wn.2
    refine dss_seq (ds_asgO 1 nd (dl_list (DE.lst (de_var 0)) BT.b_list) rfl) ?_
    refine dss_seq (ds_asg 2 nd (DL.ex (dl_lst dp_nil (by walk_at "side"))) rfl) ?_
    refine dss_seqA (ds_for (fun i ρ => ∃ a b c, ρ = [.val (Li (rs.map eRow)), .own false ((clLoop rs i).1.map eRow), .val (Li ((clLoop rs i).2.map eRow)), a, b, .any, c]) PassesOwn.never rfl
      (di_range1 (DE.is (de_mul de_int (de_len (DE.tpl (de_ix (DE.tpl (de_ix (DE.lst (de_var 0)) de_int (by walk_at "side"))) de_int (by walk_at "side"))) BT.b_len) (by walk_at "side")) (d' := I ((2 * n : Nat) : Int)) (by rw [lx0]; show I _ = I _; congr 1)) (by omega) BT.b_range) ⟨_, _, _, rfl⟩ (fun i ρi hi hI => ?_) fun ρ' hI => hI) fun ρ' hI => ?_
    · obtain ⟨a, b, c, rfl⟩ := hI
      obtain ⟨okl, okf, okn⟩ := clLoop_ok hall i
      have ecl : clLoop rs (i + 1) = clStep i ((clLoop rs i).1, (clLoop rs i).2) := rfl
      generalize (clLoop rs i).1 = left at okl okf okn ecl ⊢
      generalize (clLoop rs i).2 = found at okl okf okn ecl ⊢
      have wd1 : ∀ r ∈ left, Wd r.p.length := fun r hr => by rw [okl r hr]; exact wn
      have wd2 : ∀ r ∈ found, Wd r.p.length := fun r hr => by rw [okf r hr]; exact wn
      refine ⟨_, _, (dg_name 3 nd), ?_⟩
      refine dss_seq (ds_setLc (out := (left.filter fun r => bitB r i).map eRow) 4 [("row", 5)] rfl nd (blkOk_by (by show blkC N_cleared (defScope s_cleared) _ _ = true; decide +kernel)) (lcw_seqA 5 (fun r => bitB r i) eRow (di_own (dq_own 1)) (by omega) (fun d _ _ _ _ _ => dg_name 5 nd) (fun r hrl s H C cl fp => dts_one ?_) fun r hrl hb s H C cl fp => (de_var 5)) rfl) ?_
      · have hw := wd1 r hrl
        have hat := atI_bits (r := r) (k := i) (by rw [okl r hrl]; exact hi)
        have hbl : (bitsI r).length ≤ 100000 := by rw [bitsI_len, okl r hrl]; omega
        refine DT.is (dt_cmp (dc_eqI (de_ixB (de_call C_bits_of hr (da_cons (de_var 5) da_nil) (by walk_at "dxp")) (de_var 3) (by walk_at "side") (by walk_at "side")) de_int)) ?_
        cases bitB r i <;> rfl
      cases hfind : left.find? (fun r => bitB r i) with
      | none =>
        have e1 : (left.filter fun r => bitB r i) = [] := List.filter_eq_nil_iff.mpr (List.find?_eq_none.mp hfind)
        rw [e1]
        refine dss_stop (ds_ifT (dt_cmp (dc_eq (de_var 4) (DL.ex (dl_lst dp_nil (by walk_at "side"))) hr.units (by walk_at "side") (by walk_at "side"))) (by simp [PyData.eqv, PyData.eqvAll]) (dss_one (ds_cont ?_)))
        have e2 : clStep i (left, found) = (left, found) := by
          unfold clStep
          rw [hfind]
        rw [ecl, e2]
        exact ⟨_, _, _, rfl⟩
      | some first =>
        obtain ⟨f1, f2, f3, f4⟩ := find_facts hfind
        have mf : first ∈ left := List.mem_of_find?_eq_some hfind
        have hne : PyData.eqv (.list ((left.filter fun r => bitB r i).map eRow)) (.list []) = false := by
          cases hfl : left.filter (fun r => bitB r i) with
          | nil => rw [hfl] at f3; cases f3
          | cons x xs => simp [PyData.eqv, PyData.eqvAll]
        have hsh := rows_shaped (left.filter fun r => bitB r i)
        have hsl := rows_shaped left
        have hix : atI ((left.filter fun r => bitB r i).map eRow) 0 = some (eRow first) := atI_n (i := 0) (by rw [List.getElem?_map, f3]; rfl)
        refine dss_seq (ds_ifF (dt_cmp (dc_eq (de_var 4) (DL.ex (dl_lst dp_nil (by walk_at "side"))) hr.units (by walk_at "side") (by walk_at "side"))) hne (dss_nil rfl)) ?_
        refine dss_seq (ds_asg 6 nd (de_ix (DE.lst (de_var 4)) de_int (by walk_at "side")) rfl) ?_
        refine dss_seq (ds_remove 1 (by have := hr.un; omega) rfl (de_var 6) hsl (row_shaped first) (z := eRow first) (j := left.findIdx fun r => bitB r i) (by rw [List.getElem?_map, f1]; rfl) (by rw [eRow_eqv]; simp) (fun m z' hm hz' => ?_) rfl) ?_
        · rw [List.getElem?_map] at hz'
          cases hy : left[m]? with
          | none => rw [hy] at hz'; cases hz'
          | some y =>
            rw [hy] at hz'
            cases hz'
            have q := f2 m y hm hy
            rw [eRow_eqv]
            exact decide_eq_false fun z => by rw [z, f4] at q; cases q
        have e2 : (left.map eRow).eraseIdx (left.findIdx fun r => bitB r i) = (left.eraseIdx (left.findIdx fun r => bitB r i)).map eRow := erase_map _ _ _
        rw [e2]
        have e3 : clStep i (left, found) = ((left.eraseIdx (left.findIdx fun r => bitB r i)).map (mixR i first), found.map (mixR i first) ++ [first]) := by
          unfold clStep
          rw [hfind]
        generalize hle : left.eraseIdx (left.findIdx fun r => bitB r i) = left2 at e3
        have sub2 : ∀ r ∈ left2, r ∈ left := fun r hr => by rw [← hle] at hr; exact List.mem_of_mem_eraseIdx hr
        have len2 : left2.length ≤ left.length := by rw [← hle]; exact len_erase' _ _
        have wf := wd1 first mf
        have mixed : ∀ r : Row, r.p.length = n → ∀ (b : Bool), decide (bi (bitB r i) = 1) = b → (if b = true then mul first r else r) = mixR i first r := fun r _ b hb => by
          unfold mixR
          have e : bitB r i = b := by rw [← hb]; cases bitB r i <;> rfl
          rw [e]
        refine dss_seq (ds_setLcO (out := (left2.map (mixR i first)).map eRow) 1 [("row", 5)] rfl nd (blkOk_by (by show blkC N_cleared (defScope s_cleared) _ _ = true; decide +kernel)) (by
          rw [List.map_map]
          exact lcw_mapA 5 (fun r => eRow (mixR i first r)) (di_own (dq_own 1)) (by omega) (fun d _ _ _ _ _ => dg_name 5 nd) fun r hrl s H C cl fp => by
            have hw := wd1 r (sub2 r hrl)
            have hl2 : r.p.length = first.p.length := by rw [okl r (sub2 r hrl), okl first mf]
            have hat := atI_bits (r := r) (k := i) (by rw [okl r (sub2 r hrl)]; exact hi)
            have hbl : (bitsI r).length ≤ 100000 := by rw [bitsI_len, okl r (sub2 r hrl)]; omega
            exact de_if (dt_cmp (dc_eqI (de_ixB (de_call C_bits_of hr (da_cons (de_var 5) da_nil) (by walk_at "dxp")) (de_var 3) (by walk_at "side") (by walk_at "side")) de_int)) (fun hb => DE.is (de_call C_both hr (da_cons (de_var 6) (da_cons (de_var 5) da_nil)) (by walk_at "dxp")) (by rw [← mixed r (okl r (sub2 r hrl)) _ hb, if_pos rfl])) fun hb => DE.is (de_var 5) (by rw [← mixed r (okl r (sub2 r hrl)) _ hb, if_neg Bool.false_ne_true])) rfl) ?_
        refine dss_one (ds_asg 2 nd (d := Li ((found.map (mixR i first) ++ [first]).map eRow)) (DE.is (DL.ex (dl_catE (DL.ex (dl_lc [("row", 5)] rfl nd (blkOk_by (by show blkC N_cleared (defScope s_cleared) _ _ = true; decide +kernel)) (lcw_mapA 5 (fun r => eRow (mixR i first r)) (di_list (de_var 2)) (by omega) (fun d _ _ _ _ _ => dg_name 5 nd) fun r hrl s H C cl fp => by
            have hw := wd2 r hrl
            have hl2 : r.p.length = first.p.length := by rw [okf r hrl, okl first mf]
            have hat := atI_bits (r := r) (k := i) (by rw [okf r hrl]; exact hi)
            have hbl : (bitsI r).length ≤ 100000 := by rw [bitsI_len, okf r hrl]; omega
            exact de_if (dt_cmp (dc_eqI (de_ixB (de_call C_bits_of hr (da_cons (de_var 5) da_nil) (by walk_at "dxp")) (de_var 3) (by walk_at "side") (by walk_at "side")) de_int)) (fun hb => DE.is (de_call C_both hr (da_cons (de_var 6) (da_cons (de_var 5) da_nil)) (by walk_at "dxp")) (by rw [← mixed r (okf r hrl) _ hb, if_pos rfl])) fun hb => DE.is (de_var 5) (by rw [← mixed r (okf r hrl) _ hb, if_neg Bool.false_ne_true])))) (DL.ex (dl_lst (dp_cons (de_var 6) dp_nil) (by walk_at "side"))) (by walk_at "side"))) (by rw [List.map_append, List.map_map]; rfl)) ?_)
        rw [ecl, e3]
        exact ⟨_, _, _, rfl⟩
    · obtain ⟨a, b, c, rfl⟩ := hI
      exact dss_one (ds_ret ((de_var 2)) rfl)
end
end Bw
namespace Bw
open PySem PySem.Spec PyProof.Rows L2
local macro_rules | `(tactic| walk_at "lv") => `(tactic| first
  | fail)
local macro_rules | `(tactic| walk_at "cd") => `(tactic| first
  | assumption | exact Iff.rfl | omega | (rw [xs_len]; assumption) | (rw [zs_len]; assumption) | (refine ⟨?_, ?_⟩ <;> assumption) | (refine ⟨?_, ?_, ?_⟩ <;> assumption) | (simp only [xs_len, zs_len]; assumption) | (simp only [xs_len, zs_len]; omega) | walk_at "lv")
local macro_rules | `(tactic| walk_at "dxp") => `(tactic| first
  | assumption
  | exact ⟨_, rfl, rfl⟩
  | exact ⟨_, _, rfl, rfl⟩
  | exact ⟨_, _, _, rfl, rfl⟩
  | exact ⟨_, _, _, _, rfl, rfl⟩
  | exact ⟨_, rfl, rfl, by walk_at "cd"⟩
  | exact ⟨_, _, rfl, rfl, by walk_at "cd"⟩
  | exact ⟨_, _, _, rfl, rfl, by walk_at "cd"⟩
  | exact ⟨_, _, _, _, rfl, rfl, by walk_at "cd"⟩
  | exact ⟨_, _, _, _, _, rfl, rfl, by walk_at "cd"⟩
  | exact ⟨_, _, _, _, _, _, rfl, rfl, by walk_at "cd"⟩
  | exact ⟨_, _, _, _, _, _, _, rfl, rfl, by walk_at "cd"⟩
  | exact ⟨_, _, _, _, _, _, _, _, rfl, rfl, by walk_at "cd"⟩
  | exact ⟨_, _, _, _, _, _, _, _, _, rfl, rfl, by walk_at "cd"⟩
  | exact ⟨_, rfl, rfl, rfl, rfl, by walk_at "side"⟩
  | walk_at "lv")
local macro_rules | `(tactic| walk_at "kit") => `(tactic| first
  | exact kit_ii | exact kit_ib | exact kit_ll | exact kit_tt)
local macro_rules | `(tactic| walk_at "side") => `(tactic| first
  | assumption | exact sel_int _ _ _ | exact sel_bi _ _ _ | rfl | decide | omega | exact Nat.le_of_ble_eq_true rfl | (simp; done) | (simp; omega) | (refine Or.inl ⟨?_, ?_⟩ <;> decide) | (refine Or.inr ⟨?_, ?_⟩ <;> decide) | (refine Or.inl ⟨?_, ?_⟩ <;> omega) | (refine Or.inr ⟨?_, ?_⟩ <;> omega) | (rw [bi_xor]; refine Or.inl ⟨?_, ?_⟩ <;> omega) | (refine And.intro ?_ (And.intro ?_ ?_) <;> omega) | (refine And.intro ?_ ?_ <;> omega) | walk_at "lv")
theorem redStep_len {r s : Row} {n : Nat} (h : r.p.length = n) (h2 : s.p.length = n) : (redStep r s).p.length = n := by
  unfold redStep
  split
  · exact mul_len h2 h
  · exact h
theorem redR_len {n : Nat} : ∀ {rows : List Row} {r : Row}, r.p.length = n → AllN n rows → (redR r rows).p.length = n
  | [], r, h, _ => h
  | s :: rows, r, h, ha => redR_len (rows := rows) (redStep_len h (ha s (by simp))) fun x hx => ha x (by simp [hx])
theorem redR_take {rows : List Row} {r : Row} {i : Nat} (h : i < rows.length) : redR r (rows.take (i + 1)) = redStep (redR r (rows.take i)) rows[i] := by
  unfold redR
  rw [List.take_succ, List.getElem?_eq_getElem h, List.foldl_append]
  rfl
theorem AllN.take {n i : Nat} {rows : List Row} (h : AllN n rows) : AllN n (rows.take i) := fun r hr => h r (List.mem_of_mem_take hr)
section
variable {Pg : Program} {w : World} {K : PySem.W.Frag} {mg : Str → Option Value} {base : Heap} {f CS CC : Addr} {fd : FuncData}
abbrev N_bit_rows : List Str := ["many", "found", "place", "row"]
abbrev P_bit_rows : List Str := ["many"]
theorem sc_bit_rows : FnScope N_bit_rows P_bit_rows (defScope s_bit_rows) := ⟨rfl, rfl, rfl, by decide +kernel, rfl, by decide +kernel, by decide +kernel⟩
abbrev N_size_of : List Str := ["error", "x", "z"]
abbrev P_size_of : List Str := ["error"]
theorem sc_size_of : FnScope N_size_of P_size_of (defScope s_size_of) := ⟨rfl, rfl, rfl, by decide +kernel, rfl, by decide +kernel, by decide +kernel⟩
def p_reduced : List D → D → Prop := fun ds d => ∃ (r : Row) (rows : List Row), ds = [.py (eRow r), Li (rows.map eRow)] ∧ d = .py (eRow (redR r rows)) ∧ Wd r.p.length ∧ AllN r.p.length rows ∧ rows.length ≤ 100 ∧ ∀ one ∈ rows, (1 : Int) ∈ bitsI one
theorem ok_reduced (F : FnP K "reduced" "reduced" s_reduced f fd) (BT : Bl mg) (C_both : Cal Pg w K mg base "both" 6 P_both (SpD K p_both)) (C_bits_of : Cal Pg w K mg base "bits_of" 1 P_bits_of (SpD K p_bits_of)) :
    FnOk Pg w K mg base CX0 7 f fd P_reduced (SpD K p_reduced) := by
  refine fn_mk F sc_reduced (fun ds d h => ?_) (by decide) fun cdv A outer s H E ds d hr h => ?_
  · obtain ⟨r, rows, rfl, rfl, _⟩ := h
    rfl
  · obtain ⟨r, rows, rfl, rfl, hw, hall, few, hone⟩ := h
    have nd := sc_reduced.nd
    refine dss_seqA (ds_for (fun i ρ => ∃ a, ρ = [.val (.py (eRow (redR r (rows.take i)))), .val (Li (rows.map eRow)), a]) PassesOwn.never rfl (di_list (de_var 1)) ⟨_, rfl⟩ (fun i ρi hi hI => ?_) fun ρ' hI => hI) fun ρ' hI => ?_
    · obtain ⟨a, rfl⟩ := hI
      rw [List.length_map] at hi
      have mi : rows[i] ∈ rows := List.getElem_mem hi
      have hn := redR_len (r := r) (rows := rows.take i) rfl hall.take
      have hw1 : Wd (redR r (rows.take i)).p.length := by rw [hn]; exact hw
      have hw2 : Wd rows[i].p.length := by rw [hall _ mi]; exact hw
      have hl : (redR r (rows.take i)).p.length = rows[i].p.length := by rw [hn, hall _ mi]
      have h1 := hone _ mi
      have hidx : (bitsI rows[i]).idxOf 1 < 2 * (redR r (rows.take i)).p.length := by rw [hl, ← bitsI_len]; exact List.idxOf_lt_length_iff.mpr h1
      have hat := atI_bits hidx
      have hbl : (bitsI (redR r (rows.take i))).length ≤ 100000 := by rw [bitsI_len]; have := hw1.2; omega
      have est := redR_take (r := r) hi
      refine ⟨_, _, (dg_name 2 nd), ?_⟩
      rw [at_map hi]
      have key : ∀ b : Bool, decide (bi (bitB (redR r (rows.take i)) ((bitsI rows[i]).idxOf 1)) = 1) = b → redR r (rows.take (i + 1)) = if b = true then mul rows[i] (redR r (rows.take i)) else redR r (rows.take i) := fun b hb => by
        rw [est]
        unfold redStep leadI
        have e : bitB (redR r (rows.take i)) ((bitsI rows[i]).idxOf 1) = b := by rw [← hb]; cases bitB (redR r (rows.take i)) ((bitsI rows[i]).idxOf 1) <;> rfl
        rw [e]
      refine dss_one (ds_if (dt_cmp (dc_eqI (de_ixB (de_call C_bits_of hr (da_cons (de_var 0) da_nil) (by walk_at "dxp")) (de_idxB (de_call C_bits_of hr (da_cons (de_var 2) da_nil) (by walk_at "dxp")) de_int (by walk_at "side")) (by walk_at "side") (by walk_at "side")) de_int)) (fun hb => dss_one (ds_asg 0 nd (de_call C_both hr (da_cons (de_var 2) (da_cons (de_var 0) da_nil)) (by walk_at "dxp")) ?_)) fun hb => dss_nil ?_)
      · have := key _ hb
        rw [if_pos rfl] at this
        exact ⟨_, by rw [this]; rfl⟩
      · have := key _ hb
        rw [if_neg Bool.false_ne_true] at this
        exact ⟨_, by rw [this]; rfl⟩
    · obtain ⟨a, rfl⟩ := hI
      rw [List.length_map, List.take_length]
      exact dss_one (ds_ret ((de_var 0)) rfl)
def brR : Nat → List (List Bool)
  | 0 => [[]]
  | n + 1 => (brR n).map (· ++ [false]) ++ (brR n).map (· ++ [true])
theorem brR_len : ∀ n, (brR n).length = 2 ^ n
  | 0 => rfl
  | n + 1 => by
    simp only [brR, List.length_append, List.length_map, brR_len n]
    omega
theorem brR_each : ∀ n, ∀ l ∈ brR n, l.length = n
  | 0, l, h => by simp [brR] at h; rw [h]; rfl
  | n + 1, l, h => by
    simp only [brR, List.mem_append, List.mem_map] at h
    rcases h with ⟨m, hm, rfl⟩ | ⟨m, hm, rfl⟩ <;> simp [brR_each n m hm]
def p_bit_rows : List D → D → Prop := fun ds d => ∃ n : Nat, ds = [I n] ∧ d = Li ((brR n).map eBits) ∧ Wd n
theorem ok_bit_rows (F : FnP K "bit_rows" "bit_rows" s_bit_rows f fd) (BT : Bl mg) : FnOk Pg w K mg base CX0 1 f fd P_bit_rows (SpD K p_bit_rows) := by
  refine fn_mk F sc_bit_rows (fun ds d h => ?_) (by decide) fun cdv A outer s H E ds d hr h => ?_
  · obtain ⟨n, rfl, rfl, _⟩ := h
    rfl
  · obtain ⟨n, rfl, rfl, hw⟩ := h
    have nd := sc_bit_rows.nd
    have h5 := hw.2
    refine dss_seq (ds_asg 1 nd (DL.ex (dl_lst (dp_cons (de_tup dp_nil (by walk_at "side")) dp_nil) (by walk_at "side"))) rfl) ?_
    refine dss_seqA (ds_for (fun i ρ => ∃ a, ρ = [.val (I n), .val (Li ((brR i).map eBits)), a, .any]) PassesOwn.never rfl (di_range1 (de_var 0) (by walk_at "side") BT.b_range) ⟨_, rfl⟩ (fun i ρi hi hI => ?_) fun ρ' hI => hI) fun ρ' hI => ?_
    · obtain ⟨a, rfl⟩ := hI
      have hp : (brR i).length ≤ 32 := by
        rw [brR_len]
        have : i = 0 ∨ i = 1 ∨ i = 2 ∨ i = 3 ∨ i = 4 := by omega
        rcases this with h | h | h | h | h <;> subst h <;> decide
      refine ⟨_, _, (dg_name 2 nd), ?_⟩
      refine dss_one (ds_asg 1 nd (d := Li ((brR (i + 1)).map eBits)) (DE.is (DL.ex (dl_catE (DL.ex (dl_lc [("row", 3)] rfl nd (blkOk_by (by show blkC N_bit_rows (defScope s_bit_rows) _ _ = true; decide +kernel)) (lcw_mapA 3 (fun l => eBits (l ++ [false])) (di_list (de_var 1)) (by omega) (fun d _ _ _ _ _ => dg_name 3 nd) fun l hl s H C cl fp => by
          have hle := brR_each i l hl
          have hm : (l.map eB).length = l.length := List.length_map ..
          exact DE.is (de_cat (de_var 3) (de_tup (dp_cons de_int dp_nil) (by walk_at "side")) (by walk_at "side")) (by show Tu _ = Tu _; rw [List.map_append]; rfl)))) (DL.ex (dl_lc [("row", 3)] rfl nd (blkOk_by (by show blkC N_bit_rows (defScope s_bit_rows) _ _ = true; decide +kernel)) (lcw_mapA 3 (fun l => eBits (l ++ [true])) (di_list (de_var 1)) (by omega) (fun d _ _ _ _ _ => dg_name 3 nd) fun l hl s H C cl fp => by
          have hle := brR_each i l hl
          have hm : (l.map eB).length = l.length := List.length_map ..
          exact DE.is (de_cat (de_var 3) (de_tup (dp_cons de_int dp_nil) (by walk_at "side")) (by walk_at "side")) (by show Tu _ = Tu _; rw [List.map_append]; rfl)))) (by walk_at "side"))) ?_) ⟨_, rfl⟩)
      show Li _ = Li _
      simp only [brR, List.map_append, List.map_map]
      rfl
    · obtain ⟨a, rfl⟩ := hI
      exact dss_one (ds_ret ((de_var 1)) rfl)
end
end Bw
namespace Bw
open PySem PySem.Spec PyProof.Rows L2
local macro_rules | `(tactic| walk_at "lv") => `(tactic| first
  | fail)
local macro_rules | `(tactic| walk_at "cd") => `(tactic| first
  | assumption | exact Iff.rfl | omega | (rw [xs_len]; assumption) | (rw [zs_len]; assumption) | (refine ⟨?_, ?_⟩ <;> assumption) | (refine ⟨?_, ?_, ?_⟩ <;> assumption) | (simp only [xs_len, zs_len]; assumption) | (simp only [xs_len, zs_len]; omega) | walk_at "lv")
local macro_rules | `(tactic| walk_at "dxp") => `(tactic| first
  | assumption
  | exact ⟨_, rfl, rfl⟩
  | exact ⟨_, _, rfl, rfl⟩
  | exact ⟨_, _, _, rfl, rfl⟩
  | exact ⟨_, _, _, _, rfl, rfl⟩
  | exact ⟨_, rfl, rfl, by walk_at "cd"⟩
  | exact ⟨_, _, rfl, rfl, by walk_at "cd"⟩
  | exact ⟨_, _, _, rfl, rfl, by walk_at "cd"⟩
  | exact ⟨_, _, _, _, rfl, rfl, by walk_at "cd"⟩
  | exact ⟨_, _, _, _, _, rfl, rfl, by walk_at "cd"⟩
  | exact ⟨_, _, _, _, _, _, rfl, rfl, by walk_at "cd"⟩
  | exact ⟨_, _, _, _, _, _, _, rfl, rfl, by walk_at "cd"⟩
  | exact ⟨_, _, _, _, _, _, _, _, rfl, rfl, by walk_at "cd"⟩
  | exact ⟨_, _, _, _, _, _, _, _, _, rfl, rfl, by walk_at "cd"⟩
  | exact ⟨_, rfl, rfl, rfl, rfl, by walk_at "side"⟩
  | walk_at "lv")
local macro_rules | `(tactic| walk_at "kit") => `(tactic| first
  | exact kit_ii | exact kit_ib | exact kit_ll | exact kit_tt)
local macro_rules | `(tactic| walk_at "side") => `(tactic| first
  | assumption | exact sel_int _ _ _ | exact sel_bi _ _ _ | rfl | decide | omega | exact Nat.le_of_ble_eq_true rfl | (simp; done) | (simp; omega) | (refine Or.inl ⟨?_, ?_⟩ <;> decide) | (refine Or.inr ⟨?_, ?_⟩ <;> decide) | (refine Or.inl ⟨?_, ?_⟩ <;> omega) | (refine Or.inr ⟨?_, ?_⟩ <;> omega) | (rw [bi_xor]; refine Or.inl ⟨?_, ?_⟩ <;> omega) | (refine And.intro ?_ (And.intro ?_ ?_) <;> omega) | (refine And.intro ?_ ?_ <;> omega) | walk_at "lv")
section
variable {Pg : Program} {w : World} {K : PySem.W.Frag} {mg : Str → Option Value} {base : Heap} {f CS CC : Addr} {fd : FuncData}
def p_size_of : List D → D → Prop := fun ds d => ∃ r : Row, ds = [.py (eRow r)] ∧ d = I (wt r.p) ∧ r.p.length ≤ 100
theorem ok_size_of (F : FnP K "size_of" "size_of" s_size_of f fd) (BT : Bl mg) : FnOk Pg w K mg base CX0 1 f fd P_size_of (SpD K p_size_of) := by
  refine fn_mk F sc_size_of (fun ds d h => ?_) (by decide) fun cdv A outer s H E ds d hr h => ?_
  · obtain ⟨r, rfl, rfl, _⟩ := h
    rfl
  · obtain ⟨r, rfl, rfl, hw⟩ := h
    have nd := sc_size_of.nd
    have l1 : (r.xs.map eB).length = r.p.length := by simp [Row.xs]
    have l2 : (r.zs.map eB).length = r.p.length := by simp [Row.zs]
    refine dss_one (ds_ret ((de_len (DL.lst (dl_lc [("x", 1), ("z", 2)] rfl nd (blkOk_by (by show blkC N_size_of (defScope s_size_of) _ _ = true; decide +kernel)) (lcw_atF (ρj := fun i => [.val (.py (eRow r)), .val (.py (eB (plAt r.p i).1)), .val (.py (eB (plAt r.p i).2))]) [1, 2] (fun i => (r.p[i]?.map szw).getD false) (fun _ => .int 1) (di_zip2 (de_ix (DE.tpl (de_var 0)) de_int (by walk_at "side")) (de_ix (DE.tpl (de_var 0)) de_int (by walk_at "side")) (l2.trans l1.symm) BT.b_zip)
        (by rw [l1]; omega) (fun _ h => h) (fun _ => rfl) (fun i hi s' H' C cl fp => by
          rw [l1] at hi
          have e1 : at_ (r.xs.map eB) i = eB (plAt r.p i).1 := at_x hi
          have e2 : at_ (r.zs.map eB) i = eB (plAt r.p i).2 := at_z hi
          rw [e1, e2]
          exact (dg_tup rfl (dgs_cons (dg_name 1 nd) (dgs_cons (dg_name 2 nd) dgs_nil)))) (fun i hi s' H' C cl fp => by
          rw [l1] at hi
          refine dts_one (DT.is (DW.t (dw_or (dt_cmp (dc_eqI (de_var 1) de_int)) fun _ => (dw_or1 (dt_cmp (dc_eqI (de_var 2) de_int))))) ?_)
          have e3 : (r.p[i]?.map szw).getD false = szw (plAt r.p i) := by rw [plAt_get hi]; rfl
          rw [e3]
          unfold szw
          cases (plAt r.p i).1 <;> cases (plAt r.p i).2 <;> rfl) fun i hi hb s' H' C cl fp => de_int))) BT.b_len)) ?_)
    rw [List.length_map, l1, wt_range]
end
end Bw
namespace Bw
open PySem PySem.Spec PyProof.Rows L2
local macro_rules | `(tactic| walk_at "lv") => `(tactic| first
  | fail)
local macro_rules | `(tactic| walk_at "cd") => `(tactic| first
  | assumption | exact Iff.rfl | omega | (rw [xs_len]; assumption) | (rw [zs_len]; assumption) | (refine ⟨?_, ?_⟩ <;> assumption) | (refine ⟨?_, ?_, ?_⟩ <;> assumption) | (simp only [xs_len, zs_len]; assumption) | (simp only [xs_len, zs_len]; omega) | walk_at "lv")
local macro_rules | `(tactic| walk_at "dxp") => `(tactic| first
  | assumption
  | exact ⟨_, rfl, rfl⟩
  | exact ⟨_, _, rfl, rfl⟩
  | exact ⟨_, _, _, rfl, rfl⟩
  | exact ⟨_, _, _, _, rfl, rfl⟩
  | exact ⟨_, rfl, rfl, by walk_at "cd"⟩
  | exact ⟨_, _, rfl, rfl, by walk_at "cd"⟩
  | exact ⟨_, _, _, rfl, rfl, by walk_at "cd"⟩
  | exact ⟨_, _, _, _, rfl, rfl, by walk_at "cd"⟩
  | exact ⟨_, _, _, _, _, rfl, rfl, by walk_at "cd"⟩
  | exact ⟨_, _, _, _, _, _, rfl, rfl, by walk_at "cd"⟩
  | exact ⟨_, _, _, _, _, _, _, rfl, rfl, by walk_at "cd"⟩
  | exact ⟨_, _, _, _, _, _, _, _, rfl, rfl, by walk_at "cd"⟩
  | exact ⟨_, _, _, _, _, _, _, _, _, rfl, rfl, by walk_at "cd"⟩
  | exact ⟨_, rfl, rfl, rfl, rfl, by walk_at "side"⟩
  | walk_at "lv")
local macro_rules | `(tactic| walk_at "kit") => `(tactic| first
  | exact kit_ii | exact kit_ib | exact kit_ll | exact kit_tt)
local macro_rules | `(tactic| walk_at "side") => `(tactic| first
  | assumption | exact sel_int _ _ _ | exact sel_bi _ _ _ | rfl | decide | omega | exact Nat.le_of_ble_eq_true rfl | (simp; done) | (simp; omega) | (refine Or.inl ⟨?_, ?_⟩ <;> decide) | (refine Or.inr ⟨?_, ?_⟩ <;> decide) | (refine Or.inl ⟨?_, ?_⟩ <;> omega) | (refine Or.inr ⟨?_, ?_⟩ <;> omega) | (rw [bi_xor]; refine Or.inl ⟨?_, ?_⟩ <;> omega) | (refine And.intro ?_ (And.intro ?_ ?_) <;> omega) | (refine And.intro ?_ ?_ <;> omega) | walk_at "lv")
abbrev Cd (K : PySem.W.Frag) (CC : Addr) (rows : List Row) : D := Ins K CC "kept" (.list (rows.map eRow))
section
variable {Pg : Program} {w : World} {K : PySem.W.Frag} {mg : Str → Option Value} {base : Heap} {f CS CC : Addr} {fd : FuncData}
abbrev N_Code_init : List Str := ["self", "rows"]
abbrev P_Code_init : List Str := ["self", "rows"]
theorem sc_Code_init : FnScope N_Code_init P_Code_init (defScope s_Code_init) := ⟨rfl, rfl, rfl, by decide +kernel, rfl, by decide +kernel, by decide +kernel⟩
abbrev N_Code_many : List Str := ["self"]
abbrev P_Code_many : List Str := ["self"]
theorem sc_Code_many : FnScope N_Code_many P_Code_many (defScope s_Code_many) := ⟨rfl, rfl, rfl, by decide +kernel, rfl, by decide +kernel, by decide +kernel⟩
abbrev N_Code_rows : List Str := ["self"]
abbrev P_Code_rows : List Str := ["self"]
theorem sc_Code_rows : FnScope N_Code_rows P_Code_rows (defScope s_Code_rows) := ⟨rfl, rfl, rfl, by decide +kernel, rfl, by decide +kernel, by decide +kernel⟩
abbrev N_Code_need_error : List Str := ["self", "thing"]
abbrev P_Code_need_error : List Str := ["self", "thing"]
theorem sc_Code_need_error : FnScope N_Code_need_error P_Code_need_error (defScope s_Code_need_error) := ⟨rfl, rfl, rfl, by decide +kernel, rfl, by decide +kernel, by decide +kernel⟩
abbrev N_Code_signs : List Str := ["self", "error", "row"]
abbrev P_Code_signs : List Str := ["self", "error"]
theorem sc_Code_signs : FnScope N_Code_signs P_Code_signs (defScope s_Code_signs) := ⟨rfl, rfl, rfl, by decide +kernel, rfl, by decide +kernel, by decide +kernel⟩
abbrev N_Code_same : List Str := ["self", "one", "other"]
abbrev P_Code_same : List Str := ["self", "one", "other"]
theorem sc_Code_same : FnScope N_Code_same P_Code_same (defScope s_Code_same) := ⟨rfl, rfl, rfl, by decide +kernel, rfl, by decide +kernel, by decide +kernel⟩
abbrev N_Code_far : List Str := ["self", "nothing", "error"]
abbrev P_Code_far : List Str := ["self"]
theorem sc_Code_far : FnScope N_Code_far P_Code_far (defScope s_Code_far) := ⟨rfl, rfl, rfl, by decide +kernel, rfl, by decide +kernel, by decide +kernel⟩
abbrev N_errors : List Str := ["many", "size", "error"]
abbrev P_errors : List Str := ["many", "size"]
theorem sc_errors : FnScope N_errors P_errors (defScope s_errors) := ⟨rfl, rfl, rfl, by decide +kernel, rfl, by decide +kernel, by decide +kernel⟩
def p_Code_init : D → PyData → Prop := fun d dt => ∃ (rs : List Row) (n : Nat), d = Li (rs.map eRow) ∧ dt = .list ((clearR n rs).map eRow) ∧ Good n rs ∧ (clearR n rs).length = rs.length
theorem ok_Code_init (F : FunD K "__init__" "Code.__init__" (defArgs s_Code_init) (defBody s_Code_init) (defScope s_Code_init) [] [] f fd) (BT : Bl mg) (GK : GkP K mg CS CC) (C_go_together : Cal Pg w K mg base "go_together" 6 P_go_together (SpD K p_go_together)) (C_cleared : Cal Pg w K mg base "cleared" 7 P_cleared (SpD K p_cleared)) :
    FnOk Pg w K mg base CX0 8 f fd P_Code_init (SpI K CC "kept" p_Code_init) := by
  refine fn_mkI F sc_Code_init rfl (by decide) rfl (fun d dt h => ?_) rfl GK.cl_Code GK.na_Code (by decide) (by decide) (fun _ _ _ _ _ _ => .inl rfl) (fun _ _ _ _ _ _ => rfl) (fun cdv A outer s H E t dx d dt hr h => ?_) (fun cdv A outer s H E t dx d dt hr h => ?_) (fun cdv A outer s H E d dt hr h => ?_)
  · obtain ⟨rs, n, rfl, _⟩ := h
    exact ⟨_, rfl⟩
  · obtain ⟨rs, n, e, rfl, g, hl⟩ := h
    cases e
    exact ds_ifF (dt_not (dt_of (de_call C_go_together hr (da_cons (de_var 1) da_nil) (by walk_at "dxp")))) rfl (dss_nil rfl)
  · obtain ⟨rs, n, e, rfl, g, hl⟩ := h
    cases e
    have g1 := g.wd
    have g2 := g.ne
    have g3 := g.few
    have g4 := g.alln
    have gg : Wd n ∧ rs ≠ [] ∧ rs.length ≤ 100 ∧ AllN n rs := ⟨g1, g2, g3, g4⟩
    exact (de_call C_cleared hr (da_cons (de_var 1) da_nil) (by walk_at "dxp"))
  · obtain ⟨rs, n, e, rfl, g, hl⟩ := h
    cases e
    refine dss_one (ds_ifF (dt_cmp (dc_lt (de_len (DE.lst (de_fld (de_var 0) GK.cl_Code GK.na_Code)) BT.b_len) (de_len (DE.lst (de_var 1)) BT.b_len))) ?_ (dss_nil trivial))
    simp [hl]
def p_Code_many : List D → D → Prop := fun ds d => ∃ (rows : List Row) (n : Nat), ds = [Cd K CC rows] ∧ d = I n ∧ Kept n rows
theorem Kept.get0 {n : Nat} {rows : List Row} (k : Kept n rows) : ∃ r, atI (rows.map eRow) 0 = some (eRow r) ∧ r.p.length = n := by
  cases hrs : rows with
  | nil => exact absurd hrs k.ne
  | cons r rest => exact ⟨r, atI_n (i := 0) rfl, k.alln r (by rw [hrs]; simp)⟩
theorem ok_Code_many (F : FunD K "many" "Code.many" (defArgs s_Code_many) (defBody s_Code_many) (defScope s_Code_many) [] [] f fd) (BT : Bl mg) (GK : GkP K mg CS CC) :
    FnOk Pg w K mg base CX0 1 f fd P_Code_many (SpD K (p_Code_many (K := K) (CC := CC))) := by
  refine fn_mk F sc_Code_many (fun ds d h => ?_) (by decide) fun cdv A outer s H E ds d hr h => ?_
  · obtain ⟨rows, n, rfl, rfl, _⟩ := h
    rfl
  · obtain ⟨rows, n, rfl, rfl, k⟩ := h
    obtain ⟨r, h0, hn⟩ := k.get0
    refine dss_one (ds_ret ((de_len (DE.tpl (de_ix (DE.tpl (de_ix (DE.lst (de_fld (de_var 0) GK.cl_Code GK.na_Code)) de_int (by walk_at "side"))) de_int (by walk_at "side"))) BT.b_len)) ?_)
    show I _ = I _
    simp [Row.xs, hn]
def p_Code_rows : List D → D → Prop := fun ds d => ∃ (rows : List Row), ds = [Cd K CC rows] ∧ d = Li (rows.map eRow)
theorem ok_Code_rows (F : FunD K "rows" "Code.rows" (defArgs s_Code_rows) (defBody s_Code_rows) (defScope s_Code_rows) [] [] f fd) (BT : Bl mg) (GK : GkP K mg CS CC) :
    FnOk Pg w K mg base CX0 1 f fd P_Code_rows (SpD K (p_Code_rows (K := K) (CC := CC))) := by
  refine fn_mk F sc_Code_rows (fun ds d h => ?_) (by decide) fun cdv A outer s H E ds d hr h => ?_
  · obtain ⟨rows, rfl, rfl⟩ := h
    rfl
  · obtain ⟨rows, rfl, rfl⟩ := h
    exact dss_one (ds_ret ((DL.ex (dl_list (DE.lst (de_fld (de_var 0) GK.cl_Code GK.na_Code)) BT.b_list))) rfl)
def p_Code_need_error : List D → D → Prop := fun ds d => ∃ (rows : List Row) (n : Nat) (e : Row), ds = [Cd K CC rows, .py (eRow e)] ∧ d = .py .none ∧ Kept n rows ∧ e.t = false ∧ e.p.length = n
theorem ok_Code_need_error (F : FunD K "need_error" "Code.need_error" (defArgs s_Code_need_error) (defBody s_Code_need_error) (defScope s_Code_need_error) [] [] f fd) (BT : Bl mg) (GK : GkP K mg CS CC) (C_is_sign_row : Cal Pg w K mg base "is_sign_row" 3 P_is_sign_row (SpD K p_is_sign_row))
    (M_Code_many : Cam Pg w K mg base CC "many" 1 P_Code_many (SpD K (p_Code_many (K := K) (CC := CC)))) : FnOk Pg w K mg base CX0 4 f fd P_Code_need_error (SpD K (p_Code_need_error (K := K) (CC := CC))) := by
  refine fn_mk F sc_Code_need_error (fun ds d h => ?_) (by decide) fun cdv A outer s H E ds d hr h => ?_
  · obtain ⟨rows, n, e, rfl, rfl, _⟩ := h
    rfl
  · obtain ⟨rows, n, e, rfl, rfl, k, h0, hn⟩ := h
    have hw : Wd e.p.length := by rw [hn]; exact k.wd
    refine dss_one (ds_ifF (DW.t (dw_or (dt_not (dt_of (de_call C_is_sign_row hr (da_cons (de_var 1) da_nil) (by walk_at "dxp")))) fun _ => (dw_or (dt_cmp (dc_neI (de_ix (DE.tpl (de_var 1)) de_int (by walk_at "side")) de_int)) fun _ => (dw_or1 (dt_cmp (dc_neI (de_len (DE.tpl (de_ix (DE.tpl (de_var 1)) de_int (by walk_at "side"))) BT.b_len) (de_meth0 (de_var 0) M_Code_many hr (by walk_at "dxp")))))))) ?_ (dss_nil rfl))
    rw [h0]
    simp [Row.xs, hn, bi]
def p_Code_signs : List D → D → Prop := fun ds d => ∃ (rows : List Row) (n : Nat) (e : Row), ds = [Cd K CC rows, .py (eRow e)] ∧ d = TupN K ((sgns rows e).map eB) ∧ Kept n rows ∧ e.t = false ∧ e.p.length = n
theorem ok_Code_signs (F : FunD K "signs" "Code.signs" (defArgs s_Code_signs) (defBody s_Code_signs) (defScope s_Code_signs) [] [] f fd) (BT : Bl mg) (GK : GkP K mg CS CC) (C_goes_with : Cal Pg w K mg base "goes_with" 5 P_goes_with (SpD K p_goes_with))
    (M_Code_need_error : Cam Pg w K mg base CC "need_error" 4 P_Code_need_error (SpD K (p_Code_need_error (K := K) (CC := CC)))) : FnOk Pg w K mg base CX0 6 f fd P_Code_signs (SpD K (p_Code_signs (K := K) (CC := CC))) := by
  refine fn_mk F sc_Code_signs (fun ds d h => ?_) (by decide) fun cdv A outer s H E ds d hr h => ?_
  · obtain ⟨rows, n, e, rfl, rfl, _⟩ := h
    rfl
  · obtain ⟨rows, n, e, rfl, rfl, k, h0, hn⟩ := h
    have nd := sc_Code_signs.nd
    have few := k.few
    refine dss_seq (ds_expr (de_meth (de_var 0) M_Code_need_error hr (da_cons (de_var 1) da_nil) (by walk_at "dxp")) rfl) ?_
    refine dss_one (ds_ret (d := TupN K ((sgns rows e).map eB)) (de_tupleN (ds := (sgns rows e).map eB) (DQis (DL.lst (dl_lc [("row", 2)] rfl nd (blkOk_by (by show blkC N_Code_signs (defScope s_Code_signs) _ _ = true; decide +kernel)) (lcw_mapA 2 (fun r : Row => eB (om r.p e.p)) (di_list (de_fld (de_var 0) GK.cl_Code GK.na_Code)) (by omega) (fun d _ _ _ _ _ => dg_name 2 nd) fun r hrs s H C cl fp => by
      have hr1 := k.alln r hrs
      have hw : Wd r.p.length := by rw [hr1]; exact k.wd
      have hl : e.p.length = r.p.length := by rw [hr1, hn]
      refine DE.is (de_intB (de_notV (de_call C_goes_with hr (da_cons (de_var 2) (da_cons (de_var 1) da_nil)) (by walk_at "dxp"))) BT.b_int) ?_
      cases om r.p e.p <;> rfl))) (by unfold sgns; rw [List.map_map]; rfl)) BT.b_tuple) rfl)
def p_Code_same : List D → D → Prop := fun ds d => ∃ (rows : List Row) (n : Nat) (a b : Row), ds = [Cd K CC rows, .py (eRow a), .py (eRow b)] ∧ d = B (sameR rows a b) ∧ Kept n rows ∧ a.t = false ∧ a.p.length = n ∧ b.t = false ∧ b.p.length = n
theorem ok_Code_same (F : FunD K "same" "Code.same" (defArgs s_Code_same) (defBody s_Code_same) (defScope s_Code_same) [] [] f fd) (BT : Bl mg) (GK : GkP K mg CS CC) (C_product : Cal Pg w K mg base "product" 5 P_product (SpD K p_product)) (C_reduced : Cal Pg w K mg base "reduced" 7 P_reduced (SpD K p_reduced)) (C_bits_of : Cal Pg w K mg base "bits_of" 1 P_bits_of (SpD K p_bits_of))
    (M_Code_need_error : Cam Pg w K mg base CC "need_error" 4 P_Code_need_error (SpD K (p_Code_need_error (K := K) (CC := CC)))) : FnOk Pg w K mg base CX0 8 f fd P_Code_same (SpD K (p_Code_same (K := K) (CC := CC))) := by
  refine fn_mk F sc_Code_same (fun ds d h => ?_) (by decide) fun cdv A outer s H E ds d hr h => ?_
  · obtain ⟨rows, n, a, b, rfl, rfl, _⟩ := h
    rfl
  · obtain ⟨rows, n, a, b, rfl, rfl, k, ha, hna, hb, hnb⟩ := h
    have ka : Kept n rows ∧ a.t = false ∧ a.p.length = n := ⟨k, ha, hna⟩
    have kb : Kept n rows ∧ b.t = false ∧ b.p.length = n := ⟨k, hb, hnb⟩
    have hw : Wd a.p.length := by rw [hna]; exact k.wd
    have hl : b.p.length = a.p.length := by rw [hna, hnb]
    have hpl : (plx a.p b.p).length = n := by rw [plx_len hl, hna]
    have hred : Wd (plx a.p b.p).length ∧ AllN (plx a.p b.p).length rows ∧ rows.length ≤ 100 ∧ ∀ one ∈ rows, (1 : Int) ∈ bitsI one := ⟨by rw [hpl]; exact k.wd, by rw [hpl]; exact k.alln, k.few, k.one⟩
    have hrl : (redR ⟨false, plx a.p b.p⟩ rows).p.length = n := redR_len hpl k.alln
    have hw3 : Wd (redR ⟨false, plx a.p b.p⟩ rows).p.length := by rw [hrl]; exact k.wd
    refine dss_seq (ds_expr (de_meth (de_var 0) M_Code_need_error hr (da_cons (de_var 1) da_nil) (by walk_at "dxp")) rfl) ?_
    refine dss_seq (ds_expr (de_meth (de_var 0) M_Code_need_error hr (da_cons (de_var 2) da_nil) (by walk_at "dxp")) rfl) ?_
    refine dss_one (ds_ret ((de_cmp (dc_notInB de_int (de_call C_bits_of hr (da_cons (de_call C_reduced hr (da_cons (de_ix (DE.tpl (de_call C_product hr (da_cons (de_var 1) (da_cons (de_var 2) da_nil)) (by walk_at "dxp"))) de_int (by walk_at "side")) (da_cons (de_fld (de_var 0) GK.cl_Code GK.na_Code) da_nil)) (by walk_at "dxp")) da_nil) (by walk_at "dxp"))))) ?_)
    unfold sameR
    rw [List.contains_eq_mem]
end
end Bw
namespace Bw
open PySem PySem.Spec PyProof.Rows L2
local macro_rules | `(tactic| walk_at "lv") => `(tactic| first
  | fail)
local macro_rules | `(tactic| walk_at "cd") => `(tactic| first
  | assumption | exact Iff.rfl | omega | (rw [xs_len]; assumption) | (rw [zs_len]; assumption) | (refine ⟨?_, ?_⟩ <;> assumption) | (refine ⟨?_, ?_, ?_⟩ <;> assumption) | (simp only [xs_len, zs_len]; assumption) | (simp only [xs_len, zs_len]; omega) | walk_at "lv")
local macro_rules | `(tactic| walk_at "dxp") => `(tactic| first
  | assumption
  | exact ⟨_, rfl, rfl⟩
  | exact ⟨_, _, rfl, rfl⟩
  | exact ⟨_, _, _, rfl, rfl⟩
  | exact ⟨_, _, _, _, rfl, rfl⟩
  | exact ⟨_, rfl, rfl, by walk_at "cd"⟩
  | exact ⟨_, _, rfl, rfl, by walk_at "cd"⟩
  | exact ⟨_, _, _, rfl, rfl, by walk_at "cd"⟩
  | exact ⟨_, _, _, _, rfl, rfl, by walk_at "cd"⟩
  | exact ⟨_, _, _, _, _, rfl, rfl, by walk_at "cd"⟩
  | exact ⟨_, _, _, _, _, _, rfl, rfl, by walk_at "cd"⟩
  | exact ⟨_, _, _, _, _, _, _, rfl, rfl, by walk_at "cd"⟩
  | exact ⟨_, _, _, _, _, _, _, _, rfl, rfl, by walk_at "cd"⟩
  | exact ⟨_, _, _, _, _, _, _, _, _, rfl, rfl, by walk_at "cd"⟩
  | exact ⟨_, rfl, rfl, rfl, rfl, by walk_at "side"⟩
  | walk_at "lv")
local macro_rules | `(tactic| walk_at "kit") => `(tactic| first
  | exact kit_ii | exact kit_ib | exact kit_ll | exact kit_tt)
local macro_rules | `(tactic| walk_at "side") => `(tactic| first
  | assumption | exact sel_int _ _ _ | exact sel_bi _ _ _ | rfl | decide | omega | exact Nat.le_of_ble_eq_true rfl | (simp; done) | (simp; omega) | (refine Or.inl ⟨?_, ?_⟩ <;> decide) | (refine Or.inr ⟨?_, ?_⟩ <;> decide) | (refine Or.inl ⟨?_, ?_⟩ <;> omega) | (refine Or.inr ⟨?_, ?_⟩ <;> omega) | (rw [bi_xor]; refine Or.inl ⟨?_, ?_⟩ <;> omega) | (refine And.intro ?_ (And.intro ?_ ?_) <;> omega) | (refine And.intro ?_ ?_ <;> omega) | walk_at "lv")
section
variable {Pg : Program} {w : World} {K : PySem.W.Frag} {mg : Str → Option Value} {base : Heap} {f CS CC : Addr} {fd : FuncData}
abbrev N_signs_of : List Str := ["code", "state", "found", "row", "there", "one"]
abbrev P_signs_of : List Str := ["code", "state"]
theorem sc_signs_of : FnScope N_signs_of P_signs_of (defScope s_signs_of) := ⟨rfl, rfl, rfl, by decide +kernel, rfl, by decide +kernel, by decide +kernel⟩
abbrev N_mended : List Str := ["code", "pairs", "state", "found", "signs", "error"]
abbrev P_mended : List Str := ["code", "pairs", "state"]
theorem sc_mended : FnScope N_mended P_mended (defScope s_mended) := ⟨rfl, rfl, rfl, by decide +kernel, rfl, by decide +kernel, by decide +kernel⟩
def p_all_errors : List D → D → Prop := fun ds d => ∃ n : Nat, ds = [I n] ∧ d = Li ((errR n).map eRow) ∧ Wd n
def oInt : Option Nat → PyData
  | none => .none
  | some k => .int k
def p_Code_far : List D → D → Prop := fun ds d => ∃ (rows : List Row) (n : Nat), ds = [Cd K CC rows] ∧ d = .py (oInt (farR n rows)) ∧ Kept n rows
theorem rep_zero (n : Nat) : (List.replicate n [PyData.int 0]).flatten = (List.replicate n false).map eB := by
  induction n with
  | zero => rfl
  | succ n ih =>
    rw [List.replicate_succ, List.flatten_cons, ih, List.replicate_succ, List.map_cons]
    rfl
theorem nullR_row (n : Nat) : eRow (nullR n) = .tuple [.int 0, .tuple ((List.replicate n false).map eB), .tuple ((List.replicate n false).map eB)] := by
  unfold eRow nullR Row.xs Row.zs eBits
  simp only [List.map_replicate]
  rfl
theorem nullR_len (n : Nat) : (nullR n).p.length = n := List.length_replicate ..
theorem one_in (l : List Bool) : decide ((1 : Int) ∈ l.map bi) = l.contains true := by
  induction l with
  | nil => rfl
  | cons b l ih =>
    rw [List.map_cons, List.contains_cons, ← ih]
    cases b <;> simp [bi]
theorem ok_Code_far (F : FunD K "far" "Code.far" (defArgs s_Code_far) (defBody s_Code_far) (defScope s_Code_far) [] [] f fd) (BT : Bl mg) (GK : GkP K mg CS CC) (C_all_errors : Cal Pg w K mg base "all_errors" 4 P_bit_rows (SpD K p_all_errors)) (C_size_of : Cal Pg w K mg base "size_of" 1 P_size_of (SpD K p_size_of))
    (M_Code_many : Cam Pg w K mg base CC "many" 1 P_Code_many (SpD K (p_Code_many (K := K) (CC := CC)))) (M_Code_signs : Cam Pg w K mg base CC "signs" 6 P_Code_signs (SpD K (p_Code_signs (K := K) (CC := CC)))) (M_Code_same : Cam Pg w K mg base CC "same" 8 P_Code_same (SpD K (p_Code_same (K := K) (CC := CC)))) :
    FnOk Pg w K mg base CX0 9 f fd P_Code_far (SpD K (p_Code_far (K := K) (CC := CC))) := by
  refine fn_mk F sc_Code_far (fun ds d h => ?_) (by decide) fun cdv A outer s H E ds d hr h => ?_
  · obtain ⟨rows, n, rfl, rfl, _⟩ := h
    rfl
  · obtain ⟨rows, n, rfl, rfl, k⟩ := h
    have nd := sc_Code_far.nd
    have wn := k.wd
    have wn1 := wn.1
    have wn5 := wn.2
    have hf := errR_few wn5
    refine dss_seq (ds_asg 1 nd (d := .py (eRow (nullR n))) (DE.is (de_tup (dp_cons de_int (dp_cons (de_rep (de_tup (dp_cons de_int dp_nil) (by walk_at "side")) (de_meth0 (de_var 0) M_Code_many hr (by walk_at "dxp")) (by walk_at "side") (by walk_at "side") (by walk_at "side") (by walk_at "side")) (dp_cons (de_rep (de_tup (dp_cons de_int dp_nil) (by walk_at "side")) (de_meth0 (de_var 0) M_Code_many hr (by walk_at "dxp")) (by walk_at "side") (by walk_at "side") (by walk_at "side") (by walk_at "side")) dp_nil))) (by walk_at "side")) (by rw [Int.toNat_natCast, rep_zero, nullR_row])) rfl) ?_
    refine dss_seqA (ds_for (fun i ρ => ((errR n).take i).find? (fun e => !(sgns rows e).contains true && !sameR rows e (nullR n)) = none ∧ ∃ a, ρ = [.val (Cd K CC rows), .val (.py (eRow (nullR n))), a]) PassesOwn.never rfl (di_list (de_call C_all_errors hr (da_cons (de_meth0 (de_var 0) M_Code_many hr (by walk_at "dxp")) da_nil) (by walk_at "dxp"))) ⟨by rw [List.take_zero]; rfl, _, rfl⟩ (fun i ρi hi hI => ?_) fun ρ' hI => hI) fun ρ' hI => ?_
    · obtain ⟨hno, a, rfl⟩ := hI
      rw [List.length_map] at hi
      have mi : (errR n)[i] ∈ errR n := List.getElem_mem hi
      obtain ⟨ht, hn⟩ := errR_each mi
      have c1 : Kept n rows ∧ (errR n)[i].t = false ∧ (errR n)[i].p.length = n := ⟨k, ht, hn⟩
      have c2 : Kept n rows ∧ (errR n)[i].t = false ∧ (errR n)[i].p.length = n ∧ (nullR n).t = false ∧ (nullR n).p.length = n := ⟨k, ht, hn, rfl, nullR_len n⟩
      have c3 : (errR n)[i].p.length ≤ 100 := by rw [hn]; omega
      refine ⟨_, _, (dg_name 2 nd), ?_⟩
      rw [at_map hi]
      refine dss_one (ds_if (DW.t (dw_and (dt_cmp (dc_notInI (ns := (sgns rows (errR n)[i]).map bi) de_int (DE.is (DE.tu (de_meth (de_var 0) M_Code_signs hr (da_cons (de_var 2) da_nil) (by walk_at "dxp"))) (by show Tu _ = Tu _; rw [map_eB])))) fun _ => dw_and1 (dt_not (dt_of (de_meth (de_var 0) M_Code_same hr (da_cons (de_var 2) (da_cons (de_var 1) da_nil)) (by walk_at "dxp")))))) (fun hb => ?_) fun hb => dss_nil ?_)
      · rw [one_in] at hb
        refine dss_one (ds_ret (de_call C_size_of hr (da_cons (de_var 2) da_nil) (by walk_at "dxp")) ?_)
        show D.py (.int _) = .py (oInt (farR n rows))
        have e := find_at (p := fun e => !(sgns rows e).contains true && !sameR rows e (nullR n)) hi hno hb
        unfold farR
        rw [e]
        rfl
      · rw [one_in] at hb
        exact ⟨find_next hi hno hb, _, rfl⟩
    · obtain ⟨hno, a, rfl⟩ := hI
      rw [List.length_map, List.take_length] at hno
      refine dss_one (ds_ret de_non ?_)
      show D.py .none = .py (oInt (farR n rows))
      unfold farR
      rw [hno]
      rfl
def p_errors : List D → D → Prop := fun ds d => ∃ n k : Nat, ds = [I n, I k] ∧ d = Li ((errS n k).map eRow) ∧ Wd n ∧ k ≤ n
theorem ok_errors (F : FnP K "errors" "errors" s_errors f fd) (BT : Bl mg) (GK : GkP K mg CS CC) (C_is_whole : Cal Pg w K mg base "is_whole" 1 P_is_whole (SpD K p_is_whole)) (C_all_errors : Cal Pg w K mg base "all_errors" 4 P_bit_rows (SpD K p_all_errors)) (C_size_of : Cal Pg w K mg base "size_of" 1 P_size_of (SpD K p_size_of)) :
    FnOk Pg w K mg base CX0 5 f fd P_errors (SpD K p_errors) := by
  refine fn_mk F sc_errors (fun ds d h => ?_) (by decide) fun cdv A outer s H E ds d hr h => ?_
  · obtain ⟨n, k, rfl, rfl, _⟩ := h
    rfl
  · obtain ⟨n, k, rfl, rfl, wn, hk⟩ := h
    have nd := sc_errors.nd
    have wn1 := wn.1
    have wn5 := wn.2
    have hf := errR_few wn5
    refine dss_seq (ds_ifF (DW.t (dw_or (dt_not (dt_of (de_call C_is_whole hr (da_cons (de_var 0) da_nil) (by walk_at "dxp")))) fun _ => (dw_or (dt_not (dt_chain de_int (de_var 0) (de_MOST_WIRES GK))) fun _ => (dw_or (dt_not (dt_of (de_call C_is_whole hr (da_cons (de_var 1) da_nil) (by walk_at "dxp")))) fun _ => (dw_or1 (dt_not (dt_chain de_int (de_var 1) (de_var 0)))))))) ?_ (dss_nil rfl)) ?_
    · simp
      omega
    refine dss_one (ds_ret ((DL.ex (dl_lc [("error", 2)] rfl nd (blkOk_by (by show blkC N_errors (defScope s_errors) _ _ = true; decide +kernel)) (lcw_seqA 2 (fun e : Row => decide (wt e.p ≤ k)) eRow (di_list (de_call C_all_errors hr (da_cons (de_var 0) da_nil) (by walk_at "dxp"))) (by omega) (fun d _ _ _ _ _ => dg_name 2 nd) (fun e he s H C cl fp => by
      have c3 : e.p.length ≤ 100 := by rw [(errR_each he).2]; omega
      refine dts_one (DT.is (dt_cmp (dc_le (de_call C_size_of hr (da_cons (de_var 2) da_nil) (by walk_at "dxp")) (de_var 1))) ?_)
      simp) fun e he hb s H C cl fp => (de_var 2))))) rfl)
end
end Bw
namespace Bw
open PySem PySem.Spec PyProof.Rows L2
local macro_rules | `(tactic| walk_at "lv") => `(tactic| first
  | fail)
local macro_rules | `(tactic| walk_at "cd") => `(tactic| first
  | assumption | exact Iff.rfl | omega | (rw [xs_len]; assumption) | (rw [zs_len]; assumption) | (refine ⟨?_, ?_⟩ <;> assumption) | (refine ⟨?_, ?_, ?_⟩ <;> assumption) | (simp only [xs_len, zs_len]; assumption) | (simp only [xs_len, zs_len]; omega) | walk_at "lv")
local macro_rules | `(tactic| walk_at "dxp") => `(tactic| first
  | assumption
  | exact ⟨_, rfl, rfl⟩
  | exact ⟨_, _, rfl, rfl⟩
  | exact ⟨_, _, _, rfl, rfl⟩
  | exact ⟨_, _, _, _, rfl, rfl⟩
  | exact ⟨_, rfl, rfl, by walk_at "cd"⟩
  | exact ⟨_, _, rfl, rfl, by walk_at "cd"⟩
  | exact ⟨_, _, _, rfl, rfl, by walk_at "cd"⟩
  | exact ⟨_, _, _, _, rfl, rfl, by walk_at "cd"⟩
  | exact ⟨_, _, _, _, _, rfl, rfl, by walk_at "cd"⟩
  | exact ⟨_, _, _, _, _, _, rfl, rfl, by walk_at "cd"⟩
  | exact ⟨_, _, _, _, _, _, _, rfl, rfl, by walk_at "cd"⟩
  | exact ⟨_, _, _, _, _, _, _, _, rfl, rfl, by walk_at "cd"⟩
  | exact ⟨_, _, _, _, _, _, _, _, _, rfl, rfl, by walk_at "cd"⟩
  | exact ⟨_, rfl, rfl, rfl, rfl, by walk_at "side"⟩
  | walk_at "lv")
local macro_rules | `(tactic| walk_at "kit") => `(tactic| first
  | exact kit_ii | exact kit_ib | exact kit_ll | exact kit_tt)
local macro_rules | `(tactic| walk_at "side") => `(tactic| first
  | assumption | exact sel_int _ _ _ | exact sel_bi _ _ _ | rfl | decide | omega | exact Nat.le_of_ble_eq_true rfl | (simp; done) | (simp; omega) | (refine Or.inl ⟨?_, ?_⟩ <;> decide) | (refine Or.inr ⟨?_, ?_⟩ <;> decide) | (refine Or.inl ⟨?_, ?_⟩ <;> omega) | (refine Or.inr ⟨?_, ?_⟩ <;> omega) | (rw [bi_xor]; refine Or.inl ⟨?_, ?_⟩ <;> omega) | (refine And.intro ?_ (And.intro ?_ ?_) <;> omega) | (refine And.intro ?_ ?_ <;> omega) | walk_at "lv")
theorem e8_lay (z : Amp) : (e8 z).canLay0 = true := by simp [e8, PyData.canLay0, PyData.canLayAll0]
theorem e8_depth (z : Amp) : (e8 z).depth ≤ 2 := by simp [e8, PyData.depth, PyData.depthAll]
theorem e8s_shaped (zs : List Amp) : SeqAt.shaped (.list (zs.map e8)) = true := shaped_of (lays_of e8_lay zs) (by
  show PyData.depthAll (zs.map e8) + 1 ≤ 64
  have := depths_of e8_depth zs
  omega)
theorem e8_eqv2 (a b : Amp) : PyData.eqv (e8 a) (e8 b) = decide (a = b) := by
  cases a
  cases b
  simp only [e8, PyData.eqv, PyData.eqvAll, Amp.mk.injEq, beq_self_eq_true, Bool.and_true]
  rename_i a1 a2 a3 a4 b1 b2 b3 b4
  by_cases h1 : a1 = b1 <;> by_cases h2 : a2 = b2 <;> by_cases h3 : a3 = b3 <;> by_cases h4 : a4 = b4 <;> simp [h1, h2, h3, h4]
theorem e8s_eqvA : ∀ a b : List Amp, PyData.eqvAll (a.map e8) (b.map e8) = decide (a = b)
  | [], [] => by simp [PyData.eqvAll]
  | [], b :: l => by simp [PyData.eqvAll]
  | a :: l, [] => by simp [PyData.eqvAll]
  | a :: l, b :: m => by
    show (PyData.eqv (e8 a) (e8 b) && PyData.eqvAll (l.map e8) (m.map e8)) = _
    rw [e8_eqv2, e8s_eqvA l m]
    by_cases h1 : a = b <;> by_cases h2 : l = m <;> simp [h1, h2]
theorem e8s_eqv (a b : List Amp) : PyData.eqv (.list (a.map e8)) (.list (b.map e8)) = decide (a = b) := e8s_eqvA a b
/-- the state zs has the sign b of the row -/
def neg4 (zs : List Amp) : List Amp := zs.map (rotN 4)
structure SgOk (n : Nat) (rows : List Row) (zs : List Amp) (sg : List Bool) : Prop where
  len : sg.length = rows.length
  szs : zs.length = 2 ^ n
  ne : true ∈ sg → neg4 zs ≠ zs
  each : ∀ (i : Nat) (r : Row) (b : Bool), rows[i]? = some r → sg[i]? = some b → act r zs = if b = true then neg4 zs else zs
theorem act_len (r : Row) (zs : List Amp) : (act r zs).length = zs.length := by simp [act]
section
variable {Pg : Program} {w : World} {K : PySem.W.Frag} {mg : Str → Option Value} {base : Heap} {f CS CC : Addr} {fd : FuncData}
def p_signs_of : List D → D → Prop := fun ds d => ∃ (rows : List Row) (n : Nat) (zs : List Amp) (sg : List Bool), ds = [Cd K CC rows, St K CS zs] ∧ d = .py (eBits sg) ∧ Kept n rows ∧ SgOk n rows zs sg
theorem ok_signs_of (F : FnP K "signs_of" "signs_of" s_signs_of f fd) (BT : Bl mg) (GK : GkP K mg CS CC) (C_done : Cal Pg w K mg base "done" 5 P_done (SpD K (p_done (K := K) (CS := CS)))) (C_turned : Cal Pg w K mg base "turned" 2 P_turned (SpD K p_turned))
    (M_Code_rows : Cam Pg w K mg base CC "rows" 1 P_Code_rows (SpD K (p_Code_rows (K := K) (CC := CC)))) (M_State_eighths : Cam Pg w K mg base CS "eighths" 1 P_State_eighths (SpD K (p_State_eighths (K := K) (CS := CS)))) :
    FnOk Pg w K mg base CX0 6 f fd P_signs_of (SpD K (p_signs_of (K := K) (CS := CS) (CC := CC))) := by
  refine fn_mk F sc_signs_of (fun ds d h => ?_) (by decide) fun cdv A outer s H E ds d hr h => ?_
  · obtain ⟨rows, n, zs, sg, rfl, rfl, _⟩ := h
    rfl
  · obtain ⟨rows, n, zs, sg, rfl, rfl, k, sk⟩ := h
    have nd := sc_signs_of.nd
    have wn := k.wd
    have few := k.few
    have lz5 : zs.length ≤ 32 := len32 (by rw [sk.szs]; exact len_pow wn)
    refine dss_seq (ds_asgO 2 nd (dl_lst dp_nil (by walk_at "side")) rfl) ?_
    refine dss_seqA (ds_for (fun i ρ => ∃ a b, ρ = [.val (Cd K CC rows), .val (St K CS zs), .own false ((sg.take i).map eB), a, b, .any]) PassesOwn.never rfl (di_list (de_meth0 (de_var 0) M_Code_rows hr (by walk_at "dxp"))) ⟨.any, .any, rfl⟩ (fun i ρi hi hI => ?_) fun ρ' hI => hI) fun ρ' hI => ?_
    · obtain ⟨a, b, rfl⟩ := hI
      rw [List.length_map] at hi
      have mi : rows[i] ∈ rows := List.getElem_mem hi
      have hw : Wd rows[i].p.length ∧ zs.length = 2 ^ rows[i].p.length := by rw [k.alln _ mi]; exact ⟨wn, sk.szs⟩
      have hsi : i < sg.length := by rw [sk.len]; exact hi
      have hac := sk.each i rows[i] sg[i] (List.getElem?_eq_getElem hi) (List.getElem?_eq_getElem hsi)
      have s1 := e8s_shaped (act rows[i] zs)
      have s2 := e8s_shaped zs
      have s3 := e8s_shaped (neg4 zs)
      have tk : ((sg.take (i + 1)).map eB) = (sg.take i).map eB ++ [eB sg[i]] := by rw [List.take_succ, List.getElem?_eq_getElem hsi, List.map_append]; rfl
      have ltk : ((sg.take i).map eB).length ≤ 100 := by rw [List.length_map, List.length_take]; rw [sk.len]; omega
      refine ⟨_, _, (dg_name 3 nd), ?_⟩
      rw [at_map hi]
      refine dss_seq (ds_asg 4 nd (de_meth0 (de_call C_done hr (da_cons (de_var 3) (da_cons (de_var 1) da_nil)) (by walk_at "dxp")) M_State_eighths hr (by walk_at "dxp")) rfl) ?_
      cases hb : sg[i] with
      | false =>
        rw [hb] at hac tk
        rw [if_neg Bool.false_ne_true] at hac
        refine dss_one (ds_ifT (dt_cmp (dc_eq (de_var 4) (de_meth0 (de_var 1) M_State_eighths hr (by walk_at "dxp")) hr.units (by walk_at "side") (by walk_at "side"))) (by rw [e8s_eqv]; exact decide_eq_true hac) (dss_one (ds_append 2 rfl de_int (by omega) ?_)))
        exact ⟨_, _, by rw [tk]; rfl⟩
      | true =>
        rw [hb] at hac tk
        rw [if_pos rfl] at hac
        refine dss_one (ds_ifF (dt_cmp (dc_eq (de_var 4) (de_meth0 (de_var 1) M_State_eighths hr (by walk_at "dxp")) hr.units (by walk_at "side") (by walk_at "side"))) (by rw [e8s_eqv]; exact decide_eq_false (fun z => sk.ne (by rw [← hb]; exact List.getElem_mem hsi) (hac.symm.trans z))) (dss_one (ds_ifT (dt_cmp (dc_eq (de_var 4) (DE.is (DL.ex (dl_lc [("one", 5)] rfl nd (blkOk_by (by show blkC N_signs_of (defScope s_signs_of) _ _ = true; decide +kernel)) (lcw_mapA 5 (fun z => e8 (rotN 4 z)) (di_list (de_meth0 (de_var 1) M_State_eighths hr (by walk_at "dxp"))) (by omega) (fun d _ _ _ _ _ => dg_name 5 nd) fun z hz s H C cl fp => (de_call C_turned hr (da_cons (de_var 5) (da_cons de_int da_nil)) (by walk_at "dxp"))))) (d' := Li ((neg4 zs).map e8)) (by unfold neg4; rw [List.map_map]; rfl)) hr.units s1 s3)) (by rw [e8s_eqv]; exact decide_eq_true hac) (dss_one (ds_append 2 rfl de_int (by omega) ?_)))))
        exact ⟨_, _, by rw [tk]; rfl⟩
    · obtain ⟨a, b, rfl⟩ := hI
      rw [List.length_map, ← sk.len, List.take_length]
      exact dss_one (ds_ret ((de_tuple (dq_own 2) BT.b_tuple)) rfl)
def ePair (q : List Bool × Row) : PyData := .tuple [eBits q.1, eRow q.2]
theorem bits_shaped (l : List Bool) : SeqAt.shaped (eBits l) = true := shaped_of (eBits_lay l) (Nat.le_trans (eBits_depth l) (by decide))
def p_mended : List D → D → Prop := fun ds d => ∃ (rows : List Row) (ps : List (List Bool × Row)) (n : Nat) (zs : List Amp) (sg sg' : List Bool) (e : Row), ds = [Cd K CC rows, Li (ps.map ePair), St K CS zs] ∧ d = St K CS (act e zs) ∧ Kept n rows ∧ SgOk n rows zs sg ∧ ps.find? (fun q => q.1 == sg) = some (sg', e) ∧ e.p.length = n
theorem ok_mended (F : FnP K "mended" "mended" s_mended f fd) (BT : Bl mg) (GK : GkP K mg CS CC) (C_done : Cal Pg w K mg base "done" 5 P_done (SpD K (p_done (K := K) (CS := CS)))) (C_signs_of : Cal Pg w K mg base "signs_of" 6 P_signs_of (SpD K (p_signs_of (K := K) (CS := CS) (CC := CC))))
    (M_Code_many : Cam Pg w K mg base CC "many" 1 P_Code_many (SpD K (p_Code_many (K := K) (CC := CC)))) (M_State_many : Cam Pg w K mg base CS "many" 1 P_State_many (SpD K (p_State_many (K := K) (CS := CS)))) :
    FnOk Pg w K mg base CX0 7 f fd P_mended (SpD K (p_mended (K := K) (CS := CS) (CC := CC))) := by
  refine fn_mk F sc_mended (fun ds d h => ?_) (by decide) fun cdv A outer s H E ds d hr h => ?_
  · obtain ⟨rows, ps, n, zs, sg, sg', e, rfl, rfl, _⟩ := h
    rfl
  · obtain ⟨rows, ps, n, zs, sg, sg', e, rfl, rfl, k, sk, hfind, hen⟩ := h
    have nd := sc_mended.nd
    have wn := k.wd
    have cz : zs.length = 2 ^ n ∧ Wd n := ⟨sk.szs, wn⟩
    have ck : Kept n rows ∧ SgOk n rows zs sg := ⟨k, sk⟩
    refine dss_seq (ds_ifF (DW.t (dw_or (dt_not (dt_of (de_isiO (de_var 2) GK.cl_State GK.is1 GK.is2 GK.is3 GK.is4 BT.b_isinstance GK.mg_State))) fun _ => (dw_or1 (dt_cmp (dc_neI (de_meth0 (de_var 2) M_State_many hr (by walk_at "dxp")) (de_meth0 (de_var 0) M_Code_many hr (by walk_at "dxp"))))))) (by simp) (dss_nil rfl)) ?_
    refine dss_seq (ds_asg 3 nd (de_call C_signs_of hr (da_cons (de_var 0) (da_cons (de_var 2) da_nil)) (by walk_at "dxp")) rfl) ?_
    refine dss_seqA (ds_for (fun i ρ => (ps.take i).find? (fun q => q.1 == sg) = none ∧ ∃ a b, ρ = [.val (Cd K CC rows), .val (Li (ps.map ePair)), .val (St K CS zs), .val (.py (eBits sg)), a, b]) PassesOwn.never rfl (di_list (de_var 1)) ⟨by rw [List.take_zero]; rfl, _, _, rfl⟩ (fun i ρi hi hI => ?_) fun ρ' hI => hI) fun ρ' hI => ?_
    · obtain ⟨hno, a, b, rfl⟩ := hI
      rw [List.length_map] at hi
      have s1 := bits_shaped ps[i].1
      have s2 := bits_shaped sg
      rw [at_map hi]
      refine ⟨_, _, (dg_tup rfl (dgs_cons (dg_name 4 nd) (dgs_cons (dg_name 5 nd) dgs_nil))), ?_⟩
      refine dss_one (ds_if (dt_cmp (dc_eq (de_var 4) (de_var 3) hr.units (by walk_at "side") (by walk_at "side"))) (fun hb => ?_) fun hb => dss_nil ?_)
      · rw [eBits_eqv] at hb
        have e1 := find_at (p := fun q => q.1 == sg) hi hno hb
        rw [hfind] at e1
        have e2 : ps[i].2 = e := by rw [← Option.some.inj e1]
        have ce : Wd ps[i].2.p.length ∧ zs.length = 2 ^ ps[i].2.p.length := by rw [e2, hen]; exact ⟨wn, sk.szs⟩
        refine dss_one (ds_ret (de_call C_done hr (da_cons (de_var 5) (da_cons (de_var 2) da_nil)) (by walk_at "dxp")) ?_)
        rw [e2]
      · rw [eBits_eqv] at hb
        exact ⟨find_next hi hno hb, _, _, rfl⟩
    · obtain ⟨hno, a, b, rfl⟩ := hI
      rw [List.length_map, List.take_length, hfind] at hno
      cases hno
end
end Bw
namespace Bw
open PySem PySem.Spec PyProof.Rows L2
local macro_rules | `(tactic| walk_at "lv") => `(tactic| first
  | fail)
local macro_rules | `(tactic| walk_at "cd") => `(tactic| first
  | assumption | exact Iff.rfl | omega | (rw [xs_len]; assumption) | (rw [zs_len]; assumption) | (refine ⟨?_, ?_⟩ <;> assumption) | (refine ⟨?_, ?_, ?_⟩ <;> assumption) | (simp only [xs_len, zs_len]; assumption) | (simp only [xs_len, zs_len]; omega) | walk_at "lv")
local macro_rules | `(tactic| walk_at "dxp") => `(tactic| first
  | assumption
  | exact ⟨_, rfl, rfl⟩
  | exact ⟨_, _, rfl, rfl⟩
  | exact ⟨_, _, _, rfl, rfl⟩
  | exact ⟨_, _, _, _, rfl, rfl⟩
  | exact ⟨_, rfl, rfl, by walk_at "cd"⟩
  | exact ⟨_, _, rfl, rfl, by walk_at "cd"⟩
  | exact ⟨_, _, _, rfl, rfl, by walk_at "cd"⟩
  | exact ⟨_, _, _, _, rfl, rfl, by walk_at "cd"⟩
  | exact ⟨_, _, _, _, _, rfl, rfl, by walk_at "cd"⟩
  | exact ⟨_, _, _, _, _, _, rfl, rfl, by walk_at "cd"⟩
  | exact ⟨_, _, _, _, _, _, _, rfl, rfl, by walk_at "cd"⟩
  | exact ⟨_, _, _, _, _, _, _, _, rfl, rfl, by walk_at "cd"⟩
  | exact ⟨_, _, _, _, _, _, _, _, _, rfl, rfl, by walk_at "cd"⟩
  | exact ⟨_, rfl, rfl, rfl, rfl, by walk_at "side"⟩
  | walk_at "lv")
local macro_rules | `(tactic| walk_at "kit") => `(tactic| first
  | exact kit_ii | exact kit_ib | exact kit_ll | exact kit_tt)
local macro_rules | `(tactic| walk_at "side") => `(tactic| first
  | assumption | exact sel_int _ _ _ | exact sel_bi _ _ _ | rfl | decide | omega | exact Nat.le_of_ble_eq_true rfl | (simp; done) | (simp; omega) | (refine Or.inl ⟨?_, ?_⟩ <;> decide) | (refine Or.inr ⟨?_, ?_⟩ <;> decide) | (refine Or.inl ⟨?_, ?_⟩ <;> omega) | (refine Or.inr ⟨?_, ?_⟩ <;> omega) | (rw [bi_xor]; refine Or.inl ⟨?_, ?_⟩ <;> omega) | (refine And.intro ?_ (And.intro ?_ ?_) <;> omega) | (refine And.intro ?_ ?_ <;> omega) | walk_at "lv")
section
variable {Pg : Program} {w : World} {K : PySem.W.Frag} {mg : Str → Option Value} {base : Heap} {f CS CC : Addr} {fd : FuncData}
abbrev N_l_draw : List Str := ["_law_state_here", "_law_most"]
abbrev P_l_draw : List Str := ["_law_state_here", "_law_most"]
theorem sc_l_draw : FnScope N_l_draw P_l_draw (defScope s_l_draw) := ⟨rfl, rfl, rfl, by decide +kernel, rfl, by decide +kernel, by decide +kernel⟩
abbrev N_l_state : List Str := ["_law_cells", "_law_k", "_law_mixed_here"]
abbrev P_l_state : List Str := ["_law_cells", "_law_k"]
theorem sc_l_state : FnScope N_l_state P_l_state (defScope s_l_state) := ⟨rfl, rfl, rfl, by decide +kernel, rfl, by decide +kernel, by decide +kernel⟩
abbrev N_l_turned : List Str := ["_law_one", "_law_many", "_law_turn"]
abbrev P_l_turned : List Str := ["_law_one", "_law_many"]
theorem sc_l_turned : FnScope N_l_turned P_l_turned (defScope s_l_turned) := ⟨rfl, rfl, rfl, by decide +kernel, rfl, by decide +kernel, by decide +kernel⟩
abbrev N_l_sum : List Str := ["_law_one", "_law_other"]
abbrev P_l_sum : List Str := ["_law_one", "_law_other"]
theorem sc_l_sum : FnScope N_l_sum P_l_sum (defScope s_l_sum) := ⟨rfl, rfl, rfl, by decide +kernel, rfl, by decide +kernel, by decide +kernel⟩
abbrev N_l_done : List Str := ["_law_row", "_law_amps", "_law_turn", "_law_xs", "_law_zs", "_law_many", "_law_found", "_law_here", "_law_there", "_law_turns", "_law_wire", "_law_place", "_law_bit"]
abbrev P_l_done : List Str := ["_law_row", "_law_amps"]
theorem sc_l_done : FnScope N_l_done P_l_done (defScope s_l_done) := ⟨rfl, rfl, rfl, by decide +kernel, rfl, by decide +kernel, by decide +kernel⟩
abbrev N_l_put : List Str := ["_law_bits_here", "_law_wire", "_law_bit"]
abbrev P_l_put : List Str := ["_law_bits_here", "_law_wire", "_law_bit"]
theorem sc_l_put : FnScope N_l_put P_l_put (defScope s_l_put) := ⟨rfl, rfl, rfl, by decide +kernel, rfl, by decide +kernel, by decide +kernel⟩
abbrev N_l_behind : List Str := ["_law_word", "_law_wires", "_law_row", "_law_turn", "_law_xs", "_law_zs", "_law_a", "_law_b"]
abbrev P_l_behind : List Str := ["_law_word", "_law_wires", "_law_row"]
theorem sc_l_behind : FnScope N_l_behind P_l_behind (defScope s_l_behind) := ⟨rfl, rfl, rfl, by decide +kernel, rfl, by decide +kernel, by decide +kernel⟩
def p_l_draw : Int → List D → List D → D → Int → Prop := fun n d1 d2 d n' => ∃ m : Int, d1 = [] ∧ d2 = [I m] ∧ d = I (dv n m) ∧ n' = nx n ∧ 0 < m
theorem ok_l_draw (F : FnP K "_law_draw" "_law_draw" s_l_draw f fd) (BT : Bl mg) : FnOk Pg w K mg base CX0 1 f fd P_l_draw (SpS K p_l_draw) := by
  refine fn_mkS F sc_l_draw (fun n d1 d2 d n' h => ?_) (by decide) fun cdv A outer s H E n d1 d2 d n' hr h => ?_
  · obtain ⟨m, rfl, rfl, _⟩ := h
    rfl
  · obtain ⟨m, rfl, rfl, rfl, rfl, hm⟩ := h
    have a0 : atI [PyData.int n] 0 = some (.int n) := atI_n (i := 0) rfl
    refine dss_seq (ds_setix 0 (dx := .int (nx n)) (de_mod (de_add (de_mul (de_ixM 0 de_int (by walk_at "side")) de_int (by walk_at "side")) de_int) de_int (by walk_at "side")) de_int (ds := [.int n]) (ixN_nat (n := 1) (j := 0) (by decide)) rfl) ?_
    clear a0
    have a1 : atI [PyData.int (nx n)] 0 = some (.int (nx n)) := atI_n (i := 0) rfl
    refine dss_one (ds_ret ((de_mod (de_div (de_ixM 0 de_int (by walk_at "side")) de_int (by walk_at "side")) (de_var 1) (by walk_at "side"))) ⟨rfl, rfl⟩)
def p_l_state : List D → D → Prop := fun ds d => ∃ (ns : List Int) (k : Int), ds = [Li (ns.map PyData.int), I k] ∧ d = Li [.int (stR ns k)] ∧ 0 ≤ k ∧ k ≤ 100
theorem ok_l_state (F : FnP K "_law_state" "_law_state" s_l_state f fd) (BT : Bl mg) : FnOk Pg w K mg base CX0 1 f fd P_l_state (SpD K p_l_state) := by
  refine fn_mk F sc_l_state (fun ds d h => ?_) (by decide) fun cdv A outer s H E ds d hr h => ?_
  · obtain ⟨ns, k, rfl, rfl, _⟩ := h
    rfl
  · obtain ⟨ns, k, rfl, rfl, h0, h1⟩ := h
    have nd := sc_l_state.nd
    refine dss_seq (ds_asg 2 nd (de_mod (de_add (de_add (de_add (de_mul (de_sum (DE.lst (de_var 0)) rfl BT.b_sum) de_int (by walk_at "side")) (de_mul (de_len (DE.lst (de_var 0)) BT.b_len) de_int (by walk_at "side"))) (de_mul (de_var 1) de_int (by walk_at "side"))) de_int) de_int (by walk_at "side")) rfl) ?_
    have q0 : 0 ≤ (ns.sum * 48271 + ((ns.map PyData.int).length : Int) * 7919 + k * 104729 + 17) % 2147483647 := Int.emod_nonneg _ (by decide)
    have q1 : (ns.sum * 48271 + ((ns.map PyData.int).length : Int) * 7919 + k * 104729 + 17) % 2147483647 < 2147483647 := Int.emod_lt_of_pos _ (by decide)
    refine dss_one (ds_ret ((DL.ex (dl_lst (dp_cons (de_add de_int (de_mod (de_add (de_mul (de_var 2) (de_var 2) (by walk_at "side")) (de_mul de_int (de_var 1) (by walk_at "side"))) de_int (by walk_at "side"))) dp_nil) (by walk_at "side")))) ?_)
    show Li _ = Li _
    unfold stR
    rw [List.length_map]
def p_l_turned : List D → D → Prop := fun ds d => ∃ (z : Amp) (m : Int), ds = [.py (eAmp z), I m] ∧ d = .py (eAmp (rotN (m % 8).toNat z))
theorem ok_l_turned (F : FnP K "_law_turned" "_law_turned" s_l_turned f fd) (BT : Bl mg) : FnOk Pg w K mg base CX0 1 f fd P_l_turned (SpD K p_l_turned) := by
  refine fn_mk F sc_l_turned (fun ds d h => ?_) (by decide) fun cdv A outer s H E ds d hr h => ?_
  · obtain ⟨z, m, rfl, rfl⟩ := h
    rfl
  · obtain ⟨z, m, rfl, rfl⟩ := h
    have nd := sc_l_turned.nd
    refine dss_seqA (ds_for (fun i ρ => ∃ t, ρ = [.val (.py (eAmp (rotN i z))), .val (I m), t]) PassesOwn.never rfl
      (di_range1 (DE.is (de_mod (de_var 1) de_int (by walk_at "side")) (natI _ (by omega))) (by omega) BT.b_range) ⟨_, rfl⟩ (fun i ρi hi hI => ?_) fun ρ' hI => hI) fun ρ' hI => ?_
    · obtain ⟨t, rfl⟩ := hI
      refine ⟨_, _, (dg_name 2 nd), dss_one (ds_asg 0 nd (de_tup (dp_cons (de_neg (de_ix (DE.tpl (de_var 0)) de_int (by walk_at "side"))) (dp_cons (de_ix (DE.tpl (de_var 0)) de_int (by walk_at "side")) (dp_cons (de_ix (DE.tpl (de_var 0)) de_int (by walk_at "side")) (dp_cons (de_ix (DE.tpl (de_var 0)) de_int (by walk_at "side")) dp_nil)))) (by walk_at "side")) ⟨_, rfl⟩)⟩
    · obtain ⟨t, rfl⟩ := hI
      exact dss_one (ds_ret ((de_var 0)) rfl)
def p_l_sum : List D → D → Prop := fun ds d => ∃ (z y : Amp), ds = [.py (eAmp z), .py (eAmp y)] ∧ d = .py (eAmp (addA z y))
theorem ok_l_sum (F : FnP K "_law_sum" "_law_sum" s_l_sum f fd) (BT : Bl mg) : FnOk Pg w K mg base CX0 1 f fd P_l_sum (SpD K p_l_sum) := by
  refine fn_mk F sc_l_sum (fun ds d h => ?_) (by decide) fun cdv A outer s H E ds d hr h => ?_
  · obtain ⟨z, y, rfl, rfl⟩ := h
    rfl
  · obtain ⟨z, y, rfl, rfl⟩ := h
    exact dss_one (ds_ret ((de_tup (dp_cons (de_add (de_ix (DE.tpl (de_var 0)) de_int (by walk_at "side")) (de_ix (DE.tpl (de_var 1)) de_int (by walk_at "side"))) (dp_cons (de_add (de_ix (DE.tpl (de_var 0)) de_int (by walk_at "side")) (de_ix (DE.tpl (de_var 1)) de_int (by walk_at "side"))) (dp_cons (de_add (de_ix (DE.tpl (de_var 0)) de_int (by walk_at "side")) (de_ix (DE.tpl (de_var 1)) de_int (by walk_at "side"))) (dp_cons (de_add (de_ix (DE.tpl (de_var 0)) de_int (by walk_at "side")) (de_ix (DE.tpl (de_var 1)) de_int (by walk_at "side"))) dp_nil)))) (by walk_at "side"))) rfl)
end
end Bw
namespace Bw
open PySem PySem.Spec PyProof.Rows L2
local macro_rules | `(tactic| walk_at "lv") => `(tactic| first
  | fail)
local macro_rules | `(tactic| walk_at "cd") => `(tactic| first
  | assumption | exact Iff.rfl | omega | (rw [xs_len]; assumption) | (rw [zs_len]; assumption) | (refine ⟨?_, ?_⟩ <;> assumption) | (refine ⟨?_, ?_, ?_⟩ <;> assumption) | (simp only [xs_len, zs_len]; assumption) | (simp only [xs_len, zs_len]; omega) | walk_at "lv")
local macro_rules | `(tactic| walk_at "dxp") => `(tactic| first
  | assumption
  | exact ⟨_, rfl, rfl⟩
  | exact ⟨_, _, rfl, rfl⟩
  | exact ⟨_, _, _, rfl, rfl⟩
  | exact ⟨_, _, _, _, rfl, rfl⟩
  | exact ⟨_, rfl, rfl, by walk_at "cd"⟩
  | exact ⟨_, _, rfl, rfl, by walk_at "cd"⟩
  | exact ⟨_, _, _, rfl, rfl, by walk_at "cd"⟩
  | exact ⟨_, _, _, _, rfl, rfl, by walk_at "cd"⟩
  | exact ⟨_, _, _, _, _, rfl, rfl, by walk_at "cd"⟩
  | exact ⟨_, _, _, _, _, _, rfl, rfl, by walk_at "cd"⟩
  | exact ⟨_, _, _, _, _, _, _, rfl, rfl, by walk_at "cd"⟩
  | exact ⟨_, _, _, _, _, _, _, _, rfl, rfl, by walk_at "cd"⟩
  | exact ⟨_, _, _, _, _, _, _, _, _, rfl, rfl, by walk_at "cd"⟩
  | exact ⟨_, rfl, rfl, rfl, rfl, by walk_at "side"⟩
  | walk_at "lv")
local macro_rules | `(tactic| walk_at "kit") => `(tactic| first
  | exact kit_ii | exact kit_ib | exact kit_ll | exact kit_tt)
local macro_rules | `(tactic| walk_at "side") => `(tactic| first
  | assumption | exact sel_int _ _ _ | exact sel_bi _ _ _ | rfl | decide | omega | exact Nat.le_of_ble_eq_true rfl | (simp; done) | (simp; omega) | (refine Or.inl ⟨?_, ?_⟩ <;> decide) | (refine Or.inr ⟨?_, ?_⟩ <;> decide) | (refine Or.inl ⟨?_, ?_⟩ <;> omega) | (refine Or.inr ⟨?_, ?_⟩ <;> omega) | (rw [bi_xor]; refine Or.inl ⟨?_, ?_⟩ <;> omega) | (refine And.intro ?_ (And.intro ?_ ?_) <;> omega) | (refine And.intro ?_ ?_ <;> omega) | walk_at "lv")
def fndL (r : Row) (zs : List Amp) (i : Nat) : List Amp := (List.range zs.length).map fun j => if j ^^^ flR r.p < i then putv r zs (j ^^^ flR r.p) else ampAt zs j
theorem fndL_len (r : Row) (zs : List Amp) (i : Nat) : (fndL r zs i).length = zs.length := by simp [fndL]
theorem fndL_zero (r : Row) (zs : List Amp) : fndL r zs 0 = zs := by
  unfold fndL
  apply List.ext_getElem?
  intro j
  by_cases hj : j < zs.length
  · rw [List.getElem?_map, List.getElem?_range hj, List.getElem?_eq_getElem hj]
    show some (ampAt zs j) = some zs[j]
    unfold ampAt
    rw [List.getElem?_eq_getElem hj]
    rfl
  · rw [List.getElem?_eq_none (by simp; omega), List.getElem?_eq_none (by omega)]
theorem fndL_step {r : Row} {zs : List Amp} (hz : zs.length = 2 ^ r.p.length) {i : Nat} (hi : i < zs.length) : (fndL r zs i).set (i ^^^ flR r.p) (putv r zs i) = fndL r zs (i + 1) := by
  apply List.ext_getElem?
  intro j
  by_cases hj : j < zs.length
  · have e1 : ∀ k, (fndL r zs k)[j]? = some (if j ^^^ flR r.p < k then putv r zs (j ^^^ flR r.p) else ampAt zs j) := fun k => by
      unfold fndL
      rw [List.getElem?_map, List.getElem?_range hj]
      rfl
    by_cases q : i ^^^ flR r.p = j
    · rw [q, List.getElem?_set_self (by rw [fndL_len]; exact hj), e1]
      have e2 : j ^^^ flR r.p = i := by rw [← q, xor_back]
      rw [e2, if_pos (Nat.lt_succ_self i)]
    · rw [List.getElem?_set_ne q, e1, e1]
      have e2 : j ^^^ flR r.p ≠ i := fun z => q (by rw [← z, xor_back])
      by_cases h : j ^^^ flR r.p < i
      · rw [if_pos h, if_pos (by omega)]
      · rw [if_neg h, if_neg (by omega)]
  · rw [List.getElem?_eq_none (by rw [List.length_set, fndL_len]; omega), List.getElem?_eq_none (by rw [fndL_len]; omega)]
theorem fndL_all {r : Row} {zs : List Amp} (hz : zs.length = 2 ^ r.p.length) : fndL r zs zs.length = act r zs := by
  unfold fndL act
  apply List.map_congr_left
  intro j hj
  rw [if_pos (xor_lt hz (List.mem_range.mp hj))]
  rfl
theorem atI_x {r : Row} {i : Nat} (h : i < r.p.length) : atI (r.xs.map eB) ((i : Nat) : Int) = some (eB (plAt r.p i).1) := atI_n (by unfold Row.xs; rw [List.getElem?_map, List.getElem?_map, plAt_get h]; rfl)
theorem atI_z {r : Row} {i : Nat} (h : i < r.p.length) : atI (r.zs.map eB) ((i : Nat) : Int) = some (eB (plAt r.p i).2) := atI_n (by unfold Row.zs; rw [List.getElem?_map, List.getElem?_map, plAt_get h]; rfl)
theorem atI_amp {zs : List Amp} {i : Nat} (h : i < zs.length) : atI (zs.map eAmp) ((i : Nat) : Int) = some (eAmp (ampAt zs i)) := atI_n (by unfold ampAt; rw [List.getElem?_map, List.getElem?_eq_getElem h]; rfl)
section
variable {Pg : Program} {w : World} {K : PySem.W.Frag} {mg : Str → Option Value} {base : Heap} {f CS CC : Addr} {fd : FuncData}
def p_l_done : List D → D → Prop := fun ds d => ∃ (r : Row) (zs : List Amp), ds = [.py (eRow r), Li (zs.map eAmp)] ∧ d = Li ((act r zs).map eAmp) ∧ Wd r.p.length ∧ zs.length = 2 ^ r.p.length
theorem ok_l_done (F : FnP K "_law_done" "_law_done" s_l_done f fd) (BT : Bl mg) (C_l_turned : Cal Pg w K mg base "_law_turned" 1 P_l_turned (SpD K p_l_turned)) : FnOk Pg w K mg base CX0 2 f fd P_l_done (SpD K p_l_done) := by
  refine fn_mk F sc_l_done (fun ds d h => ?_) (by decide) fun cdv A outer s H E ds d hr h => ?_
  · obtain ⟨r, zs, rfl, rfl, _⟩ := h
    rfl
  · obtain ⟨r, zs, rfl, rfl, hw, hz⟩ := h
    have nd := sc_l_done.nd
    have l1 : (r.xs.map eB).length = r.p.length := by simp [Row.xs]
    have lz : (zs.map eAmp).length = zs.length := by simp
    have lz5 : zs.length ≤ 32 := len32 (by rw [hz]; exact len_pow hw)
    have hw5 := hw.2
    have bt := bi_range r.t
    refine dss_seq (ds_asgG (de_var 0) (dg_tup rfl (dgs_cons (dg_name 2 nd) (dgs_cons (dg_name 3 nd) (dgs_cons (dg_name 4 nd) dgs_nil)))) rfl) ?_
    refine dss_seq (ds_asg 5 nd (d := I ((r.p.length : Nat) : Int)) (DE.is (de_len (DE.tpl (de_var 3)) BT.b_len) (by rw [l1])) rfl) ?_
    refine dss_seq (ds_asgO 6 nd (dl_list (DE.lst (de_var 1)) BT.b_list) rfl) ?_
    refine dss_seqA (ds_for (fun i ρ => ∃ a b c e g k, ρ = [.val (.py (eRow r)), .val (Li (zs.map eAmp)), .val (I (bi r.t)), .val (.py (eBits r.xs)), .val (.py (eBits r.zs)), .val (I ((r.p.length : Nat) : Int)), .own false ((fndL r zs i).map eAmp), a, b, c, e, g, k]) PassesOwn.never rfl
      (di_range1 (de_len (DE.lst (de_var 1)) BT.b_len) (by walk_at "side") BT.b_range) ⟨_, _, _, _, _, _, by rw [fndL_zero]; rfl⟩ (fun i ρi hi hI => ?_) fun ρ' hI => hI) fun ρ' hI => ?_
    · obtain ⟨a, b, c, e, g, k, rfl⟩ := hI
      rw [lz] at hi
      have hx := xor_lt hz hi
      refine ⟨_, _, (dg_name 7 nd), ?_⟩
      refine dss_seq (ds_asg 8 nd (de_var 7) rfl) ?_
      refine dss_seq (ds_asg 9 nd (de_mul de_int (de_var 2) (by walk_at "side")) rfl) ?_
      refine dss_seqA (ds_for (fun m ρ => ∃ e g k, ρ = [.val (.py (eRow r)), .val (Li (zs.map eAmp)), .val (I (bi r.t)), .val (.py (eBits r.xs)), .val (.py (eBits r.zs)), .val (I ((r.p.length : Nat) : Int)), .own false ((fndL r zs i).map eAmp), .val (I i), .val (I ((i ^^^ upR r.p m : Nat) : Int)), .val (I (4 * bi r.t + (tnR r.p i - tnR (r.p.drop m) i))), e, g, k]) PassesOwn.never rfl
        (di_range1 (de_var 5) (by walk_at "side") BT.b_range) ⟨e, g, k, by rw [upR_zero, Nat.xor_zero, List.drop_zero, Int.sub_self, Int.add_zero]; rfl⟩ (fun m ρm hm hM => ?_) fun ρ' hM => hM) fun ρ' hM => ?_
      · obtain ⟨e, g, k, rfl⟩ := hM
        have pf := pow_few (k := r.p.length - 1 - m) (by omega)
        have bx := bi_range (plAt r.p m).1
        have bb := bi_range (i.testBit (r.p.length - 1 - m))
        have hxs := atI_x hm
        have hzs := atI_z hm
        refine ⟨_, _, (dg_name 10 nd), ?_⟩
        refine dss_seq (ds_asg 11 nd (d := I ((2 ^ (r.p.length - 1 - m) : Nat) : Int)) (DE.is (de_shl de_int (de_sub (de_sub (de_var 5) de_int) (de_var 10)) (by walk_at "side")) ?_) rfl) ?_
        · have e1 : (((r.p.length : Nat) : Int) - 1 - (m : Int)).toNat = r.p.length - 1 - m := by omega
          rw [e1, Int.one_mul, Int.natCast_pow]
          rfl
        refine dss_seq (ds_asg 12 nd (d := I (bi (i.testBit (r.p.length - 1 - m)))) (DE.is (de_mod (de_div (de_var 7) (de_var 11) (by walk_at "side")) de_int (by walk_at "side")) (by rw [div_bit])) rfl) ?_
        refine dss_seq (ρ1 := [.val (.py (eRow r)), .val (Li (zs.map eAmp)), .val (I (bi r.t)), .val (.py (eBits r.xs)), .val (.py (eBits r.zs)), .val (I ((r.p.length : Nat) : Int)), .own false ((fndL r zs i).map eAmp), .val (I i), .val (I ((i ^^^ upR r.p (m + 1) : Nat) : Int)), .val (I (4 * bi r.t + (tnR r.p i - tnR (r.p.drop m) i))), .val (I m), .val (I ((2 ^ (r.p.length - 1 - m) : Nat) : Int)), .val (I (bi (i.testBit (r.p.length - 1 - m))))]) (ds_if (dt_cmp (dc_eqI (de_ix (DE.tpl (de_var 3)) (de_var 10) (by walk_at "side")) de_int)) (fun hb => dss_one (ds_asg 8 nd (d := I ((i ^^^ upR r.p (m + 1) : Nat) : Int)) (DE.is (de_add (de_var 8) (de_ix (DL.lst (dl_lst (dp_cons (de_var 11) (dp_cons (de_neg (de_var 11)) dp_nil)) (by walk_at "side"))) (de_var 12) (by walk_at "side"))) ?_) rfl)) fun hb => dss_nil ?_) ?_
        · have hx1 : (plAt r.p m).1 = true := by cases h : (plAt r.p m).1 <;> rw [h] at hb <;> first | rfl | cases hb
          rw [flip_step hm hx1]
        · have hx1 : (plAt r.p m).1 = false := by cases h : (plAt r.p m).1 <;> rw [h] at hb <;> first | rfl | cases hb
          show _ = _
          rw [flip_stay hm hx1]
          rfl
        have hd := pl_drop hm
        have hk : (r.p.drop (m + 1)).length = r.p.length - 1 - m := by rw [List.length_drop]; omega
        have et : tnR (r.p.drop m) i = (if (plAt r.p m).2 = true then 4 * bi (i.testBit (r.p.length - 1 - m)) + 2 * bi (plAt r.p m).1 else 0) + tnR (r.p.drop (m + 1)) i := by
          rw [hd, ← hk]
          rfl
        refine dss_one (ds_if (dt_cmp (dc_eqI (de_ix (DE.tpl (de_var 4)) (de_var 10) (by walk_at "side")) de_int)) (fun hb => dss_one (ds_asg 9 nd (d := I (4 * bi r.t + (tnR r.p i - tnR (r.p.drop (m + 1)) i))) (DE.is (de_add (de_var 9) (de_ix (DL.lst (dl_lst (dp_cons (de_mul de_int (de_var 12) (by walk_at "side")) (dp_cons (de_ix (DL.lst (dl_lst (dp_cons de_int (dp_cons de_int dp_nil)) (by walk_at "side"))) (de_var 12) (by walk_at "side")) dp_nil)) (by walk_at "side"))) (de_ix (DE.tpl (de_var 3)) (de_var 10) (by walk_at "side")) (by walk_at "side"))) ?_) ⟨_, _, _, rfl⟩)) fun hb => dss_nil ?_)
        · have hz1 : (plAt r.p m).2 = true := by cases h : (plAt r.p m).2 <;> rw [h] at hb <;> first | rfl | cases hb
          rw [hz1, if_pos rfl] at et
          refine congrArg (fun v : Int => I v) ?_
          rw [et]
          cases (plAt r.p m).1 <;> cases i.testBit (r.p.length - 1 - m) <;> simp only [bi, if_true, Bool.false_eq_true, if_false] <;> omega
        · have hz1 : (plAt r.p m).2 = false := by cases h : (plAt r.p m).2 <;> rw [h] at hb <;> first | rfl | cases hb
          rw [hz1] at et
          have e2 : tnR (r.p.drop (m + 1)) i = tnR (r.p.drop m) i := by rw [et]; first | rfl | simp
          exact ⟨_, _, _, by first | (rw [e2]; done) | (rw [e2]; rfl)⟩
      · obtain ⟨e, g, k, rfl⟩ := hM
        rw [upR_all, List.drop_length]
        have ea := atI_amp hi
        refine dss_one (ds_setix 6 (de_call C_l_turned hr (da_cons (de_ix (DE.lst (de_var 1)) (de_var 7) (by walk_at "side")) (da_cons (de_var 9) da_nil)) (by walk_at "dxp")) (de_var 8) (ixN_nat (n := ((fndL r zs i).map eAmp).length) (j := i ^^^ flR r.p) (by rw [List.length_map, fndL_len]; exact hx)) ?_)
        have e3 : eAmp (rotN ((4 * bi r.t + (tnR r.p i - tnR [] i)) % 8).toNat (ampAt zs i)) = eAmp (putv r zs i) := by
          show eAmp (rotN ((4 * bi r.t + (tnR r.p i - 0)) % 8).toNat (ampAt zs i)) = _
          rw [Int.sub_zero]
          rfl
        exact ⟨_, _, _, _, _, _, by rw [← fndL_step hz hi, List.map_set, ← e3]; rfl⟩
    · obtain ⟨a, b, c, e, g, k, rfl⟩ := hI
      rw [lz, fndL_all hz]
      exact dss_one (ds_retO 6 rfl)
end
end Bw
namespace Bw
open PySem PySem.Spec PyProof.Rows L2
local macro_rules | `(tactic| walk_at "lv") => `(tactic| first
  | fail)
local macro_rules | `(tactic| walk_at "cd") => `(tactic| first
  | assumption | exact Iff.rfl | omega | (rw [xs_len]; assumption) | (rw [zs_len]; assumption) | (refine ⟨?_, ?_⟩ <;> assumption) | (refine ⟨?_, ?_, ?_⟩ <;> assumption) | (simp only [xs_len, zs_len]; assumption) | (simp only [xs_len, zs_len]; omega) | walk_at "lv")
local macro_rules | `(tactic| walk_at "dxp") => `(tactic| first
  | assumption
  | exact ⟨_, rfl, rfl⟩
  | exact ⟨_, _, rfl, rfl⟩
  | exact ⟨_, _, _, rfl, rfl⟩
  | exact ⟨_, _, _, _, rfl, rfl⟩
  | exact ⟨_, rfl, rfl, by walk_at "cd"⟩
  | exact ⟨_, _, rfl, rfl, by walk_at "cd"⟩
  | exact ⟨_, _, _, rfl, rfl, by walk_at "cd"⟩
  | exact ⟨_, _, _, _, rfl, rfl, by walk_at "cd"⟩
  | exact ⟨_, _, _, _, _, rfl, rfl, by walk_at "cd"⟩
  | exact ⟨_, _, _, _, _, _, rfl, rfl, by walk_at "cd"⟩
  | exact ⟨_, _, _, _, _, _, _, rfl, rfl, by walk_at "cd"⟩
  | exact ⟨_, _, _, _, _, _, _, _, rfl, rfl, by walk_at "cd"⟩
  | exact ⟨_, _, _, _, _, _, _, _, _, rfl, rfl, by walk_at "cd"⟩
  | exact ⟨_, rfl, rfl, rfl, rfl, by walk_at "side"⟩
  | walk_at "lv")
local macro_rules | `(tactic| walk_at "kit") => `(tactic| first
  | exact kit_ii | exact kit_ib | exact kit_ll | exact kit_tt)
local macro_rules | `(tactic| walk_at "side") => `(tactic| first
  | assumption | exact sel_int _ _ _ | exact sel_bi _ _ _ | rfl | decide | omega | exact Nat.le_of_ble_eq_true rfl | (simp; done) | (simp; omega) | (refine Or.inl ⟨?_, ?_⟩ <;> decide) | (refine Or.inr ⟨?_, ?_⟩ <;> decide) | (refine Or.inl ⟨?_, ?_⟩ <;> omega) | (refine Or.inr ⟨?_, ?_⟩ <;> omega) | (rw [bi_xor]; refine Or.inl ⟨?_, ?_⟩ <;> omega) | (refine And.intro ?_ (And.intro ?_ ?_) <;> omega) | (refine And.intro ?_ ?_ <;> omega) | walk_at "lv")
theorem cut_lo (ds : List PyData) (k : Nat) (h : k ≤ ds.length) : cutD ds none (some ((k : Nat) : Int)) = ds.take k := by
  unfold cutD
  rw [HT.sIx_none, HT.sIx_nat, Nat.min_eq_left h]
  rfl
theorem cut_hi (ds : List PyData) (k : Nat) (h : k ≤ ds.length) : cutD ds (some ((k : Nat) : Int)) none = ds.drop k := by
  unfold cutD
  rw [HT.sIx_none, HT.sIx_nat, Nat.min_eq_left h, ← List.length_drop, List.take_length]
theorem bi_sum2 (x z : Bool) : (bi x + bi z) % 2 = bi (x ^^ z) := by cases x <;> cases z <;> rfl
theorem xs_set (p : Pl) (a : Nat) (u : Bool × Bool) : (p.set a u).map (·.1) = (p.map (·.1)).set a u.1 := List.map_set ..
theorem zs_set (p : Pl) (a : Nat) (u : Bool × Bool) : (p.set a u).map (·.2) = (p.map (·.2)).set a u.2 := List.map_set ..
theorem set_same {α : Type} {l : List α} {a : Nat} {x : α} (h : l[a]? = some x) : l.set a x = l := by
  apply List.ext_getElem?
  intro j
  by_cases z : a = j
  · subst z
    rw [List.getElem?_set_self (List.getElem?_eq_some_iff.mp h).1, h]
  · rw [List.getElem?_set_ne z]
section
variable {Pg : Program} {w : World} {K : PySem.W.Frag} {mg : Str → Option Value} {base : Heap} {f CS CC : Addr} {fd : FuncData}
abbrev N_l_unlike : List Str := ["_law_one", "_law_other", "_law_found", "_law_wire", "_law_here", "_law_there"]
abbrev P_l_unlike : List Str := ["_law_one", "_law_other"]
theorem sc_l_unlike : FnScope N_l_unlike P_l_unlike (defScope s_l_unlike) := ⟨rfl, rfl, rfl, by decide +kernel, rfl, by decide +kernel, by decide +kernel⟩
abbrev N_l_size : List Str := ["_law_error", "_law_k"]
abbrev P_l_size : List Str := ["_law_error"]
theorem sc_l_size : FnScope N_l_size P_l_size (defScope s_l_size) := ⟨rfl, rfl, rfl, by decide +kernel, rfl, by decide +kernel, by decide +kernel⟩
abbrev N_l_product_bits : List Str := ["_law_one", "_law_other", "_law_xs", "_law_k"]
abbrev P_l_product_bits : List Str := ["_law_one", "_law_other"]
theorem sc_l_product_bits : FnScope N_l_product_bits P_l_product_bits (defScope s_l_product_bits) := ⟨rfl, rfl, rfl, by decide +kernel, rfl, by decide +kernel, by decide +kernel⟩
abbrev N_l_signs : List Str := ["_law_rows", "_law_error", "_law_row"]
abbrev P_l_signs : List Str := ["_law_rows", "_law_error"]
theorem sc_l_signs : FnScope N_l_signs P_l_signs (defScope s_l_signs) := ⟨rfl, rfl, rfl, by decide +kernel, rfl, by decide +kernel, by decide +kernel⟩
abbrev N_l_both : List Str := ["_law_one", "_law_other", "_law_quarters", "_law_xs", "_law_zs", "_law_wire", "_law_here", "_law_there", "_law_order"]
abbrev P_l_both : List Str := ["_law_one", "_law_other"]
theorem sc_l_both : FnScope N_l_both P_l_both (defScope s_l_both) := ⟨rfl, rfl, rfl, by decide +kernel, rfl, by decide +kernel, by decide +kernel⟩
def p_l_put : List D → D → Prop := fun ds d => ∃ (l : List Bool) (k : Nat) (b : Bool), ds = [.py (eBits l), I k, I (bi b)] ∧ d = .py (eBits (l.set k b)) ∧ k < l.length ∧ l.length ≤ 5
theorem ok_l_put (F : FnP K "_law_put" "_law_put" s_l_put f fd) (BT : Bl mg) : FnOk Pg w K mg base CX0 1 f fd P_l_put (SpD K p_l_put) := by
  refine fn_mk F sc_l_put (fun ds d h => ?_) (by decide) fun cdv A outer s H E ds d hr h => ?_
  · obtain ⟨l, k, b, rfl, rfl, _⟩ := h
    rfl
  · obtain ⟨l, k, b, rfl, rfl, hk, h5⟩ := h
    have e1 := cut_lo (l.map eB) k (by rw [List.length_map]; omega)
    have e2 := cut_hi (l.map eB) (k + 1) (by rw [List.length_map]; omega)
    have e3 : ((k : Int) + 1) = ((k + 1 : Nat) : Int) := by omega
    have c1 : (cutD (l.map eB) none (some ((k : Nat) : Int))).length ≤ 5 := by rw [e1, List.length_take, List.length_map]; omega
    have c2 : (cutD (l.map eB) (some (((k : Nat) : Int) + 1)) none).length ≤ 5 := by rw [e3, e2, List.length_drop, List.length_map]; omega
    have c3 : ((cutD (l.map eB) none (some ((k : Nat) : Int))) ++ [PyData.int (bi b)]).length ≤ 6 := by rw [List.length_append]; simp only [List.length_singleton]; omega
    refine dss_one (ds_ret ((de_cat (de_cat (de_slT (de_var 0) do_none (do_some (de_var 1))) (de_tup (dp_cons (de_var 2) dp_nil) (by walk_at "side")) (by walk_at "side")) (de_slT (de_var 0) (do_some (de_add (de_var 1) de_int)) do_none) (by walk_at "side"))) ?_)
    show Tu _ = Tu _
    rw [e3, e1, e2, ← List.map_take, ← List.map_drop, List.set_eq_take_append_cons_drop, if_pos hk, List.map_append, List.map_cons, List.append_assoc]
    rfl
def p_l_behind : List D → D → Prop := fun ds d => ∃ (r : Row) (a : Nat), a < r.p.length ∧ r.p.length ≤ 5 ∧
  ((ds = [.py (.str (Str.ofString "h")), Tu [.int a], .py (eRow r)] ∧ d = .py (eRow (hR a r))) ∨ (ds = [.py (.str (Str.ofString "s")), Tu [.int a], .py (eRow r)] ∧ d = .py (eRow (sR a r))) ∨
    ∃ b : Nat, b < r.p.length ∧ b ≠ a ∧ ds = [.py (.str (Str.ofString "cx")), Tu [.int a, .int b], .py (eRow r)] ∧ d = .py (eRow (cxR a b r)))
theorem sh_h : SeqAt.shaped (.str (Str.ofString "h")) = true := by decide +kernel
theorem sh_s : SeqAt.shaped (.str (Str.ofString "s")) = true := by decide +kernel
theorem sh_cx : SeqAt.shaped (.str (Str.ofString "cx")) = true := by decide +kernel
theorem put_x {l : List Bool} {k : Nat} {b : Bool} (h1 : k < l.length) (h2 : l.length ≤ 5) : p_l_put [.py (eBits l), I k, I (bi b)] (.py (eBits (l.set k b))) := ⟨l, k, b, rfl, rfl, h1, h2⟩
theorem ok_l_behind (F : FnP K "_law_behind" "_law_behind" s_l_behind f fd) (BT : Bl mg) (C_l_put : Cal Pg w K mg base "_law_put" 1 P_l_put (SpD K p_l_put)) : FnOk Pg w K mg base CX0 2 f fd P_l_behind (SpD K p_l_behind) := by
  refine fn_mk F sc_l_behind (fun ds d h => ?_) (by decide) fun cdv A outer s H E ds d hr h => ?_
  · obtain ⟨r, a, _, _, ⟨rfl, rfl⟩ | ⟨rfl, rfl⟩ | ⟨b, _, _, rfl, rfl⟩⟩ := h <;> rfl
  · obtain ⟨r, a, ha, h5, hc⟩ := h
    have nd := sc_l_behind.nd
    have lx : r.xs.length = r.p.length := xs_len r
    have lz : r.zs.length = r.p.length := zs_len r
    have hxa := atI_x ha
    have hza := atI_z ha
    have sh := sh_h
    have ss := sh_s
    have sc := sh_cx
    have bt := bi_range r.t
    have bx := bi_range (plAt r.p a).1
    have bz := bi_range (plAt r.p a).2
    have px : r.xs[a]? = some (plAt r.p a).1 := by unfold Row.xs; rw [List.getElem?_map, plAt_get ha]; rfl
    have pz1 : r.zs[a]? = some (plAt r.p a).2 := by unfold Row.zs; rw [List.getElem?_map, plAt_get ha]; rfl
    have tt : ∀ (t x z : Bool), (bi t + bi x * bi z) % 2 = bi (t ^^ (x && z)) := fun t x z => by cases t <;> cases x <;> cases z <;> rfl
    obtain ⟨rfl, rfl⟩ | ⟨rfl, rfl⟩ | ⟨b, hb, hne, rfl, rfl⟩ := hc
    · refine dss_seq (ds_asgG (de_var 2) (dg_tup rfl (dgs_cons (dg_name 3 nd) (dgs_cons (dg_name 4 nd) (dgs_cons (dg_name 5 nd) dgs_nil)))) rfl) ?_
      refine dss_seq (ds_asg 6 nd (de_ix (DE.tpl (de_var 1)) de_int (by walk_at "side")) rfl) ?_
      have q1 := put_x (l := r.xs) (k := a) (b := (plAt r.p a).2) (by omega) (by omega)
      have q2 := put_x (l := r.zs) (k := a) (b := (plAt r.p a).1) (by omega) (by omega)
      refine dss_stop (ds_ifT (dt_cmp (dc_eq (de_var 0) de_str hr.units (by walk_at "side") (by walk_at "side"))) (by decide) (dss_one (ds_ret ((de_tup (dp_cons (de_mod (de_add (de_var 3) (de_mul (de_ix (DE.tpl (de_var 4)) (de_var 6) (by walk_at "side")) (de_ix (DE.tpl (de_var 5)) (de_var 6) (by walk_at "side")) (by walk_at "side"))) de_int (by walk_at "side")) (dp_cons (de_call C_l_put hr (da_cons (de_var 4) (da_cons (de_var 6) (da_cons (de_ix (DE.tpl (de_var 5)) (de_var 6) (by walk_at "side")) da_nil))) (by walk_at "dxp")) (dp_cons (de_call C_l_put hr (da_cons (de_var 5) (da_cons (de_var 6) (da_cons (de_ix (DE.tpl (de_var 4)) (de_var 6) (by walk_at "side")) da_nil))) (by walk_at "dxp")) dp_nil))) (by walk_at "side"))) ?_)))
      show Tu _ = .py (eRow _)
      rw [tt]
      simp only [eRow, hR, Row.xs, Row.zs, xs_set, zs_set]
    · refine dss_seq (ds_asgG (de_var 2) (dg_tup rfl (dgs_cons (dg_name 3 nd) (dgs_cons (dg_name 4 nd) (dgs_cons (dg_name 5 nd) dgs_nil)))) rfl) ?_
      refine dss_seq (ds_asg 6 nd (de_ix (DE.tpl (de_var 1)) de_int (by walk_at "side")) rfl) ?_
      have q2 := put_x (l := r.zs) (k := a) (b := (plAt r.p a).1 ^^ (plAt r.p a).2) (by omega) (by omega)
      refine dss_seq (ds_ifF (dt_cmp (dc_eq (de_var 0) de_str hr.units (by walk_at "side") (by walk_at "side"))) (by decide) (dss_nil rfl)) ?_
      refine dss_stop (ds_ifT (dt_cmp (dc_eq (de_var 0) de_str hr.units (by walk_at "side") (by walk_at "side"))) (by decide) (dss_one (ds_ret (de_tup (dp_cons (de_mod (de_add (de_var 3) (de_mul (de_ix (DE.tpl (de_var 4)) (de_var 6) (by walk_at "side")) (de_ix (DE.tpl (de_var 5)) (de_var 6) (by walk_at "side")) (by walk_at "side"))) de_int (by walk_at "side")) (dp_cons (de_var 4) (dp_cons (de_call C_l_put hr (da_cons (de_var 5) (da_cons (de_var 6) (da_cons (DE.is (de_mod (de_add (de_ix (DE.tpl (de_var 4)) (de_var 6) (by walk_at "side")) (de_ix (DE.tpl (de_var 5)) (de_var 6) (by walk_at "side"))) de_int (by walk_at "side")) (by rw [bi_sum2])) da_nil))) q2) dp_nil))) (Nat.le_of_ble_eq_true rfl)) ?_)))
      show Tu _ = .py (eRow _)
      rw [tt]
      simp only [eRow, sR, Row.xs, Row.zs, xs_set, zs_set]
      rw [set_same (l := r.p.map (·.1)) px]
    · have hxb := atI_x hb
      have hzb := atI_z hb
      have bxb := bi_range (plAt r.p b).1
      have bzb := bi_range (plAt r.p b).2
      refine dss_seq (ds_asgG (de_var 2) (dg_tup rfl (dgs_cons (dg_name 3 nd) (dgs_cons (dg_name 4 nd) (dgs_cons (dg_name 5 nd) dgs_nil)))) rfl) ?_
      refine dss_seq (ds_asg 6 nd (de_ix (DE.tpl (de_var 1)) de_int (by walk_at "side")) rfl) ?_
      refine dss_seq (ds_ifF (dt_cmp (dc_eq (de_var 0) de_str hr.units (by walk_at "side") (by walk_at "side"))) (by decide) (dss_nil rfl)) ?_
      refine dss_seq (ds_ifF (dt_cmp (dc_eq (de_var 0) de_str hr.units (by walk_at "side") (by walk_at "side"))) (by decide) (dss_nil rfl)) ?_
      refine dss_seq (ds_asg 7 nd (de_ix (DE.tpl (de_var 1)) de_int (by walk_at "side")) rfl) ?_
      refine dss_seq (ds_asg 3 nd (de_mod (de_add (de_var 3) (de_mul (de_mul (de_ix (DE.tpl (de_var 4)) (de_var 6) (by walk_at "side")) (de_ix (DE.tpl (de_var 5)) (de_var 7) (by walk_at "side")) (by walk_at "side")) (de_add (de_add de_int (de_ix (DE.tpl (de_var 4)) (de_var 7) (by walk_at "side"))) (de_ix (DE.tpl (de_var 5)) (de_var 6) (by walk_at "side"))) (by walk_at "side"))) de_int (by walk_at "side")) rfl) ?_
      have q1 := put_x (l := r.xs) (k := b) (b := (plAt r.p a).1 ^^ (plAt r.p b).1) (by omega) (by omega)
      have q2 := put_x (l := r.zs) (k := a) (b := (plAt r.p a).2 ^^ (plAt r.p b).2) (by omega) (by omega)
      refine dss_one (ds_ret (de_tup (dp_cons (de_var 3) (dp_cons (de_call C_l_put hr (da_cons (de_var 4) (da_cons (de_var 7) (da_cons (DE.is (de_mod (de_add (de_ix (DE.tpl (de_var 4)) (de_var 6) (by walk_at "side")) (de_ix (DE.tpl (de_var 4)) (de_var 7) (by walk_at "side"))) de_int (by walk_at "side")) (by rw [bi_sum2])) da_nil))) q1) (dp_cons (de_call C_l_put hr (da_cons (de_var 5) (da_cons (de_var 6) (da_cons (DE.is (de_mod (de_add (de_ix (DE.tpl (de_var 5)) (de_var 6) (by walk_at "side")) (de_ix (DE.tpl (de_var 5)) (de_var 7) (by walk_at "side"))) de_int (by walk_at "side")) (by rw [bi_sum2])) da_nil))) q2) dp_nil))) (Nat.le_of_ble_eq_true rfl)) ?_)
      show Tu _ = .py (eRow _)
      have e1 : (bi r.t + bi (plAt r.p a).1 * bi (plAt r.p b).2 * (1 + bi (plAt r.p b).1 + bi (plAt r.p a).2)) % 2 = bi (r.t ^^ ((plAt r.p a).1 && (plAt r.p b).2 && !((plAt r.p b).1 ^^ (plAt r.p a).2))) := by
        cases r.t <;> cases (plAt r.p a).1 <;> cases (plAt r.p b).2 <;> cases (plAt r.p b).1 <;> cases (plAt r.p a).2 <;> rfl
      rw [e1]
      simp only [eRow, cxR, Row.xs, Row.zs, xs_set, zs_set]
      have pzb : r.zs[b]? = some (plAt r.p b).2 := by unfold Row.zs; rw [List.getElem?_map, plAt_get hb]; rfl
      rw [set_same (l := r.p.map (·.1)) px, set_same (l := (r.p.map (·.2)).set a ((plAt r.p a).2 ^^ (plAt r.p b).2)) (a := b) (by rw [List.getElem?_set_ne (fun z => hne z.symm)]; exact pzb)]
end
end Bw
namespace Bw
open PySem PySem.Spec PyProof.Rows L2
local macro_rules | `(tactic| walk_at "lv") => `(tactic| first
  | fail)
local macro_rules | `(tactic| walk_at "cd") => `(tactic| first
  | assumption | exact Iff.rfl | omega | (rw [xs_len]; assumption) | (rw [zs_len]; assumption) | (refine ⟨?_, ?_⟩ <;> assumption) | (refine ⟨?_, ?_, ?_⟩ <;> assumption) | (simp only [xs_len, zs_len]; assumption) | (simp only [xs_len, zs_len]; omega) | walk_at "lv")
local macro_rules | `(tactic| walk_at "dxp") => `(tactic| first
  | assumption
  | exact ⟨_, rfl, rfl⟩
  | exact ⟨_, _, rfl, rfl⟩
  | exact ⟨_, _, _, rfl, rfl⟩
  | exact ⟨_, _, _, _, rfl, rfl⟩
  | exact ⟨_, rfl, rfl, by walk_at "cd"⟩
  | exact ⟨_, _, rfl, rfl, by walk_at "cd"⟩
  | exact ⟨_, _, _, rfl, rfl, by walk_at "cd"⟩
  | exact ⟨_, _, _, _, rfl, rfl, by walk_at "cd"⟩
  | exact ⟨_, _, _, _, _, rfl, rfl, by walk_at "cd"⟩
  | exact ⟨_, _, _, _, _, _, rfl, rfl, by walk_at "cd"⟩
  | exact ⟨_, _, _, _, _, _, _, rfl, rfl, by walk_at "cd"⟩
  | exact ⟨_, _, _, _, _, _, _, _, rfl, rfl, by walk_at "cd"⟩
  | exact ⟨_, _, _, _, _, _, _, _, _, rfl, rfl, by walk_at "cd"⟩
  | exact ⟨_, rfl, rfl, rfl, rfl, by walk_at "side"⟩
  | walk_at "lv")
local macro_rules | `(tactic| walk_at "kit") => `(tactic| first
  | exact kit_ii | exact kit_ib | exact kit_ll | exact kit_tt)
local macro_rules | `(tactic| walk_at "side") => `(tactic| first
  | assumption | exact sel_int _ _ _ | exact sel_bi _ _ _ | rfl | decide | omega | exact Nat.le_of_ble_eq_true rfl | (simp; done) | (simp; omega) | (refine Or.inl ⟨?_, ?_⟩ <;> decide) | (refine Or.inr ⟨?_, ?_⟩ <;> decide) | (refine Or.inl ⟨?_, ?_⟩ <;> omega) | (refine Or.inr ⟨?_, ?_⟩ <;> omega) | (rw [bi_xor]; refine Or.inl ⟨?_, ?_⟩ <;> omega) | (refine And.intro ?_ (And.intro ?_ ?_) <;> omega) | (refine And.intro ?_ ?_ <;> omega) | walk_at "lv")
theorem tup_w (a : Bool × Bool) : D.py (.tuple [eB a.1, eB a.2]) = .py (prW a) := rfl
section
variable {Pg : Program} {w : World} {K : PySem.W.Frag} {mg : Str → Option Value} {base : Heap} {f CS CC : Addr} {fd : FuncData}
def p_l_unlike : List D → D → Prop := fun ds d => ∃ r s : Row, ds = [.py (eRow r), .py (eRow s)] ∧ d = I (unlS r.p s.p r.p.length) ∧ Wd r.p.length ∧ s.p.length = r.p.length
theorem ok_l_unlike (F : FnP K "_law_unlike" "_law_unlike" s_l_unlike f fd) (BT : Bl mg) : FnOk Pg w K mg base CX0 1 f fd P_l_unlike (SpD K p_l_unlike) := by
  refine fn_mk F sc_l_unlike (fun ds d h => ?_) (by decide) fun cdv A outer s H E ds d hr h => ?_
  · obtain ⟨r, s, rfl, rfl, _⟩ := h
    rfl
  · obtain ⟨r, s, rfl, rfl, hw, hl⟩ := h
    have nd := sc_l_unlike.nd
    have h5 := hw.2
    have l1 : (r.xs.map eB).length = r.p.length := by simp [Row.xs]
    have zn := prW_shaped (false, false)
    refine dss_seq (ds_asg 2 nd de_int rfl) ?_
    refine dss_seqA (ds_for (fun i ρ => ∃ a b c, ρ = [.val (.py (eRow r)), .val (.py (eRow s)), .val (I (unlS r.p s.p i)), a, b, c]) PassesOwn.never rfl (di_range1 (de_len (DE.tpl (de_ix (DE.tpl (de_var 0)) de_int (by walk_at "side"))) BT.b_len) (by walk_at "side") BT.b_range) ⟨_, _, _, rfl⟩ (fun i ρi hi hI => ?_) fun ρ' hI => hI) fun ρ' hI => ?_
    · obtain ⟨a, b, c, rfl⟩ := hI
      rw [l1] at hi
      have hi2 : i < s.p.length := by rw [hl]; exact hi
      have x1 := atI_x hi
      have z1 := atI_z hi
      have x2 := atI_x hi2
      have z2 := atI_z hi2
      have sa := prW_shaped (plAt r.p i)
      have sb := prW_shaped (plAt s.p i)
      refine ⟨_, _, (dg_name 3 nd), ?_⟩
      refine dss_seq (ds_asg 4 nd (d := .py (prW (plAt r.p i))) (de_tup (dp_cons (de_ix (DE.tpl (de_ix (DE.tpl (de_var 0)) de_int (by walk_at "side"))) (de_var 3) (by walk_at "side")) (dp_cons (de_ix (DE.tpl (de_ix (DE.tpl (de_var 0)) de_int (by walk_at "side"))) (de_var 3) (by walk_at "side")) dp_nil)) (by walk_at "side")) rfl) ?_
      refine dss_seq (ds_asg 5 nd (d := .py (prW (plAt s.p i))) (de_tup (dp_cons (de_ix (DE.tpl (de_ix (DE.tpl (de_var 1)) de_int (by walk_at "side"))) (de_var 3) (by walk_at "side")) (dp_cons (de_ix (DE.tpl (de_ix (DE.tpl (de_var 1)) de_int (by walk_at "side"))) (de_var 3) (by walk_at "side")) dp_nil)) (by walk_at "side")) rfl) ?_
      refine dss_one (ds_asg 2 nd (d := I (unlS r.p s.p (i + 1))) (DE.is (de_add (de_var 2) (de_intB (de_andV (de_cmp (dc_ne (de_var 4) (de_tup (dp_cons de_int (dp_cons de_int dp_nil)) (by walk_at "side")) hr.units (by walk_at "side") (by walk_at "side"))) fun _ => (de_andV (de_cmp (dc_ne (de_var 5) (de_tup (dp_cons de_int (dp_cons de_int dp_nil)) (by walk_at "side")) hr.units (by walk_at "side") (by walk_at "side"))) fun _ => (de_one (de_cmp (dc_ne (de_var 4) (de_var 5) hr.units (by walk_at "side") (by walk_at "side")))))) BT.b_int)) ?_) ⟨_, _, _, rfl⟩)
      rw [unlS_step]
      show I _ = I _
      refine congrArg (fun v : Int => I v) ?_
      have e0 : PyData.eqv (prW (plAt r.p i)) (.tuple [.int 0, .int 0]) = !szw (plAt r.p i) := prW_nul _
      have e1 : PyData.eqv (prW (plAt s.p i)) (.tuple [.int 0, .int 0]) = !szw (plAt s.p i) := prW_nul _
      have e2 := prW_eqv (plAt r.p i) (plAt s.p i)
      rw [e0, e1, e2, Bool.not_not, Bool.not_not, omw_iff]
      rfl
    · obtain ⟨a, b, c, rfl⟩ := hI
      rw [l1]
      exact dss_one (ds_ret ((de_var 2)) rfl)
def p_l_size : List D → D → Prop := fun ds d => ∃ r : Row, ds = [.py (eRow r)] ∧ d = I (wt r.p) ∧ r.p.length ≤ 100
theorem ok_l_size (F : FnP K "_law_size" "_law_size" s_l_size f fd) (BT : Bl mg) : FnOk Pg w K mg base CX0 1 f fd P_l_size (SpD K p_l_size) := by
  refine fn_mk F sc_l_size (fun ds d h => ?_) (by decide) fun cdv A outer s H E ds d hr h => ?_
  · obtain ⟨r, rfl, rfl, _⟩ := h
    rfl
  · obtain ⟨r, rfl, rfl, hw⟩ := h
    have nd := sc_l_size.nd
    have l1 : (r.xs.map eB).length = r.p.length := by simp [Row.xs]
    refine dss_one (ds_ret ((de_len (DL.lst (dl_lc [("_law_k", 1)] rfl nd (blkOk_by (by show blkC N_l_size (defScope s_l_size) _ _ = true; decide +kernel)) (lcw_range 1 (fun i => (r.p[i]?.map szw).getD false) (fun i => .int i) (di_range1 (de_len (DE.tpl (de_ix (DE.tpl (de_var 0)) de_int (by walk_at "side"))) BT.b_len) (by walk_at "side") BT.b_range) (by rw [l1]; omega) (fun d _ _ _ _ _ => dg_name 1 nd) (fun i hi s' H' C cl fp => by
          rw [l1] at hi
          have x1 := atI_x hi
          have z1 := atI_z hi
          refine dts_one (DT.is (dt_cmp (dc_gt (de_add (de_ix (DE.tpl (de_ix (DE.tpl (de_var 0)) de_int (by walk_at "side"))) (de_var 1) (by walk_at "side")) (de_ix (DE.tpl (de_ix (DE.tpl (de_var 0)) de_int (by walk_at "side"))) (de_var 1) (by walk_at "side"))) de_int)) ?_)
          have e3 : (r.p[i]?.map szw).getD false = szw (plAt r.p i) := by rw [plAt_get hi]; rfl
          rw [e3]
          unfold szw
          cases (plAt r.p i).1 <;> cases (plAt r.p i).2 <;> rfl) fun i hi hb s' H' C cl fp => (de_var 1)))) BT.b_len)) ?_)
    rw [List.length_map, l1, wt_range]
def p_l_product_bits : List D → D → Prop := fun ds d => ∃ r s : Row, ds = [.py (eRow r), .py (eRow s)] ∧ d = Tu [eBits ((plx r.p s.p).map (·.1)), eBits ((plx r.p s.p).map (·.2))] ∧ Wd r.p.length ∧ s.p.length = r.p.length
theorem ok_l_product_bits (F : FnP K "_law_product_bits" "_law_product_bits" s_l_product_bits f fd) (BT : Bl mg) : FnOk Pg w K mg base CX0 1 f fd P_l_product_bits (SpD K p_l_product_bits) := by
  refine fn_mk F sc_l_product_bits (fun ds d h => ?_) (by decide) fun cdv A outer s H E ds d hr h => ?_
  · obtain ⟨r, s, rfl, rfl, _⟩ := h
    rfl
  · obtain ⟨r, s, rfl, rfl, hw, hl⟩ := h
    have nd := sc_l_product_bits.nd
    have h5 := hw.2
    have l1 : (r.xs.map eB).length = r.p.length := by simp [Row.xs]
    have l2 : (r.zs.map eB).length = r.p.length := by simp [Row.zs]
    have ex : (List.range r.p.length).map (fun i => eB (xw (plAt r.p i) (plAt s.p i)).1) = ((plx r.p s.p).map (·.1)).map eB := by rw [← plx_range r.p s.p hl, List.map_map, List.map_map]; rfl
    have ez : (List.range r.p.length).map (fun i => eB (xw (plAt r.p i) (plAt s.p i)).2) = ((plx r.p s.p).map (·.2)).map eB := by rw [← plx_range r.p s.p hl, List.map_map, List.map_map]; rfl
    refine dss_seq (ds_asg 2 nd (d := .py (eBits ((plx r.p s.p).map (·.1)))) (DE.is (de_tuple (DL.lst (dl_lc [("_law_k", 3)] rfl nd (blkOk_by (by show blkC N_l_product_bits (defScope s_l_product_bits) _ _ = true; decide +kernel)) (lcw_rangeM 3 (fun i => eB (xw (plAt r.p i) (plAt s.p i)).1) (di_range1 (de_len (DE.tpl (de_ix (DE.tpl (de_var 0)) de_int (by walk_at "side"))) BT.b_len) (by walk_at "side") BT.b_range) (by rw [l1]; omega) (fun d _ _ _ _ _ => dg_name 3 nd) fun i hi s' H' C cl fp => by
          rw [l1] at hi
          have hi2 : i < s.p.length := by rw [hl]; exact hi
          have x1 := atI_x hi
          have x2 := atI_x hi2
          exact DE.is (de_mod (de_add (de_ix (DE.tpl (de_ix (DE.tpl (de_var 0)) de_int (by walk_at "side"))) (de_var 3) (by walk_at "side")) (de_ix (DE.tpl (de_ix (DE.tpl (de_var 1)) de_int (by walk_at "side"))) (de_var 3) (by walk_at "side"))) de_int (by walk_at "side")) (by rw [bi_sum2]; rfl)))) BT.b_tuple) (by rw [l1, ex]; rfl)) rfl) ?_
    refine dss_one (ds_ret ((de_tup (dp_cons (de_var 2) (dp_cons (de_tuple (DL.lst (dl_lc [("_law_k", 3)] rfl nd (blkOk_by (by show blkC N_l_product_bits (defScope s_l_product_bits) _ _ = true; decide +kernel)) (lcw_rangeM 3 (fun i => eB (xw (plAt r.p i) (plAt s.p i)).2) (di_range1 (de_len (DE.tpl (de_ix (DE.tpl (de_var 0)) de_int (by walk_at "side"))) BT.b_len) (by walk_at "side") BT.b_range) (by rw [l2]; omega) (fun d _ _ _ _ _ => dg_name 3 nd) fun i hi s' H' C cl fp => by
          rw [l2] at hi
          have hi2 : i < s.p.length := by rw [hl]; exact hi
          have x1 := atI_z hi
          have x2 := atI_z hi2
          exact DE.is (de_mod (de_add (de_ix (DE.tpl (de_ix (DE.tpl (de_var 0)) de_int (by walk_at "side"))) (de_var 3) (by walk_at "side")) (de_ix (DE.tpl (de_ix (DE.tpl (de_var 1)) de_int (by walk_at "side"))) (de_var 3) (by walk_at "side"))) de_int (by walk_at "side")) (by rw [bi_sum2]; rfl)))) BT.b_tuple) dp_nil)) (by walk_at "side"))) ?_)
    rw [l2, ez]
    rfl
def p_l_signs : List D → D → Prop := fun ds d => ∃ (rows : List Row) (n : Nat) (e : Row), ds = [Li (rows.map eRow), .py (eRow e)] ∧ d = TupN K ((sgns rows e).map eB) ∧ Wd n ∧ AllN n rows ∧ e.p.length = n ∧ rows.length ≤ 100
theorem ok_l_signs (F : FnP K "_law_signs" "_law_signs" s_l_signs f fd) (BT : Bl mg) (C_l_unlike : Cal Pg w K mg base "_law_unlike" 1 P_l_unlike (SpD K p_l_unlike)) : FnOk Pg w K mg base CX0 2 f fd P_l_signs (SpD K (p_l_signs (K := K))) := by
  refine fn_mk F sc_l_signs (fun ds d h => ?_) (by decide) fun cdv A outer s H E ds d hr h => ?_
  · obtain ⟨rows, n, e, rfl, rfl, _⟩ := h
    rfl
  · obtain ⟨rows, n, e, rfl, rfl, wn, hall, hn, few⟩ := h
    have nd := sc_l_signs.nd
    refine dss_one (ds_ret (d := TupN K ((sgns rows e).map eB)) (de_tupleN (ds := (sgns rows e).map eB) (DQis (DL.lst (dl_lc [("_law_row", 2)] rfl nd (blkOk_by (by show blkC N_l_signs (defScope s_l_signs) _ _ = true; decide +kernel)) (lcw_mapA 2 (fun r : Row => eB (om r.p e.p)) (di_list (de_var 0)) (by omega) (fun d _ _ _ _ _ => dg_name 2 nd) fun r hrs s H C cl fp => by
      have hr1 := hall r hrs
      have hw : Wd r.p.length := by rw [hr1]; exact wn
      have hl : e.p.length = r.p.length := by rw [hr1, hn]
      refine DE.is (de_mod (de_call C_l_unlike hr (da_cons (de_var 2) (da_cons (de_var 1) da_nil)) (by walk_at "dxp")) de_int (by walk_at "side")) ?_
      have q := om_sum r.p e.p hl
      show I _ = I _
      exact congrArg (fun v : Int => I v) q))) (by unfold sgns; rw [List.map_map]; rfl)) BT.b_tuple) rfl)
end
end Bw
namespace Bw
open PySem PySem.Spec PyProof.Rows L2
local macro_rules | `(tactic| walk_at "lv") => `(tactic| first
  | fail)
local macro_rules | `(tactic| walk_at "cd") => `(tactic| first
  | assumption | exact Iff.rfl | omega | (rw [xs_len]; assumption) | (rw [zs_len]; assumption) | (refine ⟨?_, ?_⟩ <;> assumption) | (refine ⟨?_, ?_, ?_⟩ <;> assumption) | (simp only [xs_len, zs_len]; assumption) | (simp only [xs_len, zs_len]; omega) | walk_at "lv")
local macro_rules | `(tactic| walk_at "dxp") => `(tactic| first
  | assumption
  | exact ⟨_, rfl, rfl⟩
  | exact ⟨_, _, rfl, rfl⟩
  | exact ⟨_, _, _, rfl, rfl⟩
  | exact ⟨_, _, _, _, rfl, rfl⟩
  | exact ⟨_, rfl, rfl, by walk_at "cd"⟩
  | exact ⟨_, _, rfl, rfl, by walk_at "cd"⟩
  | exact ⟨_, _, _, rfl, rfl, by walk_at "cd"⟩
  | exact ⟨_, _, _, _, rfl, rfl, by walk_at "cd"⟩
  | exact ⟨_, _, _, _, _, rfl, rfl, by walk_at "cd"⟩
  | exact ⟨_, _, _, _, _, _, rfl, rfl, by walk_at "cd"⟩
  | exact ⟨_, _, _, _, _, _, _, rfl, rfl, by walk_at "cd"⟩
  | exact ⟨_, _, _, _, _, _, _, _, rfl, rfl, by walk_at "cd"⟩
  | exact ⟨_, _, _, _, _, _, _, _, _, rfl, rfl, by walk_at "cd"⟩
  | exact ⟨_, rfl, rfl, rfl, rfl, by walk_at "side"⟩
  | walk_at "lv")
local macro_rules | `(tactic| walk_at "kit") => `(tactic| first
  | exact kit_ii | exact kit_ib | exact kit_ll | exact kit_tt)
local macro_rules | `(tactic| walk_at "side") => `(tactic| first
  | assumption | exact sel_int _ _ _ | exact sel_bi _ _ _ | rfl | decide | omega | exact Nat.le_of_ble_eq_true rfl | (simp; done) | (simp; omega) | (refine Or.inl ⟨?_, ?_⟩ <;> decide) | (refine Or.inr ⟨?_, ?_⟩ <;> decide) | (refine Or.inl ⟨?_, ?_⟩ <;> omega) | (refine Or.inr ⟨?_, ?_⟩ <;> omega) | (rw [bi_xor]; refine Or.inl ⟨?_, ?_⟩ <;> omega) | (refine And.intro ?_ (And.intro ?_ ?_) <;> omega) | (refine And.intro ?_ ?_ <;> omega) | walk_at "lv")
section
variable {Pg : Program} {w : World} {K : PySem.W.Frag} {mg : Str → Option Value} {base : Heap} {f CS CC : Addr} {fd : FuncData}
abbrev N_l_code_numbers : List Str := ["_law_rows", "_law_begin", "_law_amps", "_law_row", "_law_behind_here", "_law_k"]
abbrev P_l_code_numbers : List Str := ["_law_rows", "_law_begin"]
theorem sc_l_code_numbers : FnScope N_l_code_numbers P_l_code_numbers (defScope s_l_code_numbers) := ⟨rfl, rfl, rfl, by decide +kernel, rfl, by decide +kernel, by decide +kernel⟩
abbrev N_l_back : List Str := ["_law_code_here", "_law_pairs_here", "_law_error", "_law_amps", "_law_numbers_told", "_law_numbers", "_law_spoilt", "_law_found", "_law_turn"]
abbrev P_l_back : List Str := ["_law_code_here", "_law_pairs_here", "_law_error", "_law_amps"]
theorem sc_l_back : FnScope N_l_back P_l_back (defScope s_l_back) := ⟨rfl, rfl, rfl, by decide +kernel, rfl, by decide +kernel, by decide +kernel⟩
theorem take_all (p q : Pl) (h : q.length = p.length) : (plx p q).take p.length = plx p q := by rw [← plx_len h, List.take_length]
def p_l_both : List D → D → Prop := fun ds d => ∃ r s : Row, ds = [.py (eRow r), .py (eRow s)] ∧ d = .py (eRow (mul r s)) ∧ Wd r.p.length ∧ s.p.length = r.p.length
theorem ok_l_both (F : FnP K "_law_both" "_law_both" s_l_both f fd) (BT : Bl mg) : FnOk Pg w K mg base CX0 1 f fd P_l_both (SpD K p_l_both) := by
  refine fn_mk F sc_l_both (fun ds d h => ?_) (by decide) fun cdv A outer sh H E ds d hr h => ?_
  · obtain ⟨r, s, rfl, rfl, _⟩ := h
    rfl
  · obtain ⟨r, s, rfl, rfl, hw, hl⟩ := h
    have nd := sc_l_both.nd
    have h5 := hw.2
    have l1 : (r.xs.map eB).length = r.p.length := by simp [Row.xs]
    refine dss_seq (ds_asg 2 nd (de_add (de_mul de_int (de_ix (DE.tpl (de_var 0)) de_int (by walk_at "side")) (by walk_at "side")) (de_mul de_int (de_ix (DE.tpl (de_var 1)) de_int (by walk_at "side")) (by walk_at "side"))) rfl) ?_
    refine dss_seq (ds_asg 3 nd (de_tup dp_nil (by walk_at "side")) rfl) ?_
    refine dss_seq (ds_asg 4 nd (de_tup dp_nil (by walk_at "side")) rfl) ?_
    refine dss_seqA (ds_for (fun i ρ => ∃ a b c e, ρ = [.val (.py (eRow r)), .val (.py (eRow s)), .val (I (2 * bi r.t + 2 * bi s.t + (lqs r.p s.p - lqs (r.p.drop i) (s.p.drop i)))), .val (.py (eBits (((plx r.p s.p).take i).map (·.1)))), .val (.py (eBits (((plx r.p s.p).take i).map (·.2)))), a, b, c, e]) PassesOwn.never rfl (di_range1 (de_len (DE.tpl (de_ix (DE.tpl (de_var 0)) de_int (by walk_at "side"))) BT.b_len) (by walk_at "side") BT.b_range) ⟨.any, .any, .any, .any, ?_⟩ (fun i ρi hi hI => ?_) fun ρ' hI => hI) fun ρ' hI => ?_
    · rw [List.drop_zero, List.drop_zero, Int.sub_self, Int.add_zero]
      rfl
    · obtain ⟨a, b, c, e, rfl⟩ := hI
      rw [l1] at hi
      have hi2 : i < s.p.length := by rw [hl]; exact hi
      have x1 := atI_x hi
      have z1 := atI_z hi
      have x2 := atI_x hi2
      have z2 := atI_z hi2
      have lt : ((plx r.p s.p).take i).length ≤ 5 := by rw [List.length_take, plx_len hl]; omega
      have lm1 : ((((plx r.p s.p).take i).map (·.1)).map eB).length ≤ 5 := by rw [List.length_map, List.length_map]; exact lt
      have lm2 : ((((plx r.p s.p).take i).map (·.2)).map eB).length ≤ 5 := by rw [List.length_map, List.length_map]; exact lt
      have sa := prW_shaped (plAt r.p i)
      have sb := prW_shaped (plAt s.p i)
      have tk := plx_take hl hi
      have hu : (BX Pg w K mg base N_l_both "_law_both" s_l_both f cdv A outer sh H E).A.units + 65 < cLine := by have := hr.un; omega
      refine ⟨_, _, (dg_name 5 nd), ?_⟩
      refine dss_seq (ds_asg 6 nd (d := .py (prW (plAt r.p i))) (de_tup (dp_cons (de_ix (DE.tpl (de_ix (DE.tpl (de_var 0)) de_int (by walk_at "side"))) (de_var 5) (by walk_at "side")) (dp_cons (de_ix (DE.tpl (de_ix (DE.tpl (de_var 0)) de_int (by walk_at "side"))) (de_var 5) (by walk_at "side")) dp_nil)) (by walk_at "side")) rfl) ?_
      refine dss_seq (ds_asg 7 nd (d := .py (prW (plAt s.p i))) (de_tup (dp_cons (de_ix (DE.tpl (de_ix (DE.tpl (de_var 1)) de_int (by walk_at "side"))) (de_var 5) (by walk_at "side")) (dp_cons (de_ix (DE.tpl (de_ix (DE.tpl (de_var 1)) de_int (by walk_at "side"))) (de_var 5) (by walk_at "side")) dp_nil)) (by walk_at "side")) rfl) ?_
      have g0 : atI [eB (plAt r.p i).1, eB (plAt r.p i).2] 0 = some (eB (plAt r.p i).1) := atI_n (i := 0) rfl
      have g1 : atI [eB (plAt r.p i).1, eB (plAt r.p i).2] 1 = some (eB (plAt r.p i).2) := atI_n (i := 1) rfl
      have g2 : atI [eB (plAt s.p i).1, eB (plAt s.p i).2] 0 = some (eB (plAt s.p i).1) := atI_n (i := 0) rfl
      have g3 : atI [eB (plAt s.p i).1, eB (plAt s.p i).2] 1 = some (eB (plAt s.p i).2) := atI_n (i := 1) rfl
      refine dss_seq (ds_asg 3 nd (d := .py (eBits (((plx r.p s.p).take (i + 1)).map (·.1)))) (DE.is (de_cat (de_var 3) (de_tup (dp_cons (de_mod (de_add (de_ix (DE.tpl (de_var 6)) de_int (by walk_at "side")) (de_ix (DE.tpl (de_var 7)) de_int (by walk_at "side"))) de_int (by walk_at "side")) dp_nil) (by walk_at "side")) (by walk_at "side")) ?_) rfl) ?_
      · rw [tk, List.map_append, bi_sum2]
        show Tu _ = Tu _
        rw [List.map_append]
        rfl
      refine dss_seq (ds_asg 4 nd (d := .py (eBits (((plx r.p s.p).take (i + 1)).map (·.2)))) (DE.is (de_cat (de_var 4) (de_tup (dp_cons (de_mod (de_add (de_ix (DE.tpl (de_var 6)) de_int (by walk_at "side")) (de_ix (DE.tpl (de_var 7)) de_int (by walk_at "side"))) de_int (by walk_at "side")) dp_nil) (by walk_at "side")) (by walk_at "side")) ?_) rfl) ?_
      · rw [tk, List.map_append, bi_sum2]
        show Tu _ = Tu _
        rw [List.map_append]
        rfl
      refine dss_seq (ds_asg 8 nd (d := Li ordD) (DL.ex (dl_lst (dp_cons (de_tup (dp_cons de_int (dp_cons de_int dp_nil)) (by walk_at "side")) (dp_cons (de_tup (dp_cons de_int (dp_cons de_int dp_nil)) (by walk_at "side")) (dp_cons (de_tup (dp_cons de_int (dp_cons de_int dp_nil)) (by walk_at "side")) dp_nil))) (by walk_at "side"))) rfl) ?_
      have est : lqs (r.p.drop i) (s.p.drop i) = lqw (plAt r.p i) (plAt s.p i) + lqs (r.p.drop (i + 1)) (s.p.drop (i + 1)) := by rw [pl_drop hi, pl_drop hi2]; rfl
      refine dss_one (ds_if (DT.is (DW.t (dw_and (dt_cmp (dc_inD (de_var 6) (de_var 8) hu sa ordD_shaped)) fun _ => dw_and (dt_cmp (dc_inD (de_var 7) (de_var 8) hu sb ordD_shaped)) fun _ => dw_and1 (dt_cmp (dc_ne (de_var 6) (de_var 7) hr.units sa sb)))) (b' := omw (plAt r.p i) (plAt s.p i)) (by rw [ord_in, ord_in, prW_eqv, omw_iff])) (fun hb => ?_) fun hb => dss_nil ?_)
      · have wa : szw (plAt r.p i) = true := by have := omw_iff (plAt r.p i) (plAt s.p i); rw [hb] at this; cases h : szw (plAt r.p i) <;> rw [h] at this <;> first | rfl | cases this
        have wb : szw (plAt s.p i) = true := by have := omw_iff (plAt r.p i) (plAt s.p i); rw [hb, wa] at this; cases h : szw (plAt s.p i) <;> rw [h] at this <;> first | rfl | cases this
        refine dss_one (ds_asg 2 nd (d := I (2 * bi r.t + 2 * bi s.t + (lqs r.p s.p - lqs (r.p.drop (i + 1)) (s.p.drop (i + 1))))) (DE.is (de_add (de_var 2) (de_ix (DL.lst (dl_lst (dp_cons de_int (dp_cons de_int dp_nil)) (by decide))) (de_intB (de_cmp (dc_neI (de_mod (de_sub (de_indexL (z := prW (plAt s.p i)) (j := pidx (plAt s.p i)) hu (de_var 8) (de_var 7) ordD_shaped sb (ord_at _ wb) (by rw [prW_eqv]; simp) fun m z' hm hz => ord_no _ m z' hm hz) (de_indexL (z := prW (plAt r.p i)) (j := pidx (plAt r.p i)) hu (de_var 8) (de_var 6) ordD_shaped sa (ord_at _ wa) (by rw [prW_eqv]; simp) fun m z' hm hz => ord_no _ m z' hm hz)) de_int (by decide)) de_int)) BT.b_int) (sel_int _ _ _))) ?_) ⟨_, _, _, _, rfl⟩)
        rw [est]
        refine congrArg (fun v : Int => I v) ?_
        unfold lqw
        rw [if_pos hb]
        by_cases q : ((pidx (plAt s.p i) : Int) - pidx (plAt r.p i)) % 3 = 1
        · simp only [q, decide_true, Bool.not_true, if_true, Bool.false_eq_true, if_false]
          omega
        · simp only [q, decide_false, Bool.not_false, if_true, if_false]
          omega
      · have e0 : lqw (plAt r.p i) (plAt s.p i) = 0 := by unfold lqw; rw [hb]; rfl
        rw [e0, Int.zero_add] at est
        exact ⟨_, _, _, _, by first | (rw [← est]; done) | (rw [← est]; rfl)⟩
    · obtain ⟨a, b, c, e, rfl⟩ := hI
      rw [l1, take_all _ _ hl, List.drop_length, ← hl, List.drop_length]
      have e0 : (2 * bi r.t + 2 * bi s.t + (lqs r.p s.p - lqs [] [])) % 4 / 2 = bi (decide (quar r s % 4 / 2 = 1)) := by
        have q := lqs_ok r.p s.p
        have q2 : (2 * bi r.t + 2 * bi s.t + (lqs r.p s.p - lqs [] [])) % 4 = quar r s % 4 := by
          unfold quar
          show (2 * bi r.t + 2 * bi s.t + (lqs r.p s.p - 0)) % 4 = _
          omega
        rw [q2]
        have h : quar r s % 4 / 2 = 0 ∨ quar r s % 4 / 2 = 1 := by omega
        rcases h with h | h <;> rw [h] <;> rfl
      refine dss_one (ds_ret ((de_tup (dp_cons (de_div (de_mod (de_var 2) de_int (by walk_at "side")) de_int (by walk_at "side")) (dp_cons (de_var 3) (dp_cons (de_var 4) dp_nil))) (by walk_at "side"))) ?_)
      show Tu _ = .py (eRow (mul r s))
      rw [e0]
      rfl
end
end Bw
namespace Bw
open PySem PySem.Spec PyProof.Rows L2
local macro_rules | `(tactic| walk_at "lv") => `(tactic| first
  | fail)
local macro_rules | `(tactic| walk_at "cd") => `(tactic| first
  | assumption | exact Iff.rfl | omega | (rw [xs_len]; assumption) | (rw [zs_len]; assumption) | (refine ⟨?_, ?_⟩ <;> assumption) | (refine ⟨?_, ?_, ?_⟩ <;> assumption) | (simp only [xs_len, zs_len]; assumption) | (simp only [xs_len, zs_len]; omega) | walk_at "lv")
local macro_rules | `(tactic| walk_at "dxp") => `(tactic| first
  | assumption
  | exact ⟨_, rfl, rfl⟩
  | exact ⟨_, _, rfl, rfl⟩
  | exact ⟨_, _, _, rfl, rfl⟩
  | exact ⟨_, _, _, _, rfl, rfl⟩
  | exact ⟨_, rfl, rfl, by walk_at "cd"⟩
  | exact ⟨_, _, rfl, rfl, by walk_at "cd"⟩
  | exact ⟨_, _, _, rfl, rfl, by walk_at "cd"⟩
  | exact ⟨_, _, _, _, rfl, rfl, by walk_at "cd"⟩
  | exact ⟨_, _, _, _, _, rfl, rfl, by walk_at "cd"⟩
  | exact ⟨_, _, _, _, _, _, rfl, rfl, by walk_at "cd"⟩
  | exact ⟨_, _, _, _, _, _, _, rfl, rfl, by walk_at "cd"⟩
  | exact ⟨_, _, _, _, _, _, _, _, rfl, rfl, by walk_at "cd"⟩
  | exact ⟨_, _, _, _, _, _, _, _, _, rfl, rfl, by walk_at "cd"⟩
  | exact ⟨_, rfl, rfl, rfl, rfl, by walk_at "side"⟩
  | walk_at "lv")
local macro_rules | `(tactic| walk_at "kit") => `(tactic| first
  | exact kit_ii | exact kit_ib | exact kit_ll | exact kit_tt)
local macro_rules | `(tactic| walk_at "side") => `(tactic| first
  | assumption | exact sel_int _ _ _ | exact sel_bi _ _ _ | rfl | decide | omega | exact Nat.le_of_ble_eq_true rfl | (simp; done) | (simp; omega) | (refine Or.inl ⟨?_, ?_⟩ <;> decide) | (refine Or.inr ⟨?_, ?_⟩ <;> decide) | (refine Or.inl ⟨?_, ?_⟩ <;> omega) | (refine Or.inr ⟨?_, ?_⟩ <;> omega) | (rw [bi_xor]; refine Or.inl ⟨?_, ?_⟩ <;> omega) | (refine And.intro ?_ (And.intro ?_ ?_) <;> omega) | (refine And.intro ?_ ?_ <;> omega) | walk_at "lv")
theorem rep_amp (n : Nat) : (List.replicate n [PyData.tuple [.int 0, .int 0, .int 0, .int 0]]).flatten = (List.replicate n zeroA).map eAmp := by
  induction n with
  | zero => rfl
  | succ n ih =>
    rw [List.replicate_succ, List.flatten_cons, ih, List.replicate_succ, List.map_cons]
    rfl
section
variable {Pg : Program} {w : World} {K : PySem.W.Frag} {mg : Str → Option Value} {base : Heap} {f CS CC : Addr} {fd : FuncData}
def p_l_code_numbers : List D → D → Prop := fun ds d => ∃ (rows : List Row) (n b : Nat), ds = [Li (rows.map eRow), I b] ∧ d = Li ((cnR n rows b).map eAmp) ∧ Wd n ∧ rows ≠ [] ∧ rows.length ≤ 100 ∧ AllN n rows ∧ b < 2 ^ n
theorem ok_l_code_numbers (F : FnP K "_law_code_numbers" "_law_code_numbers" s_l_code_numbers f fd) (BT : Bl mg) (C_l_done : Cal Pg w K mg base "_law_done" 2 P_l_done (SpD K p_l_done)) (C_l_sum : Cal Pg w K mg base "_law_sum" 1 P_l_sum (SpD K p_l_sum)) : FnOk Pg w K mg base CX0 3 f fd P_l_code_numbers (SpD K p_l_code_numbers) := by
  refine fn_mk F sc_l_code_numbers (fun ds d h => ?_) (by decide) fun cdv A outer s H E ds d hr h => ?_
  · obtain ⟨rows, n, b, rfl, rfl, _⟩ := h
    rfl
  · obtain ⟨rows, n, b, rfl, rfl, wn, ne, few, hall, hb⟩ := h
    have nd := sc_l_code_numbers.nd
    obtain ⟨r0, rest, e0⟩ : ∃ r0 rest, rows = r0 :: rest := by
      cases hrs : rows with
      | nil => exact absurd hrs ne
      | cons r rest => exact ⟨r, rest, rfl⟩
    have h0 : atI (rows.map eRow) 0 = some (eRow r0) := atI_n (i := 0) (by rw [e0]; rfl)
    have hn0 := hall r0 (by rw [e0]; simp)
    have l1 : (r0.xs.map eB).length = n := by simp [Row.xs, hn0]
    have wn5 := wn.2
    have pf := pow_few wn5
    have ek : (1 : Int) * 2 ^ (((r0.xs.map eB).length : Nat) : Int).toNat = ((2 ^ n : Nat) : Int) := by rw [l1, Int.toNat_natCast, Int.one_mul, Int.natCast_pow]; rfl
    refine dss_seq (ds_asgO 2 nd (dl_rep (DL.ex (dl_lst (dp_cons (de_tup (dp_cons de_int (dp_cons de_int (dp_cons de_int (dp_cons de_int dp_nil)))) (by walk_at "side")) dp_nil) (by walk_at "side"))) (DE.is (de_shl de_int (de_len (DE.tpl (de_ix (DE.tpl (de_ix (DE.lst (de_var 0)) de_int (by walk_at "side"))) de_int (by walk_at "side"))) BT.b_len) (by walk_at "side")) (by rw [ek])) (by omega) (by omega) (by simp)) rfl) ?_
    rw [Int.toNat_natCast, rep_amp]
    refine dss_seq (ds_setix 2 (de_tup (dp_cons de_int (dp_cons de_int (dp_cons de_int (dp_cons de_int dp_nil)))) (by walk_at "side")) (de_var 1) (ixN_nat (n := ((List.replicate (2 ^ n) zeroA).map eAmp).length) (j := b) (by simp; exact hb)) rfl) ?_
    refine dss_freeze 2 (ds := (unitA n b).map eAmp) ?_ (by unfold unitA; rw [List.map_set]; rfl)
    refine dss_seqA (ds_for (fun i ρ => ∃ a c, ρ = [.val (Li (rows.map eRow)), .val (I b), .val (Li ((cnR n (rows.take i) b).map eAmp)), a, c, .any]) PassesOwn.never rfl (di_list (de_var 0)) ⟨_, _, rfl⟩ (fun i ρi hi hI => ?_) fun ρ' hI => hI) fun ρ' hI => ?_
    · obtain ⟨a, c, rfl⟩ := hI
      rw [List.length_map] at hi
      have mi : rows[i] ∈ rows := List.getElem_mem hi
      have hz := cnR_len n (rows.take i) b
      have cw : Wd rows[i].p.length ∧ (cnR n (rows.take i) b).length = 2 ^ rows[i].p.length := by rw [hall _ mi]; exact ⟨wn, hz⟩
      have est := cn_take (n := n) (b := b) hi
      generalize cnR n (rows.take i) b = zs at hz cw est ⊢
      have lz : (zs.map eAmp).length = zs.length := by simp
      refine ⟨_, _, (dg_name 3 nd), ?_⟩
      rw [at_map hi]
      refine dss_seq (ds_asg 4 nd (de_call C_l_done hr (da_cons (de_var 3) (da_cons (de_var 2) da_nil)) (by walk_at "dxp")) rfl) ?_
      refine dss_one (ds_asg 2 nd (DL.ex (dl_lc (out := (cnR n (rows.take (i + 1)) b).map eAmp) [("_law_k", 5)] rfl nd (blkOk_by (by show blkC N_l_code_numbers (defScope s_l_code_numbers) _ _ = true; decide +kernel)) (by
        rw [est]
        have e2 : (cnStep zs rows[i]).map eAmp = (List.range (zs.map eAmp).length).map fun k => eAmp (addA (ampAt zs k) (ampAt (act rows[i] zs) k)) := by
          unfold cnStep addL
          rw [List.map_map, lz]
          rfl
        rw [e2]
        exact lcw_rangeM 5 (fun k => eAmp (addA (ampAt zs k) (ampAt (act rows[i] zs) k))) (di_range1 (de_len (DE.lst (de_var 2)) BT.b_len) (by walk_at "side") BT.b_range) (by rw [lz, hz]; omega) (fun d _ _ _ _ _ => dg_name 5 nd) fun k hk s' H' C cl fp => by
          rw [lz] at hk
          have a1 := atI_amp hk
          have a2 := atI_amp (zs := act rows[i] zs) (i := k) (by rw [act_len]; exact hk)
          exact (de_call C_l_sum hr (da_cons (de_ix (DE.lst (de_var 2)) (de_var 5) (by walk_at "side")) (da_cons (de_ix (DE.lst (de_var 4)) (de_var 5) (by walk_at "side")) da_nil)) (by walk_at "dxp"))))) ?_)
      exact ⟨_, _, rfl⟩
    · obtain ⟨a, c, rfl⟩ := hI
      rw [List.length_map, List.take_length]
      exact dss_one (ds_ret ((de_var 2)) rfl)
def p_l_back : List D → D → Prop := fun ds d => ∃ (rows : List Row) (ps : List (List Bool × Row)) (e : Row) (zs : List Amp) (n : Nat) (sg sg' : List Bool) (e' : Row) (t : Nat), ds = [Cd K CC rows, Li (ps.map ePair), .py (eRow e), Li (zs.map eAmp)] ∧ d = B true ∧
  Kept n rows ∧ SgOk n rows (act e zs) sg ∧ ps.find? (fun q => q.1 == sg) = some (sg', e') ∧ e.p.length = n ∧ e'.p.length = n ∧ zs.length = 2 ^ n ∧ t < 8 ∧ act e' (act e zs) = zs.map (rotN t)
theorem ok_l_back (F : FnP K "_law_back" "_law_back" s_l_back f fd) (BT : Bl mg) (GK : GkP K mg CS CC) (C_l_done : Cal Pg w K mg base "_law_done" 2 P_l_done (SpD K p_l_done)) (C_l_turned : Cal Pg w K mg base "_law_turned" 1 P_l_turned (SpD K p_l_turned))
    (C_State : CaI Pg w K mg base "State" CS 3 P_State_init (SpI K CS "kept" p_State_init)) (C_mended : Cal Pg w K mg base "mended" 7 P_mended (SpD K (p_mended (K := K) (CS := CS) (CC := CC)))) (M_State_eighths : Cam Pg w K mg base CS "eighths" 1 P_State_eighths (SpD K (p_State_eighths (K := K) (CS := CS)))) :
    FnOk Pg w K mg base CX0 8 f fd P_l_back (SpD K (p_l_back (K := K) (CC := CC))) := by
  refine fn_mk F sc_l_back (fun ds d h => ?_) (by decide) fun cdv A outer s H E ds d hr h => ?_
  · obtain ⟨rows, ps, e, zs, n, sg, sg', e', t, rfl, rfl, _⟩ := h
    rfl
  · obtain ⟨rows, ps, e, zs, n, sg, sg', e', t, rfl, rfl, k, sk, hfind, hen, hen', hz, ht, hback⟩ := h
    have nd := sc_l_back.nd
    have wn := k.wd
    have lz5 : zs.length ≤ 32 := len32 (by rw [hz]; exact len_pow wn)
    have cd : Wd e.p.length ∧ zs.length = 2 ^ e.p.length := by rw [hen]; exact ⟨wn, hz⟩
    have la := act_len e zs
    have cm : Kept n rows ∧ SgOk n rows (act e zs) sg ∧ ps.find? (fun q => q.1 == sg) = some (sg', e') ∧ e'.p.length = n := ⟨k, sk, hfind, hen'⟩
    have cs : (((act e zs).length : Nat) : Int) ∈ ([2, 4, 8, 16, 32] : List Int) := by rw [la, hz]; exact len_pow wn
    have s1 := e8s_shaped (act e zs)
    have s2 := e8s_shaped (act e' (act e zs))
    refine dss_seq (ds_setLc (out := (act e zs).map e8) 4 [("_law_numbers", 5)] rfl nd (blkOk_by (by show blkC N_l_back (defScope s_l_back) _ _ = true; decide +kernel)) (lcw_mapA 5 e8 (di_list (de_call C_l_done hr (da_cons (de_var 2) (da_cons (de_var 3) da_nil)) (by walk_at "dxp"))) (by omega) (fun d _ _ _ _ _ => dg_name 5 nd) fun z hz s H C cl fp => DE.is (de_cat (de_var 5) (de_tup (dp_cons de_int dp_nil) (by walk_at "side")) (by walk_at "side")) rfl) rfl) ?_
    refine dss_seq (ds_asg 6 nd (de_make C_State hr (DL.ex (dl_list (DE.lst (de_var 4)) BT.b_list)) (by walk_at "dxp")) rfl) ?_
    refine dss_seq (ds_asg 7 nd (de_meth0 (de_call C_mended hr (da_cons (de_var 0) (da_cons (de_var 1) (da_cons (de_var 6) da_nil))) (by walk_at "dxp")) M_State_eighths hr (by walk_at "dxp")) rfl) ?_
    refine dss_seq (ds_ifF (dt_cmp (dc_ne (de_meth0 (de_var 6) M_State_eighths hr (by walk_at "dxp")) (de_var 4) hr.units (by walk_at "side") (by walk_at "side"))) (by rw [e8s_eqv]; simp) (dss_nil rfl)) ?_
    refine dss_seqA (ds_for (fun i ρ => (∀ t, t < i → zs.map (rotN t) ≠ act e' (act e zs)) ∧ ∃ a, ρ = [.val (Cd K CC rows), .val (Li (ps.map ePair)), .val (.py (eRow e)), .val (Li (zs.map eAmp)), .val (Li ((act e zs).map e8)), .any, .val (St K CS (act e zs)), .val (Li ((act e' (act e zs)).map e8)), a]) PassesOwn.never rfl (di_range1 (n := 8) de_int (by decide) BT.b_range) ⟨fun t h => absurd h (Nat.not_lt_zero t), _, rfl⟩ (fun i ρi hi hI => ?_) fun ρ' hI => hI) fun ρ' hI => ?_
    · obtain ⟨hno, a, rfl⟩ := hI
      have s3 := e8s_shaped (zs.map (rotN i))
      have em : ((i : Int) % 8).toNat = i := by omega
      refine ⟨_, _, (dg_name 8 nd), ?_⟩
      refine dss_one (ds_if (dt_cmp (dc_eq (de_var 7) (DE.is (DL.ex (dl_lc [("_law_numbers", 5)] rfl nd (blkOk_by (by show blkC N_l_back (defScope s_l_back) _ _ = true; decide +kernel)) (lcw_mapA 5 (fun z => e8 (rotN i z)) (di_list (de_var 3)) (by omega) (fun d _ _ _ _ _ => dg_name 5 nd) fun z hz s H C cl fp => by
          exact DE.is (de_cat (de_call C_l_turned hr (da_cons (de_var 5) (da_cons (de_var 8) da_nil)) (by walk_at "dxp")) (de_tup (dp_cons de_int dp_nil) (by walk_at "side")) (by walk_at "side")) (by rw [em]; rfl)))) (d' := Li ((zs.map (rotN i)).map e8)) (by rw [List.map_map]; rfl)) hr.units s2 s3)) (fun hb => dss_one (ds_ret de_bl rfl)) fun hb => dss_nil ?_)
      rw [e8s_eqv] at hb
      refine ⟨fun t ht2 => ?_, _, rfl⟩
      by_cases q : t < i
      · exact hno t q
      · have : t = i := by omega
        subst this
        exact fun z => of_decide_eq_false hb z.symm
    · obtain ⟨hno, a, rfl⟩ := hI
      exact absurd hback.symm (hno t ht)
end
end Bw
namespace Bw
open PySem PySem.Spec PyProof.Rows L2
local macro_rules | `(tactic| walk_at "lv") => `(tactic| first
  | fail)
local macro_rules | `(tactic| walk_at "cd") => `(tactic| first
  | assumption | exact Iff.rfl | omega | (rw [xs_len]; assumption) | (rw [zs_len]; assumption) | (refine ⟨?_, ?_⟩ <;> assumption) | (refine ⟨?_, ?_, ?_⟩ <;> assumption) | (simp only [xs_len, zs_len]; assumption) | (simp only [xs_len, zs_len]; omega) | walk_at "lv")
local macro_rules | `(tactic| walk_at "dxp") => `(tactic| first
  | assumption
  | exact ⟨_, rfl, rfl⟩
  | exact ⟨_, _, rfl, rfl⟩
  | exact ⟨_, _, _, rfl, rfl⟩
  | exact ⟨_, _, _, _, rfl, rfl⟩
  | exact ⟨_, rfl, rfl, by walk_at "cd"⟩
  | exact ⟨_, _, rfl, rfl, by walk_at "cd"⟩
  | exact ⟨_, _, _, rfl, rfl, by walk_at "cd"⟩
  | exact ⟨_, _, _, _, rfl, rfl, by walk_at "cd"⟩
  | exact ⟨_, _, _, _, _, rfl, rfl, by walk_at "cd"⟩
  | exact ⟨_, _, _, _, _, _, rfl, rfl, by walk_at "cd"⟩
  | exact ⟨_, _, _, _, _, _, _, rfl, rfl, by walk_at "cd"⟩
  | exact ⟨_, _, _, _, _, _, _, _, rfl, rfl, by walk_at "cd"⟩
  | exact ⟨_, _, _, _, _, _, _, _, _, rfl, rfl, by walk_at "cd"⟩
  | exact ⟨_, rfl, rfl, rfl, rfl, by walk_at "side"⟩
  | walk_at "lv")
local macro_rules | `(tactic| walk_at "kit") => `(tactic| first
  | exact kit_ii | exact kit_ib | exact kit_ll | exact kit_tt)
local macro_rules | `(tactic| walk_at "side") => `(tactic| first
  | assumption | exact sel_int _ _ _ | exact sel_bi _ _ _ | rfl | decide | omega | exact Nat.le_of_ble_eq_true rfl | (simp; done) | (simp; omega) | (refine Or.inl ⟨?_, ?_⟩ <;> decide) | (refine Or.inr ⟨?_, ?_⟩ <;> decide) | (refine Or.inl ⟨?_, ?_⟩ <;> omega) | (refine Or.inr ⟨?_, ?_⟩ <;> omega) | (rw [bi_xor]; refine Or.inl ⟨?_, ?_⟩ <;> omega) | (refine And.intro ?_ (And.intro ?_ ?_) <;> omega) | (refine And.intro ?_ ?_ <;> omega) | walk_at "lv")
theorem dv_range (n : Int) {m : Int} (h : 0 < m) : 0 ≤ dv n m ∧ dv n m < m := ⟨Int.emod_nonneg _ (by omega), Int.emod_lt_of_pos _ h⟩
theorem dv_nat (n : Int) {m : Int} (h : 0 < m) : dv n m = (((dv n m).toNat : Nat) : Int) := (Int.toNat_of_nonneg (dv_range n h).1).symm
theorem atI_row {l : List Row} {i : Nat} (h : i < l.length) : atI (l.map eRow) ((i : Nat) : Int) = some (eRow (rowAt l i)) := atI_n (by unfold rowAt; rw [List.getElem?_map, List.getElem?_eq_getElem h]; rfl)
theorem rowAt_mem {l : List Row} {i : Nat} (h : i < l.length) : rowAt l i ∈ l := by
  unfold rowAt
  rw [List.getElem?_eq_getElem h]
  exact List.getElem_mem h
theorem mixStep_ok {m : Nat} {s : List Row × Int} (hne : s.1 ≠ []) (hall : AllN m s.1) : (mixStep s).1.length = s.1.length ∧ AllN m (mixStep s).1 := by
  have h0 : (0 : Int) < (s.1.length : Int) := by have := List.length_pos_iff.mpr hne; omega
  have d1 := dv_range s.2 h0
  have d2 := dv_range (nx s.2) h0
  unfold mixStep
  simp only
  split
  · exact ⟨rfl, hall⟩
  · refine ⟨List.length_set .., fun r hr => ?_⟩
    rcases List.mem_or_eq_of_mem_set hr with h | h
    · exact hall r h
    · rw [h]
      exact mul_len (hall _ (rowAt_mem (by omega))) (hall _ (rowAt_mem (by omega)))
theorem mixL_ok {m : Nat} {rows : List Row} (st : Int) (hne : rows ≠ []) (hall : AllN m rows) : ∀ k, (mixL rows st k).1.length = rows.length ∧ AllN m (mixL rows st k).1
  | 0 => ⟨rfl, hall⟩
  | k + 1 => by
    obtain ⟨h1, h2⟩ := mixL_ok st hne hall k
    have hne2 : (mixL rows st k).1 ≠ [] := fun z => by
      rw [z] at h1
      exact hne (List.length_eq_zero_iff.mp h1.symm)
    obtain ⟨g1, g2⟩ := mixStep_ok hne2 h2
    exact ⟨g1.trans h1, g2⟩
section
variable {Pg : Program} {w : World} {K : PySem.W.Frag} {mg : Str → Option Value} {base : Heap} {f CS CC : Addr} {fd : FuncData}
abbrev N_l_mixed : List Str := ["_law_rows", "_law_state_here", "_law_found", "_law_k", "_law_i", "_law_j", "_law_cut"]
abbrev P_l_mixed : List Str := ["_law_rows", "_law_state_here"]
theorem sc_l_mixed : FnScope N_l_mixed P_l_mixed (defScope s_l_mixed) := ⟨rfl, rfl, rfl, by decide +kernel, rfl, by decide +kernel, by decide +kernel⟩
abbrev N_l_table : List Str := ["_law_state_here", "_law_many", "_law_turns", "_law_noughts", "_law_rows", "_law_wire", "_law_k", "_law_word", "_law_a", "_law_wires", "_law_row"]
abbrev P_l_table : List Str := ["_law_state_here", "_law_many", "_law_turns"]
theorem sc_l_table : FnScope N_l_table P_l_table (defScope s_l_table) := ⟨rfl, rfl, rfl, by decide +kernel, rfl, by decide +kernel, by decide +kernel⟩
abbrev N_l_code : List Str := ["_law_state_here", "_law_way", "_law_xs", "_law_zs", "_law_k", "_law_nought", "_law_many", "_law_rows"]
abbrev P_l_code : List Str := ["_law_state_here"]
theorem sc_l_code : FnScope N_l_code P_l_code (defScope s_l_code) := ⟨rfl, rfl, rfl, by decide +kernel, rfl, by decide +kernel, by decide +kernel⟩
def p_l_mixed : Int → List D → List D → D → Int → Prop := fun n d1 d2 d n' => ∃ (rows : List Row) (m : Nat), d1 = [Li (rows.map eRow)] ∧ d2 = [] ∧ d = Li ((mixR8 rows n).1.map eRow) ∧ n' = (mixR8 rows n).2 ∧ Wd m ∧ rows ≠ [] ∧ rows.length ≤ 100 ∧ AllN m rows
theorem ok_l_mixed (F : FnP K "_law_mixed" "_law_mixed" s_l_mixed f fd) (BT : Bl mg) (C_l_draw : Cal Pg w K mg base "_law_draw" 1 P_l_draw (SpS K p_l_draw)) (C_l_both : Cal Pg w K mg base "_law_both" 1 P_l_both (SpD K p_l_both)) : FnOk Pg w K mg base CX0 2 f fd P_l_mixed (SpS K p_l_mixed) := by
  refine fn_mkS F sc_l_mixed (fun n d1 d2 d n' h => ?_) (by decide) fun cdv A outer s H E n d1 d2 d n' hr h => ?_
  · obtain ⟨rows, m, rfl, rfl, _⟩ := h
    rfl
  · obtain ⟨rows, m, rfl, rfl, rfl, rfl, wm, ne, few, hall⟩ := h
    have nd := sc_l_mixed.nd
    refine dss_seq (ds_asgO 2 nd (dl_list (DE.lst (de_var 0)) BT.b_list) rfl) ?_
    refine dss_seqA (ds_for (fun k ρ => ∃ a b c e, ρ = [.val (Li (rows.map eRow)), .own true [.int (mixL rows n k).2], .own false ((mixL rows n k).1.map eRow), a, b, c, e]) PassesOwn.never rfl (di_range1 (n := 8) de_int (by decide) BT.b_range) ⟨_, _, _, _, rfl⟩ (fun k ρi hk hI => ?_) fun ρ' hI => hI) fun ρ' hI => ?_
    · obtain ⟨a, b, c, e, rfl⟩ := hI
      obtain ⟨len, al⟩ := mixL_ok n ne hall k
      have est : mixL rows n (k + 1) = mixStep ((mixL rows n k).1, (mixL rows n k).2) := rfl
      generalize (mixL rows n k).1 = L at len al est ⊢
      generalize (mixL rows n k).2 = st at est ⊢
      have h0 : (0 : Int) < (L.length : Int) := by have := List.length_pos_iff.mpr ne; omega
      have hL : (0 : Int) < ((L.map eRow).length : Int) := by rw [List.length_map]; exact h0
      have d1 := dv_range st h0
      have d2 := dv_range (nx st) h0
      have hi : (dv st L.length).toNat < L.length := by omega
      have hj : (dv (nx st) L.length).toNat < L.length := by omega
      have ai := atI_row hi
      have aj := atI_row hj
      have wi : Wd (rowAt L (dv (nx st) L.length).toNat).p.length ∧ (rowAt L (dv st L.length).toNat).p.length = (rowAt L (dv (nx st) L.length).toNat).p.length := by rw [al _ (rowAt_mem hi), al _ (rowAt_mem hj)]; exact ⟨wm, rfl⟩
      refine ⟨_, _, (dg_name 3 nd), ?_⟩
      refine dss_seq (ds_asg 4 nd (d := I (((dv st L.length).toNat : Nat) : Int)) (DE.is (de_callSE C_l_draw hr (das_here 1 (da_cons (de_len (dq_own 2) BT.b_len) da_nil)) rfl (by walk_at "dxp")) (by rw [List.length_map, ← dv_nat st h0])) rfl) ?_
      refine dss_seq (ds_asg 5 nd (d := I (((dv (nx st) L.length).toNat : Nat) : Int)) (DE.is (de_callSE C_l_draw hr (das_here 1 (da_cons (de_len (dq_own 2) BT.b_len) da_nil)) rfl (by walk_at "dxp")) (by rw [List.length_map, ← dv_nat (nx st) h0])) rfl) ?_
      refine dss_one (ds_if (dt_cmp (dc_neI (de_var 4) (de_var 5))) (fun hb => dss_one (ds_setix 2 (de_call C_l_both hr (da_cons (de_ixM 2 (de_var 5) (by walk_at "side")) (da_cons (de_ixM 2 (de_var 4) (by walk_at "side")) da_nil)) (by walk_at "dxp")) (de_var 4) (ixN_nat (n := (L.map eRow).length) (j := (dv st L.length).toNat) (by rw [List.length_map]; exact hi)) ?_)) fun hb => dss_nil ?_)
      · have nij : (dv st L.length).toNat ≠ (dv (nx st) L.length).toNat := fun z => by rw [z] at hb; simp at hb
        have e2 : mixStep (L, st) = (L.set (dv st L.length).toNat (mul (rowAt L (dv (nx st) L.length).toNat) (rowAt L (dv st L.length).toNat)), nx (nx st)) := by
          unfold mixStep
          simp only
          rw [if_neg nij]
        exact ⟨_, _, _, _, by rw [est, e2, List.map_set]; rfl⟩
      · have eij : (dv st L.length).toNat = (dv (nx st) L.length).toNat := by
          by_cases q : (dv st L.length).toNat = (dv (nx st) L.length).toNat
          · exact q
          · have : ((((dv st L.length).toNat : Nat) : Int) = (((dv (nx st) L.length).toNat : Nat) : Int)) := by simpa using hb
            omega
        have e2 : mixStep (L, st) = (L, nx (nx st)) := by
          unfold mixStep
          simp only
          rw [if_pos eij]
        exact ⟨_, _, _, _, by rw [est, e2]; rfl⟩
    · obtain ⟨a, b, c, e, rfl⟩ := hI
      obtain ⟨len, al⟩ := mixL_ok n ne hall 8
      have eM : mixR8 rows n = ((mixL rows n 8).1.drop (dv (mixL rows n 8).2 (mixL rows n 8).1.length).toNat ++ (mixL rows n 8).1.take (dv (mixL rows n 8).2 (mixL rows n 8).1.length).toNat, nx (mixL rows n 8).2) := rfl
      rw [eM]
      generalize (mixL rows n 8).1 = L at len al ⊢
      generalize (mixL rows n 8).2 = st
      have h0 : (0 : Int) < (L.length : Int) := by have := List.length_pos_iff.mpr ne; omega
      have hL : (0 : Int) < ((L.map eRow).length : Int) := by rw [List.length_map]; exact h0
      have d1 := dv_range st h0
      have hc : (dv st L.length).toNat ≤ (L.map eRow).length := by rw [List.length_map]; omega
      refine dss_seq (ds_asg 6 nd (d := I (((dv st L.length).toNat : Nat) : Int)) (DE.is (de_callSE C_l_draw hr (das_here 1 (da_cons (de_len (dq_own 2) BT.b_len) da_nil)) rfl (by walk_at "dxp")) (by rw [List.length_map, ← dv_nat st h0])) rfl) ?_
      have e1 := cut_lo (L.map eRow) _ hc
      have e2 := cut_hi (L.map eRow) _ hc
      have c1 : (cutD (L.map eRow) none (some (((dv st L.length).toNat : Nat) : Int))).length ≤ 100 := by rw [e1, List.length_take, List.length_map]; omega
      have c2 : (cutD (L.map eRow) (some (((dv st L.length).toNat : Nat) : Int)) none).length ≤ 100 := by rw [e2, List.length_drop, List.length_map]; omega
      refine dss_one (ds_ret ((DL.ex (dl_catE (DL.ex (dl_slL (dq_own 2) (do_some (de_var 6)) do_none)) (DL.ex (dl_slL (dq_own 2) do_none (do_some (de_var 6)))) (by walk_at "side")))) ⟨?_, rfl⟩)
      show Li _ = Li _
      rw [e1, e2, List.map_append, List.map_drop, List.map_take]
theorem tabStep_ok {m n : Nat} {s : List Row × Int} (hall : AllN m s.1) : AllN m (tabStep n s).1 := by
  unfold tabStep
  simp only
  by_cases h : dv s.2 (if 1 < n then 3 else 2) = 2
  · rw [if_pos h]
    intro r hr
    obtain ⟨q, hq, rfl⟩ := List.mem_map.mp hr
    show (List.set (List.set _ _ _) _ _).length = m
    rw [List.length_set, List.length_set]
    exact hall q hq
  · rw [if_neg h]
    intro r hr
    obtain ⟨q, hq, rfl⟩ := List.mem_map.mp hr
    by_cases g : dv s.2 (if 1 < n then 3 else 2) = 0
    · rw [if_pos g]
      show (List.set _ _ _).length = m
      rw [List.length_set]
      exact hall q hq
    · rw [if_neg g]
      show (List.set _ _ _).length = m
      rw [List.length_set]
      exact hall q hq
theorem tabStep_len {n : Nat} {s : List Row × Int} : (tabStep n s).1.length = s.1.length := by
  unfold tabStep
  simp only
  by_cases h : dv s.2 (if 1 < n then 3 else 2) = 2
  · rw [if_pos h, List.length_map]
  · rw [if_neg h, List.length_map]
theorem tabL_ok {m : Nat} (st : Int) : ∀ k, (tabL m st k).1.length = m ∧ AllN m (tabL m st k).1
  | 0 => by
    refine ⟨by simp [tabL, tabI], fun r hr => ?_⟩
    simp only [tabL, tabI, List.mem_map] at hr
    obtain ⟨w, _, rfl⟩ := hr
    simp
  | k + 1 => by
    obtain ⟨h1, h2⟩ := tabL_ok (m := m) st k
    exact ⟨tabStep_len.trans h1, tabStep_ok h2⟩
def p_l_table : Int → List D → List D → D → Int → Prop := fun n d1 d2 d n' => ∃ (m t : Nat), d1 = [] ∧ d2 = [I m, I t] ∧ d = Li ((tabL m n t).1.map eRow) ∧ n' = (tabL m n t).2 ∧ Wd m ∧ t ≤ 100
theorem ok_l_table (F : FnP K "_law_table" "_law_table" s_l_table f fd) (BT : Bl mg) (C_l_draw : Cal Pg w K mg base "_law_draw" 1 P_l_draw (SpS K p_l_draw)) (C_l_put : Cal Pg w K mg base "_law_put" 1 P_l_put (SpD K p_l_put)) (C_l_behind : Cal Pg w K mg base "_law_behind" 2 P_l_behind (SpD K p_l_behind)) : FnOk Pg w K mg base CX0 3 f fd P_l_table (SpS K p_l_table) := by
  refine fn_mkS F sc_l_table (fun n d1 d2 d n' h => ?_) (by decide) fun cdv A outer s H E n d1 d2 d n' hr h => ?_
  · obtain ⟨m, t, rfl, rfl, _⟩ := h
    rfl
  · obtain ⟨m, t, rfl, rfl, rfl, rfl, wm, ht⟩ := h
    have nd := sc_l_table.nd
    have wm1 := wm.1
    have wm5 := wm.2
    refine dss_seq (ds_asg 3 nd (d := .py (eBits (List.replicate m false))) (DE.is (de_rep (de_tup (dp_cons de_int dp_nil) (by walk_at "side")) (de_var 1) (by walk_at "side") (by walk_at "side") (by walk_at "side") (by walk_at "side")) (by rw [Int.toNat_natCast, rep_zero]; rfl)) rfl) ?_
    refine dss_seq (ds_setLc (out := (tabI m n).map eRow) 4 [("_law_wire", 5)] rfl nd (blkOk_by (by show blkC N_l_table (defScope s_l_table) _ _ = true; decide +kernel)) (by
      unfold tabI
      rw [List.map_map]
      exact lcw_st (nxs n) 5 (fun w => eRow ⟨decide (dv (nxs n w) 2 = 1), (List.replicate m (false, false)).set w (false, true)⟩) (by decide) (di_range1 (de_var 1) (by walk_at "side") BT.b_range) (by omega) (fun i d _ _ _ _ _ => dg_name 5 nd) fun i hi s' H' C cl fp => by
        have q := put_x (l := List.replicate m false) (k := i) (b := true) (by rw [List.length_replicate]; exact hi) (by rw [List.length_replicate]; exact wm5)
        refine DE.is (de_tup (dp_cons (de_callSE C_l_draw hr (das_here 0 (da_cons de_int da_nil)) rfl (by walk_at "dxp")) (dp_cons (de_var 3) (dp_cons (de_call C_l_put hr (da_cons (de_var 3) (da_cons (de_var 5) (da_cons de_int da_nil))) (by walk_at "dxp")) dp_nil))) (by walk_at "side")) ?_
        have e1 : dv (nxs n i) 2 = bi (decide (dv (nxs n i) 2 = 1)) := by
          have r := dv_range (nxs n i) (m := 2) (by decide)
          have : dv (nxs n i) 2 = 0 ∨ dv (nxs n i) 2 = 1 := by omega
          rcases this with h | h <;> rw [h] <;> rfl
        show Tu _ = .py (eRow _)
        simp only [eRow, Row.xs, Row.zs, xs_set, zs_set, List.map_replicate]
        rw [set_same (l := List.replicate m false) (a := i) (x := false) (by rw [List.getElem?_replicate, if_pos hi]), ← e1]) rfl) ?_
    refine dss_seqA (ds_for (fun k ρ => ∃ a b c e, ρ = [.own true [.int (tabL m n k).2], .val (I m), .val (I t), .val (.py (eBits (List.replicate m false))), .val (Li ((tabL m n k).1.map eRow)), .any, a, b, c, e, .any]) PassesOwn.never rfl (di_range1 (de_var 2) (by walk_at "side") BT.b_range) ⟨_, _, _, _, rfl⟩ (fun k ρi hk hI => ?_) fun ρ' hI => hI) fun ρ' hI => ?_
    · obtain ⟨a, b, c, e, rfl⟩ := hI
      obtain ⟨len, al⟩ := tabL_ok (m := m) n k
      have est : tabL m n (k + 1) = tabStep m ((tabL m n k).1, (tabL m n k).2) := rfl
      generalize (tabL m n k).1 = R at len al est ⊢
      generalize (tabL m n k).2 = st at est ⊢
      have hm0 : (0 : Int) < (m : Int) := by omega
      have hm3 : (0 : Int) < (if decide ((1 : Int) < (m : Int)) = true then 3 else 2) := by split <;> decide
      have em : (if decide ((1 : Int) < (m : Int)) = true then (3 : Int) else 2) = (if 1 < m then 3 else 2) := by
        by_cases q : 1 < m
        · rw [if_pos q, if_pos (decide_eq_true (by omega))]
        · rw [if_neg q, if_neg (by rw [decide_eq_false (by omega)]; exact Bool.false_ne_true)]
      have d1 := dv_range st hm3
      have d2 := dv_range (nx st) hm0
      have ha : (dv (nx st) m).toNat < m := by omega
      have sh := sh_h
      have ss := sh_s
      have sc := sh_cx
      have hv3 : dv st (if decide ((1 : Int) < (m : Int)) = true then 3 else 2) < 3 := by
        by_cases q : decide ((1 : Int) < (m : Int)) = true
        · rw [if_pos q] at d1 ⊢
          exact d1.2
        · rw [if_neg q] at d1 ⊢
          omega
      have hvs : dv st (if decide ((1 : Int) < (m : Int)) = true then 3 else 2) = 0 ∨ dv st (if decide ((1 : Int) < (m : Int)) = true then 3 else 2) = 1 ∨ dv st (if decide ((1 : Int) < (m : Int)) = true then 3 else 2) = 2 := by omega
      refine ⟨_, _, (dg_name 6 nd), ?_⟩
      rcases hvs with hv | hv | hv
      · have hword : atI [PyData.str (Str.ofString "h"), .str (Str.ofString "s"), .str (Str.ofString "cx")] (dv st (if decide ((1 : Int) < (m : Int)) = true then 3 else 2)) = some (.str (Str.ofString "h")) := by rw [hv]; exact atI_n (i := 0) rfl
        refine dss_seq (ds_asg 7 nd (de_ixE (DL.ex (dl_lst (dp_cons de_str (dp_cons de_str (dp_cons de_str dp_nil))) (by walk_at "side"))) (de_callSE C_l_draw hr (das_here 0 (da_cons (de_ix (DL.lst (dl_lst (dp_cons de_int (dp_cons de_int dp_nil)) (by walk_at "side"))) (de_intB (de_cmp (dc_gt (de_var 1) de_int)) BT.b_int) (by walk_at "side")) da_nil)) rfl (by walk_at "dxp")) (by walk_at "side")) rfl) ?_
        refine dss_seq (ds_asg 8 nd (d := I (((dv (nx st) m).toNat : Nat) : Int)) (DE.is (de_callSE C_l_draw hr (das_here 0 (da_cons (de_var 1) da_nil)) rfl (by walk_at "dxp")) (by rw [← dv_nat (nx st) hm0])) rfl) ?_
        refine dss_seq (ds_asg 9 nd (de_tup (dp_cons (de_var 8) dp_nil) (by walk_at "side")) rfl) ?_
        refine dss_seq (ds_ifF (dt_cmp (dc_eq (de_var 7) de_str hr.units (by walk_at "side") (by walk_at "side"))) (by decide) (dss_nil rfl)) ?_
        refine dss_one (ds_setLc (out := (R.map (hR (dv (nx st) m).toNat)).map eRow) 4 [("_law_row", 10)] rfl nd (blkOk_by (by show blkC N_l_table (defScope s_l_table) _ _ = true; decide +kernel)) (by
          rw [List.map_map]
          exact lcw_mapA 10 (fun q => eRow (hR (dv (nx st) m).toNat q)) (di_list (de_var 4)) (by omega) (fun d _ _ _ _ _ => dg_name 10 nd) fun q hq s' H' C cl fp => by
            have kq : p_l_behind [.py (.str (Str.ofString "h")), Tu [.int (((dv (nx st) m).toNat : Nat) : Int)], .py (eRow q)] (.py (eRow (hR (dv (nx st) m).toNat q))) := ⟨q, _, by rw [al q hq]; exact ha, by rw [al q hq]; exact wm5, .inl ⟨rfl, rfl⟩⟩
            exact (de_call C_l_behind hr (da_cons (de_var 7) (da_cons (de_var 9) (da_cons (de_var 10) da_nil))) (by walk_at "dxp"))) ?_)
        have e2 : tabStep m (R, st) = (R.map (hR (dv (nx st) m).toNat), nx (nx st)) := by
          unfold tabStep
          simp only
          rw [← em, hv, if_neg (by decide), if_pos rfl]
        exact ⟨_, _, _, _, by rw [est, e2]; rfl⟩
      · have hword : atI [PyData.str (Str.ofString "h"), .str (Str.ofString "s"), .str (Str.ofString "cx")] (dv st (if decide ((1 : Int) < (m : Int)) = true then 3 else 2)) = some (.str (Str.ofString "s")) := by rw [hv]; exact atI_n (i := 1) rfl
        refine dss_seq (ds_asg 7 nd (de_ixE (DL.ex (dl_lst (dp_cons de_str (dp_cons de_str (dp_cons de_str dp_nil))) (by walk_at "side"))) (de_callSE C_l_draw hr (das_here 0 (da_cons (de_ix (DL.lst (dl_lst (dp_cons de_int (dp_cons de_int dp_nil)) (by walk_at "side"))) (de_intB (de_cmp (dc_gt (de_var 1) de_int)) BT.b_int) (by walk_at "side")) da_nil)) rfl (by walk_at "dxp")) (by walk_at "side")) rfl) ?_
        refine dss_seq (ds_asg 8 nd (d := I (((dv (nx st) m).toNat : Nat) : Int)) (DE.is (de_callSE C_l_draw hr (das_here 0 (da_cons (de_var 1) da_nil)) rfl (by walk_at "dxp")) (by rw [← dv_nat (nx st) hm0])) rfl) ?_
        refine dss_seq (ds_asg 9 nd (de_tup (dp_cons (de_var 8) dp_nil) (by walk_at "side")) rfl) ?_
        refine dss_seq (ds_ifF (dt_cmp (dc_eq (de_var 7) de_str hr.units (by walk_at "side") (by walk_at "side"))) (by decide) (dss_nil rfl)) ?_
        refine dss_one (ds_setLc (out := (R.map (sR (dv (nx st) m).toNat)).map eRow) 4 [("_law_row", 10)] rfl nd (blkOk_by (by show blkC N_l_table (defScope s_l_table) _ _ = true; decide +kernel)) (by
          rw [List.map_map]
          exact lcw_mapA 10 (fun q => eRow (sR (dv (nx st) m).toNat q)) (di_list (de_var 4)) (by omega) (fun d _ _ _ _ _ => dg_name 10 nd) fun q hq s' H' C cl fp => by
            have kq : p_l_behind [.py (.str (Str.ofString "s")), Tu [.int (((dv (nx st) m).toNat : Nat) : Int)], .py (eRow q)] (.py (eRow (sR (dv (nx st) m).toNat q))) := ⟨q, _, by rw [al q hq]; exact ha, by rw [al q hq]; exact wm5, .inr (.inl ⟨rfl, rfl⟩)⟩
            exact (de_call C_l_behind hr (da_cons (de_var 7) (da_cons (de_var 9) (da_cons (de_var 10) da_nil))) (by walk_at "dxp"))) ?_)
        have e2 : tabStep m (R, st) = (R.map (sR (dv (nx st) m).toNat), nx (nx st)) := by
          unfold tabStep
          simp only
          rw [← em, hv, if_neg (by decide), if_neg (by decide)]
        exact ⟨_, _, _, _, by rw [est, e2]; rfl⟩
      · have hword : atI [PyData.str (Str.ofString "h"), .str (Str.ofString "s"), .str (Str.ofString "cx")] (dv st (if decide ((1 : Int) < (m : Int)) = true then 3 else 2)) = some (.str (Str.ofString "cx")) := by rw [hv]; exact atI_n (i := 2) rfl
        refine dss_seq (ds_asg 7 nd (de_ixE (DL.ex (dl_lst (dp_cons de_str (dp_cons de_str (dp_cons de_str dp_nil))) (by walk_at "side"))) (de_callSE C_l_draw hr (das_here 0 (da_cons (de_ix (DL.lst (dl_lst (dp_cons de_int (dp_cons de_int dp_nil)) (by walk_at "side"))) (de_intB (de_cmp (dc_gt (de_var 1) de_int)) BT.b_int) (by walk_at "side")) da_nil)) rfl (by walk_at "dxp")) (by walk_at "side")) rfl) ?_
        refine dss_seq (ds_asg 8 nd (d := I (((dv (nx st) m).toNat : Nat) : Int)) (DE.is (de_callSE C_l_draw hr (das_here 0 (da_cons (de_var 1) da_nil)) rfl (by walk_at "dxp")) (by rw [← dv_nat (nx st) hm0])) rfl) ?_
        refine dss_seq (ds_asg 9 nd (de_tup (dp_cons (de_var 8) dp_nil) (by walk_at "side")) rfl) ?_
        have hm1 : 1 < m := by
          by_cases q : 1 < m
          · exact q
          · have e1 : decide ((1 : Int) < (m : Int)) = false := decide_eq_false (by omega)
            rw [e1, if_neg Bool.false_ne_true] at hv
            have := dv_range st (m := 2) (by decide)
            omega
        have hm2 : (0 : Int) < (m : Int) - 1 := by omega
        have d3 := dv_range (nx (nx st)) hm2
        have db : (((((dv (nx st) m).toNat : Nat) : Int) + 1 + dv (nx (nx st)) ((m : Int) - 1)) % (m : Int)) = (((((((dv (nx st) m).toNat : Nat) : Int) + 1 + dv (nx (nx st)) ((m : Int) - 1)) % (m : Int)).toNat : Nat) : Int) := (Int.toNat_of_nonneg (Int.emod_nonneg _ (by omega))).symm
        have hb1 : ((((((dv (nx st) m).toNat : Nat) : Int) + 1 + dv (nx (nx st)) ((m : Int) - 1)) % (m : Int)).toNat) < m := by
          have := Int.emod_lt_of_pos ((((dv (nx st) m).toNat : Nat) : Int) + 1 + dv (nx (nx st)) ((m : Int) - 1)) (b := (m : Int)) (by omega)
          omega
        have hb2 : ((((((dv (nx st) m).toNat : Nat) : Int) + 1 + dv (nx (nx st)) ((m : Int) - 1)) % (m : Int)).toNat) ≠ (dv (nx st) m).toNat := fun z => by
          have z2 : ((((dv (nx st) m).toNat : Nat) : Int) + 1 + dv (nx (nx st)) ((m : Int) - 1)) % (m : Int) = (((dv (nx st) m).toNat : Nat) : Int) := by rw [db, z]
          have z3 : (1 + dv (nx (nx st)) ((m : Int) - 1)) % (m : Int) = 0 := by
            have q := Int.emod_emod_of_dvd ((((dv (nx st) m).toNat : Nat) : Int) + 1 + dv (nx (nx st)) ((m : Int) - 1)) (Int.dvd_refl (m : Int))
            have q2 : (((((dv (nx st) m).toNat : Nat) : Int) + 1 + dv (nx (nx st)) ((m : Int) - 1)) - (((dv (nx st) m).toNat : Nat) : Int)) % (m : Int) = 0 := by
              rw [Int.sub_emod, z2, Int.emod_eq_of_lt (by omega) (by omega : (((dv (nx st) m).toNat : Nat) : Int) < (m : Int)), Int.sub_self]
              rfl
            have e : (((dv (nx st) m).toNat : Nat) : Int) + 1 + dv (nx (nx st)) ((m : Int) - 1) - (((dv (nx st) m).toNat : Nat) : Int) = 1 + dv (nx (nx st)) ((m : Int) - 1) := by omega
            rw [e] at q2
            exact q2
          rw [Int.emod_eq_of_lt (by omega) (by omega)] at z3
          omega
        refine dss_seq (ds_ifT (dt_cmp (dc_eq (de_var 7) de_str hr.units (by walk_at "side") (by walk_at "side"))) (by decide) (dss_one (ds_asg 9 nd (d := Tu [.int (((dv (nx st) m).toNat : Nat) : Int), .int (((((((dv (nx st) m).toNat : Nat) : Int) + 1 + dv (nx (nx st)) ((m : Int) - 1)) % (m : Int)).toNat : Nat) : Int)]) (DE.is (de_tup (dp_cons (de_var 8) (dp_cons (de_mod (de_add (de_add (de_var 8) de_int) (de_callSE C_l_draw hr (das_here 0 (da_cons (de_sub (de_var 1) de_int) da_nil)) rfl (by walk_at "dxp"))) (de_var 1) (by walk_at "side")) dp_nil)) (by walk_at "side")) (by rw [← db])) rfl))) ?_
        generalize hB : ((((((dv (nx st) m).toNat : Nat) : Int) + 1 + dv (nx (nx st)) ((m : Int) - 1)) % (m : Int)).toNat) = B at hb1 hb2 ⊢
        refine dss_one (ds_setLc (out := (R.map (cxR (dv (nx st) m).toNat B)).map eRow) 4 [("_law_row", 10)] rfl nd (blkOk_by (by show blkC N_l_table (defScope s_l_table) _ _ = true; decide +kernel)) (by
          rw [List.map_map]
          exact lcw_mapA 10 (fun q => eRow (cxR (dv (nx st) m).toNat B q)) (di_list (de_var 4)) (by omega) (fun d _ _ _ _ _ => dg_name 10 nd) fun q hq s' H' C cl fp => by
            have kq : p_l_behind [.py (.str (Str.ofString "cx")), Tu [.int (((dv (nx st) m).toNat : Nat) : Int), .int ((B : Nat) : Int)], .py (eRow q)] (.py (eRow (cxR (dv (nx st) m).toNat B q))) := ⟨q, _, by rw [al q hq]; exact ha, by rw [al q hq]; exact wm5, .inr (.inr ⟨B, by rw [al q hq]; exact hb1, hb2, rfl, rfl⟩)⟩
            exact (de_call C_l_behind hr (da_cons (de_var 7) (da_cons (de_var 9) (da_cons (de_var 10) da_nil))) (by walk_at "dxp"))) ?_)
        have e2 : tabStep m (R, st) = (R.map (cxR (dv (nx st) m).toNat B), nx (nx (nx st))) := by
          unfold tabStep
          simp only
          rw [← em, hv, if_pos rfl, hB]
        exact ⟨_, _, _, _, by rw [est, e2]; rfl⟩
    · obtain ⟨a, b, c, e, rfl⟩ := hI
      exact dss_one (ds_ret ((de_var 4)) ⟨rfl, rfl⟩)
end
end Bw
namespace Bw
open PySem PySem.Spec PyProof.Rows L2
local macro_rules | `(tactic| walk_at "lv") => `(tactic| first
  | fail)
local macro_rules | `(tactic| walk_at "cd") => `(tactic| first
  | assumption | exact Iff.rfl | omega | (rw [xs_len]; assumption) | (rw [zs_len]; assumption) | (refine ⟨?_, ?_⟩ <;> assumption) | (refine ⟨?_, ?_, ?_⟩ <;> assumption) | (simp only [xs_len, zs_len]; assumption) | (simp only [xs_len, zs_len]; omega) | walk_at "lv")
local macro_rules | `(tactic| walk_at "dxp") => `(tactic| first
  | assumption
  | exact ⟨_, rfl, rfl⟩
  | exact ⟨_, _, rfl, rfl⟩
  | exact ⟨_, _, _, rfl, rfl⟩
  | exact ⟨_, _, _, _, rfl, rfl⟩
  | exact ⟨_, rfl, rfl, by walk_at "cd"⟩
  | exact ⟨_, _, rfl, rfl, by walk_at "cd"⟩
  | exact ⟨_, _, _, rfl, rfl, by walk_at "cd"⟩
  | exact ⟨_, _, _, _, rfl, rfl, by walk_at "cd"⟩
  | exact ⟨_, _, _, _, _, rfl, rfl, by walk_at "cd"⟩
  | exact ⟨_, _, _, _, _, _, rfl, rfl, by walk_at "cd"⟩
  | exact ⟨_, _, _, _, _, _, _, rfl, rfl, by walk_at "cd"⟩
  | exact ⟨_, _, _, _, _, _, _, _, rfl, rfl, by walk_at "cd"⟩
  | exact ⟨_, _, _, _, _, _, _, _, _, rfl, rfl, by walk_at "cd"⟩
  | exact ⟨_, rfl, rfl, rfl, rfl, by walk_at "side"⟩
  | walk_at "lv")
local macro_rules | `(tactic| walk_at "kit") => `(tactic| first
  | exact kit_ii | exact kit_ib | exact kit_ll | exact kit_tt)
local macro_rules | `(tactic| walk_at "side") => `(tactic| first
  | assumption | exact sel_int _ _ _ | exact sel_bi _ _ _ | rfl | decide | omega | exact Nat.le_of_ble_eq_true rfl | (simp; done) | (simp; omega) | (refine Or.inl ⟨?_, ?_⟩ <;> decide) | (refine Or.inr ⟨?_, ?_⟩ <;> decide) | (refine Or.inl ⟨?_, ?_⟩ <;> omega) | (refine Or.inr ⟨?_, ?_⟩ <;> omega) | (rw [bi_xor]; refine Or.inl ⟨?_, ?_⟩ <;> omega) | (refine And.intro ?_ (And.intro ?_ ?_) <;> omega) | (refine And.intro ?_ ?_ <;> omega) | walk_at "lv")
def xsA : List PyData := rowsA.map fun p => eBits (p.map (·.1))
def zsA : List PyData := rowsA.map fun p => eBits (p.map (·.2))
theorem rowsA_get {i : Nat} (h : i < 4) : rowsA[i]? = some (rowsA[i]?.getD []) := by
  have : i = 0 ∨ i = 1 ∨ i = 2 ∨ i = 3 := by omega
  rcases this with h | h | h | h <;> subst h <;> rfl
theorem mixR8_len {m : Nat} {rows : List Row} (st : Int) (hne : rows ≠ []) (hall : AllN m rows) : (mixR8 rows st).1.length = rows.length ∧ AllN m (mixR8 rows st).1 := by
  obtain ⟨h1, h2⟩ := mixL_ok st hne hall 8
  unfold mixR8
  simp only
  refine ⟨?_, fun r hr => ?_⟩
  · rw [List.length_append, List.length_drop, List.length_take, ← h1]
    omega
  · rcases List.mem_append.mp hr with h | h
    · exact h2 r (List.mem_of_mem_drop h)
    · exact h2 r (List.mem_of_mem_take h)
theorem bitD_bi (st : Int) : dv st 2 = bi (bitD st) := by
  unfold bitD
  have r := dv_range st (m := 2) (by decide)
  have : dv st 2 = 0 ∨ dv st 2 = 1 := by omega
  rcases this with h | h <;> rw [h] <;> rfl
section
variable {Pg : Program} {w : World} {K : PySem.W.Frag} {mg : Str → Option Value} {base : Heap} {f CS CC : Addr} {fd : FuncData}
def p_l_code : Int → List D → List D → D → Int → Prop := fun n d1 d2 d n' => d1 = [] ∧ d2 = [] ∧ d = Li ((codeR n).1.map eRow) ∧ n' = (codeR n).2
theorem ok_l_code (F : FnP K "_law_code" "_law_code" s_l_code f fd) (BT : Bl mg) (C_l_draw : Cal Pg w K mg base "_law_draw" 1 P_l_draw (SpS K p_l_draw)) (C_l_table : Cal Pg w K mg base "_law_table" 3 P_l_table (SpS K p_l_table)) (C_l_mixed : Cal Pg w K mg base "_law_mixed" 2 P_l_mixed (SpS K p_l_mixed)) : FnOk Pg w K mg base CX0 4 f fd P_l_code (SpS K p_l_code) := by
  refine fn_mkS F sc_l_code (fun n d1 d2 d n' h => ?_) (by decide) fun cdv A outer s H E n d1 d2 d n' hr h => ?_
  · obtain ⟨rfl, rfl, _⟩ := h
    rfl
  · obtain ⟨rfl, rfl, rfl, rfl⟩ := h
    have nd := sc_l_code.nd
    refine dss_seq (ds_asg 1 nd (de_callSE C_l_draw hr (das_here 0 (da_cons de_int da_nil)) rfl (by walk_at "dxp")) rfl) ?_
    by_cases w0 : dv n 6 = 0
    · have ec : codeR n = ((List.range 4).map fun k => ⟨bitD (nxs (nx n) k), rowsA[k]?.getD []⟩, nxs (nx n) 4) := by
        unfold codeR
        simp only
        rw [if_pos w0]
      refine dss_stop (ds_ifT (dt_cmp (dc_eqI (de_var 1) de_int)) (decide_eq_true w0) (dss_seq (ds_asg 2 nd (d := Li xsA) (DL.ex (dl_lst (dp_cons (de_tup (dp_cons de_int (dp_cons de_int (dp_cons de_int (dp_cons de_int (dp_cons de_int dp_nil))))) (by walk_at "side")) (dp_cons (de_tup (dp_cons de_int (dp_cons de_int (dp_cons de_int (dp_cons de_int (dp_cons de_int dp_nil))))) (by walk_at "side")) (dp_cons (de_tup (dp_cons de_int (dp_cons de_int (dp_cons de_int (dp_cons de_int (dp_cons de_int dp_nil))))) (by walk_at "side")) (dp_cons (de_tup (dp_cons de_int (dp_cons de_int (dp_cons de_int (dp_cons de_int (dp_cons de_int dp_nil))))) (by walk_at "side")) dp_nil)))) (by walk_at "side"))) rfl) (dss_seq (ds_asg 3 nd (d := Li zsA) (DL.ex (dl_lst (dp_cons (de_tup (dp_cons de_int (dp_cons de_int (dp_cons de_int (dp_cons de_int (dp_cons de_int dp_nil))))) (by walk_at "side")) (dp_cons (de_tup (dp_cons de_int (dp_cons de_int (dp_cons de_int (dp_cons de_int (dp_cons de_int dp_nil))))) (by walk_at "side")) (dp_cons (de_tup (dp_cons de_int (dp_cons de_int (dp_cons de_int (dp_cons de_int (dp_cons de_int dp_nil))))) (by walk_at "side")) (dp_cons (de_tup (dp_cons de_int (dp_cons de_int (dp_cons de_int (dp_cons de_int (dp_cons de_int dp_nil))))) (by walk_at "side")) dp_nil)))) (by walk_at "side"))) rfl) (dss_one (ds_ret ((DL.ex (dl_lc [("_law_k", 4)] rfl nd (blkOk_by (by show blkC N_l_code (defScope s_l_code) _ _ = true; decide +kernel)) (lcw_st (nxs (nx n)) 4 (fun k => eRow ⟨bitD (nxs (nx n) k), rowsA[k]?.getD []⟩) (by decide) (di_range1 (n := 4) de_int (by decide) BT.b_range) (by decide) (fun i d _ _ _ _ _ => dg_name 4 nd) fun i hi s' H' C cl fp => by
        have gi := rowsA_get hi
        have hx : atI xsA ((i : Nat) : Int) = some (eBits ((rowsA[i]?.getD []).map (·.1))) := atI_n (by unfold xsA; rw [List.getElem?_map, gi]; rfl)
        have hz : atI zsA ((i : Nat) : Int) = some (eBits ((rowsA[i]?.getD []).map (·.2))) := atI_n (by unfold zsA; rw [List.getElem?_map, gi]; rfl)
        exact DE.is (de_tup (dp_cons (de_callSE C_l_draw hr (das_here 0 (da_cons de_int da_nil)) rfl (by walk_at "dxp")) (dp_cons (de_ix (DE.lst (de_var 2)) (de_var 4) (by walk_at "side")) (dp_cons (de_ix (DE.lst (de_var 3)) (de_var 4) (by walk_at "side")) dp_nil))) (by walk_at "side")) (by rw [bitD_bi]; rfl))))) ⟨?_, ?_⟩)))))
      · rw [ec, List.map_map]
        rfl
      · rw [ec]
        rfl
    refine dss_seq (ds_ifF (dt_cmp (dc_eqI (de_var 1) de_int)) (decide_eq_false w0) (dss_nil rfl)) ?_
    by_cases w1 : dv n 6 = 1
    · have ec : codeR n = ([⟨bitD (nx n), plB1⟩, ⟨bitD (nx (nx n)), plB2⟩], nx (nx (nx n))) := by
        unfold codeR
        simp only
        rw [if_neg w0, if_pos w1]
      refine dss_stop (ds_ifT (dt_cmp (dc_eqI (de_var 1) de_int)) (decide_eq_true w1) (dss_seq (ds_asg 5 nd (de_tup (dp_cons de_int (dp_cons de_int (dp_cons de_int (dp_cons de_int dp_nil)))) (by walk_at "side")) rfl) (dss_one (ds_ret ((DL.ex (dl_lst (dp_cons (de_tup (dp_cons (de_callSE C_l_draw hr (das_here 0 (da_cons de_int da_nil)) rfl (by walk_at "dxp")) (dp_cons (de_tup (dp_cons de_int (dp_cons de_int (dp_cons de_int (dp_cons de_int dp_nil)))) (by walk_at "side")) (dp_cons (de_var 5) dp_nil))) (by walk_at "side")) (dp_cons (de_tup (dp_cons (de_callSE C_l_draw hr (das_here 0 (da_cons de_int da_nil)) rfl (by walk_at "dxp")) (dp_cons (de_var 5) (dp_cons (de_tup (dp_cons de_int (dp_cons de_int (dp_cons de_int (dp_cons de_int dp_nil)))) (by walk_at "side")) dp_nil))) (by walk_at "side")) dp_nil)) (by walk_at "side")))) ⟨?_, ?_⟩))))
      · rw [ec, bitD_bi, bitD_bi]
        rfl
      · rw [ec]
        rfl
    refine dss_seq (ds_ifF (dt_cmp (dc_eqI (de_var 1) de_int)) (decide_eq_false w1) (dss_nil rfl)) ?_
    by_cases w2 : dv n 6 = 2
    · have ec : codeR n = ([⟨false, plC1⟩, ⟨bitD (nx n), plC2⟩], nx (nx n)) := by
        unfold codeR
        simp only
        rw [if_neg w0, if_neg w1, if_pos w2]
      refine dss_stop (ds_ifT (dt_cmp (dc_eqI (de_var 1) de_int)) (decide_eq_true w2) (dss_one (ds_ret ((DL.ex (dl_lst (dp_cons (de_tup (dp_cons de_int (dp_cons (de_tup (dp_cons de_int (dp_cons de_int (dp_cons de_int dp_nil))) (by walk_at "side")) (dp_cons (de_tup (dp_cons de_int (dp_cons de_int (dp_cons de_int dp_nil))) (by walk_at "side")) dp_nil))) (by walk_at "side")) (dp_cons (de_tup (dp_cons (de_callSE C_l_draw hr (das_here 0 (da_cons de_int da_nil)) rfl (by walk_at "dxp")) (dp_cons (de_tup (dp_cons de_int (dp_cons de_int (dp_cons de_int dp_nil))) (by walk_at "side")) (dp_cons (de_tup (dp_cons de_int (dp_cons de_int (dp_cons de_int dp_nil))) (by walk_at "side")) dp_nil))) (by walk_at "side")) dp_nil)) (by walk_at "side")))) ⟨?_, ?_⟩)))
      · rw [ec, bitD_bi]
        rfl
      · rw [ec]
        rfl
    refine dss_seq (ds_ifF (dt_cmp (dc_eqI (de_var 1) de_int)) (decide_eq_false w2) (dss_nil rfl)) ?_
    have d6 := dv_range n (m := 6) (by decide)
    have hq : (0 : Int) < (if dv n 6 % 2 = 0 then 4 else 5) := by split <;> decide
    have hq5 : (if dv n 6 % 2 = 0 then (4 : Int) else 5) ≤ 5 := by split <;> decide
    have h45 : atI [PyData.int 4, .int 5] (dv n 6 % 2) = some (.int (if dv n 6 % 2 = 0 then 4 else 5)) := by
      have : dv n 6 % 2 = 0 ∨ dv n 6 % 2 = 1 := by omega
      rcases this with h | h
      · rw [h]
        exact atI_n (i := 0) rfl
      · rw [h]
        exact atI_n (i := 1) rfl
    have d7 := dv_range (nx n) hq
    have d25 := dv_range (nx (nx n)) (m := 25) (by decide)
    have ec : codeR n = (((mixR8 (tabL (1 + dv (nx n) (if dv n 6 % 2 = 0 then 4 else 5)).toNat (nx (nx (nx n))) (1 + dv (nx (nx n)) 25).toNat).1 (tabL (1 + dv (nx n) (if dv n 6 % 2 = 0 then 4 else 5)).toNat (nx (nx (nx n))) (1 + dv (nx (nx n)) 25).toNat).2).1.take
        (1 + dv (mixR8 (tabL (1 + dv (nx n) (if dv n 6 % 2 = 0 then 4 else 5)).toNat (nx (nx (nx n))) (1 + dv (nx (nx n)) 25).toNat).1 (tabL (1 + dv (nx n) (if dv n 6 % 2 = 0 then 4 else 5)).toNat (nx (nx (nx n))) (1 + dv (nx (nx n)) 25).toNat).2).2 ((1 + dv (nx n) (if dv n 6 % 2 = 0 then 4 else 5)).toNat : Nat)).toNat),
        nx (mixR8 (tabL (1 + dv (nx n) (if dv n 6 % 2 = 0 then 4 else 5)).toNat (nx (nx (nx n))) (1 + dv (nx (nx n)) 25).toNat).1 (tabL (1 + dv (nx n) (if dv n 6 % 2 = 0 then 4 else 5)).toNat (nx (nx (nx n))) (1 + dv (nx (nx n)) 25).toNat).2).2) := by
      unfold codeR
      simp only
      rw [if_neg w0, if_neg w1, if_neg w2]
    have e7 : (1 : Int) + dv (nx n) (if dv n 6 % 2 = 0 then 4 else 5) = (((1 + dv (nx n) (if dv n 6 % 2 = 0 then 4 else 5)).toNat : Nat) : Int) := (Int.toNat_of_nonneg (by omega)).symm
    have e25 : (1 : Int) + dv (nx (nx n)) 25 = (((1 + dv (nx (nx n)) 25).toNat : Nat) : Int) := (Int.toNat_of_nonneg (by omega)).symm
    have t25 : (1 + dv (nx (nx n)) 25).toNat ≤ 100 := by omega
    have wq : Wd (1 + dv (nx n) (if dv n 6 % 2 = 0 then 4 else 5)).toNat := ⟨by omega, by omega⟩
    refine dss_seq (ds_asg 6 nd (d := I (((1 + dv (nx n) (if dv n 6 % 2 = 0 then 4 else 5)).toNat : Nat) : Int)) (DE.is (de_add de_int (de_callSE C_l_draw hr (das_here 0 (da_cons (de_ix (DL.lst (dl_lst (dp_cons de_int (dp_cons de_int dp_nil)) (by walk_at "side"))) (de_mod (de_var 1) de_int (by walk_at "side")) (by walk_at "side")) da_nil)) rfl (by walk_at "dxp"))) (by rw [← e7])) rfl) ?_
    generalize (1 + dv (nx n) (if dv n 6 % 2 = 0 then 4 else 5)).toNat = m at ec wq ⊢
    generalize (1 + dv (nx (nx n)) 25).toNat = tn at ec e25 t25
    obtain ⟨tl, ta⟩ := tabL_ok (m := m) (nx (nx (nx n))) tn
    have wm1 := wq.1
    have wm5 := wq.2
    have tne : (tabL m (nx (nx (nx n))) tn).1 ≠ [] := fun z => by rw [z] at tl; simp at tl; omega
    obtain ⟨ml, ma⟩ := mixR8_len (m := m) (tabL m (nx (nx (nx n))) tn).2 tne ta
    refine dss_seq (ds_asg 7 nd (d := Li ((mixR8 (tabL m (nx (nx (nx n))) tn).1 (tabL m (nx (nx (nx n))) tn).2).1.map eRow)) (de_callSE C_l_mixed hr (das_consE (de_callSE C_l_table hr (das_here 0 (da_cons (de_var 6) (da_cons (DE.is (de_add de_int (de_callSE C_l_draw hr (das_here 0 (da_cons de_int da_nil)) rfl (by walk_at "dxp"))) (d' := I ((tn : Nat) : Int)) (by rw [e25])) da_nil))) rfl ⟨m, tn, rfl, rfl, rfl, rfl, wq, t25⟩) (das_here 0 da_nil)) rfl ⟨_, m, rfl, rfl, rfl, rfl, wq, tne, by rw [tl]; omega, ta⟩) rfl) ?_
    generalize (mixR8 (tabL m (nx (nx (nx n))) tn).1 (tabL m (nx (nx (nx n))) tn).2).1 = L at ec ml ma ⊢
    generalize (mixR8 (tabL m (nx (nx (nx n))) tn).1 (tabL m (nx (nx (nx n))) tn).2).2 = st at ec ⊢
    have hm0 : (0 : Int) < (m : Int) := by omega
    have dm := dv_range st hm0
    have em : (1 : Int) + dv st m = (((1 + dv st m).toNat : Nat) : Int) := (Int.toNat_of_nonneg (by omega)).symm
    refine dss_one (ds_ret (DL.ex (dl_slVE (de_var 7) (DE.is (de_add de_int (de_callSE C_l_draw hr (das_here 0 (da_cons (de_var 6) da_nil)) rfl (by walk_at "dxp"))) (by rw [em])))) ⟨?_, ?_⟩)
    · rw [cut_lo _ _ (by rw [List.length_map, ml, tl]; omega), ec, List.map_take]
    · rw [ec]
      rfl
end
end Bw
namespace Bw
open PySem PySem.Spec PyProof.Rows L2
local macro_rules | `(tactic| walk_at "lv") => `(tactic| first
  | fail)
local macro_rules | `(tactic| walk_at "cd") => `(tactic| first
  | assumption | exact Iff.rfl | omega | (rw [xs_len]; assumption) | (rw [zs_len]; assumption) | (refine ⟨?_, ?_⟩ <;> assumption) | (refine ⟨?_, ?_, ?_⟩ <;> assumption) | (simp only [xs_len, zs_len]; assumption) | (simp only [xs_len, zs_len]; omega) | walk_at "lv")
local macro_rules | `(tactic| walk_at "dxp") => `(tactic| first
  | assumption
  | exact ⟨_, rfl, rfl⟩
  | exact ⟨_, _, rfl, rfl⟩
  | exact ⟨_, _, _, rfl, rfl⟩
  | exact ⟨_, _, _, _, rfl, rfl⟩
  | exact ⟨_, rfl, rfl, by walk_at "cd"⟩
  | exact ⟨_, _, rfl, rfl, by walk_at "cd"⟩
  | exact ⟨_, _, _, rfl, rfl, by walk_at "cd"⟩
  | exact ⟨_, _, _, _, rfl, rfl, by walk_at "cd"⟩
  | exact ⟨_, _, _, _, _, rfl, rfl, by walk_at "cd"⟩
  | exact ⟨_, _, _, _, _, _, rfl, rfl, by walk_at "cd"⟩
  | exact ⟨_, _, _, _, _, _, _, rfl, rfl, by walk_at "cd"⟩
  | exact ⟨_, _, _, _, _, _, _, _, rfl, rfl, by walk_at "cd"⟩
  | exact ⟨_, _, _, _, _, _, _, _, _, rfl, rfl, by walk_at "cd"⟩
  | exact ⟨_, rfl, rfl, rfl, rfl, by walk_at "side"⟩
  | walk_at "lv")
local macro_rules | `(tactic| walk_at "kit") => `(tactic| first
  | exact kit_ii | exact kit_ib | exact kit_ll | exact kit_tt)
local macro_rules | `(tactic| walk_at "side") => `(tactic| first
  | assumption | exact sel_int _ _ _ | exact sel_bi _ _ _ | rfl | decide | omega | exact Nat.le_of_ble_eq_true rfl | (simp; done) | (simp; omega) | (refine Or.inl ⟨?_, ?_⟩ <;> decide) | (refine Or.inr ⟨?_, ?_⟩ <;> decide) | (refine Or.inl ⟨?_, ?_⟩ <;> omega) | (refine Or.inr ⟨?_, ?_⟩ <;> omega) | (rw [bi_xor]; refine Or.inl ⟨?_, ?_⟩ <;> omega) | (refine And.intro ?_ (And.intro ?_ ?_) <;> omega) | (refine And.intro ?_ ?_ <;> omega) | walk_at "lv")
def errOf (n : Nat) (xs : List Bool) : List Row := (blR n).map fun zs => ⟨false, zipB xs zs⟩
theorem allR_eq (n : Nat) : allR n = (blR n).flatMap (errOf n) := rfl
theorem flat_take {α β : Type} (l : List α) (g : α → List β) {i : Nat} (h : i < l.length) : (l.take (i + 1)).flatMap g = (l.take i).flatMap g ++ g l[i] := by
  rw [List.take_succ, List.getElem?_eq_getElem h, List.flatMap_append]
  simp
theorem flat_len {α β : Type} {l : List α} {g : α → List β} {m : Nat} (h : ∀ a ∈ l, (g a).length ≤ m) : (l.flatMap g).length ≤ l.length * m := by
  induction l with
  | nil => simp
  | cons a l ih =>
    rw [List.flatMap_cons, List.length_append, List.length_cons, Nat.add_mul, Nat.one_mul]
    have h1 := h a (by simp)
    have h2 := ih fun b hb => h b (by simp [hb])
    omega
theorem zipB_x {xs zs : List Bool} (h : xs.length = zs.length) : (zipB xs zs).map (·.1) = xs := List.map_fst_zip (by omega)
theorem zipB_z {xs zs : List Bool} (h : xs.length = zs.length) : (zipB xs zs).map (·.2) = zs := List.map_snd_zip (by omega)
def ordK (n k : Nat) : List Row := (List.range k).flatMap fun k => (allR n).filter fun e => wt e.p == k
theorem ordK_step (n k : Nat) : ordK n (k + 1) = ordK n k ++ (allR n).filter fun e => wt e.p == k := by
  unfold ordK
  rw [List.range_succ, List.flatMap_append]
  simp
section
variable {Pg : Program} {w : World} {K : PySem.W.Frag} {mg : Str → Option Value} {base : Heap} {f CS CC : Addr} {fd : FuncData}
abbrev N_l_all_errors : List Str := ["_law_many", "_law_found", "_law_xs", "_law_zs", "_law_ordered", "_law_size_here", "_law_error"]
abbrev P_l_all_errors : List Str := ["_law_many"]
theorem sc_l_all_errors : FnScope N_l_all_errors P_l_all_errors (defScope s_l_all_errors) := ⟨rfl, rfl, rfl, by decide +kernel, rfl, by decide +kernel, by decide +kernel⟩
abbrev N_l_bits : List Str := ["_law_many", "_law_found", "_law_k", "_law_bits_here"]
abbrev P_l_bits : List Str := ["_law_many"]
theorem sc_l_bits : FnScope N_l_bits P_l_bits (defScope s_l_bits) := ⟨rfl, rfl, rfl, by decide +kernel, rfl, by decide +kernel, by decide +kernel⟩
abbrev N_l_all_back : List Str := ["_law_code_here", "_law_rows", "_law_pairs_here", "_law_size_here", "_law_state_here", "_law_many", "_law_some", "_law_begin", "_law_amps", "_law_one", "_law_ordered", "_law_error", "_law_k", "_law_other", "_law_by", "_law_mixed_here", "_law_j"]
abbrev P_l_all_back : List Str := ["_law_code_here", "_law_rows", "_law_pairs_here", "_law_size_here", "_law_state_here"]
theorem sc_l_all_back : FnScope N_l_all_back P_l_all_back (defScope s_l_all_back) := ⟨rfl, rfl, rfl, by decide +kernel, rfl, by decide +kernel, by decide +kernel⟩
def p_l_bits : List D → D → Prop := fun ds d => ∃ n : Nat, ds = [I n] ∧ d = Li ((blR n).map eBits) ∧ Wd n
theorem ok_l_all_errors (F : FnP K "_law_all_errors" "_law_all_errors" s_l_all_errors f fd) (BT : Bl mg) (C_l_bits : Cal Pg w K mg base "_law_bits" 1 P_l_bits (SpD K p_l_bits)) (C_l_size : Cal Pg w K mg base "_law_size" 1 P_l_size (SpD K p_l_size)) : FnOk Pg w K mg base CX0 2 f fd P_l_all_errors (SpD K p_all_errors) := by
  refine fn_mk F sc_l_all_errors (fun ds d h => ?_) (by decide) fun cdv A outer s H E ds d hr h => ?_
  · obtain ⟨n, rfl, rfl, _⟩ := h
    rfl
  · obtain ⟨n, rfl, rfl, wn⟩ := h
    have nd := sc_l_all_errors.nd
    have wn5 := wn.2
    have pf := pow_few wn5
    have bl := blR_len n
    have el : ∀ xs, (errOf n xs).length ≤ 32 := fun xs => by unfold errOf; rw [List.length_map, bl]; exact pf.2
    have al : (allR n).length ≤ 1024 := by
      have h := flat_len (l := blR n) (g := errOf n) (m := 32) fun a _ => el a
      rw [← allR_eq, bl] at h
      exact Nat.le_trans h (Nat.mul_le_mul pf.2 (Nat.le_refl 32))
    refine dss_seq (ds_asg 1 nd (DL.ex (dl_lst dp_nil (by walk_at "side"))) rfl) ?_
    refine dss_seqA (ds_for (fun i ρ => ∃ a, ρ = [.val (I n), .val (Li ((((blR n).take i).flatMap (errOf n)).map eRow)), a, .any, .any, .any, .any]) PassesOwn.never rfl (di_list (de_call C_l_bits hr (da_cons (de_var 0) da_nil) (by walk_at "dxp"))) ⟨_, rfl⟩ (fun i ρi hi hI => ?_) fun ρ' hI => hI) fun ρ' hI => ?_
    · obtain ⟨a, rfl⟩ := hI
      rw [List.length_map] at hi
      have lp : ((((blR n).take i).flatMap (errOf n)).map eRow).length ≤ 1024 := by
        have h := flat_len (l := (blR n).take i) (g := errOf n) (m := 32) fun a _ => el a
        rw [List.length_map]
        have h2 : ((blR n).take i).length ≤ 32 := by rw [List.length_take, bl]; omega
        exact Nat.le_trans h (Nat.mul_le_mul h2 (Nat.le_refl 32))
      have lq : ((errOf n (blR n)[i]).map eRow).length ≤ 32 := by rw [List.length_map]; exact el _
      refine ⟨_, _, (dg_name 2 nd), ?_⟩
      rw [at_map hi]
      refine dss_one (ds_asg 1 nd (d := Li ((((blR n).take (i + 1)).flatMap (errOf n)).map eRow)) (DE.is (DL.ex (dl_catE (de_var 1) (DL.ex (dl_lc (out := (errOf n (blR n)[i]).map eRow) [("_law_zs", 3)] rfl nd (blkOk_by (by show blkC N_l_all_errors (defScope s_l_all_errors) _ _ = true; decide +kernel)) (by
        unfold errOf
        rw [List.map_map]
        exact lcw_mapA 3 (fun zs => eRow ⟨false, zipB (blR n)[i] zs⟩) (di_list (de_call C_l_bits hr (da_cons (de_var 0) da_nil) (by walk_at "dxp"))) (by rw [bl]; omega) (fun d _ _ _ _ _ => dg_name 3 nd) fun zs hz s' H' C cl fp => by
          have hle : ((blR n)[i]).length = zs.length := by rw [blR_each n _ (List.getElem_mem hi), blR_each n zs hz]
          refine DE.is (de_tup (dp_cons de_int (dp_cons (de_var 2) (dp_cons (de_var 3) dp_nil))) (by walk_at "side")) ?_
          show Tu _ = .py (eRow _)
          simp only [eRow, Row.xs, Row.zs, zipB_x hle, zipB_z hle]
          rfl))) (by omega))) (by rw [flat_take _ _ hi, List.map_append])) ?_)
      exact ⟨_, rfl⟩
    · obtain ⟨a, rfl⟩ := hI
      rw [List.length_map, List.take_length, ← allR_eq]
      refine dss_seq (ds_asg 4 nd (DL.ex (dl_lst dp_nil (by walk_at "side"))) rfl) ?_
      refine dss_seqA (ds_for (fun k ρ => ∃ c, ρ = [.val (I n), .val (Li ((allR n).map eRow)), a, .any, .val (Li ((ordK n k).map eRow)), c, .any]) PassesOwn.never rfl (di_range1 (n := n + 1) (DE.is (de_add (de_var 0) de_int) (by show I _ = I _; congr 1)) (by omega) BT.b_range) ⟨_, rfl⟩ (fun k ρi hk hI => ?_) fun ρ' hI => hI) fun ρ' hI => ?_
      · obtain ⟨c, rfl⟩ := hI
        have lo : ((ordK n k).map eRow).length ≤ 10000 := by
          have h := flat_len (l := List.range k) (g := fun k => (allR n).filter fun e => wt e.p == k) (m := 1024) fun b _ => Nat.le_trans (List.length_filter_le ..) al
          rw [List.length_range] at h
          rw [List.length_map]
          have : k * 1024 ≤ 6 * 1024 := Nat.mul_le_mul (by omega) (Nat.le_refl _)
          exact Nat.le_trans h (by omega)
        have lf : (((allR n).filter fun e => wt e.p == k).map eRow).length ≤ 1024 := by rw [List.length_map]; exact Nat.le_trans (List.length_filter_le ..) al
        refine ⟨_, _, (dg_name 5 nd), ?_⟩
        refine dss_one (ds_asg 4 nd (d := Li ((ordK n (k + 1)).map eRow)) (DE.is (DL.ex (dl_catE (de_var 4) (DL.ex (dl_lc (out := ((allR n).filter fun e => wt e.p == k).map eRow) [("_law_error", 6)] rfl nd (blkOk_by (by show blkC N_l_all_errors (defScope s_l_all_errors) _ _ = true; decide +kernel))
          (lcw_seqA 6 (fun e : Row => wt e.p == k) eRow (di_list (de_var 1)) (by omega) (fun d _ _ _ _ _ => dg_name 6 nd) (fun e he s' H' C cl fp => dts_one (by
            have c3 : e.p.length ≤ 100 := by rw [(allR_each he).2]; omega
            refine DT.is (dt_cmp (dc_eqI (de_call C_l_size hr (da_cons (de_var 6) da_nil) (by walk_at "dxp")) (de_var 5))) ?_
            by_cases q : wt e.p = k
            · rw [q]; simp
            · have q2 : ¬ ((wt e.p : Int) = (k : Int)) := by omega
              simp [q, q2])) fun e he hb s' H' C cl fp => (de_var 6)))) (by omega))) (by rw [ordK_step, List.map_append])) ?_)
        exact ⟨_, rfl⟩
      · obtain ⟨c, rfl⟩ := hI
        exact dss_one (ds_ret ((de_var 4)) rfl)
end
end Bw
namespace Bw
open PySem PySem.Spec PyProof.Rows L2
open PySem.W (EachIs AllAlike Sortable dataLe)
local macro_rules | `(tactic| walk_at "lv") => `(tactic| first
  | fail)
local macro_rules | `(tactic| walk_at "cd") => `(tactic| first
  | assumption | exact Iff.rfl | omega | (rw [xs_len]; assumption) | (rw [zs_len]; assumption) | (refine ⟨?_, ?_⟩ <;> assumption) | (refine ⟨?_, ?_, ?_⟩ <;> assumption) | (simp only [xs_len, zs_len]; assumption) | (simp only [xs_len, zs_len]; omega) | walk_at "lv")
local macro_rules | `(tactic| walk_at "dxp") => `(tactic| first
  | assumption
  | exact ⟨_, rfl, rfl⟩
  | exact ⟨_, _, rfl, rfl⟩
  | exact ⟨_, _, _, rfl, rfl⟩
  | exact ⟨_, _, _, _, rfl, rfl⟩
  | exact ⟨_, rfl, rfl, by walk_at "cd"⟩
  | exact ⟨_, _, rfl, rfl, by walk_at "cd"⟩
  | exact ⟨_, _, _, rfl, rfl, by walk_at "cd"⟩
  | exact ⟨_, _, _, _, rfl, rfl, by walk_at "cd"⟩
  | exact ⟨_, _, _, _, _, rfl, rfl, by walk_at "cd"⟩
  | exact ⟨_, _, _, _, _, _, rfl, rfl, by walk_at "cd"⟩
  | exact ⟨_, _, _, _, _, _, _, rfl, rfl, by walk_at "cd"⟩
  | exact ⟨_, _, _, _, _, _, _, _, rfl, rfl, by walk_at "cd"⟩
  | exact ⟨_, _, _, _, _, _, _, _, _, rfl, rfl, by walk_at "cd"⟩
  | exact ⟨_, rfl, rfl, rfl, rfl, by walk_at "side"⟩
  | walk_at "lv")
local macro_rules | `(tactic| walk_at "kit") => `(tactic| first
  | exact kit_ii | exact kit_ib | exact kit_ll | exact kit_tt)
local macro_rules | `(tactic| walk_at "side") => `(tactic| first
  | assumption | exact sel_int _ _ _ | exact sel_bi _ _ _ | rfl | decide | omega | exact Nat.le_of_ble_eq_true rfl | (simp; done) | (simp; omega) | (refine Or.inl ⟨?_, ?_⟩ <;> decide) | (refine Or.inr ⟨?_, ?_⟩ <;> decide) | (refine Or.inl ⟨?_, ?_⟩ <;> omega) | (refine Or.inr ⟨?_, ?_⟩ <;> omega) | (rw [bi_xor]; refine Or.inl ⟨?_, ?_⟩ <;> omega) | (refine And.intro ?_ (And.intro ?_ ?_) <;> omega) | (refine And.intro ?_ ?_ <;> omega) | walk_at "lv")
theorem bits_sorted {n : Nat} (h : Wd n) : srt ((brR n).map eBits) = (blR n).map eBits := by
  have : n = 1 ∨ n = 2 ∨ n = 3 ∨ n = 4 ∨ n = 5 := by have := h.1; have := h.2; omega
  rcases this with h | h | h | h | h <;> subst h <;> exact srt_eq (by decide +kernel) (by decide +kernel) (by decide +kernel)
theorem eB_alike : ∀ a b : List Bool, PySem.W.alikeAll (a.map eB) (b.map eB) = true
  | [], _ => by simp [PySem.W.alikeAll]
  | a :: l, [] => by simp [PySem.W.alikeAll]
  | a :: l, b :: m => by
    show (PySem.W.alike (eB a) (eB b) && PySem.W.alikeAll (l.map eB) (m.map eB)) = true
    rw [eB_alike l m]
    simp [eB, PySem.W.alike]
theorem eBits_alike (a b : List Bool) : PySem.W.alike (eBits a) (eBits b) = true := by
  show PySem.W.alikeAll (a.map eB) (b.map eB) = true
  exact eB_alike a b
section
variable {Pg : Program} {w : World} {K : PySem.W.Frag} {mg : Str → Option Value} {base : Heap} {f CS CC : Addr} {fd : FuncData}
theorem ok_l_bits (F : FnP K "_law_bits" "_law_bits" s_l_bits f fd) (BT : Bl mg) : FnOk Pg w K mg base CX0 1 f fd P_l_bits (SpD K p_l_bits) := by
  refine fn_mk F sc_l_bits (fun ds d h => ?_) (by decide) fun cdv A outer s H E ds d hr h => ?_
  · obtain ⟨n, rfl, rfl, _⟩ := h
    rfl
  · obtain ⟨n, rfl, rfl, hw⟩ := h
    have nd := sc_l_bits.nd
    have h1 := hw.1
    have h5 := hw.2
    refine dss_seq (ds_asg 1 nd (DL.ex (dl_lst (dp_cons (de_tup dp_nil (by walk_at "side")) dp_nil) (by walk_at "side"))) rfl) ?_
    refine dss_seqA (ds_for (fun i ρ => ∃ a, ρ = [.val (I n), .val (Li ((brR i).map eBits)), a, .any]) PassesOwn.never rfl (di_range1 (de_var 0) (by walk_at "side") BT.b_range) ⟨_, rfl⟩ (fun i ρi hi hI => ?_) fun ρ' hI => hI) fun ρ' hI => ?_
    · obtain ⟨a, rfl⟩ := hI
      have hp : (brR i).length ≤ 32 := by
        rw [brR_len]
        exact (pow_few (k := i) (by omega)).2
      refine ⟨_, _, (dg_name 2 nd), ?_⟩
      refine dss_one (ds_asg 1 nd (d := Li ((brR (i + 1)).map eBits)) (DE.is (DL.ex (dl_catE (DL.ex (dl_lc [("_law_bits_here", 3)] rfl nd (blkOk_by (by show blkC N_l_bits (defScope s_l_bits) _ _ = true; decide +kernel)) (lcw_mapA 3 (fun l => eBits (l ++ [false])) (di_list (de_var 1)) (by omega) (fun d _ _ _ _ _ => dg_name 3 nd) fun l hl s H C cl fp => by
          have hle := brR_each i l hl
          have hm : (l.map eB).length = l.length := List.length_map ..
          exact DE.is (de_cat (de_var 3) (de_tup (dp_cons de_int dp_nil) (by walk_at "side")) (by walk_at "side")) (by show Tu _ = Tu _; rw [List.map_append]; rfl)))) (DL.ex (dl_lc [("_law_bits_here", 3)] rfl nd (blkOk_by (by show blkC N_l_bits (defScope s_l_bits) _ _ = true; decide +kernel)) (lcw_mapA 3 (fun l => eBits (l ++ [true])) (di_list (de_var 1)) (by omega) (fun d _ _ _ _ _ => dg_name 3 nd) fun l hl s H C cl fp => by
          have hle := brR_each i l hl
          have hm : (l.map eB).length = l.length := List.length_map ..
          exact DE.is (de_cat (de_var 3) (de_tup (dp_cons de_int dp_nil) (by walk_at "side")) (by walk_at "side")) (by show Tu _ = Tu _; rw [List.map_append]; rfl)))) (by walk_at "side"))) ?_) ⟨_, rfl⟩)
      show Li _ = Li _
      simp only [brR, List.map_append, List.map_map]
      rfl
    · obtain ⟨a, rfl⟩ := hI
      have hp : (brR n).length ≤ 32 := by
        rw [brR_len]
        exact (pow_few (k := n) h5).2
      refine dss_one (ds_ret (DL.ex (dl_sorted (de_var 1) (by have := hr.un; omega) (AllAlike.of eBits_alike) (Or.inl fun d hd => ?_) (by rw [List.length_map]; omega) (fun d hd => ?_) BT.b_sorted)) ?_)
      · obtain ⟨b, hb, rfl⟩ := List.mem_map.mp hd
        have hl := brR_each n b hb
        cases b with
        | nil => simp at hl; omega
        | cons x r => exact ⟨_, _, rfl⟩
      · obtain ⟨b, hb, rfl⟩ := List.mem_map.mp hd
        exact Nat.le_trans (eBits_depth b) (by decide)
      · rw [bits_sorted hw]
end
end Bw
namespace Bw
open PySem PySem.Spec PyProof.Rows L2
local macro_rules | `(tactic| walk_at "lv") => `(tactic| first
  | fail)
local macro_rules | `(tactic| walk_at "cd") => `(tactic| first
  | assumption | exact Iff.rfl | omega | (rw [xs_len]; assumption) | (rw [zs_len]; assumption) | (refine ⟨?_, ?_⟩ <;> assumption) | (refine ⟨?_, ?_, ?_⟩ <;> assumption) | (simp only [xs_len, zs_len]; assumption) | (simp only [xs_len, zs_len]; omega) | walk_at "lv")
local macro_rules | `(tactic| walk_at "dxp") => `(tactic| first
  | assumption
  | exact ⟨_, rfl, rfl⟩
  | exact ⟨_, _, rfl, rfl⟩
  | exact ⟨_, _, _, rfl, rfl⟩
  | exact ⟨_, _, _, _, rfl, rfl⟩
  | exact ⟨_, rfl, rfl, by walk_at "cd"⟩
  | exact ⟨_, _, rfl, rfl, by walk_at "cd"⟩
  | exact ⟨_, _, _, rfl, rfl, by walk_at "cd"⟩
  | exact ⟨_, _, _, _, rfl, rfl, by walk_at "cd"⟩
  | exact ⟨_, _, _, _, _, rfl, rfl, by walk_at "cd"⟩
  | exact ⟨_, _, _, _, _, _, rfl, rfl, by walk_at "cd"⟩
  | exact ⟨_, _, _, _, _, _, _, rfl, rfl, by walk_at "cd"⟩
  | exact ⟨_, _, _, _, _, _, _, _, rfl, rfl, by walk_at "cd"⟩
  | exact ⟨_, _, _, _, _, _, _, _, _, rfl, rfl, by walk_at "cd"⟩
  | exact ⟨_, rfl, rfl, rfl, rfl, by walk_at "side"⟩
  | walk_at "lv")
local macro_rules | `(tactic| walk_at "kit") => `(tactic| first
  | exact kit_ii | exact kit_ib | exact kit_ll | exact kit_tt)
local macro_rules | `(tactic| walk_at "side") => `(tactic| first
  | assumption | exact sel_int _ _ _ | exact sel_bi _ _ _ | rfl | decide | omega | exact Nat.le_of_ble_eq_true rfl | (simp; done) | (simp; omega) | (refine Or.inl ⟨?_, ?_⟩ <;> decide) | (refine Or.inr ⟨?_, ?_⟩ <;> decide) | (refine Or.inl ⟨?_, ?_⟩ <;> omega) | (refine Or.inr ⟨?_, ?_⟩ <;> omega) | (rw [bi_xor]; refine Or.inl ⟨?_, ?_⟩ <;> omega) | (refine And.intro ?_ (And.intro ?_ ?_) <;> omega) | (refine And.intro ?_ ?_ <;> omega) | walk_at "lv")
def eAmps (zs : List Amp) : PyData := .list (zs.map eAmp)
section
variable {Pg : Program} {w : World} {K : PySem.W.Frag} {mg : Str → Option Value} {base : Heap} {f CS CC : Addr} {fd : FuncData}
/-- e's spoiling of zs is mended -/
def BackOk (n : Nat) (kept : List Row) (ps : List (List Bool × Row)) (e : Row) (zs : List Amp) : Prop :=
  ∃ (sg sg' : List Bool) (e' : Row) (t : Nat), SgOk n kept (act e zs) sg ∧ ps.find? (fun q => q.1 == sg) = some (sg', e') ∧ e'.p.length = n ∧ t < 8 ∧ act e' (act e zs) = zs.map (rotN t)
def p_l_all_back : Int → List D → List D → D → Int → Prop := fun st d1 d2 d n' => ∃ (kept rows : List Row) (ps : List (List Bool × Row)) (n size : Nat), d1 = [Cd K CC kept, Li (rows.map eRow), Li (ps.map ePair), I size] ∧ d2 = [] ∧ d = B true ∧ n' = abN n size st ∧
  Kept n kept ∧ rows ≠ [] ∧ rows.length ≤ 100 ∧ AllN n rows ∧ size ≤ n ∧ someR n rows ≠ [] ∧ (∀ e ∈ errS n size, ∀ zs ∈ someR n rows, BackOk n kept ps e zs) ∧ (∀ e ∈ errS n size, ∀ zs ∈ someR n rows, ∀ ys ∈ someR n rows, ∀ v : Int, 1 ≤ v → v ≤ 7 → BackOk n kept ps e (mixA zs ys v))
theorem ok_l_all_back (F : FnP K "_law_all_back" "_law_all_back" s_l_all_back f fd) (BT : Bl mg) (C_l_draw : Cal Pg w K mg base "_law_draw" 1 P_l_draw (SpS K p_l_draw)) (C_l_code_numbers : Cal Pg w K mg base "_law_code_numbers" 3 P_l_code_numbers (SpD K p_l_code_numbers)) (C_l_all_errors : Cal Pg w K mg base "_law_all_errors" 2 P_l_all_errors (SpD K p_all_errors))
    (C_l_size : Cal Pg w K mg base "_law_size" 1 P_l_size (SpD K p_l_size)) (C_l_sum : Cal Pg w K mg base "_law_sum" 1 P_l_sum (SpD K p_l_sum)) (C_l_turned : Cal Pg w K mg base "_law_turned" 1 P_l_turned (SpD K p_l_turned)) (C_l_back : Cal Pg w K mg base "_law_back" 8 P_l_back (SpD K (p_l_back (K := K) (CC := CC)))) :
    FnOk Pg w K mg base CX0 9 f fd P_l_all_back (SpS K (p_l_all_back (K := K) (CC := CC))) := by
  refine fn_mkS F sc_l_all_back (fun n d1 d2 d n' h => ?_) (by decide) fun cdv A outer s H E st d1 d2 d n' hr h => ?_
  · obtain ⟨kept, rows, ps, m, size, rfl, rfl, _⟩ := h
    rfl
  · obtain ⟨kept, rows, ps, n, size, rfl, rfl, rfl, rfl, k, ne, few, hall, hsz, sne, b1, b2⟩ := h
    have nd := sc_l_all_back.nd
    have wn := k.wd
    have wn5 := wn.2
    have wn1 := wn.1
    have pf := pow_few wn5
    obtain ⟨r0, rest, e0⟩ : ∃ r0 rest, rows = r0 :: rest := by
      cases hrs : rows with
      | nil => exact absurd hrs ne
      | cons r rest => exact ⟨r, rest, rfl⟩
    have h0 : atI (rows.map eRow) 0 = some (eRow r0) := atI_n (i := 0) (by rw [e0]; rfl)
    have hn0 := hall r0 (by rw [e0]; simp)
    have l1 : (r0.xs.map eB).length = n := by simp [Row.xs, hn0]
    have hf := errR_few wn5
    have he : (errS n size).length ≤ 1024 := Nat.le_trans (List.length_filter_le ..) hf
    have ek : (1 : Int) * 2 ^ (((n : Nat) : Int)).toNat = ((2 ^ n : Nat) : Int) := by rw [Int.toNat_natCast, Int.one_mul, Int.natCast_pow]; rfl
    refine dss_seq (ds_asg 5 nd (d := I n) (DE.is (de_len (DE.tpl (de_ix (DE.tpl (de_ix (DE.lst (de_var 1)) de_int (by walk_at "side"))) de_int (by walk_at "side"))) BT.b_len) (by rw [l1])) rfl) ?_
    refine dss_seq (ds_setLc (out := ((List.range (2 ^ n)).map (cnR n rows)).map eAmps) 6 [("_law_begin", 7)] rfl nd (blkOk_by (by show blkC N_l_all_back (defScope s_l_all_back) _ _ = true; decide +kernel)) (by
      rw [List.map_map]
      exact lcw_rangeM 7 (fun b => eAmps (cnR n rows b)) (di_range1 (n := 2 ^ n) (DE.is (de_shl de_int (de_var 5) (by walk_at "side")) (by rw [ek])) (by omega) BT.b_range) (by omega) (fun d _ _ _ _ _ => dg_name 7 nd) fun b hb s' H' C cl fp => by
        have cc : Wd n ∧ rows ≠ [] ∧ rows.length ≤ 100 ∧ AllN n rows ∧ b < 2 ^ n := ⟨wn, ne, few, hall, hb⟩
        exact (de_call C_l_code_numbers hr (da_cons (de_var 1) (da_cons (de_var 7) da_nil)) (by walk_at "dxp"))) rfl) ?_
    have ls : ((List.range (2 ^ n)).map (cnR n rows)).length ≤ 32 := by rw [List.length_map, List.length_range]; exact pf.2
    refine dss_seq (ds_setLc (out := (someR n rows).map eAmps) 6 [("_law_amps", 8)] rfl nd (blkOk_by (by show blkC N_l_all_back (defScope s_l_all_back) _ _ = true; decide +kernel)) (lcw_seqA 8 nzA eAmps (di_list (de_var 6)) (by omega) (fun d _ _ _ _ _ => dg_name 8 nd) (fun zs hz s' H' C cl fp => dts_one (by
        have lz : zs.length ≤ 32 := by
          obtain ⟨b, _, rfl⟩ := List.mem_map.mp hz
          rw [cnR_len]
          exact pf.2
        refine DT.is (dt_cmp (dc_gt (de_sumC (l := zs) (fun z => absI z.a) [("_law_one", 9)] rfl nd (blkOk_by (by show blkC N_l_all_back { kind := ScopeKind.function, names := [(Str.ofString ".0", NameKind.local), (Str.ofString "_law_amps", NameKind.local), (Str.ofString "sum", NameKind.globalImplicit)], isGenerator := false, isCoroutine := false } _ _ = true; decide +kernel)) (lcw_mapA 9 (fun z => .int (absI z.a)) (di_list (ds := zs.map eAmp) (de_var 8)) (by omega) (fun d _ _ _ _ _ => dg_name 9 nd) fun z hz s' H' C cl fp => (de_abs (de_ix (DE.tpl (de_var 9)) de_int (by walk_at "side")) BT.b_abs)) BT.b_sum) de_int)) ?_
        rfl)) fun zs hz hb s' H' C cl fp => (de_var 8)) rfl) ?_
    refine dss_seq (ds_setLc (out := (errS n size).map eRow) 10 [("_law_error", 11)] rfl nd (blkOk_by (by show blkC N_l_all_back (defScope s_l_all_back) _ _ = true; decide +kernel)) (lcw_seqA 11 (fun e : Row => decide (wt e.p ≤ size)) eRow (di_list (de_call C_l_all_errors hr (da_cons (de_var 5) da_nil) (by walk_at "dxp"))) (by omega) (fun d _ _ _ _ _ => dg_name 11 nd) (fun e he s' H' C cl fp => dts_one (by
        have c3 : e.p.length ≤ 100 := by rw [(errR_each he).2]; omega
        refine DT.is (dt_cmp (dc_le (de_call C_l_size hr (da_cons (de_var 11) da_nil) (by walk_at "dxp")) (de_var 3))) ?_
        simp)) fun e he hb s' H' C cl fp => (de_var 11)) rfl) ?_
    have hL0 : (0 : Int) ≤ ((errS n size).length : Int) := by omega
    have hq1 : (1 : Int) ≤ 1 + ((errS n size).length : Int) / 60 := by omega
    have hq2 : 1 + ((errS n size).length : Int) / 60 ≤ 1000000 := by omega
    have hq3 : (0 : Int) < 1 + (((errS n size).map eRow).length : Int) / 60 := by rw [List.length_map]; omega
    have hd := dv_range st (m := 1 + ((errS n size).length : Int) / 60) (by omega)
    have rg := rgc_up (i := dv st (1 + ((errS n size).length : Int) / 60)) (j := ((errS n size).length : Int)) (k := 1 + ((errS n size).length : Int) / 60) hd.1 (by omega) hL0 (by omega) hq1 hq2
    have hstep := fun {m : Nat} (hm : m < stepN (dv st (1 + ((errS n size).length : Int) / 60)) ((errS n size).length : Int) (1 + ((errS n size).length : Int) / 60)) => stepN_lt hd.1 hq1 hm
    have eab : abN n size st = nxs (nx st) (2 * stepN (dv st (1 + ((errS n size).length : Int) / 60)) ((errS n size).length : Int) (1 + ((errS n size).length : Int) / 60)) := rfl
    rw [eab]
    have sl : 0 < (someR n rows).length := List.length_pos_iff.mpr sne
    refine dss_seqA (ds_for (fun i ρ => ∃ a b c e g, ρ = [.val (Cd K CC kept), .val (Li (rows.map eRow)), .val (Li (ps.map ePair)), .val (I size), .own true [.int (nxs (nx st) (2 * i))], .val (I n), .val (Li ((someR n rows).map eAmps)), .any, a, .any, .val (Li ((errS n size).map eRow)), .any, b, c, e, g, .any]) PassesOwn.never rfl
      (di_range3 (DE.is (de_callSE C_l_draw hr (das_here 4 (da_cons (de_add de_int (de_div (de_len (DE.lst (de_var 10)) BT.b_len) de_int (by walk_at "side"))) da_nil)) rfl (by walk_at "dxp")) (by rw [List.length_map])) (DE.is (de_len (DE.lst (de_var 10)) BT.b_len) (by rw [List.length_map])) (DE.is (de_add de_int (de_div (de_len (DE.lst (de_var 10)) BT.b_len) de_int (by walk_at "side"))) (by rw [List.length_map])) rg BT.b_range) ⟨_, _, _, _, _, rfl⟩ (fun i ρi hi hI => ?_) fun ρ' hI => hI) fun ρ' hI => ?_
    · obtain ⟨a, b, c, e, g, rfl⟩ := hI
      obtain ⟨k0, kL⟩ := hstep hi
      have es : nxs (nx st) (2 * (i + 1)) = nx (nx (nxs (nx st) (2 * i))) := rfl
      generalize dv st (1 + ((errS n size).length : Int) / 60) + (i : Int) * (1 + ((errS n size).length : Int) / 60) = kk at k0 kL
      generalize nxs (nx st) (2 * i) = s0 at es
      have slm : (((someR n rows).map eAmps).length : Int) = ((someR n rows).length : Int) := by rw [List.length_map]
      have hs0 : (0 : Int) < (((someR n rows).map eAmps).length : Int) := by rw [slm]; omega
      have r1 : 0 ≤ kk % (((someR n rows).map eAmps).length : Int) := Int.emod_nonneg _ (by omega)
      have r2 : kk % (((someR n rows).map eAmps).length : Int) < (((someR n rows).map eAmps).length : Int) := Int.emod_lt_of_pos _ hs0
      have r3 := dv_range s0 hs0
      have r7 := dv_range (nx s0) (m := 7) (by decide)
      have j1 : (kk % (((someR n rows).map eAmps).length : Int)).toNat < (someR n rows).length := by omega
      have j2 : (dv s0 (((someR n rows).map eAmps).length : Int)).toNat < (someR n rows).length := by omega
      have j3 : kk.toNat < (errS n size).length := by omega
      have h1 : atI ((someR n rows).map eAmps) (kk % (((someR n rows).map eAmps).length : Int)) = some (eAmps (someR n rows)[(kk % (((someR n rows).map eAmps).length : Int)).toNat]) := by
        have q := atI_n (l := (someR n rows).map eAmps) (i := (kk % (((someR n rows).map eAmps).length : Int)).toNat) (x := eAmps (someR n rows)[(kk % (((someR n rows).map eAmps).length : Int)).toNat]) (by rw [List.getElem?_map, List.getElem?_eq_getElem j1]; rfl)
        rw [Int.toNat_of_nonneg r1] at q
        exact q
      have h2 : atI ((someR n rows).map eAmps) (dv s0 (((someR n rows).map eAmps).length : Int)) = some (eAmps (someR n rows)[(dv s0 (((someR n rows).map eAmps).length : Int)).toNat]) := by
        have q := atI_n (l := (someR n rows).map eAmps) (i := (dv s0 (((someR n rows).map eAmps).length : Int)).toNat) (x := eAmps (someR n rows)[(dv s0 (((someR n rows).map eAmps).length : Int)).toNat]) (by rw [List.getElem?_map, List.getElem?_eq_getElem j2]; rfl)
        rw [Int.toNat_of_nonneg r3.1] at q
        exact q
      have h3 : atI ((errS n size).map eRow) kk = some (eRow (errS n size)[kk.toNat]) := by
        have q := atI_n (l := (errS n size).map eRow) (i := kk.toNat) (x := eRow (errS n size)[kk.toNat]) (by rw [List.getElem?_map, List.getElem?_eq_getElem j3]; rfl)
        rw [Int.toNat_of_nonneg k0] at q
        exact q
      have m1 : (someR n rows)[(kk % (((someR n rows).map eAmps).length : Int)).toNat] ∈ someR n rows := List.getElem_mem j1
      have m2 : (someR n rows)[(dv s0 (((someR n rows).map eAmps).length : Int)).toNat] ∈ someR n rows := List.getElem_mem j2
      have m3 : (errS n size)[kk.toNat] ∈ errS n size := List.getElem_mem j3
      refine ⟨_, _, (dg_name 12 nd), ?_⟩
      refine dss_seq (ds_asg 8 nd (de_ix (DE.lst (de_var 6)) (de_mod (de_var 12) (de_len (DE.lst (de_var 6)) BT.b_len) (by walk_at "side")) (by walk_at "side")) rfl) ?_
      refine dss_seq (ds_asg 13 nd (de_ixE (de_var 6) (de_callSE C_l_draw hr (das_here 4 (da_cons (de_len (DE.lst (de_var 6)) BT.b_len) da_nil)) rfl (by walk_at "dxp")) h2) rfl) ?_
      refine dss_seq (ds_asg 14 nd (de_add de_int (de_callSE C_l_draw hr (das_here 4 (da_cons de_int da_nil)) rfl (by walk_at "dxp"))) rfl) ?_
      generalize (someR n rows)[(kk % (((someR n rows).map eAmps).length : Int)).toNat] = zs at m1 ⊢
      generalize (someR n rows)[(dv s0 (((someR n rows).map eAmps).length : Int)).toNat] = ys at m2 ⊢
      generalize (errS n size)[kk.toNat] = er at m3 h3 ⊢
      have lz := someR_len m1
      have ly := someR_len m2
      have lm := mixA_len zs ys (1 + dv (nx s0) 7)
      have len1 := (errR_each (List.mem_filter.mp m3).1).2
      have lmz : (zs.map eAmp).length = 2 ^ n := by rw [List.length_map, lz]
      have hb1 : p_l_back (K := K) (CC := CC) [Cd K CC kept, Li (ps.map ePair), .py (eRow er), .py (eAmps zs)] (B true) := by
        obtain ⟨sg, sg', e', t, q1, q2, q3, q4, q5⟩ := b1 er m3 zs m1
        exact ⟨kept, ps, er, zs, n, sg, sg', e', t, rfl, rfl, k, q1, q2, len1, q3, lz, q4, q5⟩
      have hb2 : p_l_back (K := K) (CC := CC) [Cd K CC kept, Li (ps.map ePair), .py (eRow er), .py (eAmps (mixA zs ys (1 + dv (nx s0) 7)))] (B true) := by
        obtain ⟨sg, sg', e', t, q1, q2, q3, q4, q5⟩ := b2 er m3 zs m1 ys m2 (1 + dv (nx s0) 7) (by omega) (by omega)
        exact ⟨kept, ps, er, _, n, sg, sg', e', t, rfl, rfl, k, q1, q2, len1, q3, by rw [lm, lz], q4, q5⟩
      refine dss_seq (ds_setLc (out := (mixA zs ys (1 + dv (nx s0) 7)).map eAmp) 15 [("_law_j", 16)] rfl nd (blkOk_by (by show blkC N_l_all_back (defScope s_l_all_back) _ _ = true; decide +kernel)) (by
        have e2 : (mixA zs ys (1 + dv (nx s0) 7)).map eAmp = (List.range (zs.map eAmp).length).map fun j => eAmp (addA (ampAt zs j) (rotN ((1 + dv (nx s0) 7) % 8).toNat (ampAt ys j))) := by
          unfold mixA
          rw [List.map_map, List.length_map]
          rfl
        rw [e2]
        exact lcw_rangeM 16 (fun j => eAmp (addA (ampAt zs j) (rotN ((1 + dv (nx s0) 7) % 8).toNat (ampAt ys j)))) (di_range1 (de_len (DE.lst (de_var 8)) BT.b_len) (by walk_at "side") BT.b_range) (by rw [lmz]; omega) (fun d _ _ _ _ _ => dg_name 16 nd) fun j hj s' H' C cl fp => by
          rw [lmz] at hj
          have a1 := atI_amp (zs := zs) (i := j) (by rw [lz]; exact hj)
          have a2 := atI_amp (zs := ys) (i := j) (by rw [ly]; exact hj)
          exact (de_call C_l_sum hr (da_cons (de_ix (DE.lst (de_var 8)) (de_var 16) (by walk_at "side")) (da_cons (de_call C_l_turned hr (da_cons (de_ix (DE.lst (de_var 13)) (de_var 16) (by walk_at "side")) (da_cons (de_var 14) da_nil)) (by walk_at "dxp")) da_nil)) (by walk_at "dxp"))) rfl) ?_
      refine dss_one (ds_ifF (DW.t (dw_or (dt_not (dt_of (de_call C_l_back hr (da_cons (de_var 0) (da_cons (de_var 2) (da_cons (de_ix (DE.lst (de_var 10)) (de_var 12) (by walk_at "side")) (da_cons (de_var 8) da_nil)))) (by walk_at "dxp")))) fun _ => (dw_or1 (dt_not (dt_of (de_call C_l_back hr (da_cons (de_var 0) (da_cons (de_var 2) (da_cons (de_ix (DE.lst (de_var 10)) (de_var 12) (by walk_at "side")) (da_cons (de_var 15) da_nil)))) (by walk_at "dxp"))))))) rfl (dss_nil ?_))
      exact ⟨_, _, _, _, _, by rw [es]; rfl⟩
    · obtain ⟨a, b, c, e, g, rfl⟩ := hI
      exact dss_one (ds_ret (de_bl) ⟨rfl, rfl⟩)
end
end Bw
/-! M1: turning numbers, rows acting one behind the other. -/
namespace Bw
def rI (i : Int) (z : Amp) : Amp := rotN (i % 8).toNat z
theorem rotN_add (a b : Nat) (z : Amp) : rotN (a + b) z = rotN a (rotN b z) := by
  induction a with
  | zero => rw [Nat.zero_add]; rfl
  | succ a ih => rw [Nat.succ_add]; show rot _ = rot _; rw [ih]
theorem rotN_8 (z : Amp) : rotN 8 z = z := by
  obtain ⟨a, b, c, d⟩ := z
  simp [rotN, rot]
theorem rotN_mod (a : Nat) (z : Amp) : rotN (a % 8) z = rotN a z := by
  have : ∀ q r : Nat, rotN (8 * q + r) z = rotN r z := by
    intro q r
    induction q with
    | zero => rw [Nat.mul_zero, Nat.zero_add]
    | succ q ih => rw [show 8 * (q + 1) + r = 8 + (8 * q + r) by omega, rotN_add, rotN_8, ih]
  conv => rhs; rw [← Nat.div_add_mod a 8, this]
theorem rI_add (i j : Int) (z : Amp) : rI i (rI j z) = rI (i + j) z := by
  unfold rI
  rw [← rotN_add, ← rotN_mod]
  congr 1
  omega
theorem rI_cong {i j : Int} (h : i % 8 = j % 8) (z : Amp) : rI i z = rI j z := by
  unfold rI
  rw [h]
theorem rI_nat (k : Nat) (z : Amp) : rI (k : Int) z = rotN k z := by
  unfold rI
  rw [← rotN_mod k]
  congr 1
theorem rI_zero (z : Amp) : rI 0 z = z := rfl
theorem rot_addA (a b : Amp) : rot (addA a b) = addA (rot a) (rot b) := by
  simp [rot, addA]
  omega
theorem rotN_addA (k : Nat) (a b : Amp) : rotN k (addA a b) = addA (rotN k a) (rotN k b) := by
  induction k with
  | zero => rfl
  | succ k ih => show rot _ = _; rw [ih, rot_addA]; rfl
theorem rI_addA (i : Int) (a b : Amp) : rI i (addA a b) = addA (rI i a) (rI i b) := rotN_addA ..
theorem rotN_zeroA : ∀ k, rotN k zeroA = zeroA
  | 0 => rfl
  | k + 1 => by show rot _ = _; rw [rotN_zeroA k]; rfl
theorem addA_comm (a b : Amp) : addA a b = addA b a := by simp [addA, Int.add_comm]
theorem addA_assoc (a b c : Amp) : addA (addA a b) c = addA a (addA b c) := by simp [addA, Int.add_assoc]
theorem addA_zero (a : Amp) : addA a zeroA = a := by simp [addA, zeroA]
theorem zero_addA (a : Amp) : addA zeroA a = a := by simp [addA, zeroA]
/-! numbers by places -/
theorem amps_ext {zs ys : List Amp} (h : zs.length = ys.length) (e : ∀ j, j < zs.length → ampAt zs j = ampAt ys j) : zs = ys := by
  refine List.ext_getElem h fun j h1 h2 => ?_
  have := e j h1
  unfold ampAt at this
  rw [List.getElem?_eq_getElem h1, List.getElem?_eq_getElem h2] at this
  exact this
theorem ampAt_range {n : Nat} {f : Nat → Amp} {j : Nat} (h : j < n) : ampAt ((List.range n).map f) j = f j := by
  unfold ampAt
  rw [List.getElem?_map, List.getElem?_range h]
  rfl
theorem ampAt_map {f : Amp → Amp} {zs : List Amp} {j : Nat} (h : j < zs.length) : ampAt (zs.map f) j = f (ampAt zs j) := by
  unfold ampAt
  rw [List.getElem?_map, List.getElem?_eq_getElem h]
  rfl
def ph (r : Row) (h : Nat) : Int := 4 * bi r.t + tnR r.p h
theorem act_at {r : Row} {zs : List Amp} {j : Nat} (h : j < zs.length) : ampAt (act r zs) j = rI (ph r (j ^^^ flR r.p)) (ampAt zs (j ^^^ flR r.p)) := by
  unfold act
  rw [ampAt_range h]
  rfl
theorem addL_at {zs ys : List Amp} {j : Nat} (h : j < zs.length) : ampAt (addL zs ys) j = addA (ampAt zs j) (ampAt ys j) := by
  unfold addL
  rw [ampAt_range h]
theorem xor_ltM {n j f : Nat} (h : j < 2 ^ n) (hf : f < 2 ^ n) : j ^^^ f < 2 ^ n := Nat.xor_lt_two_pow h hf
/-- of n wires -/
def Ln (n : Nat) (zs : List Amp) : Prop := zs.length = 2 ^ n
theorem fl_in {n j : Nat} {p : Pl} (hp : p.length = n) (h : j < 2 ^ n) : j ^^^ flR p < 2 ^ n := xor_ltM h (hp ▸ flR_lt p)
theorem act_ln {n : Nat} {r : Row} {zs : List Amp} (h : Ln n zs) : Ln n (act r zs) := by unfold Ln; rw [act_len]; exact h
theorem addL_ln {n : Nat} {zs ys : List Amp} (h : Ln n zs) : Ln n (addL zs ys) := by unfold Ln; rw [addL_len]; exact h
theorem map_ln {n : Nat} {f : Amp → Amp} {zs : List Amp} (h : Ln n zs) : Ln n (zs.map f) := by unfold Ln; rw [List.length_map]; exact h
theorem ln_ext {n : Nat} {zs ys : List Amp} (h : Ln n zs) (h2 : Ln n ys) (e : ∀ j, j < 2 ^ n → ampAt zs j = ampAt ys j) : zs = ys :=
  amps_ext (h.trans h2.symm) fun j hj => e j (h ▸ hj)
theorem act_addL {n : Nat} {r : Row} {zs ys : List Amp} (hr : r.p.length = n) (h : Ln n zs) (h2 : Ln n ys) : act r (addL zs ys) = addL (act r zs) (act r ys) := by
  refine ln_ext (act_ln (addL_ln h)) (addL_ln (act_ln h)) fun j hj => ?_
  have hj2 := fl_in hr hj
  rw [act_at (by rw [addL_len, h]; exact hj), addL_at (by rw [h]; exact hj2), addL_at (by rw [act_len, h]; exact hj), act_at (by rw [h]; exact hj), act_at (by rw [h2]; exact hj), rI_addA]
theorem act_rI {n : Nat} {r : Row} {zs : List Amp} (i : Int) (hr : r.p.length = n) (h : Ln n zs) : act r (zs.map (rI i)) = (act r zs).map (rI i) := by
  refine ln_ext (act_ln (map_ln h)) (map_ln (act_ln h)) fun j hj => ?_
  have hj2 := fl_in hr hj
  rw [act_at (by rw [List.length_map, h]; exact hj), ampAt_map (by rw [h]; exact hj2), ampAt_map (by rw [act_len, h]; exact hj), act_at (by rw [h]; exact hj), rI_add, rI_add, Int.add_comm]
/-! one behind the other -/
theorem pow_testBit_hi {k q f : Nat} (hf : f < 2 ^ k) : ((if q = 1 then 2 ^ k else 0) + f).testBit k = decide (q = 1) := by
  by_cases h : q = 1
  · rw [if_pos h, Nat.testBit_two_pow_add_eq, Nat.testBit_lt_two_pow hf, decide_eq_true h]
    rfl
  · rw [if_neg h, Nat.zero_add, Nat.testBit_lt_two_pow hf, decide_eq_false h]
theorem flR_hi (x z : Bool) (p : Pl) : (flR ((x, z) :: p)).testBit p.length = x := by
  cases x
  · show ((if false = true then 2 ^ p.length else 0) + flR p).testBit p.length = false
    rw [if_neg (by decide), Nat.zero_add, Nat.testBit_lt_two_pow (flR_lt p)]
  · show ((if true = true then 2 ^ p.length else 0) + flR p).testBit p.length = true
    rw [if_pos rfl, Nat.testBit_two_pow_add_eq, Nat.testBit_lt_two_pow (flR_lt p)]
    rfl
theorem flR_lo (x z : Bool) (p : Pl) {i : Nat} (hi : i < p.length) : (flR ((x, z) :: p)).testBit i = (flR p).testBit i := by
  cases x
  · show ((if false = true then 2 ^ p.length else 0) + flR p).testBit i = _
    rw [if_neg (by decide), Nat.zero_add]
  · show ((if true = true then 2 ^ p.length else 0) + flR p).testBit i = _
    rw [if_pos rfl, Nat.testBit_two_pow_add_gt hi]
/-- turns look at the places below only -/
theorem tnR_cong : ∀ (p : Pl) {h k : Nat}, (∀ i, i < p.length → h.testBit i = k.testBit i) → tnR p h = tnR p k
  | [], _, _, _ => rfl
  | (x, z) :: p, h, k, e => by
    simp only [tnR]
    rw [e p.length (by simp), tnR_cong p fun i hi => e i (by simp; omega)]
theorem tn_two : ∀ (p q : Pl) (h : Nat), q.length = p.length → (tnR p (h ^^^ flR q) + tnR q h) % 8 = (2 * qs p q + tnR (plx p q) h) % 8
  | [], [], _, _ => rfl
  | (x, z) :: p, (u, v) :: q, h, e => by
    simp only [List.length_cons] at e
    have el : q.length = p.length := by omega
    have ih := tn_two p q h el
    have lx : (plx p q).length = p.length := plx_len el
    have e1 : tnR p (h ^^^ flR ((u, v) :: q)) = tnR p (h ^^^ flR q) := tnR_cong p fun i hi => by
      rw [Nat.testBit_xor, Nat.testBit_xor, flR_lo u v q (by omega)]
    have e2 : (h ^^^ flR ((u, v) :: q)).testBit p.length = (h.testBit p.length ^^ u) := by
      rw [Nat.testBit_xor, ← el, flR_hi]
    show (((if z then 4 * bi ((h ^^^ flR ((u, v) :: q)).testBit p.length) + 2 * bi x else 0) + tnR p (h ^^^ flR ((u, v) :: q))) + ((if v then 4 * bi (h.testBit q.length) + 2 * bi u else 0) + tnR q h)) % 8 = (2 * (qw (x, z) (u, v) + qs p q) + ((if (z ^^ v) then 4 * bi (h.testBit (plx p q).length) + 2 * bi (x ^^ u) else 0) + tnR (plx p q) h)) % 8
    rw [e1, e2, el, lx]
    have key : ∀ x z u v b : Bool, ((if z then 4 * bi (b ^^ u) + 2 * bi x else 0) + (if v then 4 * bi b + 2 * bi u else 0)) % 8 = (2 * qw (x, z) (u, v) + (if (z ^^ v) then 4 * bi b + 2 * bi (x ^^ u) else 0)) % 8 := by decide
    have k := key x z u v (h.testBit p.length)
    omega
theorem fl_plx : ∀ (p q : Pl), q.length = p.length → flR (plx p q) = flR p ^^^ flR q
  | [], [], _ => rfl
  | (x, z) :: p, (u, v) :: q, e => by
    simp only [List.length_cons] at e
    have el : q.length = p.length := by omega
    have ih := fl_plx p q el
    have lx : (plx p q).length = p.length := plx_len el
    apply Nat.eq_of_testBit_eq
    intro i
    rw [Nat.testBit_xor]
    show (flR ((x ^^ u, z ^^ v) :: plx p q)).testBit i = _
    rcases Nat.lt_trichotomy i p.length with hi | hi | hi
    · rw [flR_lo _ _ _ (by omega), flR_lo _ _ _ hi, flR_lo _ _ _ (by omega), ih, Nat.testBit_xor]
    · subst hi
      rw [flR_hi, ← el, flR_hi, el, ← lx, flR_hi]
    · have b1 := flR_lt ((x ^^ u, z ^^ v) :: plx p q)
      have b2 := flR_lt ((x, z) :: p)
      have b3 := flR_lt ((u, v) :: q)
      have up : ∀ {f m : Nat}, f < 2 ^ m → m ≤ i → f.testBit i = false := fun hf hm => Nat.testBit_lt_two_pow (Nat.lt_of_lt_of_le hf (Nat.pow_le_pow_right (by decide) hm))
      simp only [List.length_cons] at b1 b2 b3
      rw [up b1 (by omega), up b2 (by omega), up b3 (by omega)]
      rfl
theorem qs_om : ∀ (p q : Pl), qs p q % 2 = bi (om p q)
  | [], _ => by simp [qs, om, bi]
  | a :: p, [] => by simp [qs, om, bi]
  | a :: p, b :: q => by
    have ih := qs_om p q
    show (qw a b + qs p q) % 2 = bi (omw a b ^^ om p q)
    have key : ∀ x z u v : Bool, qw (x, z) (u, v) % 2 = bi (omw (x, z) (u, v)) := by decide
    have k := key a.1 a.2 b.1 b.2
    have e : ∀ s t : Bool, (bi s + bi t) % 2 = bi (s ^^ t) := by decide
    have := e (omw a b) (om p q)
    have k2 : qw a b % 2 = bi (omw a b) := k
    omega
/-- one row behind the other is the product, but for a quarter where they don't go together -/
theorem act_act {n : Nat} {r s : Row} {zs : List Amp} (hr : r.p.length = n) (hs : s.p.length = n) (h : Ln n zs) : act r (act s zs) = (act (mul r s) zs).map (rI (2 * bi (om r.p s.p))) := by
  have hl : s.p.length = r.p.length := by omega
  refine ln_ext (act_ln (act_ln h)) (map_ln (act_ln h)) fun j hj => ?_
  have hj2 := fl_in hr hj
  rw [act_at (by rw [act_len, h]; exact hj), act_at (by rw [h]; exact hj2), ampAt_map (by rw [act_len, h]; exact hj), act_at (by rw [h]; exact hj), rI_add, rI_add]
  have ef : j ^^^ flR (mul r s).p = j ^^^ flR r.p ^^^ flR s.p := by
    show j ^^^ flR (plx r.p s.p) = _
    rw [fl_plx _ _ hl, Nat.xor_assoc]
  rw [ef]
  apply rI_cong
  have e2 : j ^^^ flR r.p = (j ^^^ flR r.p ^^^ flR s.p) ^^^ flR s.p := by
    rw [Nat.xor_assoc (j ^^^ flR r.p), Nat.xor_self, Nat.xor_zero]
  have t := tn_two r.p s.p (j ^^^ flR r.p ^^^ flR s.p) hl
  rw [← e2] at t
  have q := qs_om r.p s.p
  unfold ph
  show (4 * bi r.t + tnR r.p (j ^^^ flR r.p) + (4 * bi s.t + tnR s.p (j ^^^ flR r.p ^^^ flR s.p))) % 8 = (2 * bi (om r.p s.p) + (4 * bi (decide (quar r s % 4 / 2 = 1)) + tnR (plx r.p s.p) (j ^^^ flR r.p ^^^ flR s.p))) % 8
  have eq : quar r s = 2 * (bi r.t + bi s.t) + qs r.p s.p := rfl
  have ed : bi (decide (quar r s % 4 / 2 = 1)) = quar r s % 4 / 2 := by
    unfold bi
    by_cases hc : quar r s % 4 / 2 = 1
    · rw [hc]; rfl
    · rw [if_neg (by simpa using hc)]
      omega
  rw [ed]
  have rt := bi_range (om r.p s.p)
  omega
theorem act_act0 {n : Nat} {r s : Row} {zs : List Amp} (hr : r.p.length = n) (hs : s.p.length = n) (h : Ln n zs) (c : om r.p s.p = false) : act r (act s zs) = act (mul r s) zs := by
  rw [act_act hr hs h, c]
  show (act (mul r s) zs).map (rI 0) = _
  rw [show rI 0 = id from funext rI_zero, List.map_id]
end Bw
/-! M2: spans of rows, clearing, reducing. -/
namespace Bw
def nulP (n : Nat) : Pl := List.replicate n (false, false)
theorem nulP_len (n : Nat) : (nulP n).length = n := List.length_replicate
theorem xw_comm (a b : Bool × Bool) : xw a b = xw b a := by simp [xw, Bool.xor_comm]
theorem xw_assoc (a b c : Bool × Bool) : xw (xw a b) c = xw a (xw b c) := by simp [xw, Bool.xor_assoc]
theorem plx_comm : ∀ p q : Pl, plx p q = plx q p
  | [], [] => rfl
  | [], _ :: _ => rfl
  | _ :: _, [] => rfl
  | a :: p, b :: q => by simp only [plx]; rw [xw_comm, plx_comm p q]
theorem plx_assoc : ∀ p q r : Pl, plx (plx p q) r = plx p (plx q r)
  | [], _, _ => rfl
  | _ :: _, [], _ => rfl
  | _ :: _, _ :: _, [] => rfl
  | a :: p, b :: q, c :: r => by simp only [plx]; rw [xw_assoc, plx_assoc p q r]
theorem plx_self : ∀ p : Pl, plx p p = nulP p.length
  | [] => rfl
  | a :: p => by
    simp only [plx, List.length_cons]
    rw [plx_self p]
    simp [xw, nulP, List.replicate_succ]
theorem nul_plx : ∀ (p : Pl), plx (nulP p.length) p = p
  | [] => rfl
  | a :: p => by
    have ih := nul_plx p
    unfold nulP at *
    simp only [List.length_cons, List.replicate_succ, plx]
    rw [ih]
    simp [xw]
theorem nul_plx' {n : Nat} {p : Pl} (h : p.length = n) : plx (nulP n) p = p := by subst h; exact nul_plx p
theorem plx_nul {n : Nat} {p : Pl} (h : p.length = n) : plx p (nulP n) = p := by rw [plx_comm, nul_plx' h]
theorem plx_self' {n : Nat} {p : Pl} (h : p.length = n) : plx p p = nulP n := by subst h; exact plx_self p
theorem plx_ln {n : Nat} {p q : Pl} (h : p.length = n) (h2 : q.length = n) : (plx p q).length = n := by rw [plx_len (by omega), h]
theorem plx_back {n : Nat} {p q : Pl} (h : p.length = n) (h2 : q.length = n) : plx p (plx p q) = q := by rw [← plx_assoc, plx_self' h, nul_plx' h2]
theorem plx_swap (p q r : Pl) : plx p (plx q r) = plx q (plx p r) := by rw [← plx_assoc, plx_comm p q, plx_assoc]
/-! going together -/
theorem omw_comm (a b : Bool × Bool) : omw a b = omw b a := by
  obtain ⟨x, z⟩ := a; obtain ⟨u, v⟩ := b; cases x <;> cases z <;> cases u <;> cases v <;> rfl
theorem omw_add (a b c : Bool × Bool) : omw (xw a b) c = (omw a c ^^ omw b c) := by
  obtain ⟨x, z⟩ := a; obtain ⟨u, v⟩ := b; obtain ⟨s, t⟩ := c; cases x <;> cases z <;> cases u <;> cases v <;> cases s <;> cases t <;> rfl
theorem om_comm : ∀ p q : Pl, om p q = om q p
  | [], [] => rfl
  | [], _ :: _ => rfl
  | _ :: _, [] => rfl
  | a :: p, b :: q => by simp only [om]; rw [omw_comm, om_comm p q]
theorem om_self : ∀ p : Pl, om p p = false
  | [] => rfl
  | (x, z) :: p => by simp only [om]; rw [om_self p]; cases x <;> cases z <;> rfl
theorem om_add : ∀ {p q r : Pl}, q.length = p.length → r.length = p.length → om (plx p q) r = (om p r ^^ om q r)
  | [], [], [], _, _ => rfl
  | a :: p, b :: q, c :: r, h, k => by
    simp only [List.length_cons] at h k
    simp only [plx, om]
    rw [omw_add, om_add (by omega) (by omega)]
    cases omw a c <;> cases omw b c <;> cases om p r <;> cases om q r <;> rfl
theorem om_add' {n : Nat} {p q r : Pl} (h : p.length = n) (h2 : q.length = n) (h3 : r.length = n) : om (plx p q) r = (om p r ^^ om q r) := om_add (by omega) (by omega)
theorem om_addr {n : Nat} {p q r : Pl} (h : p.length = n) (h2 : q.length = n) (h3 : r.length = n) : om r (plx p q) = (om r p ^^ om r q) := by
  rw [om_comm, om_add' h h2 h3, om_comm p, om_comm q]
theorem om_nul {n : Nat} {p : Pl} (h : p.length = n) : om (nulP n) p = false := by
  rw [← plx_self' h, om_add' h h h, om_self]
  rfl
/-! spans -/
def Sp (n : Nat) : List Pl → Pl → Prop
  | [], p => p = nulP n
  | r :: rs, p => Sp n rs p ∨ Sp n rs (plx r p)
def InP (n : Nat) : List Pl → Prop
  | [] => True
  | r :: rs => ¬ Sp n rs r ∧ InP n rs
def AllP (n : Nat) (rs : List Pl) : Prop := ∀ r ∈ rs, r.length = n
theorem AllP.tail {n : Nat} {r : Pl} {rs : List Pl} (h : AllP n (r :: rs)) : AllP n rs := fun s hs => h s (List.mem_cons_of_mem _ hs)
theorem AllP.head {n : Nat} {r : Pl} {rs : List Pl} (h : AllP n (r :: rs)) : r.length = n := h r (List.mem_cons_self ..)
theorem sp_nul {n : Nat} : ∀ rs : List Pl, Sp n rs (nulP n)
  | [] => rfl
  | r :: rs => .inl (sp_nul rs)
theorem sp_swap {n : Nat} (a b : Pl) (rs : List Pl) (p : Pl) : Sp n (a :: b :: rs) p ↔ Sp n (b :: a :: rs) p := by
  simp only [Sp]
  rw [plx_swap b a p]
  constructor <;> rintro ((h | h) | (h | h)) <;> simp [h]
theorem sp_perm {n : Nat} {rs ss : List Pl} (h : rs.Perm ss) : ∀ p, Sp n rs p ↔ Sp n ss p := by
  induction h with
  | nil => exact fun _ => Iff.rfl
  | cons x _ ih => exact fun p => by simp only [Sp]; rw [ih, ih]
  | swap x y l => exact fun p => sp_swap ..
  | trans _ _ i1 i2 => exact fun p => (i1 p).trans (i2 p)
theorem in_perm {n : Nat} {rs ss : List Pl} (h : rs.Perm ss) : InP n rs ↔ InP n ss := by
  induction h with
  | nil => exact Iff.rfl
  | @cons x l1 l2 hp ih => simp only [InP]; rw [ih, sp_perm hp]
  | swap x y l => simp only [InP, Sp]; rw [plx_comm y x]; constructor <;> (rintro ⟨h1, h2, h3⟩; simp only [not_or] at h1 ⊢; exact ⟨⟨h2, h1.2⟩, h1.1, h3⟩)
  | trans _ _ i1 i2 => exact i1.trans i2
theorem sp_head {n : Nat} {f : Pl} {rs : List Pl} (hf : f.length = n) {p : Pl} (hp : p.length = n) : Sp n (f :: rs) (plx f p) ↔ Sp n (f :: rs) p := by
  simp only [Sp]
  rw [plx_back hf hp]
  exact or_comm
theorem sp_len {n : Nat} : ∀ {rs : List Pl} {p : Pl}, AllP n rs → p.length = n → True := fun _ _ => trivial
/-- a row mixed into others -/
theorem sp_mix {n : Nat} {f : Pl} {g : Pl → Pl} (hf : f.length = n) : ∀ {M : List Pl}, AllP n M → (∀ m ∈ M, g m = m ∨ g m = plx f m) → ∀ p, p.length = n → (Sp n (f :: M.map g) p ↔ Sp n (f :: M) p)
  | [], _, _, p, _ => Iff.rfl
  | m :: M, h, hg, p, hp => by
    have hm := h.head
    have ih := sp_mix hf (M := M) (g := g) h.tail fun m hm => hg m (List.mem_cons_of_mem _ hm)
    rw [List.map_cons, sp_swap, sp_swap f m]
    show (Sp n (f :: M.map g) p ∨ Sp n (f :: M.map g) (plx (g m) p)) ↔ (Sp n (f :: M) p ∨ Sp n (f :: M) (plx m p))
    rcases hg m (List.mem_cons_self ..) with e | e
    · rw [e, ih p hp, ih _ (plx_ln hm hp)]
    · rw [e, plx_assoc, sp_head hf (plx_ln hm hp), ih p hp, ih _ (plx_ln hm hp)]
theorem in_mix {n : Nat} {f : Pl} {g : Pl → Pl} (hf : f.length = n) : ∀ {M : List Pl}, AllP n M → (∀ m ∈ M, g m = m ∨ g m = plx f m) → (InP n (f :: M.map g) ↔ InP n (f :: M))
  | [], _, _ => Iff.rfl
  | m :: M, h, hg => by
    have hm := h.head
    have hg2 : ∀ m ∈ M, g m = m ∨ g m = plx f m := fun m hm => hg m (List.mem_cons_of_mem _ hm)
    have ih := in_mix hf (M := M) (g := g) h.tail hg2
    rw [List.map_cons, in_perm (List.Perm.swap (g m) f (M.map g)), in_perm (List.Perm.swap m f M)]
    show (¬ Sp n (f :: M.map g) (g m) ∧ InP n (f :: M.map g)) ↔ (¬ Sp n (f :: M) m ∧ InP n (f :: M))
    rw [ih]
    rcases hg m (List.mem_cons_self ..) with e | e
    · rw [e, sp_mix hf h.tail hg2 m hm]
    · rw [e, sp_head hf hm, sp_mix hf h.tail hg2 m hm]
theorem in_sub {n : Nat} {rs : List Pl} : ∀ {ss : List Pl}, InP n (rs ++ ss) → InP n ss := by
  induction rs with
  | nil => exact fun h => h
  | cons r rs ih => exact fun h => ih h.2
theorem sp_mono {n : Nat} {r : Pl} {rs : List Pl} {p : Pl} (h : Sp n rs p) : Sp n (r :: rs) p := .inl h
theorem sp_app {n : Nat} {ss : List Pl} {p : Pl} (h : Sp n ss p) : ∀ rs, Sp n (rs ++ ss) p
  | [] => h
  | r :: rs => .inl (sp_app h rs)
theorem in_take {n k : Nat} {rs : List Pl} (h : InP n rs) : InP n (rs.take k) := by
  have e : InP n (rs.drop k ++ rs.take k) := by
    refine (in_perm ?_).mp h
    conv => lhs; rw [← List.take_append_drop k rs]
    exact List.perm_append_comm
  exact in_sub e
/-- a span's sums stay inside -/
theorem sp_add {n : Nat} : ∀ {rs : List Pl}, AllP n rs → ∀ {p q : Pl}, p.length = n → q.length = n → Sp n rs p → Sp n rs q → Sp n rs (plx p q)
  | [], _, p, q, hp, hq, h1, h2 => by
    simp only [Sp] at *
    rw [h1, h2, plx_self' (nulP_len n)]
  | r :: rs, hr, p, q, hp, hq, h1, h2 => by
    have hr0 := hr.head
    simp only [Sp] at *
    rcases h1 with h1 | h1 <;> rcases h2 with h2 | h2
    · exact .inl (sp_add hr.tail hp hq h1 h2)
    · refine .inr ?_
      rw [plx_swap]
      exact sp_add hr.tail hp (plx_ln hr0 hq) h1 h2
    · refine .inr ?_
      rw [← plx_assoc]
      exact sp_add hr.tail (plx_ln hr0 hp) hq h1 h2
    · refine .inl ?_
      have := sp_add hr.tail (plx_ln hr0 hp) (plx_ln hr0 hq) h1 h2
      rwa [plx_assoc, plx_swap p r q, plx_back hr0 (plx_ln hp hq)] at this
theorem sp_mem {n : Nat} : ∀ {rs : List Pl}, AllP n rs → ∀ {p : Pl}, p ∈ rs → Sp n rs p
  | r :: rs, h, p, hp => by
    rcases List.mem_cons.mp hp with e | e
    · subst e
      refine .inr ?_
      rw [plx_self' h.head]
      exact sp_nul rs
    · exact .inl (sp_mem h.tail e)
/-- what goes with all rows goes with their span -/
theorem om_sp {n : Nat} {q : Pl} (hq : q.length = n) : ∀ {rs : List Pl}, AllP n rs → (∀ r ∈ rs, om r q = false) → ∀ {p : Pl}, p.length = n → Sp n rs p → om p q = false
  | [], _, _, p, _, h => by
    rw [show p = nulP n from h]
    exact om_nul hq
  | r :: rs, ha, hc, p, hp, h => by
    rcases h with h | h
    · exact om_sp hq ha.tail (fun s hs => hc s (List.mem_cons_of_mem _ hs)) hp h
    · have := om_sp hq ha.tail (fun s hs => hc s (List.mem_cons_of_mem _ hs)) (plx_ln ha.head hp) h
      rw [om_add' ha.head hp hq, hc r (List.mem_cons_self ..)] at this
      simpa using this
/-! the law's group -/
def grStep (found : List Row) (r : Row) : List Row := found ++ found.map (mul r)
def grR (n : Nat) (rows : List Row) : List Row := rows.foldl grStep [nullR n]
def plS (rs : List Row) : List Pl := rs.map (·.p)
theorem ps_all {n : Nat} {rs : List Row} (h : AllN n rs) : AllP n (plS rs) := fun p hp => by
  obtain ⟨r, hr, rfl⟩ := List.mem_map.mp hp
  exact h r hr
theorem gr_acc {n : Nat} : ∀ (rows : List Row) {acc : List Row}, AllN n rows → AllN n acc → AllN n (rows.foldl grStep acc) ∧ ∀ p, p.length = n → ((∃ g ∈ rows.foldl grStep acc, g.p = p) ↔ ∃ q ∈ acc, Sp n (plS rows) (plx q.p p))
  | [], acc, _, ha => ⟨ha, fun p hp => by
    constructor
    · rintro ⟨g, hg, rfl⟩
      exact ⟨g, hg, plx_self' (ha g hg)⟩
    · rintro ⟨q, hq, e⟩
      refine ⟨q, hq, ?_⟩
      have e2 : plx q.p p = nulP n := e
      have := plx_back (ha q hq) hp
      rw [e2, plx_nul (ha q hq)] at this
      exact this⟩
  | r :: rows, acc, h, ha => by
    have hr : r.p.length = n := h r (List.mem_cons_self ..)
    have h2 : AllN n rows := fun s hs => h s (List.mem_cons_of_mem _ hs)
    have ha2 : AllN n (grStep acc r) := fun g hg => by
      rcases List.mem_append.mp hg with hg | hg
      · exact ha g hg
      · obtain ⟨s, hs, rfl⟩ := List.mem_map.mp hg
        exact mul_len hr (ha s hs)
    obtain ⟨i1, i2⟩ := gr_acc rows h2 ha2
    refine ⟨i1, fun p hp => (i2 p hp).trans ?_⟩
    constructor
    · rintro ⟨q, hq, e⟩
      rcases List.mem_append.mp hq with hq | hq
      · exact ⟨q, hq, .inl e⟩
      · obtain ⟨s, hs, rfl⟩ := List.mem_map.mp hq
        refine ⟨s, hs, .inr ?_⟩
        have e2 : Sp n (plS rows) (plx (plx r.p s.p) p) := e
        rwa [plx_assoc] at e2
    · rintro ⟨q, hq, e | e⟩
      · exact ⟨q, List.mem_append_left _ hq, e⟩
      · refine ⟨mul r q, List.mem_append_right _ (List.mem_map_of_mem hq), ?_⟩
        show Sp n (plS rows) (plx (plx r.p q.p) p)
        rwa [plx_assoc]
theorem gr_mem {n : Nat} {rows : List Row} (h : AllN n rows) {p : Pl} (hp : p.length = n) : (∃ g ∈ grR n rows, g.p = p) ↔ Sp n (plS rows) p := by
  refine ((gr_acc rows h (acc := [nullR n]) fun g hg => ?_).2 p hp).trans ?_
  · rw [List.mem_singleton.mp hg]
    exact nulP_len n
  · constructor
    · rintro ⟨q, hq, e⟩
      rw [List.mem_singleton.mp hq] at e
      rwa [show (nullR n).p = nulP n from rfl, nul_plx' hp] at e
    · intro e
      refine ⟨nullR n, List.mem_singleton.mpr rfl, ?_⟩
      rwa [show (nullR n).p = nulP n from rfl, nul_plx' hp]
end Bw
/-! M3: clearing and reducing, what they keep. -/
namespace Bw
def Bd (p : Pl) (k : Nat) : Bool := (p.map (·.1) ++ p.map (·.2))[k]?.getD false
theorem bitB_eq (r : Row) (k : Nat) : bitB r k = Bd r.p k := rfl
theorem Bd_lo {n k : Nat} {p : Pl} (hp : p.length = n) (h : k < n) : Bd p k = (plAt p k).1 := by
  unfold Bd
  rw [List.getElem?_append_left (by simp; omega), List.getElem?_map, plAt_get (by omega)]
  rfl
theorem Bd_hi {n k : Nat} {p : Pl} (hp : p.length = n) (h : k < n) : Bd p (n + k) = (plAt p k).2 := by
  unfold Bd
  rw [List.getElem?_append_right (by simp; omega)]
  rw [show n + k - (p.map (·.1)).length = k by simp; omega, List.getElem?_map, plAt_get (by omega)]
  rfl
theorem Bd_out {n k : Nat} {p : Pl} (hp : p.length = n) (h : 2 * n ≤ k) : Bd p k = false := by
  unfold Bd
  rw [List.getElem?_eq_none (by simp; omega)]
  rfl
theorem plAt_plx {n i : Nat} {p q : Pl} (hp : p.length = n) (hq : q.length = n) (h : i < n) : plAt (plx p q) i = xw (plAt p i) (plAt q i) := by
  show (plx p q)[i]?.getD _ = _
  rw [plx_get (by omega) (by omega)]
  rfl
theorem Bd_plx {n : Nat} {p q : Pl} (hp : p.length = n) (hq : q.length = n) (k : Nat) : Bd (plx p q) k = (Bd p k ^^ Bd q k) := by
  have hl := plx_ln hp hq
  by_cases h : k < n
  · rw [Bd_lo hl h, Bd_lo hp h, Bd_lo hq h, plAt_plx hp hq h]
    rfl
  · by_cases h2 : k < 2 * n
    · obtain ⟨m, rfl⟩ : ∃ m, k = n + m := ⟨k - n, by omega⟩
      have hm : m < n := by omega
      rw [Bd_hi hl hm, Bd_hi hp hm, Bd_hi hq hm, plAt_plx hp hq hm]
      rfl
    · rw [Bd_out hl (by omega), Bd_out hp (by omega), Bd_out hq (by omega)]
      rfl
theorem Bd_nul {n : Nat} (k : Nat) : Bd (nulP n) k = false := by
  have h := plx_self' (nulP_len n)
  have := Bd_plx (nulP_len n) (nulP_len n) k
  rw [h] at this
  cases hb : Bd (nulP n) k
  · rfl
  · rw [hb] at this
    exact this
theorem pl_eq {n : Nat} {p q : Pl} (hp : p.length = n) (hq : q.length = n) (h : ∀ k, k < 2 * n → Bd p k = Bd q k) : p = q := by
  refine List.ext_getElem (by omega) fun i h1 h2 => ?_
  have e1 := h i (by omega)
  have e2 := h (n + i) (by omega)
  rw [Bd_lo hp (by omega), Bd_lo hq (by omega)] at e1
  rw [Bd_hi hp (by omega), Bd_hi hq (by omega)] at e2
  have g1 := plAt_get (p := p) (i := i) (by omega)
  have g2 := plAt_get (p := q) (i := i) (by omega)
  rw [List.getElem?_eq_getElem (by omega)] at g1 g2
  rw [Option.some.inj g1, Option.some.inj g2]
  exact Prod.ext e1 e2
theorem bi_one (b : Bool) : (bi b == 1) = b := by cases b <;> rfl
theorem one_mem (r : Row) : (1 : Int) ∈ bitsI r ↔ ∃ k, k < 2 * r.p.length ∧ bitB r k = true := by
  rw [bitsI_eq]
  have hl : (r.xs ++ r.zs).length = 2 * r.p.length := by simp [Row.xs, Row.zs]; omega
  constructor
  · intro h
    obtain ⟨b, hb, e⟩ := List.mem_map.mp h
    have : b = true := by cases b; · exact absurd e (by decide)
                          · rfl
    subst this
    obtain ⟨k, hk, e⟩ := List.getElem_of_mem hb
    refine ⟨k, by omega, ?_⟩
    unfold bitB
    rw [List.getElem?_eq_getElem hk, e]
    rfl
  · rintro ⟨k, hk, e⟩
    unfold bitB at e
    rw [List.getElem?_eq_getElem (by omega)] at e
    exact List.mem_map.mpr ⟨true, by rw [← show (r.xs ++ r.zs)[k] = true from e]; exact List.getElem_mem _, rfl⟩
theorem lead_of {r : Row} {k : Nat} (hk : k < 2 * r.p.length) (h : bitB r k = true) (h2 : ∀ m, m < k → bitB r m = false) : leadI r = k := by
  unfold leadI
  rw [bitsI_eq]
  have hl : (r.xs ++ r.zs).length = 2 * r.p.length := by simp [Row.xs, Row.zs]; omega
  have key : ∀ (l : List Bool) (k : Nat), k < l.length → l[k]?.getD false = true → (∀ m, m < k → l[m]?.getD false = false) → (l.map bi).idxOf 1 = k := by
    intro l
    induction l with
    | nil => intro k hk; simp at hk
    | cons b l ih =>
      intro k hk h h2
      rw [List.map_cons, List.idxOf_cons]
      cases k with
      | zero =>
        have : b = true := h
        subst this
        rfl
      | succ k =>
        have hb : b = false := h2 0 (by omega)
        subst hb
        show cond false 0 _ = _
        simp only [cond_false]
        rw [ih k (by simpa using hk) (by simpa using h) fun m hm => by have := h2 (m + 1) (by omega); simpa using this]
  exact key _ k (by omega) h h2
/-- what clearing keeps -/
structure ClI (n : Nat) (rs : List Row) (k : Nat) (L F : List Row) : Prop where
  al : AllN n L
  af : AllN n F
  sp : ∀ p, p.length = n → (Sp n (plS (L ++ F)) p ↔ Sp n (plS rs) p)
  ind : InP n (plS (L ++ F)) ↔ InP n (plS rs)
  len : L.length + F.length = rs.length
  low : ∀ r ∈ L, ∀ m, m < k → bitB r m = false
  lead : ∀ r ∈ F, leadI r < k ∧ bitB r (leadI r) = true ∧ ∀ m, m < leadI r → bitB r m = false
  alone : F.Pairwise fun r s => bitB s (leadI r) = false ∧ bitB r (leadI s) = false
  fix : (∀ r ∈ rs, ∀ s ∈ rs, om r.p s.p = false) → (∀ r ∈ L ++ F, ∀ s ∈ L ++ F, om r.p s.p = false) ∧ ∀ z, Ln n z → (∀ r ∈ rs, act r z = z) → ∀ r ∈ L ++ F, act r z = z
def mixP (k : Nat) (f p : Pl) : Pl := if Bd p k = true then plx f p else p
theorem mixR_p (k : Nat) (f r : Row) : (mixR k f r).p = mixP k f.p r.p := by
  unfold mixR mixP
  rw [bitB_eq]
  split <;> rfl
theorem ps_mix (k : Nat) (f : Row) (M : List Row) : plS (M.map (mixR k f)) = (plS M).map (mixP k f.p) := by
  unfold plS
  rw [List.map_map, List.map_map]
  exact List.map_congr_left fun r _ => mixR_p k f r
theorem mixP_or (k : Nat) (f p : Pl) : mixP k f p = p ∨ mixP k f p = plx f p := by
  unfold mixP
  split
  · exact .inr rfl
  · exact .inl rfl
theorem mixR_bit {n k : Nat} {f r : Row} (hf : f.p.length = n) (hr : r.p.length = n) (m : Nat) : bitB (mixR k f r) m = (bitB r m ^^ (bitB r k && bitB f m)) := by
  unfold mixR
  split
  · next h =>
    rw [h, bitB_eq]
    show Bd (plx f.p r.p) m = _
    rw [Bd_plx hf hr, Bool.true_and, Bool.xor_comm]
    rfl
  · next h =>
    have : bitB r k = false := by simpa using h
    rw [this]
    simp
theorem ers_perm {α : Type} {x : α} : ∀ {l : List α} {i : Nat}, l[i]? = some x → (x :: l.eraseIdx i).Perm l
  | [], i, h => by simp at h
  | a :: l, 0, h => by
    have : a = x := by simpa using h
    subst this
    exact List.Perm.refl _
  | a :: l, i + 1, h => (List.Perm.swap a x _).trans ((ers_perm (l := l) (i := i) (by simpa using h)).cons a)
theorem cl_step {n k : Nat} {rs L F : List Row} (hk : k < 2 * n) (I : ClI n rs k L F) : ClI n rs (k + 1) (clStep k (L, F)).1 (clStep k (L, F)).2 := by
  unfold clStep
  cases h : L.find? (fun r => bitB r k) with
  | none =>
    refine ⟨I.al, I.af, I.sp, I.ind, I.len, fun r hr m hm => ?_, fun r hr => ⟨by have := (I.lead r hr).1; omega, (I.lead r hr).2⟩, I.alone, I.fix⟩
    by_cases e : m = k
    · subst e
      have := List.find?_eq_none.mp h r hr
      simpa using this
    · exact I.low r hr m (by omega)
  | some f =>
    show ClI n rs (k + 1) ((L.eraseIdx (L.findIdx fun r => bitB r k)).map (mixR k f)) (F.map (mixR k f) ++ [f])
    obtain ⟨h1, h2, h3, h4⟩ := find_facts h
    have hi : L.findIdx (fun r => bitB r k) < L.length := (List.getElem?_eq_some_iff.mp h1).1
    have hf0 : f ∈ L := List.mem_of_find?_eq_some h
    have hf := I.al f hf0
    have pm : L.Perm (f :: L.eraseIdx (L.findIdx fun r => bitB r k)) := by
      have := ers_perm h1
      exact this.symm
    generalize hE : L.eraseIdx (L.findIdx fun r => bitB r k) = E at pm
    have aE : AllN n E := fun r hr => I.al r (pm.mem_iff.mpr (List.mem_cons_of_mem _ hr))
    have aM : AllN n (E ++ F) := fun r hr => by
      rcases List.mem_append.mp hr with hr | hr
      · exact aE r hr
      · exact I.af r hr
    have p1 : (L ++ F).Perm (f :: (E ++ F)) := (pm.append_right F)
    have p2 : (E.map (mixR k f) ++ (F.map (mixR k f) ++ [f])).Perm (f :: (E ++ F).map (mixR k f)) := by
      rw [← List.append_assoc, ← List.map_append]
      exact List.perm_append_comm
    have q1 : (plS (L ++ F)).Perm (f.p :: plS (E ++ F)) := p1.map _
    have q2 : (plS (E.map (mixR k f) ++ (F.map (mixR k f) ++ [f]))).Perm (f.p :: (plS (E ++ F)).map (mixP k f.p)) := by
      rw [← ps_mix]
      exact p2.map _
    have fl : ∀ m, m < k → bitB f m = false := fun m hm => I.low f hf0 m hm
    have ld : ∀ r ∈ F, leadI (mixR k f r) = leadI r := fun r hr => by
      obtain ⟨l1, l2, l3⟩ := I.lead r hr
      refine lead_of ?_ ?_ ?_
      · rw [mixR_len hf (I.af r hr)]; omega
      · rw [mixR_bit hf (I.af r hr), fl _ l1, l2]
        simp
      · intro m hm
        rw [mixR_bit hf (I.af r hr), fl _ (by omega), l3 m hm]
        simp
    have lf : leadI f = k := lead_of (by rw [hf]; exact hk) h4 fl
    refine ⟨?_, ?_, fun p hp => ?_, ?_, ?_, ?_, ?_, ?_, fun hc => ?_⟩
    · intro r hr
      obtain ⟨s, hs, rfl⟩ := List.mem_map.mp hr
      exact mixR_len hf (aE s hs)
    · intro r hr
      rcases List.mem_append.mp hr with hr | hr
      · obtain ⟨s, hs, rfl⟩ := List.mem_map.mp hr
        exact mixR_len hf (I.af s hs)
      · rw [List.mem_singleton.mp hr]; exact hf
    · rw [sp_perm q2, sp_mix hf (ps_all aM) (fun m _ => mixP_or k f.p m) p hp, ← sp_perm q1, I.sp p hp]
    · rw [in_perm q2, in_mix hf (ps_all aM) (fun m _ => mixP_or k f.p m), ← in_perm q1, I.ind]
    · have := pm.length_eq
      have := I.len
      simp only [List.length_map, List.length_append, List.length_cons, List.length_nil] at *
      omega
    · intro r hr m hm
      obtain ⟨s, hs, rfl⟩ := List.mem_map.mp hr
      rw [mixR_bit hf (aE s hs)]
      have sL : s ∈ L := pm.mem_iff.mpr (List.mem_cons_of_mem _ hs)
      by_cases e : m = k
      · subst e
        rw [h4]
        simp
      · rw [I.low s sL m (by omega), fl m (by omega)]
        simp
    · intro r hr
      rcases List.mem_append.mp hr with hr | hr
      · obtain ⟨s, hs, rfl⟩ := List.mem_map.mp hr
        obtain ⟨l1, l2, l3⟩ := I.lead s hs
        rw [ld s hs]
        refine ⟨by omega, ?_, fun m hm => ?_⟩
        · rw [mixR_bit hf (I.af s hs), fl _ l1, l2]; simp
        · rw [mixR_bit hf (I.af s hs), fl _ (by omega), l3 m hm]; simp
      · rw [List.mem_singleton.mp hr, lf]
        exact ⟨by omega, h4, fl⟩
    · rw [List.pairwise_append]
      refine ⟨?_, List.pairwise_singleton .., fun r hr s hs => ?_⟩
      · rw [List.pairwise_map]
        refine I.alone.imp_of_mem fun {r s} hr hs hrs => ?_
        rw [ld r hr, ld s hs, mixR_bit hf (I.af s hs), mixR_bit hf (I.af r hr), fl _ (I.lead r hr).1, fl _ (I.lead s hs).1, hrs.1, hrs.2]
        simp
      · obtain ⟨s', hs', rfl⟩ := List.mem_map.mp hr
        rw [List.mem_singleton.mp hs, ld s' hs', lf, mixR_bit hf (I.af s' hs'), h4]
        exact ⟨fl _ (I.lead s' hs').1, by simp⟩
    · obtain ⟨c1, c2⟩ := I.fix hc
      have mem : ∀ r, r ∈ E.map (mixR k f) ++ (F.map (mixR k f) ++ [f]) → ∃ s, s ∈ L ++ F ∧ (r = s ∨ r = mul f s) := fun r hr => by
        rcases List.mem_cons.mp (p2.mem_iff.mp hr) with e | e
        · exact ⟨f, List.mem_append_left _ hf0, .inl e⟩
        · obtain ⟨s, hs, rfl⟩ := List.mem_map.mp e
          refine ⟨s, p1.mem_iff.mpr (List.mem_cons_of_mem _ hs), ?_⟩
          unfold mixR
          split
          · exact .inr rfl
          · exact .inl rfl
      have fm : f ∈ L ++ F := List.mem_append_left _ hf0
      have aA : AllN n (L ++ F) := fun r hr => by
        rcases List.mem_append.mp hr with hr | hr
        · exact I.al r hr
        · exact I.af r hr
      refine ⟨fun r hr s hs => ?_, fun z hz hfix r hr => ?_⟩
      · obtain ⟨r', hr', er⟩ := mem r hr
        obtain ⟨s', hs', es⟩ := mem s hs
        have a0 := c1 r' hr' s' hs'
        have a1 := c1 f fm s' hs'
        have a2 := c1 r' hr' f fm
        have lr := aA r' hr'
        have ls := aA s' hs'
        have t1 : ∀ x : Pl, x.length = n → om r'.p x = false → om f.p x = false → om r.p x = false := fun x hx u v => by
          rcases er with e | e
          · rw [e]; exact u
          · rw [e]
            show om (plx f.p r'.p) x = false
            rw [om_add' hf lr hx, u, v]
            rfl
        rcases es with e | e
        · rw [e]; exact t1 _ ls a0 a1
        · rw [e]
          refine t1 _ (plx_ln hf ls) ?_ ?_
          · show om r'.p (plx f.p s'.p) = false
            rw [om_addr hf ls lr, a0, a2]
            rfl
          · show om f.p (plx f.p s'.p) = false
            rw [om_addr hf ls hf, om_self, a1]
            rfl
      · obtain ⟨s, hs, e⟩ := mem r hr
        have z1 := c2 z hz hfix s hs
        have z2 := c2 z hz hfix f fm
        rcases e with e | e
        · rw [e]; exact z1
        · rw [e, ← act_act0 hf (aA s hs) hz (c1 f fm s hs), z1, z2]
theorem cl_all {n : Nat} {rs : List Row} (h : AllN n rs) : ∀ k, k ≤ 2 * n → ClI n rs k (clLoop rs k).1 (clLoop rs k).2
  | 0, _ => by
    refine ⟨h, fun r hr => (by cases hr), fun p _ => ?_, ?_, rfl, fun r _ m hm => (by omega), fun r hr => (by cases hr), List.Pairwise.nil, fun hc => ?_⟩
    · show Sp n (plS (rs ++ [])) p ↔ _
      rw [List.append_nil]
    · show InP n (plS (rs ++ [])) ↔ _
      rw [List.append_nil]
    · have e : (clLoop rs 0).1 ++ (clLoop rs 0).2 = rs := List.append_nil rs
      rw [e]
      exact ⟨hc, fun z _ hf => hf⟩
  | k + 1, hk => cl_step (by omega) (cl_all h k (by omega))
/-- the cleared rows -/
structure KeptI (n : Nat) (rs kept : List Row) : Prop where
  al : AllN n kept
  len : kept.length = rs.length
  sp : ∀ p, p.length = n → (Sp n (plS kept) p ↔ Sp n (plS rs) p)
  lead : ∀ r ∈ kept, leadI r < 2 * n ∧ bitB r (leadI r) = true
  alone : kept.Pairwise fun r s => bitB s (leadI r) = false ∧ bitB r (leadI s) = false
  com : ∀ r ∈ kept, ∀ s ∈ kept, om r.p s.p = false
  fix : ∀ z, Ln n z → (∀ r ∈ rs, act r z = z) → ∀ r ∈ kept, act r z = z
theorem kept_ok {n : Nat} {rs : List Row} (h : AllN n rs) (hi : InP n (plS rs)) (hc : ∀ r ∈ rs, ∀ s ∈ rs, om r.p s.p = false) : KeptI n rs (clearR n rs) := by
  have I := cl_all h (2 * n) (Nat.le_refl _)
  have e : (clLoop rs (2 * n)).1 = [] := by
    cases hL : (clLoop rs (2 * n)).1 with
    | nil => rfl
    | cons r L =>
      exfalso
      have i2 := I.ind.mpr hi
      rw [hL] at i2
      have rl : r.p.length = n := I.al r (by rw [hL]; exact List.mem_cons_self ..)
      have : r.p = nulP n := pl_eq rl (nulP_len n) fun k hk => by
        rw [Bd_nul]
        exact I.low r (by rw [hL]; exact List.mem_cons_self ..) k hk
      have i3 : ¬ Sp n (plS (L ++ (clLoop rs (2 * n)).2)) r.p := i2.1
      rw [this] at i3
      exact i3 (sp_nul _)
  obtain ⟨al, af, sp, ind, len, low, lead, alone, fix⟩ := I
  rw [e] at sp len fix
  exact ⟨af, (by show (clLoop rs (2 * n)).2.length = _; simpa using len), sp, fun r hr => ⟨(lead r hr).1, (lead r hr).2.1⟩, alone, (fix hc).1, (fix hc).2⟩
/-! reducing -/
def redP (p : Pl) (one : Row) : Pl := if Bd p (leadI one) = true then plx one.p p else p
theorem redStep_p (r one : Row) : (redStep r one).p = redP r.p one := by
  unfold redStep redP
  rw [bitB_eq]
  split <;> rfl
theorem redR_p : ∀ (rows : List Row) (r : Row), (redR r rows).p = rows.foldl redP r.p
  | [], _ => rfl
  | one :: rows, r => by
    show (redR (redStep r one) rows).p = rows.foldl redP (redP r.p one)
    rw [redR_p rows, redStep_p]
theorem redP_len {n : Nat} {p : Pl} {one : Row} (h : p.length = n) (h2 : one.p.length = n) : (redP p one).length = n := by
  unfold redP
  split
  · exact plx_ln h2 h
  · exact h
theorem red_sp {n : Nat} : ∀ {rows : List Row} {p : Pl}, AllN n rows → p.length = n → (rows.foldl redP p).length = n ∧ Sp n (plS rows) (plx p (rows.foldl redP p))
  | [], p, _, hp => ⟨hp, plx_self' hp⟩
  | one :: rows, p, h, hp => by
    have h1 : one.p.length = n := h one (List.mem_cons_self ..)
    have h2 : AllN n rows := fun r hr => h r (List.mem_cons_of_mem _ hr)
    obtain ⟨i1, i2⟩ := red_sp (rows := rows) (p := redP p one) h2 (redP_len hp h1)
    refine ⟨i1, ?_⟩
    show Sp n (one.p :: plS rows) (plx p (rows.foldl redP (redP p one)))
    generalize hg : rows.foldl redP (redP p one) = g at i1 i2
    unfold redP at i2
    split at i2
    · rw [plx_assoc] at i2
      exact .inr i2
    · exact .inl i2
theorem red_bits {n : Nat} : ∀ {rows : List Row} {p : Pl}, AllN n rows → p.length = n → (∀ r ∈ rows, bitB r (leadI r) = true) → (rows.Pairwise fun r s => bitB s (leadI r) = false ∧ bitB r (leadI s) = false) → (∀ k, (∀ r ∈ rows, bitB r k = false) → Bd (rows.foldl redP p) k = Bd p k) ∧ ∀ r ∈ rows, Bd (rows.foldl redP p) (leadI r) = false
  | [], p, _, _, _, _ => ⟨fun _ _ => rfl, fun r hr => by cases hr⟩
  | one :: rows, p, h, hp, hl, ha => by
    have h1 : one.p.length = n := h one (List.mem_cons_self ..)
    have h2 : AllN n rows := fun r hr => h r (List.mem_cons_of_mem _ hr)
    have ha2 := List.pairwise_cons.mp ha
    obtain ⟨i1, i2⟩ := red_bits (rows := rows) (p := redP p one) h2 (redP_len hp h1) (fun r hr => hl r (List.mem_cons_of_mem _ hr)) ha2.2
    refine ⟨fun k hk => ?_, fun r hr => ?_⟩
    · show Bd (rows.foldl redP (redP p one)) k = _
      rw [i1 k fun r hr => hk r (List.mem_cons_of_mem _ hr)]
      unfold redP
      split
      · rw [Bd_plx h1 hp]
        have := hk one (List.mem_cons_self ..)
        rw [bitB_eq] at this
        rw [this]
        simp
      · rfl
    · rcases List.mem_cons.mp hr with e | e
      · subst e
        show Bd (rows.foldl redP (redP p r)) (leadI r) = false
        rw [i1 (leadI r) fun s hs => (ha2.1 s hs).1]
        unfold redP
        split
        · next hb =>
          have := hl r (List.mem_cons_self ..)
          rw [bitB_eq] at this
          rw [Bd_plx h1 hp, this, hb]
          rfl
        · next hb => simpa using hb
      · exact i2 r e
/-- in the span, but without any lead: nothing -/
theorem sp_bits {n : Nat} : ∀ {rows : List Row} {p : Pl}, AllN n rows → p.length = n → (∀ r ∈ rows, bitB r (leadI r) = true) → (rows.Pairwise fun r s => bitB s (leadI r) = false ∧ bitB r (leadI s) = false) → Sp n (plS rows) p → (∀ k, (∀ r ∈ rows, bitB r k = false) → Bd p k = false) ∧ ((∀ r ∈ rows, Bd p (leadI r) = false) → p = nulP n)
  | [], p, _, _, _, _, h => by
    rw [show p = nulP n from h]
    exact ⟨fun k _ => Bd_nul k, fun _ => rfl⟩
  | one :: rows, p, h, hp, hl, ha, hs => by
    have h1 : one.p.length = n := h one (List.mem_cons_self ..)
    have h2 : AllN n rows := fun r hr => h r (List.mem_cons_of_mem _ hr)
    have ha2 := List.pairwise_cons.mp ha
    have hl2 : ∀ r ∈ rows, bitB r (leadI r) = true := fun r hr => hl r (List.mem_cons_of_mem _ hr)
    have l1 := hl one (List.mem_cons_self ..)
    rcases hs with hs | hs
    · obtain ⟨i1, i2⟩ := sp_bits (rows := rows) h2 hp hl2 ha2.2 hs
      exact ⟨fun k hk => i1 k fun r hr => hk r (List.mem_cons_of_mem _ hr), fun hk => i2 fun r hr => hk r (List.mem_cons_of_mem _ hr)⟩
    · have hs : Sp n (plS rows) (plx one.p p) := hs
      obtain ⟨i1, i2⟩ := sp_bits (rows := rows) h2 (plx_ln h1 hp) hl2 ha2.2 hs
      refine ⟨fun k hk => ?_, fun hk => ?_⟩
      · have := i1 k fun r hr => hk r (List.mem_cons_of_mem _ hr)
        rw [Bd_plx h1 hp, ← bitB_eq, hk one (List.mem_cons_self ..)] at this
        simpa using this
      · exfalso
        have := i1 (leadI one) fun r hr => (ha2.1 r hr).1
        rw [Bd_plx h1 hp, ← bitB_eq, l1, hk one (List.mem_cons_self ..)] at this
        exact absurd this (by decide)
theorem red_nul {n : Nat} {rs kept : List Row} (K : KeptI n rs kept) {p : Pl} (hp : p.length = n) : kept.foldl redP p = nulP n ↔ Sp n (plS rs) p := by
  obtain ⟨q1, q2⟩ := red_sp (rows := kept) (p := p) K.al hp
  obtain ⟨b1, b2⟩ := red_bits (rows := kept) (p := p) K.al hp (fun r hr => (K.lead r hr).2) K.alone
  constructor
  · intro e
    rw [e, plx_nul hp] at q2
    exact (K.sp p hp).mp q2
  · intro h
    have h2 := (K.sp p hp).mpr h
    have h3 := sp_add (ps_all K.al) hp (plx_ln hp q1) h2 q2
    rw [plx_back hp q1] at h3
    exact (sp_bits K.al q1 (fun r hr => (K.lead r hr).2) K.alone h3).2 b2
theorem same_sp {n : Nat} {rs kept : List Row} (K : KeptI n rs kept) {a b : Row} (ha : a.p.length = n) (hb : b.p.length = n) : sameR kept a b = true ↔ Sp n (plS rs) (plx a.p b.p) := by
  rw [← red_nul K (plx_ln ha hb)]
  have q1 := (red_sp (rows := kept) (p := plx a.p b.p) K.al (plx_ln ha hb)).1
  have e := redR_p kept ⟨false, plx a.p b.p⟩
  generalize hR : redR ⟨false, plx a.p b.p⟩ kept = R at e
  have e : R.p = kept.foldl redP (plx a.p b.p) := e
  have hl : R.p.length = n := by rw [e]; exact q1
  unfold sameR
  rw [hR, ← e]
  constructor
  · intro h
    refine pl_eq hl (nulP_len n) fun k hk => ?_
    rw [Bd_nul]
    cases hb : Bd R.p k with
    | false => rfl
    | true =>
      have : (1 : Int) ∈ bitsI R := (one_mem R).mpr ⟨k, by omega, hb⟩
      have c : (bitsI R).contains 1 = true := List.contains_iff_mem.mpr this
      rw [c] at h
      cases h
  · intro h
    cases hc : (bitsI R).contains 1 with
    | false => rfl
    | true =>
      obtain ⟨k, hk, hb⟩ := (one_mem R).mp (List.contains_iff_mem.mp hc)
      rw [bitB_eq, h, Bd_nul] at hb
      cases hb
end Bw
/-! M4: states that rows leave alone, their signs behind an error, and back. -/
namespace Bw
theorem qs_swap : ∀ (p q : Pl), qs p q % 4 = (qs q p + 2 * bi (om p q)) % 4
  | [], [] => by rfl
  | [], _ :: _ => by rfl
  | _ :: _, [] => by rfl
  | a :: p, b :: q => by
    have ih := qs_swap p q
    show (qw a b + qs p q) % 4 = (qw b a + qs q p + 2 * bi (omw a b ^^ om p q)) % 4
    have key : ∀ x z u v : Bool, qw (x, z) (u, v) % 4 = (qw (u, v) (x, z) + 2 * bi (omw (x, z) (u, v))) % 4 := by decide
    have k : qw a b % 4 = (qw b a + 2 * bi (omw a b)) % 4 := key a.1 a.2 b.1 b.2
    have e : ∀ s t : Bool, (2 * bi s + 2 * bi t) % 4 = (2 * bi (s ^^ t)) % 4 := by decide
    have := e (omw a b) (om p q)
    omega
theorem qs_self : ∀ p : Pl, qs p p % 4 = 0
  | [] => rfl
  | a :: p => by
    have ih := qs_self p
    have key : ∀ x z : Bool, qw (x, z) (x, z) % 4 = 0 := by decide
    have k : qw a a % 4 = 0 := key a.1 a.2
    show (qw a a + qs p p) % 4 = 0
    omega
theorem act_two {n : Nat} {r s : Row} {zs : List Amp} (hr : r.p.length = n) (hs : s.p.length = n) (h : Ln n zs) {j : Nat} (hj : j < 2 ^ n) : ampAt (act r (act s zs)) j = rI (4 * bi r.t + 4 * bi s.t + 2 * qs r.p s.p + tnR (plx r.p s.p) (j ^^^ flR (plx r.p s.p))) (ampAt zs (j ^^^ flR (plx r.p s.p))) := by
  have hl : s.p.length = r.p.length := by omega
  have hj2 := fl_in hr hj
  rw [act_at (by rw [act_len, h]; exact hj), act_at (by rw [h]; exact hj2), rI_add]
  have ef : j ^^^ flR (plx r.p s.p) = j ^^^ flR r.p ^^^ flR s.p := by rw [fl_plx _ _ hl, Nat.xor_assoc]
  rw [ef]
  apply rI_cong
  have e2 : j ^^^ flR r.p = (j ^^^ flR r.p ^^^ flR s.p) ^^^ flR s.p := by rw [Nat.xor_assoc (j ^^^ flR r.p), Nat.xor_self, Nat.xor_zero]
  have t := tn_two r.p s.p (j ^^^ flR r.p ^^^ flR s.p) hl
  rw [← e2] at t
  unfold ph
  omega
theorem act_swap {n : Nat} {r s : Row} {zs : List Amp} (hr : r.p.length = n) (hs : s.p.length = n) (h : Ln n zs) : act r (act s zs) = (act s (act r zs)).map (rI (4 * bi (om r.p s.p))) := by
  refine ln_ext (act_ln (act_ln h)) (map_ln (act_ln (act_ln h))) fun j hj => ?_
  rw [ampAt_map (by rw [act_len, act_len, h]; exact hj), act_two hr hs h hj, act_two hs hr h hj, rI_add, plx_comm s.p r.p]
  apply rI_cong
  have := qs_swap r.p s.p
  omega
theorem act_nul {n : Nat} {b : Bool} {zs : List Amp} (h : Ln n zs) : act ⟨b, nulP n⟩ zs = zs.map (rI (4 * bi b)) := by
  have f0 : ∀ m, flR (nulP m) = 0 := fun m => by
    induction m with
    | zero => rfl
    | succ m ih =>
      show (if false = true then _ else 0) + flR (nulP m) = 0
      rw [ih]
      rfl
  have t0 : ∀ m k, tnR (nulP m) k = 0 := fun m k => by
    induction m with
    | zero => rfl
    | succ m ih =>
      show (if false = true then _ else 0) + tnR (nulP m) k = 0
      rw [ih]
      rfl
  refine ln_ext (act_ln h) (map_ln h) fun j hj => ?_
  rw [act_at (by rw [h]; exact hj), ampAt_map (by rw [h]; exact hj)]
  show rI (4 * bi b + tnR (nulP n) (j ^^^ flR (nulP n))) (ampAt zs (j ^^^ flR (nulP n))) = _
  rw [f0, t0, Nat.xor_zero, Int.add_zero]
theorem map_rI0 (zs : List Amp) : zs.map (rI 0) = zs := by rw [show rI 0 = id from funext rI_zero, List.map_id]
theorem act_null {n : Nat} {zs : List Amp} (h : Ln n zs) : act (nullR n) zs = zs := (act_nul (b := false) h).trans (map_rI0 zs)
theorem mul_self {n : Nat} {r : Row} (h : r.p.length = n) : mul r r = nullR n := by
  have e : quar r r % 4 / 2 = 0 := by
    have := qs_self r.p
    unfold quar
    have := bi_range r.t
    omega
  show Row.mk (decide (quar r r % 4 / 2 = 1)) (plx r.p r.p) = _
  rw [e, plx_self' h]
  rfl
theorem act_twice {n : Nat} {r : Row} {zs : List Amp} (hr : r.p.length = n) (h : Ln n zs) : act r (act r zs) = zs := by
  rw [act_act0 hr hr h (om_self _), mul_self hr, act_null h]
theorem addL_comm {n : Nat} {zs ys : List Amp} (h : Ln n zs) (h2 : Ln n ys) : addL zs ys = addL ys zs :=
  ln_ext (addL_ln h) (addL_ln h2) fun j hj => by rw [addL_at (by rw [h]; exact hj), addL_at (by rw [h2]; exact hj), addA_comm]
/-- left alone by all rows -/
def FixA (n : Nat) (rows : List Row) (z : List Amp) : Prop := Ln n z ∧ ∀ r ∈ rows, act r z = z
theorem cnStep_ln {n : Nat} {z : List Amp} {r : Row} (h : Ln n z) : Ln n (cnStep z r) := addL_ln h
theorem cnStep_keep {n : Nat} {z : List Amp} {r s : Row} (h : Ln n z) (hr : r.p.length = n) (hs : s.p.length = n) (c : om s.p r.p = false) (hf : act s z = z) : act s (cnStep z r) = cnStep z r := by
  unfold cnStep
  rw [act_addL hs h (act_ln h), hf, act_swap hs hr h, c, hf]
  show addL z ((act r z).map (rI 0)) = _
  rw [map_rI0]
theorem cnStep_new {n : Nat} {z : List Amp} {r : Row} (h : Ln n z) (hr : r.p.length = n) : act r (cnStep z r) = cnStep z r := by
  unfold cnStep
  rw [act_addL hr h (act_ln h), act_twice hr h, addL_comm (act_ln h) h]
theorem cn_fix {n : Nat} : ∀ (rows done : List Row) {z : List Amp}, AllN n rows → AllN n done → (∀ r ∈ rows, ∀ s ∈ rows, om r.p s.p = false) → (∀ r ∈ rows, ∀ s ∈ done, om s.p r.p = false) → FixA n done z → FixA n (done ++ rows) (rows.foldl cnStep z)
  | [], done, z, _, _, _, _, hf => by rw [List.append_nil]; exact hf
  | r :: rows, done, z, h, hd, c, c2, hf => by
    have hr : r.p.length = n := h r (List.mem_cons_self ..)
    have e : done ++ r :: rows = (done ++ [r]) ++ rows := by simp
    rw [e]
    refine cn_fix rows (done ++ [r]) (fun s hs => h s (List.mem_cons_of_mem _ hs)) (fun s hs => ?_) (fun a ha b hb => c a (List.mem_cons_of_mem _ ha) b (List.mem_cons_of_mem _ hb)) (fun a ha b hb => ?_) ⟨cnStep_ln hf.1, fun s hs => ?_⟩
    · rcases List.mem_append.mp hs with hs | hs
      · exact hd s hs
      · rw [List.mem_singleton.mp hs]; exact hr
    · rcases List.mem_append.mp hb with hb | hb
      · exact c2 a (List.mem_cons_of_mem _ ha) b hb
      · rw [List.mem_singleton.mp hb]
        exact c r (List.mem_cons_self ..) a (List.mem_cons_of_mem _ ha)
    · rcases List.mem_append.mp hs with hs | hs
      · exact cnStep_keep hf.1 hr (hd s hs) (c2 r (List.mem_cons_self ..) s hs) (hf.2 s hs)
      · rw [List.mem_singleton.mp hs]
        exact cnStep_new hf.1 hr
theorem cnR_fix {n b : Nat} {rows : List Row} (h : AllN n rows) (c : ∀ r ∈ rows, ∀ s ∈ rows, om r.p s.p = false) : FixA n rows (cnR n rows b) := by
  have := cn_fix rows [] (z := unitA n b) h (fun r hr => by cases hr) c (fun r _ s hs => by cases hs) ⟨unitA_len n b, fun r hr => by cases hr⟩
  exact this
theorem addL_map (zs ys : List Amp) (v : Int) (h : zs.length = ys.length) : mixA zs ys v = addL zs (ys.map (rI v)) := by
  unfold mixA addL
  refine List.map_congr_left fun k hk => ?_
  rw [ampAt_map (by rw [← h]; exact List.mem_range.mp hk)]
  rfl
theorem mix_fix {n : Nat} {rows : List Row} {zs ys : List Amp} {v : Int} (h : AllN n rows) (h1 : FixA n rows zs) (h2 : FixA n rows ys) : FixA n rows (mixA zs ys v) := by
  rw [addL_map _ _ _ (h1.1.trans h2.1.symm)]
  refine ⟨addL_ln h1.1, fun r hr => ?_⟩
  rw [act_addL (h r hr) h1.1 (map_ln h2.1), act_rI v (h r hr) h2.1, h1.2 r hr, h2.2 r hr]
/-- a span turns them only -/
theorem sp_turn {n : Nat} : ∀ {rows : List Row} {z : List Amp}, AllN n rows → FixA n rows z → ∀ {p : Pl} (b : Bool), p.length = n → Sp n (plS rows) p → ∃ i, act ⟨b, p⟩ z = z.map (rI i)
  | [], z, _, hf, p, b, hp, hs => by
    rw [show p = nulP n from hs]
    exact ⟨_, act_nul hf.1⟩
  | r :: rows, z, h, hf, p, b, hp, hs => by
    have hr : r.p.length = n := h r (List.mem_cons_self ..)
    have h2 : AllN n rows := fun s hs => h s (List.mem_cons_of_mem _ hs)
    have hf2 : FixA n rows z := ⟨hf.1, fun s hs => hf.2 s (List.mem_cons_of_mem _ hs)⟩
    rcases hs with hs | hs
    · exact sp_turn h2 hf2 b hp hs
    · have hm : (mul r ⟨b, p⟩).p = plx r.p p := rfl
      obtain ⟨i, hi⟩ := sp_turn h2 hf2 (mul r ⟨b, p⟩).t (plx_ln hr hp) hs
      have hi : act (mul r ⟨b, p⟩) z = z.map (rI i) := hi
      have e := act_act (s := ⟨b, p⟩) hr hp hf.1
      rw [hi] at e
      have e2 := congrArg (act r) e
      rw [act_twice hr (act_ln hf.1), act_rI _ hr (map_ln hf.1), act_rI _ hr hf.1, hf.2 r (List.mem_cons_self ..), List.map_map] at e2
      refine ⟨2 * bi (om r.p p) + i, e2.trans (List.map_congr_left fun a _ => ?_)⟩
      exact rI_add ..
theorem neg4_eq (zs : List Amp) : neg4 zs = zs.map (rI 4) := rfl
def NzL (zs : List Amp) : Prop := ∃ j, j < zs.length ∧ ampAt zs j ≠ zeroA
theorem rotN_zero_iff {k : Nat} {z : Amp} (h : rotN k z = zeroA) : z = zeroA := by
  have e : rotN (8 - k % 8) (rotN k z) = z := by
    rw [← rotN_add, ← rotN_mod, show (8 - k % 8 + k) % 8 = 0 by omega]
    rfl
  rw [h, rotN_zeroA] at e
  exact e.symm
theorem neg4_ne {zs : List Amp} (h : NzL zs) : neg4 zs ≠ zs := by
  intro e
  obtain ⟨j, hj, hn⟩ := h
  apply hn
  have this : ampAt (neg4 zs) j = ampAt zs j := congrArg (fun l => ampAt l j) e
  rw [neg4_eq, ampAt_map hj] at this
  generalize ampAt zs j = z at this
  obtain ⟨a, b, c, d⟩ := z
  simp only [rI, rotN, rot, Amp.mk.injEq, show ((4 : Int) % 8).toNat = 4 from rfl] at this
  simp only [zeroA, Amp.mk.injEq]
  omega
theorem act_nz {n : Nat} {e : Row} {zs : List Amp} (he : e.p.length = n) (h : Ln n zs) (hz : NzL zs) : NzL (act e zs) := by
  obtain ⟨j, hj, hn⟩ := hz
  have hj1 : j < 2 ^ n := h ▸ hj
  have hj2 := fl_in he hj1
  refine ⟨j ^^^ flR e.p, by rw [act_len, h]; exact hj2, fun e0 => hn ?_⟩
  rw [act_at (by rw [h]; exact hj2), Nat.xor_assoc, Nat.xor_self, Nat.xor_zero] at e0
  exact rotN_zero_iff e0
theorem not_nz {n : Nat} {zs : List Amp} (h : Ln n zs) (hz : ¬ NzL zs) : zs = List.replicate (2 ^ n) zeroA := by
  refine ln_ext h (List.length_replicate) fun j hj => ?_
  have e : ampAt zs j = zeroA := Classical.byContradiction fun c => hz ⟨j, by rw [h]; exact hj, c⟩
  rw [e]
  unfold ampAt
  rw [List.getElem?_replicate]
  split <;> rfl
theorem act_zero {n : Nat} {e : Row} (he : e.p.length = n) : act e (List.replicate (2 ^ n) zeroA) = List.replicate (2 ^ n) zeroA := by
  have h : Ln n (List.replicate (2 ^ n) zeroA) := List.length_replicate
  have z0 : ∀ j, ampAt (List.replicate (2 ^ n) zeroA) j = zeroA := fun j => by
    unfold ampAt
    rw [List.getElem?_replicate]
    split <;> rfl
  refine ln_ext (act_ln h) h fun j hj => ?_
  rw [act_at (by rw [h]; exact hj), z0, z0]
  exact rotN_zeroA _
theorem sg_ok {n : Nat} {kept : List Row} {e : Row} {z : List Amp} (ha : AllN n kept) (he : e.p.length = n) (hf : FixA n kept z) (hz : NzL z) : SgOk n kept (act e z) (sgns kept e) := by
  refine ⟨by simp [sgns], by rw [act_len]; exact hf.1, fun _ => neg4_ne (act_nz he hf.1 hz), fun i r b h1 h2 => ?_⟩
  have hb : b = om r.p e.p := by
    unfold sgns at h2
    rw [List.getElem?_map, h1] at h2
    exact (Option.some.inj h2).symm
  have hr : r ∈ kept := List.mem_of_getElem? h1
  rw [act_swap (ha r hr) he hf.1, hf.2 r hr, ← hb]
  cases b
  · exact map_rI0 _
  · rfl
theorem nullR_lenM (n : Nat) : (nullR n).p.length = n := nulP_len n
theorem sgns_null {n : Nat} {kept : List Row} (ha : AllN n kept) : sgns kept (nullR n) = List.replicate kept.length false := by
  unfold sgns
  rw [List.eq_replicate_iff]
  refine ⟨by simp, fun b hb => ?_⟩
  obtain ⟨r, hr, rfl⟩ := List.mem_map.mp hb
  rw [om_comm]
  exact om_nul (ha r hr)
theorem sg_zero {n : Nat} {kept : List Row} (ha : AllN n kept) : SgOk n kept (List.replicate (2 ^ n) zeroA) (sgns kept (nullR n)) := by
  rw [sgns_null ha]
  refine ⟨by simp, by simp, fun h => ?_, fun i r b h1 h2 => ?_⟩
  · exact absurd (List.eq_of_mem_replicate h) (by decide)
  · have hb : b = false := List.eq_of_mem_replicate (List.mem_of_getElem? h2)
    subst hb
    exact act_zero (ha r (List.mem_of_getElem? h1))
/-- told pairs mend -/
def Mends (n : Nat) (rs kept : List Row) (pairs : List (List Bool × Row)) (es : List Row) : Prop :=
  ∀ e ∈ es, ∃ e', pairs.find? (fun q => q.1 == sgns kept e) = some (sgns kept e, e') ∧ e'.p.length = n ∧ Sp n (plS rs) (plx e'.p e.p)
theorem back_ok {n : Nat} {rs kept : List Row} {pairs : List (List Bool × Row)} {es : List Row} {e : Row} {z : List Amp} (K : KeptI n rs kept) (ha : AllN n rs) (M : Mends n rs kept pairs es) (hes : ∀ e ∈ es, e.p.length = n) (hn : nullR n ∈ es) (he : e ∈ es) (hf : FixA n rs z) : BackOk n kept pairs e z := by
  have hfk : FixA n kept z := ⟨hf.1, K.fix z hf.1 hf.2⟩
  by_cases hz : NzL z
  · obtain ⟨e', h1, h2, h3⟩ := M e he
    have hm : (mul e' e).p = plx e'.p e.p := rfl
    obtain ⟨i, hi⟩ := sp_turn ha hf (mul e' e).t (plx_ln h2 (hes e he)) h3
    have hi : act (mul e' e) z = z.map (rI i) := hi
    refine ⟨sgns kept e, sgns kept e, e', ((2 * bi (om e'.p e.p) + i) % 8).toNat, sg_ok K.al (hes e he) hfk hz, h1, h2, by omega, ?_⟩
    rw [act_act h2 (hes e he) hf.1, hi, List.map_map]
    exact List.map_congr_left fun a _ => rI_add ..
  · obtain ⟨e', h1, h2, h3⟩ := M (nullR n) hn
    have e0 := not_nz hf.1 hz
    subst e0
    refine ⟨sgns kept (nullR n), _, e', 0, ?_, h1, h2, by decide, ?_⟩
    · rw [act_zero (hes e he)]
      exact sg_zero K.al
    · rw [act_zero (hes e he), act_zero h2]
      show _ = List.map (rI 0) _
      rw [map_rI0]
end Bw
/-! Pl10: the tables of mends and of pairs, in plain terms. -/
namespace Bw
abbrev Tb (α : Type) := List (List Bool × α)
def tfind {α : Type} (f : Tb α) (sg : List Bool) : Option (List Bool × α) := f.find? fun q => q.1 == sg
def tput (f : Tb (List Row)) (sg : List Bool) (e : Row) : Tb (List Row) :=
  match tfind f sg with
  | none => f ++ [(sg, [e])]
  | some _ => f.map fun q => if q.1 == sg then (q.1, q.2 ++ [e]) else q
def told (f : Tb (List Row)) (sg : List Bool) : List Row := ((tfind f sg).map (·.2)).getD []
def mnGo (kept : List Row) : List Row → Tb (List Row) → (Row × Row) ⊕ Tb (List Row)
  | [], f => .inr f
  | e :: es, f =>
    match (told f (sgns kept e)).find? fun one => !sameR kept one e with
    | some one => .inl (one, e)
    | none => mnGo kept es (tput f (sgns kept e) e)
def inGr (n : Nat) (rows : List Row) (p : Pl) : Bool := (grR n rows).any fun g => decide (g.p = p)
def prGo (n : Nat) (rows kept : List Row) : List Row → Tb Row → (Row × Row) ⊕ Tb Row
  | [], f => .inr f
  | e :: es, f =>
    match tfind f (sgns kept e) with
    | none => prGo n rows kept es (f ++ [(sgns kept e, e)])
    | some q => if inGr n rows (plx q.2.p e.p) = true then prGo n rows kept es f else .inl (q.2, e)
/-- by the signs -/
def leK : List Bool × Row → List Bool × Row → Bool := PySem.W.dataLe false fun q : List Bool × Row => eBits q.1
def hdT (q : List Bool × List Row) : List Bool × Row := (q.1, q.2.headD ⟨false, []⟩)
/-- what the code's table of mends is: two that clash, or pairs, sorted -/
def mnR (n : Nat) (kept : List Row) (size : Nat) : (Row × Row) ⊕ Tb Row :=
  match mnGo kept (errS n size) [] with
  | .inl c => .inl c
  | .inr f => .inr ((f.map hdT).mergeSort leK)
def prR (n : Nat) (rows kept : List Row) (size : Nat) : (Row × Row) ⊕ Tb Row :=
  match prGo n rows kept (errS n size) [] with
  | .inl c => .inl c
  | .inr f => .inr (f.mergeSort leK)
end Bw
/-! M5: the tables agree; far apart. -/
namespace Bw
theorem tfind_map {α β : Type} (g : List Bool × α → List Bool × β) (h : ∀ q, (g q).1 = q.1) (f : Tb α) (sg : List Bool) : tfind (f.map g) sg = (tfind f sg).map g := by
  unfold tfind
  rw [List.find?_map]
  congr 1
  congr 1
  funext q
  show ((g q).1 == sg) = _
  rw [h]
theorem tfind_key {α : Type} {f : Tb α} {sg : List Bool} {q : List Bool × α} (h : tfind f sg = some q) : q.1 = sg ∧ q ∈ f := by
  refine ⟨?_, List.mem_of_find?_eq_some h⟩
  have := List.find?_some h
  simpa using this
theorem nd_uniq {α : Type} : ∀ {f : Tb α} {q r : List Bool × α}, (f.map (·.1)).Nodup → q ∈ f → r ∈ f → q.1 = r.1 → q = r
  | a :: f, q, r, h, hq, hr, e => by
    rw [List.map_cons, List.nodup_cons] at h
    rcases List.mem_cons.mp hq with hq | hq <;> rcases List.mem_cons.mp hr with hr | hr
    · rw [hq, hr]
    · exact absurd (List.mem_map.mpr ⟨r, hr, by rw [← e, hq]⟩) h.1
    · exact absurd (List.mem_map.mpr ⟨q, hq, by rw [e, hr]⟩) h.1
    · exact nd_uniq h.2 hq hr e
theorem tfind_none {α : Type} {f : Tb α} {sg : List Bool} (h : tfind f sg = none) : sg ∉ f.map (·.1) := fun c => by
  obtain ⟨q, hq, e⟩ := List.mem_map.mp c
  have := List.find?_eq_none.mp h q hq
  simp [e] at this
theorem nd_snoc {α : Type} {f : Tb α} {sg : List Bool} {x : α} (h : (f.map (·.1)).Nodup) (hn : sg ∉ f.map (·.1)) : ((f ++ [(sg, x)]).map (·.1)).Nodup := by
  rw [List.map_append, List.nodup_append]
  refine ⟨h, by simp, fun a ha b hb e => hn ?_⟩
  have : b = sg := by simpa using hb
  rw [← this, ← e]
  exact ha
structure MnI (n : Nat) (rs : List Row) (f : Tb (List Row)) : Prop where
  nd : (f.map (·.1)).Nodup
  ne : ∀ q ∈ f, q.2 ≠ []
  all : ∀ q ∈ f, ∀ a ∈ q.2, a.p.length = n
  same : ∀ q ∈ f, ∀ a ∈ q.2, ∀ b ∈ q.2, Sp n (plS rs) (plx a.p b.p)
theorem inGr_iff {n : Nat} {rs : List Row} (h : AllN n rs) {p : Pl} (hp : p.length = n) : inGr n rs p = true ↔ Sp n (plS rs) p := by
  rw [← gr_mem h hp]
  unfold inGr
  rw [List.any_eq_true]
  constructor
  · rintro ⟨g, hg, e⟩
    exact ⟨g, hg, by simpa using e⟩
  · rintro ⟨g, hg, e⟩
    exact ⟨g, hg, by simpa using e⟩
theorem mn_pr {n : Nat} {rs kept : List Row} (K : KeptI n rs kept) (ha : AllN n rs) : ∀ (es : List Row) (f : Tb (List Row)), (∀ e ∈ es, e.p.length = n) → MnI n rs f →
    prGo n rs kept es (f.map hdT) = match mnGo kept es f with | .inl c => .inl c | .inr g => .inr (g.map hdT)
  | [], f, _, _ => rfl
  | e :: es, f, he, I => by
    have e1 : e.p.length = n := he e (List.mem_cons_self ..)
    have e2 : ∀ e ∈ es, e.p.length = n := fun a h => he a (List.mem_cons_of_mem _ h)
    unfold prGo mnGo
    have tf := tfind_map hdT (fun q => rfl) f (sgns kept e)
    cases hq : tfind f (sgns kept e) with
    | none =>
      have ht : told f (sgns kept e) = [] := by unfold told; rw [hq]; rfl
      have hp : tput f (sgns kept e) e = f ++ [(sgns kept e, [e])] := by unfold tput; rw [hq]
      rw [hq] at tf
      rw [tf, ht, hp]
      show prGo n rs kept es (f.map hdT ++ [(sgns kept e, e)]) = _
      have := mn_pr K ha es (f ++ [(sgns kept e, [e])]) e2 ⟨?_, fun q h => ?_, fun q h a hA => ?_, fun q h a hA b hB => ?_⟩
      · rw [List.map_append] at this
        exact this
      · exact nd_snoc I.nd (tfind_none hq)
      · rcases List.mem_append.mp h with h | h
        · exact I.ne q h
        · rw [List.mem_singleton.mp h]; simp
      · rcases List.mem_append.mp h with h | h
        · exact I.all q h a hA
        · rw [List.mem_singleton.mp h] at hA
          rw [List.mem_singleton.mp hA]; exact e1
      · rcases List.mem_append.mp h with h | h
        · exact I.same q h a hA b hB
        · rw [List.mem_singleton.mp h] at hA hB
          rw [List.mem_singleton.mp hA, List.mem_singleton.mp hB, plx_self' e1]
          exact sp_nul _
    | some q =>
      obtain ⟨k1, k2⟩ := tfind_key hq
      have ht : told f (sgns kept e) = q.2 := by unfold told; rw [hq]; rfl
      have hp : tput f (sgns kept e) e = f.map fun q => if q.1 == sgns kept e then (q.1, q.2 ++ [e]) else q := by unfold tput; rw [hq]
      rw [hq] at tf
      rw [tf, ht, hp]
      obtain ⟨a, l, hl⟩ := List.exists_cons_of_ne_nil (I.ne q k2)
      have am : a ∈ q.2 := by rw [hl]; exact List.mem_cons_self ..
      have al := I.all q k2 a am
      have hh : hdT q = (q.1, a) := by unfold hdT; rw [hl]; rfl
      show (if inGr n rs (plx (hdT q).2.p e.p) = true then prGo n rs kept es (f.map hdT) else .inl ((hdT q).2, e)) = _
      rw [hh]
      by_cases hs : sameR kept a e = true
      · have s1 := (same_sp K al e1).mp hs
        rw [if_pos ((inGr_iff ha (plx_ln al e1)).mpr s1)]
        have sa : ∀ b ∈ q.2, Sp n (plS rs) (plx b.p e.p) := fun b hb => by
          have t := sp_add (ps_all ha) (plx_ln (I.all q k2 b hb) al) (plx_ln al e1) (I.same q k2 b hb a am) s1
          rwa [plx_assoc, plx_back al e1] at t
        have hn : (q.2.find? fun one => !sameR kept one e) = none := List.find?_eq_none.mpr fun b hb => by
          have := (same_sp K (I.all q k2 b hb) e1).mpr (sa b hb)
          rw [this]
          decide
        rw [hn]
        have em : ∀ r ∈ f, hdT (if r.1 == sgns kept e then (r.1, r.2 ++ [e]) else r) = hdT r := fun r hr => by
          split
          · obtain ⟨b, m, hm⟩ := List.exists_cons_of_ne_nil (I.ne r hr)
            unfold hdT
            rw [hm]
            rfl
          · rfl
        -- every list of told ones with these signs is q's
        have hu : ∀ r ∈ f, r.1 = sgns kept e → r.2 = q.2 := fun r hr c => by rw [nd_uniq I.nd hr k2 (c.trans k1.symm)]
        · have := mn_pr K ha es (f.map fun q => if q.1 == sgns kept e then (q.1, q.2 ++ [e]) else q) e2 ⟨?_, fun r hr => ?_, fun r hr b hb => ?_, fun r hr b hb c hc => ?_⟩
          · rw [List.map_map] at this
            rw [show f.map hdT = f.map (hdT ∘ fun q => if q.1 == sgns kept e then (q.1, q.2 ++ [e]) else q) from List.map_congr_left fun r hr => (em r hr).symm]
            exact this
          · rw [List.map_map, show f.map ((fun x : List Bool × List Row => x.1) ∘ fun q => if q.1 == sgns kept e then (q.1, q.2 ++ [e]) else q) = f.map (·.1) from List.map_congr_left fun r hr => by
              show (if r.1 == sgns kept e then (r.1, r.2 ++ [e]) else r).1 = r.1
              split <;> rfl]
            exact I.nd
          · obtain ⟨s, hs, rfl⟩ := List.mem_map.mp hr
            split
            · simp
            · exact I.ne s hs
          · obtain ⟨s, hs, rfl⟩ := List.mem_map.mp hr
            split at hb
            · rcases List.mem_append.mp hb with hb | hb
              · exact I.all s hs b hb
              · rw [List.mem_singleton.mp hb]; exact e1
            · exact I.all s hs b hb
          · obtain ⟨s, hs, rfl⟩ := List.mem_map.mp hr
            split at hb
            · next hk =>
              rw [if_pos hk] at hc
              have es2 : s.2 = q.2 := hu s hs (by simpa using hk)
              rcases List.mem_append.mp hb with hb | hb <;> rcases List.mem_append.mp hc with hc | hc
              · exact I.same s hs b hb c hc
              · rw [List.mem_singleton.mp hc]
                exact sa b (es2 ▸ hb)
              · rw [List.mem_singleton.mp hb, plx_comm]
                exact sa c (es2 ▸ hc)
              · rw [List.mem_singleton.mp hb, List.mem_singleton.mp hc, plx_self' e1]
                exact sp_nul _
            · next hk =>
              rw [if_neg hk] at hc
              exact I.same s hs b hb c hc
      · have s1 : ¬ Sp n (plS rs) (plx a.p e.p) := fun c => hs ((same_sp K al e1).mpr c)
        rw [if_neg fun c => s1 ((inGr_iff ha (plx_ln al e1)).mp c)]
        have hn : (q.2.find? fun one => !sameR kept one e) = some a := by
          rw [hl, List.find?_cons]
          have : sameR kept a e = false := by simpa using hs
          rw [this]
          rfl
        rw [hn]
theorem prGo_ok {n : Nat} {rs kept : List Row} (ha : AllN n rs) (S : Row → Prop) (hS : ∀ e, S e → e.p.length = n) : ∀ (es : List Row) (f : Tb Row), (∀ e ∈ es, S e) → (f.map (·.1)).Nodup → (∀ q ∈ f, S q.2 ∧ q.1 = sgns kept q.2) →
    match prGo n rs kept es f with
    | .inl c => S c.1 ∧ S c.2 ∧ sgns kept c.1 = sgns kept c.2 ∧ ¬ Sp n (plS rs) (plx c.1.p c.2.p)
    | .inr g => (g.map (·.1)).Nodup ∧ (∀ q ∈ g, S q.2 ∧ q.1 = sgns kept q.2) ∧ (∀ q, tfind f q.1 = some q → tfind g q.1 = some q) ∧ ∀ e ∈ es, ∃ e', tfind g (sgns kept e) = some (sgns kept e, e') ∧ S e' ∧ Sp n (plS rs) (plx e'.p e.p)
  | [], f, _, nd, hf => ⟨nd, hf, fun q h => h, fun e he => by cases he⟩
  | e :: es, f, he, nd, hf => by
    have e1 := he e (List.mem_cons_self ..)
    have e2 : ∀ e ∈ es, S e := fun a h => he a (List.mem_cons_of_mem _ h)
    unfold prGo
    cases hq : tfind f (sgns kept e) with
    | none =>
      have ih := prGo_ok ha S hS es (f ++ [(sgns kept e, e)]) e2 (nd_snoc nd (tfind_none hq)) fun q h => by
        rcases List.mem_append.mp h with h | h
        · exact hf q h
        · rw [List.mem_singleton.mp h]
          exact ⟨e1, rfl⟩
      show match prGo n rs kept es (f ++ [(sgns kept e, e)]) with | .inl c => _ | .inr g => _
      have old : ∀ q, tfind f q.1 = some q → tfind (f ++ [(sgns kept e, e)]) q.1 = some q := fun q h => by
        unfold tfind at *
        rw [List.find?_append, h]
        rfl
      have new : tfind (f ++ [(sgns kept e, e)]) (sgns kept e) = some (sgns kept e, e) := by
        unfold tfind at *
        rw [List.find?_append, hq]
        simp
      revert ih
      cases prGo n rs kept es (f ++ [(sgns kept e, e)]) with
      | inl c => exact fun ih => ih
      | inr g =>
        rintro ⟨i1, i2, i3, i4⟩
        refine ⟨i1, i2, fun q h => i3 q (old q h), fun a h => ?_⟩
        rcases List.mem_cons.mp h with h | h
        · subst h
          refine ⟨a, i3 (sgns kept a, a) new, e1, ?_⟩
          rw [plx_self' (hS a e1)]
          exact sp_nul _
        · exact i4 a h
    | some q =>
      obtain ⟨k1, k2⟩ := tfind_key hq
      obtain ⟨s1, s2⟩ := hf q k2
      have hl := plx_ln (hS _ s1) (hS e e1)
      show match (if inGr n rs (plx q.2.p e.p) = true then prGo n rs kept es f else .inl (q.2, e)) with | .inl c => _ | .inr g => _
      by_cases hg : inGr n rs (plx q.2.p e.p) = true
      · rw [if_pos hg]
        have ih := prGo_ok ha S hS es f e2 nd hf
        revert ih
        cases prGo n rs kept es f with
        | inl c => exact fun ih => ih
        | inr g =>
          rintro ⟨i1, i2, i3, i4⟩
          refine ⟨i1, i2, i3, fun a h => ?_⟩
          rcases List.mem_cons.mp h with h | h
          · subst h
            refine ⟨q.2, ?_, s1, (inGr_iff ha hl).mp hg⟩
            have := i3 q (by rw [k1]; exact hq)
            rw [k1] at this
            rw [this, ← k1]
          · exact i4 a h
      · rw [if_neg hg]
        exact ⟨s1, e1, s2.symm.trans k1, fun c => hg ((inGr_iff ha hl).mpr c)⟩
theorem tfind_iff {α : Type} {f : Tb α} (nd : (f.map (·.1)).Nodup) {q : List Bool × α} : tfind f q.1 = some q ↔ q ∈ f := by
  constructor
  · exact fun h => (tfind_key h).2
  · intro h
    cases hq : tfind f q.1 with
    | none => exact absurd (List.mem_map_of_mem h) (tfind_none hq)
    | some r =>
      obtain ⟨k1, k2⟩ := tfind_key hq
      rw [nd_uniq nd k2 h k1]
theorem tfind_perm {α : Type} {f g : Tb α} (hp : f.Perm g) (nd : (f.map (·.1)).Nodup) {q : List Bool × α} (h : tfind f q.1 = some q) : tfind g q.1 = some q :=
  (tfind_iff ((hp.map _).nodup_iff.mp nd)).mpr (hp.mem_iff.mp ((tfind_iff nd).mp h))
theorem mnR_prR {n size : Nat} {rs kept : List Row} (K : KeptI n rs kept) (ha : AllN n rs) : mnR n kept size = prR n rs kept size := by
  have := mn_pr K ha (errS n size) [] (fun e he => (errR_each (List.mem_filter.mp he).1).2) ⟨List.nodup_nil, fun q h => by (cases h), fun q h => by (cases h), fun q h => by (cases h)⟩
  have h : prGo n rs kept (errS n size) [] = match mnGo kept (errS n size) [] with | .inl c => .inl c | .inr g => .inr (g.map hdT) := this
  unfold mnR prR
  rw [h]
  cases mnGo kept (errS n size) [] <;> rfl
/-! errors -/
theorem blR_mem : ∀ (l : List Bool), l ∈ blR l.length
  | [] => by decide
  | false :: l => List.mem_append_left _ (List.mem_map_of_mem (blR_mem l))
  | true :: l => List.mem_append_right _ (List.mem_map_of_mem (blR_mem l))
theorem zipB_p : ∀ p : Pl, zipB (p.map (·.1)) (p.map (·.2)) = p
  | [] => rfl
  | a :: p => by
    show (a.1, a.2) :: zipB (p.map (·.1)) (p.map (·.2)) = _
    rw [zipB_p p]
theorem allR_mem {n : Nat} {e : Row} (ht : e.t = false) (hp : e.p.length = n) : e ∈ allR n := by
  unfold allR
  refine List.mem_flatMap.mpr ⟨e.p.map (·.1), ?_, List.mem_map.mpr ⟨e.p.map (·.2), ?_, ?_⟩⟩
  · have := blR_mem (e.p.map (·.1))
    rwa [List.length_map, hp] at this
  · have := blR_mem (e.p.map (·.2))
    rwa [List.length_map, hp] at this
  · rw [zipB_p]
    obtain ⟨t, p⟩ := e
    have : t = false := ht
    subst this
    rfl
theorem errR_mem {n : Nat} {e : Row} (ht : e.t = false) (hp : e.p.length = n) : e ∈ errR n := by
  unfold errR
  refine List.mem_flatMap.mpr ⟨wt e.p, List.mem_range.mpr ?_, List.mem_filter.mpr ⟨allR_mem ht hp, by simp⟩⟩
  have := wt_le e.p
  omega
theorem errR_sorted (n : Nat) : (errR n).Pairwise fun a b => wt a.p ≤ wt b.p := by
  unfold errR
  rw [List.pairwise_flatMap]
  refine ⟨fun k _ => ?_, ?_⟩
  · refine List.pairwise_of_forall_mem_list fun a h b h2 => ?_
    have h1 := (List.mem_filter.mp h).2
    have h2 := (List.mem_filter.mp h2).2
    simp only [beq_iff_eq] at h1 h2
    omega
  · refine List.pairwise_lt_range.imp fun {a b} hab x hx y hy => ?_
    have h1 := (List.mem_filter.mp hx).2
    have h2 := (List.mem_filter.mp hy).2
    simp only [beq_iff_eq] at h1 h2
    omega
theorem find_pair {α : Type} {R : α → α → Prop} {p : α → Bool} : ∀ {l : List α} {a b : α}, l.Pairwise R → l.find? p = some a → b ∈ l → p b = true → b = a ∨ R a b
  | x :: l, a, b, hp, h, hb, pb => by
    rw [List.pairwise_cons] at hp
    rw [List.find?_cons] at h
    cases hx : p x with
    | true =>
      rw [hx] at h
      have : x = a := by simpa using h
      subst this
      rcases List.mem_cons.mp hb with e | e
      · exact .inl e
      · exact .inr (hp.1 b e)
    | false =>
      rw [hx] at h
      rcases List.mem_cons.mp hb with e | e
      · rw [e, hx] at pb; cases pb
      · exact find_pair hp.2 (by simpa using h) e pb
theorem errS_each {n k : Nat} {e : Row} (h : e ∈ errS n k) : e.t = false ∧ e.p.length = n ∧ wt e.p ≤ k := by
  obtain ⟨h1, h2⟩ := List.mem_filter.mp h
  exact ⟨(errR_each h1).1, (errR_each h1).2, by simpa using h2⟩
theorem errS_mem {n k : Nat} {e : Row} (ht : e.t = false) (hp : e.p.length = n) (hw : wt e.p ≤ k) : e ∈ errS n k :=
  List.mem_filter.mpr ⟨errR_mem ht hp, by simpa using hw⟩
theorem wt_nul : ∀ n, wt (nulP n) = 0
  | 0 => rfl
  | n + 1 => wt_nul n
theorem null_mem (n k : Nat) : nullR n ∈ errS n k := errS_mem rfl (nulP_len n) (by rw [show (nullR n).p = nulP n from rfl, wt_nul]; exact Nat.zero_le k)
theorem wt_cons (a : Bool × Bool) (p : Pl) : wt (a :: p) = (if szw a then 1 else 0) + wt p := by
  unfold wt
  rw [List.filter_cons]
  cases szw a
  · simp
  · simp [Nat.add_comm]
theorem wt_plx : ∀ p q : Pl, wt (plx p q) ≤ wt p + wt q
  | [], _ => Nat.zero_le _
  | _ :: _, [] => Nat.zero_le _
  | a :: p, b :: q => by
    have ih := wt_plx p q
    show wt (xw a b :: plx p q) ≤ _
    rw [wt_cons, wt_cons, wt_cons]
    have : ∀ x z u v : Bool, (if szw (xw (x, z) (u, v)) then 1 else 0) ≤ (if szw (x, z) then 1 else 0) + (if szw (u, v) then 1 else 0) := by decide
    have := this a.1 a.2 b.1 b.2
    simp only [Prod.eta] at this
    omega
theorem wt_split : ∀ (p : Pl) (j k : Nat), wt p ≤ j + k → ∃ a b : Pl, a.length = p.length ∧ b.length = p.length ∧ plx a b = p ∧ wt a ≤ j ∧ wt b ≤ k
  | [], j, k, _ => ⟨[], [], rfl, rfl, rfl, Nat.zero_le _, Nat.zero_le _⟩
  | x :: p, j, k, h => by
    rw [wt_cons] at h
    have xl : xw x (false, false) = x := by simp [xw]
    have xr : xw (false, false) x = x := by simp [xw]
    have w0 : szw (false, false) = false := rfl
    by_cases hx : szw x = true
    · rw [hx] at h
      simp only [if_true] at h
      by_cases hj : j = 0
      · obtain ⟨a, b, h1, h2, h3, h4, h5⟩ := wt_split p j (k - 1) (by omega)
        refine ⟨(false, false) :: a, x :: b, by simp [h1], by simp [h2], by simp only [plx]; rw [h3, xr], ?_, ?_⟩
        · rw [wt_cons, w0]; simpa using h4
        · rw [wt_cons, hx]; simp; omega
      · obtain ⟨a, b, h1, h2, h3, h4, h5⟩ := wt_split p (j - 1) k (by omega)
        refine ⟨x :: a, (false, false) :: b, by simp [h1], by simp [h2], by simp only [plx]; rw [h3, xl], ?_, ?_⟩
        · rw [wt_cons, hx]; simp; omega
        · rw [wt_cons, w0]; simpa using h5
    · have hx : szw x = false := by simpa using hx
      rw [hx] at h
      obtain ⟨a, b, h1, h2, h3, h4, h5⟩ := wt_split p j k (by simpa using h)
      refine ⟨x :: a, (false, false) :: b, by simp [h1], by simp [h2], by simp only [plx]; rw [h3, xl], ?_, ?_⟩
      · rw [wt_cons, hx]; simpa using h4
      · rw [wt_cons, w0]; simpa using h5
theorem sgns_plx {n : Nat} {kept : List Row} (ha : AllN n kept) {a b : Pl} (h1 : a.length = n) (h2 : b.length = n) : ((sgns kept ⟨false, plx a b⟩).contains true = false) ↔ ∀ t u, sgns kept ⟨t, a⟩ = sgns kept ⟨u, b⟩ := by
  constructor
  · intro h t u
    refine List.map_congr_left fun r hr => ?_
    have : om r.p (plx a b) = false := by
      cases hc : om r.p (plx a b) with
      | false => rfl
      | true =>
        have : true ∈ sgns kept ⟨false, plx a b⟩ := List.mem_map.mpr ⟨r, hr, hc⟩
        rw [List.contains_iff_mem.mpr this] at h
        cases h
    rw [om_addr h1 h2 (ha r hr)] at this
    show om r.p a = om r.p b
    revert this
    cases om r.p a <;> cases om r.p b <;> simp
  · intro h
    cases hc : (sgns kept ⟨false, plx a b⟩).contains true with
    | false => rfl
    | true =>
      obtain ⟨r, hr, e⟩ := List.mem_map.mp (List.contains_iff_mem.mp hc)
      have e : om r.p (plx a b) = true := e
      rw [om_addr h1 h2 (ha r hr)] at e
      have q := List.map_inj_left.mp (h false false) r hr
      have q : om r.p a = om r.p b := q
      rw [q] at e
      revert e
      cases om r.p b <;> simp
/-- the table's outcome and how far apart the code is -/
theorem far_ok {n size : Nat} {rs kept : List Row} (K : KeptI n rs kept) (ha : AllN n rs) :
    match prR n rs kept size with
    | .inl c => c.1 ∈ errS n size ∧ c.2 ∈ errS n size ∧ ∃ w, farR n kept = some w ∧ w ≤ 2 * size
    | .inr g => Mends n rs kept g (errS n size) ∧ (∀ q ∈ g, q.2 ∈ errS n size ∧ q.1 = sgns kept q.2) ∧ ∀ w, farR n kept = some w → 2 * size < w := by
  have H := prGo_ok (kept := kept) ha (fun e => e ∈ errS n size) (fun e h => (errS_each h).2.1) (errS n size) [] (fun e h => h) List.nodup_nil (fun q h => by (cases h))
  unfold prR
  revert H
  cases prGo n rs kept (errS n size) [] with
  | inl c =>
    rintro ⟨h1, h2, h3, h4⟩
    refine ⟨h1, h2, ?_⟩
    obtain ⟨t1, l1, w1⟩ := errS_each h1
    obtain ⟨t2, l2, w2⟩ := errS_each h2
    have pl := plx_ln l1 l2
    have em : Row.mk false (plx c.1.p c.2.p) ∈ errR n := errR_mem rfl pl
    have pe : (!(sgns kept ⟨false, plx c.1.p c.2.p⟩).contains true && !sameR kept ⟨false, plx c.1.p c.2.p⟩ (nullR n)) = true := by
      rw [(sgns_plx K.al l1 l2).mpr fun t u => h3]
      have : sameR kept ⟨false, plx c.1.p c.2.p⟩ (nullR n) = false := by
        cases hs : sameR kept ⟨false, plx c.1.p c.2.p⟩ (nullR n) with
        | false => rfl
        | true =>
          have := (same_sp K pl (nulP_len n)).mp hs
          have this : Sp n (plS rs) (plx (plx c.1.p c.2.p) (nulP n)) := this
          rw [plx_nul pl] at this
          exact absurd this h4
      rw [this]
      rfl
    unfold farR
    cases hf : (errR n).find? fun e => !(sgns kept e).contains true && !sameR kept e (nullR n) with
    | none =>
      have := List.find?_eq_none.mp hf _ em
      exact absurd pe this
    | some e0 =>
      refine ⟨wt e0.p, rfl, ?_⟩
      have wp := wt_plx c.1.p c.2.p
      rcases find_pair (errR_sorted n) hf em pe with e | e
      · rw [← e]
        show wt (plx c.1.p c.2.p) ≤ _
        omega
      · have e : wt e0.p ≤ wt (plx c.1.p c.2.p) := e
        omega
  | inr g =>
    rintro ⟨h1, h2, h3, h4⟩
    refine ⟨fun e he => ?_, fun q hq => h2 q ((List.mergeSort_perm g _).mem_iff.mp hq), fun w hw => ?_⟩
    · obtain ⟨e', e1, e2, e3⟩ := h4 e he
      exact ⟨e', tfind_perm (List.mergeSort_perm g _).symm h1 (q := (sgns kept e, e')) e1, (errS_each e2).2.1, e3⟩
    · unfold farR at hw
      cases hf : (errR n).find? fun e => !(sgns kept e).contains true && !sameR kept e (nullR n) with
      | none => rw [hf] at hw; cases hw
      | some e0 =>
        rw [hf] at hw
        have hw : wt e0.p = w := Option.some.inj hw
        have he0 := errR_each (List.mem_of_find?_eq_some hf)
        have hp := List.find?_some hf
        simp only [Bool.and_eq_true, Bool.not_eq_true'] at hp
        refine Nat.lt_of_not_le fun hle => ?_
        obtain ⟨a, b, l1, l2, e, w1, w2⟩ := wt_split e0.p size size (by omega)
        rw [he0.2] at l1 l2
        have s0 : (sgns kept ⟨false, plx a b⟩).contains true = false := by
          rw [e]
          exact hp.1
        have sE := (sgns_plx K.al l1 l2).mp s0 false false
        obtain ⟨x, x1, x2, x3⟩ := h4 ⟨false, a⟩ (errS_mem rfl l1 w1)
        obtain ⟨y, y1, y2, y3⟩ := h4 ⟨false, b⟩ (errS_mem rfl l2 w2)
        rw [sE, y1] at x1
        have xy : y = x := by simpa using x1
        subst xy
        have yl := (errS_each y2).2.1
        have x3 : Sp n (plS rs) (plx y.p a) := x3
        have y3 : Sp n (plS rs) (plx y.p b) := y3
        have t := sp_add (ps_all ha) (plx_ln yl l1) (plx_ln yl l2) x3 y3
        rw [plx_comm y.p a, plx_assoc, plx_back yl l2, e] at t
        have : sameR kept e0 (nullR n) = true := (same_sp K he0.2 (nulP_len n)).mpr (by
          show Sp n (plS rs) (plx e0.p (nulP n))
          rw [plx_nul he0.2]
          exact t)
        rw [this] at hp
        exact absurd hp.2 (by decide)
end Bw
/-! M6: the law's codes are rows that go together, none a product of others. -/
namespace Bw
instance decBB {P : Bool × Bool → Prop} [∀ x, Decidable (P x)] : Decidable (∀ x, P x) := decidable_of_iff (∀ a b : Bool, P (a, b)) ⟨fun h x => h x.1 x.2, fun h a b => h (a, b)⟩
def spB (n : Nat) : List Pl → Pl → Bool
  | [], p => decide (p = nulP n)
  | r :: rs, p => spB n rs p || spB n rs (plx r p)
def inB (n : Nat) : List Pl → Bool
  | [] => true
  | r :: rs => !spB n rs r && inB n rs
theorem spB_iff {n : Nat} : ∀ {rs : List Pl} {p : Pl}, spB n rs p = true ↔ Sp n rs p
  | [], p => by simp [spB, Sp]
  | r :: rs, p => by simp only [spB, Sp, Bool.or_eq_true]; rw [spB_iff, spB_iff]
theorem inB_ok {n : Nat} : ∀ {rs : List Pl}, inB n rs = true → InP n rs
  | [], _ => trivial
  | r :: rs, h => by
    simp only [inB, Bool.and_eq_true, Bool.not_eq_true'] at h
    refine ⟨fun c => ?_, inB_ok h.2⟩
    rw [spB_iff.mpr c] at h
    exact absurd h.1 (by decide)
structure CodeI (n : Nat) (rs : List Row) : Prop where
  alln : AllN n rs
  com : ∀ r ∈ rs, ∀ s ∈ rs, om r.p s.p = false
  ind : InP n (plS rs)
def comB (rs : List Pl) : Bool := rs.all fun r => rs.all fun s => !om r s
theorem codeI_of {n : Nat} {rs : List Row} {qs : List Pl} (e : plS rs = qs) (h1 : (qs.all fun p => p.length == n) = true) (h2 : comB qs = true) (h3 : inB n qs = true) : CodeI n rs := by
  subst e
  refine ⟨fun r hr => ?_, fun r hr s hs => ?_, inB_ok h3⟩
  · have := List.all_eq_true.mp h1 r.p (List.mem_map_of_mem hr)
    simpa using this
  · have := List.all_eq_true.mp (List.all_eq_true.mp h2 r.p (List.mem_map_of_mem hr)) s.p (List.mem_map_of_mem hs)
    simpa using this
theorem codeI_perm {n : Nat} {rs ss : List Row} (h : rs.Perm ss) (I : CodeI n rs) : CodeI n ss :=
  ⟨fun r hr => I.alln r (h.mem_iff.mpr hr), fun r hr s hs => I.com r (h.mem_iff.mpr hr) s (h.mem_iff.mpr hs), (in_perm (h.map _)).mp I.ind⟩
theorem codeI_take {n k : Nat} {rs : List Row} (I : CodeI n rs) : CodeI n (rs.take k) :=
  ⟨fun r hr => I.alln r (List.mem_of_mem_take hr), fun r hr s hs => I.com r (List.mem_of_mem_take hr) s (List.mem_of_mem_take hs), by
    have : plS (rs.take k) = (plS rs).take k := List.map_take ..
    rw [this]
    exact in_take I.ind⟩
/-! gates -/
structure Gt (n : Nat) (g : Pl → Pl) : Prop where
  len : ∀ p, p.length = n → (g p).length = n
  add : ∀ p q, p.length = n → q.length = n → g (plx p q) = plx (g p) (g q)
  inv : ∀ p, p.length = n → g (g p) = p
  om : ∀ p q, p.length = n → q.length = n → om (g p) (g q) = om p q
theorem Gt.nul {n : Nat} {g : Pl → Pl} (G : Gt n g) : g (nulP n) = nulP n := by
  have := G.add _ _ (nulP_len n) (nulP_len n)
  rw [plx_self' (nulP_len n), plx_self' (G.len _ (nulP_len n))] at this
  exact this
theorem Gt.sp {n : Nat} {g : Pl → Pl} (G : Gt n g) : ∀ {rs : List Pl}, AllP n rs → ∀ {p : Pl}, p.length = n → (Sp n (rs.map g) (g p) ↔ Sp n rs p)
  | [], _, p, hp => by
    show g p = nulP n ↔ p = nulP n
    constructor
    · intro e
      have := G.inv p hp
      rw [e, G.nul] at this
      exact this.symm
    · intro e
      rw [e, G.nul]
  | r :: rs, h, p, hp => by
    show (Sp n (rs.map g) (g p) ∨ Sp n (rs.map g) (plx (g r) (g p))) ↔ _
    rw [← G.add r p h.head hp, G.sp h.tail hp, G.sp h.tail (plx_ln h.head hp)]
    exact Iff.rfl
theorem Gt.ind {n : Nat} {g : Pl → Pl} (G : Gt n g) : ∀ {rs : List Pl}, AllP n rs → InP n rs → InP n (rs.map g)
  | [], _, _ => trivial
  | r :: rs, h, hi => ⟨fun c => hi.1 ((G.sp h.tail h.head).mp c), G.ind h.tail hi.2⟩
theorem codeI_gate {n : Nat} {rs : List Row} {f : Row → Row} {g : Pl → Pl} (G : Gt n g) (hf : ∀ r, (f r).p = g r.p) (I : CodeI n rs) : CodeI n (rs.map f) := by
  refine ⟨fun r hr => ?_, fun r hr s hs => ?_, ?_⟩
  · obtain ⟨s, hs, rfl⟩ := List.mem_map.mp hr
    rw [hf]
    exact G.len _ (I.alln s hs)
  · obtain ⟨r', hr', rfl⟩ := List.mem_map.mp hr
    obtain ⟨s', hs', rfl⟩ := List.mem_map.mp hs
    rw [hf, hf, G.om _ _ (I.alln r' hr') (I.alln s' hs')]
    exact I.com r' hr' s' hs'
  · have : plS (rs.map f) = (plS rs).map g := by
      unfold plS
      rw [List.map_map, List.map_map]
      exact List.map_congr_left fun r _ => hf r
    rw [this]
    exact G.ind (ps_all I.alln) I.ind
theorem at_ext {n : Nat} {p q : Pl} (hp : p.length = n) (hq : q.length = n) (h : ∀ i, i < n → plAt p i = plAt q i) : p = q := by
  refine List.ext_getElem (by omega) fun i h1 h2 => ?_
  have g1 := plAt_get (p := p) (i := i) (by omega)
  have g2 := plAt_get (p := q) (i := i) (by omega)
  rw [List.getElem?_eq_getElem (by omega)] at g1 g2
  rw [Option.some.inj g1, Option.some.inj g2]
  exact h i (by omega)
theorem at_set {p : Pl} {a i : Nat} {x : Bool × Bool} (ha : a < p.length) : plAt (p.set a x) i = if a = i then x else plAt p i := by
  unfold plAt
  rw [List.getElem?_set]
  by_cases h : a = i
  · subst h
    rw [if_pos rfl, if_pos ha, if_pos rfl]
    rfl
  · rw [if_neg h, if_neg h]
theorem om_set : ∀ {p q : Pl} {a : Nat} {x y : Bool × Bool}, q.length = p.length → a < p.length → om (p.set a x) (q.set a y) = (om p q ^^ (omw (plAt p a) (plAt q a) ^^ omw x y))
  | u :: p, v :: q, 0, x, y, _, _ => by
    show (omw x y ^^ om p q) = ((omw u v ^^ om p q) ^^ (omw u v ^^ omw x y))
    cases omw x y <;> cases omw u v <;> cases om p q <;> rfl
  | u :: p, v :: q, a + 1, x, y, h, ha => by
    simp only [List.length_cons] at h ha
    have ih := om_set (p := p) (q := q) (a := a) (x := x) (y := y) (by omega) (by omega)
    show (omw u v ^^ om (p.set a x) (q.set a y)) = ((omw u v ^^ om p q) ^^ (omw (plAt p a) (plAt q a) ^^ omw x y))
    rw [ih]
    cases omw x y <;> cases omw u v <;> cases om p q <;> cases omw (plAt p a) (plAt q a) <;> rfl
/-- a gate at one wire -/
theorem gt_one {n a : Nat} (ha : a < n) {f : Bool × Bool → Bool × Bool} (h1 : ∀ x y, f (xw x y) = xw (f x) (f y)) (h2 : ∀ x, f (f x) = x) (h3 : ∀ x y, omw (f x) (f y) = omw x y) : Gt n fun p => p.set a (f (plAt p a)) := by
  refine ⟨fun p hp => by rw [List.length_set, hp], fun p q hp hq => ?_, fun p hp => ?_, fun p q hp hq => ?_⟩
  · have l1 := plx_ln hp hq
    refine at_ext (n := n) (by rw [List.length_set, l1]) (plx_ln (by rw [List.length_set, hp]) (by rw [List.length_set, hq])) fun i hi => ?_
    rw [at_set (by omega), plAt_plx (p := p.set a (f (plAt p a))) (q := q.set a (f (plAt q a))) (by rw [List.length_set, hp]) (by rw [List.length_set, hq]) hi, at_set (by omega), at_set (by omega), plAt_plx hp hq ha, plAt_plx hp hq hi]
    split
    · exact h1 _ _
    · rfl
  · refine at_ext (n := n) (by simp [hp]) hp fun i hi => ?_
    rw [at_set (by rw [List.length_set]; omega), at_set (by omega), at_set (by omega), if_pos rfl, h2]
    split
    · next e => rw [e]
    · rfl
  · rw [om_set (by omega) (by omega), h3]
    cases om p q <;> cases omw (plAt p a) (plAt q a) <;> rfl
def cxP (a b : Nat) (p : Pl) : Pl := (p.set a ((plAt p a).1, (plAt p a).2 ^^ (plAt p b).2)).set b ((plAt p a).1 ^^ (plAt p b).1, (plAt p b).2)
theorem cx_len (a b : Nat) (p : Pl) : (cxP a b p).length = p.length := by simp [cxP]
theorem cx_at {p : Pl} {a b i : Nat} (ha : a < p.length) (hb : b < p.length) : plAt (cxP a b p) i = if b = i then ((plAt p a).1 ^^ (plAt p b).1, (plAt p b).2) else if a = i then ((plAt p a).1, (plAt p a).2 ^^ (plAt p b).2) else plAt p i := by
  unfold cxP
  rw [at_set (by rw [List.length_set]; exact hb), at_set ha]
theorem gt_cx {n a b : Nat} (ha : a < n) (hb : b < n) (hab : a ≠ b) : Gt n (cxP a b) := by
  refine ⟨fun p hp => by rw [cx_len, hp], fun p q hp hq => ?_, fun p hp => ?_, fun p q hp hq => ?_⟩
  · have l1 := plx_ln hp hq
    refine at_ext (n := n) (by rw [cx_len, l1]) (plx_ln (by rw [cx_len, hp]) (by rw [cx_len, hq])) fun i hi => ?_
    rw [cx_at (by omega) (by omega), plAt_plx (p := cxP a b p) (q := cxP a b q) (by rw [cx_len, hp]) (by rw [cx_len, hq]) hi, cx_at (by omega) (by omega), cx_at (by omega) (by omega), plAt_plx hp hq ha, plAt_plx hp hq hb, plAt_plx hp hq hi]
    generalize plAt p a = pa
    generalize plAt q a = qa
    generalize plAt p b = pb
    generalize plAt q b = qb
    split
    · simp only [xw]
      revert pa qa pb qb
      decide
    · split
      · simp only [xw]
        revert pa qa pb qb
        decide
      · rfl
  · refine at_ext (n := n) (by simp [cx_len, hp]) hp fun i hi => ?_
    rw [cx_at (by rw [cx_len]; omega) (by rw [cx_len]; omega), cx_at (by omega) (by omega), cx_at (by omega) (by omega), cx_at (by omega) (by omega)]
    simp only [if_true, if_neg hab, if_neg (Ne.symm hab)]
    by_cases h1 : b = i
    · subst h1
      simp
    · rw [if_neg h1, if_neg h1]
      by_cases h2 : a = i
      · subst h2
        simp
      · rw [if_neg h2, if_neg h2]
  · unfold cxP
    rw [om_set (by simp; omega) (by simp; omega), om_set (by omega) (by omega), at_set (by omega), at_set (by omega), if_neg hab, if_neg hab]
    generalize plAt p a = pa
    generalize plAt q a = qa
    generalize plAt p b = pb
    generalize plAt q b = qb
    cases om p q <;> revert pa qa pb qb <;> decide
/-! the table -/
theorem dv_rangeM (s : Int) {m : Int} (h : 0 < m) : 0 ≤ dv s m ∧ dv s m < m := ⟨Int.emod_nonneg _ (by omega), Int.emod_lt_of_pos _ h⟩
theorem tabI_ok {n : Nat} (h : Wd n) (st : Int) : CodeI n (tabI n st) := by
  have e : plS (tabI n st) = (List.range n).map fun w => (List.replicate n (false, false)).set w (false, true) := by
    unfold plS tabI
    rw [List.map_map]
    rfl
  have : n = 1 ∨ n = 2 ∨ n = 3 ∨ n = 4 ∨ n = 5 := by have := h.1; have := h.2; omega
  rcases this with c | c | c | c | c <;> subst c <;> exact codeI_of e (by decide +kernel) (by decide +kernel) (by decide +kernel)
theorem tabStep_okM {n : Nat} (h : Wd n) {s : List Row × Int} (I : CodeI n s.1) : CodeI n (tabStep n s).1 ∧ (tabStep n s).1.length = s.1.length := by
  have hn := h.1
  have ra := dv_rangeM (nx s.2) (m := (n : Int)) (by omega)
  have la : (dv (nx s.2) n).toNat < n := by omega
  unfold tabStep
  simp only []
  by_cases hw : dv s.2 (if 1 < n then 3 else 2) = 2
  · rw [if_pos hw]
    have h1 : 1 < n := by
      refine Nat.lt_of_not_le fun c => ?_
      rw [if_neg (by omega)] at hw
      have := dv_rangeM s.2 (m := 2) (by decide)
      omega
    have rb := dv_rangeM (nx (nx s.2)) (m := (n : Int) - 1) (by omega)
    generalize hA : (dv (nx s.2) (n : Int)).toNat = A at *
    generalize hB : dv (nx (nx s.2)) ((n : Int) - 1) = Bz at *
    have rm : ((A : Int) + 1 + Bz) % n = if (A : Int) + 1 + Bz < n then (A : Int) + 1 + Bz else (A : Int) + 1 + Bz - n := by
      split
      · exact Int.emod_eq_of_lt (by omega) (by omega)
      · rw [← Int.emod_eq_of_lt (a := (A : Int) + 1 + Bz - n) (b := n) (by omega) (by omega), Int.sub_emod_right]
    have lb : (((A : Int) + 1 + Bz) % n).toNat < n := by rw [rm]; split <;> omega
    have nb : A ≠ (((A : Int) + 1 + Bz) % n).toNat := by rw [rm]; split <;> omega
    exact ⟨codeI_gate (gt_cx la lb nb) (fun r => rfl) I, List.length_map ..⟩
  · rw [if_neg hw]
    refine ⟨?_, List.length_map ..⟩
    by_cases h0 : dv s.2 (if 1 < n then 3 else 2) = 0
    · rw [if_pos h0]
      exact codeI_gate (gt_one (f := fun x => (x.2, x.1)) la (by decide) (by decide) (by decide)) (fun r => rfl) I
    · rw [if_neg h0]
      exact codeI_gate (gt_one (f := fun x => (x.1, x.1 ^^ x.2)) la (by decide) (by decide) (by decide)) (fun r => rfl) I
theorem tabL_okM {n : Nat} (h : Wd n) (st : Int) : ∀ k, CodeI n (tabL n st k).1 ∧ (tabL n st k).1.length = n
  | 0 => ⟨tabI_ok h st, by simp [tabL, tabI]⟩
  | k + 1 => by
    obtain ⟨h1, h2⟩ := tabL_okM h st k
    obtain ⟨q1, q2⟩ := tabStep_okM h h1
    exact ⟨q1, q2.trans h2⟩
theorem set_perm {α : Type} {x : α} : ∀ {l : List α} {i : Nat}, i < l.length → (l.set i x).Perm (x :: l.eraseIdx i)
  | a :: l, 0, _ => List.Perm.refl _
  | a :: l, i + 1, h => ((set_perm (l := l) (i := i) (by simpa using h)).cons a).trans (List.Perm.swap x a _)
theorem mem_erase {α : Type} {y : α} : ∀ {l : List α} {i j : Nat}, i ≠ j → l[j]? = some y → y ∈ l.eraseIdx i
  | [], _, _, _, h => by simp at h
  | a :: l, 0, 0, h, _ => absurd rfl h
  | a :: l, 0, j + 1, _, h => List.mem_of_getElem? (by simpa using h)
  | a :: l, i + 1, 0, _, h => by
    have : a = y := by simpa using h
    subst this
    exact List.mem_cons_self ..
  | a :: l, i + 1, j + 1, h, hj => List.mem_cons_of_mem _ (mem_erase (l := l) (i := i) (j := j) (by omega) (by simpa using hj))
theorem mixStep_okM {n : Nat} {s : List Row × Int} (hne : s.1 ≠ []) (I : CodeI n s.1) : CodeI n (mixStep s).1 ∧ (mixStep s).1.length = s.1.length := by
  have hl : 0 < s.1.length := List.length_pos_iff.mpr hne
  have ri := dv_rangeM s.2 (m := (s.1.length : Int)) (by omega)
  have rj := dv_rangeM (nx s.2) (m := (s.1.length : Int)) (by omega)
  unfold mixStep
  simp only []
  generalize hI : (dv s.2 (s.1.length : Int)).toNat = i at *
  generalize hJ : (dv (nx s.2) (s.1.length : Int)).toNat = j at *
  have li : i < s.1.length := by omega
  have lj : j < s.1.length := by omega
  by_cases hij : i = j
  · rw [if_pos hij]
    exact ⟨I, rfl⟩
  · rw [if_neg hij]
    refine ⟨?_, List.length_set ..⟩
    have gi : s.1[i]? = some (rowAt s.1 i) := by unfold rowAt; rw [List.getElem?_eq_getElem li]; rfl
    have gj : s.1[j]? = some (rowAt s.1 j) := by unfold rowAt; rw [List.getElem?_eq_getElem lj]; rfl
    generalize rowAt s.1 i = ra at gi
    generalize rowAt s.1 j = rb at gj
    have ma := List.mem_of_getElem? gi
    have mb := List.mem_of_getElem? gj
    have ie := mem_erase hij gj
    have I2 := codeI_perm (ers_perm gi).symm I
    refine codeI_perm (set_perm li).symm ?_
    generalize s.1.eraseIdx i = E at ie I2
    have aE : AllN n E := fun r hr => I2.alln r (List.mem_cons_of_mem _ hr)
    have la := I.alln ra ma
    have lb := I.alln rb mb
    refine ⟨fun r hr => ?_, fun r hr t ht => ?_, ?_⟩
    · rcases List.mem_cons.mp hr with e | e
      · rw [e]; exact mul_len lb la
      · exact aE r e
    · have key : ∀ x ∈ E, om (mul rb ra).p x.p = false := fun x hx => by
        show om (plx rb.p ra.p) x.p = false
        rw [om_add' lb la (aE x hx), I2.com rb (List.mem_cons_of_mem _ ie) x (List.mem_cons_of_mem _ hx), I2.com ra (List.mem_cons_self ..) x (List.mem_cons_of_mem _ hx)]
        rfl
      rcases List.mem_cons.mp hr with e | e <;> rcases List.mem_cons.mp ht with f | f
      · rw [e, f]; exact om_self _
      · rw [e]; exact key t f
      · rw [f, om_comm]; exact key r e
      · exact I2.com r (List.mem_cons_of_mem _ e) t (List.mem_cons_of_mem _ f)
    · have i2 : ¬ Sp n (plS E) ra.p ∧ InP n (plS E) := I2.ind
      refine ⟨fun c => i2.1 ?_, i2.2⟩
      have c : Sp n (plS E) (plx rb.p ra.p) := c
      have := sp_add (ps_all aE) lb (plx_ln lb la) (sp_mem (ps_all aE) (List.mem_map_of_mem ie)) c
      rwa [plx_back lb la] at this
theorem mixL_okM {n : Nat} {rs : List Row} (hne : rs ≠ []) (I : CodeI n rs) (st : Int) : ∀ k, CodeI n (mixL rs st k).1 ∧ (mixL rs st k).1.length = rs.length
  | 0 => ⟨I, rfl⟩
  | k + 1 => by
    obtain ⟨h1, h2⟩ := mixL_okM hne I st k
    have hne2 : (mixL rs st k).1 ≠ [] := fun c => by
      rw [c] at h2
      exact hne (List.length_eq_zero_iff.mp h2.symm)
    obtain ⟨q1, q2⟩ := mixStep_okM hne2 h1
    exact ⟨q1, q2.trans h2⟩
theorem mixR8_okM {n : Nat} {rs : List Row} (hne : rs ≠ []) (I : CodeI n rs) (st : Int) : CodeI n (mixR8 rs st).1 ∧ (mixR8 rs st).1.length = rs.length := by
  obtain ⟨h1, h2⟩ := mixL_okM hne I st 8
  have hp : (mixL rs st 8).1.Perm (mixR8 rs st).1 := by
    unfold mixR8
    simp only []
    generalize (dv (mixL rs st 8).2 ((mixL rs st 8).1.length : Int)).toNat = c
    conv => lhs; rw [← List.take_append_drop c (mixL rs st 8).1]
    exact List.perm_append_comm
  exact ⟨codeI_perm hp h1, hp.length_eq.symm.trans h2⟩
theorem codeR_okM (st : Int) : ∃ n, Wd n ∧ (codeR st).1 ≠ [] ∧ (codeR st).1.length ≤ 5 ∧ CodeI n (codeR st).1 := by
  unfold codeR
  simp only []
  by_cases h0 : dv st 6 = 0
  · rw [if_pos h0]
    refine ⟨5, by decide, by simp, by simp, codeI_of (qs := (List.range 4).map fun k => rowsA[k]?.getD []) ?_ (by decide +kernel) (by decide +kernel) (by decide +kernel)⟩
    unfold plS
    rw [List.map_map]
    rfl
  rw [if_neg h0]
  by_cases h1 : dv st 6 = 1
  · rw [if_pos h1]
    exact ⟨4, by decide, by simp, by simp, codeI_of (qs := [plB1, plB2]) rfl (by decide +kernel) (by decide +kernel) (by decide +kernel)⟩
  rw [if_neg h1]
  by_cases h2 : dv st 6 = 2
  · rw [if_pos h2]
    exact ⟨3, by decide, by simp, by simp, codeI_of (qs := [plC1, plC2]) rfl (by decide +kernel) (by decide +kernel) (by decide +kernel)⟩
  rw [if_neg h2]
  have rn : 0 ≤ dv (nx st) (if dv st 6 % 2 = 0 then 4 else 5) ∧ dv (nx st) (if dv st 6 % 2 = 0 then 4 else 5) ≤ 4 := by
    split
    · have := dv_rangeM (nx st) (m := 4) (by decide); omega
    · have := dv_rangeM (nx st) (m := 5) (by decide); omega
  generalize hn : (1 + dv (nx st) (if dv st 6 % 2 = 0 then 4 else 5)).toNat = n
  have w : Wd n := ⟨by omega, by omega⟩
  obtain ⟨t1, t2⟩ := tabL_okM w (nx (nx (nx st))) (1 + dv (nx (nx st)) 25).toNat
  have tn : (tabL n (nx (nx (nx st))) (1 + dv (nx (nx st)) 25).toNat).1 ≠ [] := fun c => by
    rw [c] at t2
    have := w.1
    simp at t2
    omega
  obtain ⟨m1, m2⟩ := mixR8_okM tn t1 (tabL n (nx (nx (nx st))) (1 + dv (nx (nx st)) 25).toNat).2
  have rd := dv_rangeM (mixR8 (tabL n (nx (nx (nx st))) (1 + dv (nx (nx st)) 25).toNat).1 (tabL n (nx (nx (nx st))) (1 + dv (nx (nx st)) 25).toNat).2).2 (m := (n : Int)) (by have := w.1; omega)
  have w1 := w.1
  have w2 := w.2
  refine ⟨n, w, fun c => ?_, ?_, codeI_take m1⟩
  · have := congrArg List.length c
    rw [List.length_take, m2, t2] at this
    simp only [List.length_nil] at this
    omega
  · rw [List.length_take, m2, t2]
    omega
end Bw
/-! M7: some state of the code isn't nothing, by the trace. -/
namespace Bw
def zeroL (n : Nat) : List Amp := List.replicate (2 ^ n) zeroA
theorem zeroL_ln (n : Nat) : Ln n (zeroL n) := List.length_replicate
theorem zeroL_at (n j : Nat) : ampAt (zeroL n) j = zeroA := by
  unfold ampAt zeroL
  rw [List.getElem?_replicate]
  split <;> rfl
def sumL (n : Nat) (acc : List Row) (z : List Amp) : List Amp := acc.foldr (fun g s => addL (act g z) s) (zeroL n)
theorem sumL_ln {n : Nat} {z : List Amp} (h : Ln n z) : ∀ acc, Ln n (sumL n acc z)
  | [] => zeroL_ln n
  | g :: acc => addL_ln (act_ln h)
theorem addL_assoc {n : Nat} {a b c : List Amp} (h1 : Ln n a) (h2 : Ln n b) (h3 : Ln n c) : addL (addL a b) c = addL a (addL b c) :=
  ln_ext (addL_ln (addL_ln h1)) (addL_ln h1) fun j hj => by
    rw [addL_at (by rw [addL_len, h1]; exact hj), addL_at (by rw [h1]; exact hj), addL_at (by rw [h1]; exact hj), addL_at (by rw [h2]; exact hj), addA_assoc]
theorem zero_addL {n : Nat} {a : List Amp} (h : Ln n a) : addL (zeroL n) a = a :=
  ln_ext (addL_ln (zeroL_ln n)) h fun j hj => by rw [addL_at (by rw [zeroL_ln]; exact hj), zeroL_at, zero_addA]
theorem addL_zero {n : Nat} {a : List Amp} (h : Ln n a) : addL a (zeroL n) = a := by rw [addL_comm h (zeroL_ln n), zero_addL h]
theorem sumL_app {n : Nat} {z : List Amp} (h : Ln n z) (b : List Row) : ∀ a, sumL n (a ++ b) z = addL (sumL n a z) (sumL n b z)
  | [] => (zero_addL (sumL_ln h b)).symm
  | g :: a => by
    show addL (act g z) (sumL n (a ++ b) z) = addL (addL (act g z) (sumL n a z)) (sumL n b z)
    rw [sumL_app h b a, addL_assoc (act_ln h) (sumL_ln h a) (sumL_ln h b)]
theorem act_sumL {n : Nat} {z : List Amp} {r : Row} (h : Ln n z) (hr : r.p.length = n) : ∀ acc, AllN n acc → (∀ g ∈ acc, om r.p g.p = false) → act r (sumL n acc z) = sumL n (acc.map (mul r)) z
  | [], _, _ => act_zero hr
  | g :: acc, ha, hc => by
    show act r (addL (act g z) (sumL n acc z)) = addL (act (mul r g) z) (sumL n (acc.map (mul r)) z)
    rw [act_addL hr (act_ln h) (sumL_ln h acc), act_act0 hr (ha g (List.mem_cons_self ..)) h (hc g (List.mem_cons_self ..)), act_sumL h hr acc (fun s hs => ha s (List.mem_cons_of_mem _ hs)) fun s hs => hc s (List.mem_cons_of_mem _ hs)]
theorem cn_sum {n : Nat} {z : List Amp} (h : Ln n z) : ∀ (rows acc : List Row), AllN n rows → AllN n acc → (∀ r ∈ rows, ∀ s ∈ rows, om r.p s.p = false) → (∀ r ∈ rows, ∀ g ∈ acc, om r.p g.p = false) → rows.foldl cnStep (sumL n acc z) = sumL n (rows.foldl grStep acc) z
  | [], _, _, _, _, _ => rfl
  | r :: rows, acc, ha, hb, hc, hd => by
    have hr : r.p.length = n := ha r (List.mem_cons_self ..)
    have e : cnStep (sumL n acc z) r = sumL n (grStep acc r) z := by
      unfold cnStep grStep
      rw [sumL_app h, act_sumL h hr acc hb (hd r (List.mem_cons_self ..))]
    show rows.foldl cnStep (cnStep (sumL n acc z) r) = sumL n (rows.foldl grStep (grStep acc r)) z
    rw [e]
    refine cn_sum h rows _ (fun s hs => ha s (List.mem_cons_of_mem _ hs)) (fun g hg => ?_) (fun a h1 b h2 => hc a (List.mem_cons_of_mem _ h1) b (List.mem_cons_of_mem _ h2)) (fun s hs g hg => ?_)
    · rcases List.mem_append.mp hg with hg | hg
      · exact hb g hg
      · obtain ⟨t, ht, rfl⟩ := List.mem_map.mp hg
        exact mul_len hr (hb t ht)
    · rcases List.mem_append.mp hg with hg | hg
      · exact hd s (List.mem_cons_of_mem _ hs) g hg
      · obtain ⟨t, ht, rfl⟩ := List.mem_map.mp hg
        show om s.p (plx r.p t.p) = false
        rw [om_addr hr (hb t ht) (ha s (List.mem_cons_of_mem _ hs)), hc s (List.mem_cons_of_mem _ hs) r (List.mem_cons_self ..), hd s (List.mem_cons_of_mem _ hs) t ht]
        rfl
theorem cnR_sum {n b : Nat} {rows : List Row} (I : CodeI n rows) : cnR n rows b = sumL n (grR n rows) (unitA n b) := by
  have h : Ln n (unitA n b) := unitA_len n b
  have e : sumL n [nullR n] (unitA n b) = unitA n b := by
    show addL (act (nullR n) (unitA n b)) (zeroL n) = _
    rw [act_null h, addL_zero h]
  have := cn_sum h rows [nullR n] I.alln (fun g hg => by rw [List.mem_singleton.mp hg]; exact nulP_len n) I.com fun r hr g hg => by
    rw [List.mem_singleton.mp hg, om_comm]
    exact om_nul (I.alln r hr)
  rw [e] at this
  exact this
/-- the group but its first does something -/
theorem gr_rest {n : Nat} : ∀ (rows rest : List Row), AllN n rows → AllN n rest → InP n (plS rows) → (∀ g ∈ rest, ¬ Sp n (plS rows) g.p) → ∃ rest', rows.foldl grStep (nullR n :: rest) = nullR n :: rest' ∧ AllN n rest' ∧ ∀ g ∈ rest', g.p ≠ nulP n
  | [], rest, _, hb, _, hd => ⟨rest, rfl, hb, hd⟩
  | r :: rows, rest, ha, hb, hi, hd => by
    have hr : r.p.length = n := ha r (List.mem_cons_self ..)
    have hi1 : ¬ Sp n (plS rows) r.p := hi.1
    show ∃ rest', rows.foldl grStep (nullR n :: (rest ++ (nullR n :: rest).map (mul r))) = _ ∧ _
    refine gr_rest rows _ (fun s hs => ha s (List.mem_cons_of_mem _ hs)) (fun g hg => ?_) hi.2 fun g hg => ?_
    · rcases List.mem_append.mp hg with hg | hg
      · exact hb g hg
      · obtain ⟨t, ht, rfl⟩ := List.mem_map.mp hg
        refine mul_len hr ?_
        rcases List.mem_cons.mp ht with e | e
        · rw [e]; exact nulP_len n
        · exact hb t e
    · rcases List.mem_append.mp hg with hg | hg
      · exact fun c => hd g hg (.inl c)
      · obtain ⟨t, ht, rfl⟩ := List.mem_map.mp hg
        rcases List.mem_cons.mp ht with e | e
        · rw [e]
          show ¬ Sp n (plS rows) (plx r.p (nulP n))
          rw [plx_nul hr]
          exact hi1
        · exact fun c => hd t e (.inr c)
def oneA : Amp := ⟨1, 0, 0, 0⟩
theorem unit_at {n b k : Nat} (hb : b < 2 ^ n) : ampAt (unitA n b) k = if b = k then oneA else zeroA := by
  unfold ampAt unitA
  rw [List.getElem?_set]
  by_cases h : b = k
  · subst h
    rw [if_pos rfl, if_pos (by rw [List.length_replicate]; exact hb), if_pos rfl]
    rfl
  · rw [if_neg h, if_neg h, List.getElem?_replicate]
    split <;> rfl
def trR (n : Nat) (g : Row) : Int := ((List.range (2 ^ n)).map fun b => (ampAt (act g (unitA n b)) b).a).sum
def trZ (n : Nat) (t : Bool) (zs : List Bool) : Int := ((List.range (2 ^ n)).map fun b => (rI (4 * bi t + tnR (zipB (List.replicate n false) zs) b) oneA).a).sum
theorem trZ_nul {n : Nat} (h : Wd n) : ∀ t : Bool, ∀ zs ∈ blR n, zs ≠ List.replicate n false → trZ n t zs = 0 := by
  have : n = 1 ∨ n = 2 ∨ n = 3 ∨ n = 4 ∨ n = 5 := by have := h.1; have := h.2; omega
  rcases this with c | c | c | c | c <;> subst c <;> decide +kernel
theorem fl_zero : ∀ {p : Pl}, flR p = 0 → p = zipB (List.replicate p.length false) (p.map (·.2))
  | [], _ => rfl
  | (x, z) :: p, h => by
    have h : (if x then 2 ^ p.length else 0) + flR p = 0 := h
    have hx : x = false := by
      cases x
      · rfl
      · have := Nat.two_pow_pos p.length
        simp at h
    subst hx
    have := fl_zero (p := p) (by simpa using h)
    show (false, z) :: p = (false, z) :: zipB (List.replicate p.length false) (p.map (·.2))
    rw [← this]
theorem tr_nul {n : Nat} (h : Wd n) {g : Row} (hg : g.p.length = n) (hn : g.p ≠ nulP n) : trR n g = 0 := by
  by_cases hf : flR g.p = 0
  · have e := fl_zero hf
    rw [hg] at e
    have hz : g.p.map (·.2) ∈ blR n := by
      have := blR_mem (g.p.map (·.2))
      rwa [List.length_map, hg] at this
    have hne : g.p.map (·.2) ≠ List.replicate n false := fun c => hn (by
      rw [e, c]
      unfold zipB nulP
      rw [List.zip_replicate']
      )
    have := trZ_nul h g.t _ hz hne
    unfold trZ at this
    rw [← e] at this
    rw [← this]
    unfold trR
    congr 1
    refine List.map_congr_left fun b hb => ?_
    have hb := List.mem_range.mp hb
    rw [act_at (by rw [unitA_len]; exact hb), hf, Nat.xor_zero, unit_at hb, if_pos rfl]
    rfl
  · unfold trR
    have : (List.range (2 ^ n)).map (fun b => (ampAt (act g (unitA n b)) b).a) = (List.range (2 ^ n)).map fun _ => 0 := by
      refine List.map_congr_left fun b hb => ?_
      have hb := List.mem_range.mp hb
      have hne : b ≠ b ^^^ flR g.p := fun c => hf (by
        have := congrArg (fun x => b ^^^ x) c
        simp only [Nat.xor_self, ← Nat.xor_assoc, Nat.zero_xor] at this
        exact this.symm)
      rw [act_at (by rw [unitA_len]; exact hb), unit_at hb, if_neg hne]
      show (rotN _ zeroA).a = 0
      rw [rotN_zeroA]
      rfl
    rw [this]
    generalize 2 ^ n = m
    induction m with
    | zero => rfl
    | succ m ih => rw [List.range_succ, List.map_append, List.sum_append, ih]; rfl
theorem tr_null {n : Nat} : trR n (nullR n) = ((2 ^ n : Nat) : Int) := by
  unfold trR
  have : (List.range (2 ^ n)).map (fun b => (ampAt (act (nullR n) (unitA n b)) b).a) = (List.range (2 ^ n)).map fun _ => 1 := by
    refine List.map_congr_left fun b hb => ?_
    have hb := List.mem_range.mp hb
    rw [act_null (unitA_len n b), unit_at hb, if_pos rfl]
    rfl
  rw [this]
  generalize 2 ^ n = m
  induction m with
  | zero => rfl
  | succ m ih => rw [List.range_succ, List.map_append, List.sum_append, ih]; simp
theorem sum_zip (f g : Nat → Int) : ∀ l : List Nat, (l.map fun b => f b + g b).sum = (l.map f).sum + (l.map g).sum
  | [] => rfl
  | a :: l => by simp only [List.map_cons, List.sum_cons]; rw [sum_zip f g l]; omega
theorem tr_sum {n : Nat} : ∀ acc : List Row, ((List.range (2 ^ n)).map fun b => (ampAt (sumL n acc (unitA n b)) b).a).sum = (acc.map (trR n)).sum
  | [] => by
    have : (List.range (2 ^ n)).map (fun b => (ampAt (sumL n [] (unitA n b)) b).a) = (List.range (2 ^ n)).map fun _ => 0 := List.map_congr_left fun b hb => by
      show (ampAt (zeroL n) b).a = 0
      rw [zeroL_at]
      rfl
    rw [this]
    show _ = (0 : Int)
    generalize 2 ^ n = m
    induction m with
    | zero => rfl
    | succ m ih => rw [List.range_succ, List.map_append, List.sum_append, ih]; rfl
  | g :: acc => by
    rw [List.map_cons, List.sum_cons, ← tr_sum acc]
    unfold trR
    rw [← sum_zip]
    congr 1
    refine List.map_congr_left fun b hb => ?_
    have hb := List.mem_range.mp hb
    show (ampAt (addL (act g (unitA n b)) (sumL n acc (unitA n b))) b).a = _
    rw [addL_at (by rw [act_len, unitA_len]; exact hb)]
    rfl
theorem sum_nul : ∀ (l : List Int), (∀ x ∈ l, x = 0) → l.sum = 0
  | [], _ => rfl
  | a :: l, h => by rw [List.sum_cons, h a (List.mem_cons_self ..), sum_nul l fun x hx => h x (List.mem_cons_of_mem _ hx)]; rfl
theorem abs_sum : ∀ (zs : List Amp), ¬ 0 < (zs.map fun z => absI z.a).sum → 0 ≤ (zs.map fun z => absI z.a).sum ∧ ∀ z ∈ zs, z.a = 0
  | [], _ => ⟨by simp, fun z hz => by cases hz⟩
  | y :: zs, h => by
    have key : ∀ zs : List Amp, 0 ≤ (zs.map fun z => absI z.a).sum := fun zs => by
      induction zs with
      | nil => simp
      | cons y zs ih =>
        rw [List.map_cons, List.sum_cons]
        have : 0 ≤ absI y.a := by unfold absI; split <;> omega
        omega
    have k0 := key zs
    rw [List.map_cons, List.sum_cons] at *
    have k1 : 0 ≤ absI y.a := by unfold absI; split <;> omega
    have k2 : absI y.a = 0 → y.a = 0 := by unfold absI; split <;> omega
    obtain ⟨_, i2⟩ := abs_sum zs (by omega)
    refine ⟨by omega, fun z hz => ?_⟩
    rcases List.mem_cons.mp hz with e | e
    · rw [e]; exact k2 (by omega)
    · exact i2 z e
theorem some_ok {n : Nat} {rows : List Row} (h : Wd n) (I : CodeI n rows) : someR n rows ≠ [] := by
  intro c
  obtain ⟨rest, e, _, hr⟩ := gr_rest rows [] I.alln (fun g hg => by cases hg) I.ind (fun g hg => by cases hg)
  have e : grR n rows = nullR n :: rest := e
  have ar : AllN n rest := by
    obtain ⟨rest', e', a', _⟩ := gr_rest rows [] I.alln (fun g hg => by cases hg) I.ind (fun g hg => by cases hg)
    have e' : grR n rows = nullR n :: rest' := e'
    rw [e] at e'
    rw [(List.cons.inj e').2]
    exact a'
  have t := tr_sum (n := n) (grR n rows)
  rw [e, List.map_cons, List.sum_cons, tr_null, sum_nul (rest.map (trR n)) fun x hx => by
    obtain ⟨g, hg, rfl⟩ := List.mem_map.mp hx
    exact tr_nul h (ar g hg) (hr g hg)] at t
  rw [← e] at t
  have z : ((List.range (2 ^ n)).map fun b => (ampAt (sumL n (grR n rows) (unitA n b)) b).a).sum = 0 := by
    refine sum_nul _ fun x hx => ?_
    obtain ⟨b, hb, rfl⟩ := List.mem_map.mp hx
    rw [← cnR_sum I]
    unfold someR at c
    have := List.filter_eq_nil_iff.mp c (cnR n rows b) (List.mem_map_of_mem hb)
    unfold nzA at this
    have a0 := (abs_sum (cnR n rows b) (by simpa using this)).2
    unfold ampAt
    cases hg : (cnR n rows b)[b]? with
    | none => rfl
    | some y => exact a0 y (List.mem_of_getElem? hg)
  rw [z] at t
  have := Nat.two_pow_pos n
  omega
end Bw
/-! Srt1: sorted(xs, key=f) over the abstract heap: f's calls may lay new things. -/
namespace Bw
open PySem PySem.Spec PyProof.Rows L2
open PySem.W (EachIs AllAlike Sortable dataLe KeepsBut KeyedOut)
section
variable {X : Cx} {pins : List (Addr × Obj)} {σ : L2.St}
/-- what a key's call keeps: told things and data by G, untold things that are no frames -/
structure KeyCall (X : Cx) (pins : List (Addr × Obj)) (σ : L2.St) (G : Hp → Prop) (s : Shared) (H : Hp) (k : PyData) (u : Value) (s' : Shared) (H' : Hp) : Prop where
  inv : Inv X pins σ H' s'
  g : G H'
  keep : ∀ b o, s.heap.get? b = some o → H b = none → b ∉ frs X.stack → s'.heap.get? b = some o ∧ H' b = none
  data : ∀ v d, Rp X.K (fun _ => False) H v d → Rp X.K (fun _ => False) H' v d
  key : ∃ v, RelV v u ∧ Rp X.K (fun _ => False) H' v k
/-- two untold things of ours have changed, one of them is told from now on -/
theorem inv_end {H : Hp} {s : Shared} {h' : Heap} {t' : Nat} {a kS : Addr} {vs : List V} {out : List Value} {c : Nat} (I : Inv X pins σ H s) (ra : FbM.Rec X pins a) (rk : FbM.Rec X pins kS) (na : H a = none) (nk : H kS = none)
    (k : ∀ b o, b ≠ a → b ≠ kS → s.heap.get? b = some o → h'.get? b = some o) (ha : h'.get? a = some (seqObj "list" out.toArray c)) (hz : vs.length ≤ sizeLine) (r : Vals vs out) : Inv X pins σ (upd H a (.lst vs)) { s with heap := h', toks := t' } := by
  have nit : ∀ b u, H b = some u → b ≠ a ∧ b ≠ kS := fun b u e => ⟨fun z => (by rw [z, na] at e; cases e), fun z => (by rw [z, nk] at e; cases e)⟩
  have out_ : ∀ b, b ∉ [a, kS] → b ≠ a ∧ b ≠ kS := fun b hb => ⟨fun z => hb (by simp [z]), fun z => hb (by simp [z])⟩
  refine I.step (g' := s.gens) (d' := s.drawn) (ch := [a, kS]) (fun b hb => ?_) (fun b o _ _ hc e _ => k b o (out_ b hc).1 (out_ b hc).2 e) (fun b o _ _ hc e _ => ⟨o.slots, k b o (out_ b hc).1 (out_ b hc).2 e⟩) (fun b o hc e n => by rw [upd_ne (out_ b hc).1]; exact n)
    (fun b o hc e => ⟨o, k b o (out_ b hc).1 (out_ b hc).2 e⟩) (fun b xs e => by rw [upd_ne (nit b _ e).1]; exact e) (fun b o u e => by rw [upd_ne (nit b _ e).1]; exact e) (fun b ps e => ⟨#[], by rw [upd_ne (nit b _ e).1, e]; simp⟩) (fun m hm => ?_) (fun b u e => ?_) I.bare
  · have e : b = a ∨ b = kS := by simpa using hb
    rcases e with e | e
    · subst e
      exact ⟨.inr ra.ge, ra.nl, ra.ce, ra.pn⟩
    · subst e
      exact ⟨.inr rk.ge, rk.nl, rk.ce, rk.pn⟩
  · obtain ⟨o, es, ep, ho, q⟩ := hm
    exact ⟨o, es, ep, k _ o (Ne.symm ra.nl) (Ne.symm rk.nl) ho, q⟩
  · by_cases hb : b = a
    · subst hb
      rw [upd_same] at e
      cases e
      exact ⟨hz, out, c, r, ha⟩
    · rw [upd_ne hb] at e
      refine (I.hok b u e).stay (fun d v hd q => ?_) (fun d q => by rw [upd_ne (nit d _ q).1]; exact q) fun d xs q => by rw [upd_ne (nit d _ q).1]; exact q
      have nd : d ≠ a ∧ d ≠ kS := by
        rcases hd with z | z
        · rw [z]; exact nit b u e
        · exact nit d _ z
      exact k d v nd.1 nd.2 q
theorem key_rest {A : Around} {a kS : Addr} {f : Value} {vs : List Value} {kz : List PyData} {G : Hp → Prop} {P : PySem.Fin → Shared → Prop} {E : Value → Shared → Prop} {e1 : Nat} {H : Hp} {s : Shared} (I : Inv X pins σ H s) (g : G H) (ra : FbM.Rec X pins a) (rk : FbM.Rec X pins kS) (na : H a = none) (nk : H kS = none)
    (ok : s.heap.get? kS = some (seqObj "list" #[] 0)) (oa : s.heap.get? a = some (seqObj "list" #[] e1)) (hka : kS ≠ a) (hlen : kz.length = vs.length) (hZ : vs.length ≤ sizeLine) (hal : AllAlike kz) (hsk : Sortable kz) (hu : ∀ d, d ∈ kz → A.units + d.depth < cLine)
    (turn : ∀ (i : Nat) (v : Value) (k : PyData), vs[i]? = some v → kz[i]? = some k → ∀ (s' : Shared) (H' : Hp), Inv X pins σ H' s' → G H' → wpAny (model X.prog X.w) A (call f [v]) (fun u s2 => ∃ H2, KeyCall X pins σ G s' H' k u s2 H2) (fun _ _ => False) s')
    (h : ∀ out s' H' h' tk c, Inv X pins σ H' s' → G H' → H' a = none → H' kS = none → (∀ b o, b ≠ a → b ≠ kS → s'.heap.get? b = some o → h'.get? b = some o) → h'.get? a = some (seqObj "list" (List.toArray out) c) → KeyedOut false kz vs out → P (.done (.ret .none)) { s' with heap := h', toks := tk }) :
    wpAny (model X.prog X.w) A (ksk_rest a f false vs.toArray e1 (.ref kS)) P E s := by
  unfold PyProof.Rows.ksk_rest
  refine wpAny_bind (wpAny_rule ?_)
  rw [← Array.forIn_toList]
  simp only [List.toList_toArray]
  refine wpAny_bind (PyProof.Rows.ksk_fold (fun i s' => ∃ H' kA e, Inv X pins σ H' s' ∧ G H' ∧ H' a = none ∧ H' kS = none ∧ s'.heap.get? kS = some (seqObj "list" kA e) ∧ s'.heap.get? a = some (seqObj "list" #[] e1) ∧ EachIs (fun v k => ∃ w, RelV w v ∧ Rp X.K (fun _ => False) H' w k) kA.toList (kz.take i)) vs 0 s
    ⟨H, #[], 0, I, g, na, nk, ok, oa, by rw [List.take_zero]; exact .nil⟩ ?_ ?_)
  · rintro j x s' hx ⟨H', kA, e, I', g', na', nk', ok', oa', hk⟩
    simp only [Nat.zero_add] at hk ⊢
    have hj : j < vs.length := (List.getElem?_eq_some_iff.mp hx).1
    obtain ⟨k, hkj⟩ : ∃ k, kz[j]? = some k := ⟨_, List.getElem?_eq_getElem (by omega)⟩
    have hz : kA.size ≤ vs.length := by
      have h1 := hk.length
      rw [Array.length_toList, List.length_take] at h1
      omega
    refine wpAny_bind (wpAny_attempt (wpAny_mono (turn j x k hx hkj s' H' I' g') (fun v s2 he => ?_) fun _ _ hF => hF.elim))
    obtain ⟨H2, C⟩ := he
    try dsimp only
    obtain ⟨ok2, nk2⟩ := C.keep kS _ ok' nk' rk.fr
    obtain ⟨oa2, na2⟩ := C.keep a _ oa' na' ra.fr
    have s1 := Heap.SameBut.update s2.heap kS (Obj.mapSeq (·.push v))
    obtain ⟨c2, hc2⟩ : ∃ c2, (s2.heap.update kS (Obj.mapSeq (·.push v))).get? kS = some (seqObj "list" (kA.push v) c2) := ⟨_, get?_update_seq ok2 (·.push v)⟩
    refine wpAny_bind (listUpdate_at ok2 rfl ?_ (Nat.le_trans hz hZ) (Nat.le_trans (Nat.le_of_eq (Array.size_push ..)) (Nat.succ_le_succ (Nat.le_trans hz hZ))))
    have I3 : Inv X pins σ H2 { s2 with heap := s2.heap.update kS (Obj.mapSeq (·.push v)), toks := s2.toks } := rk.turn C.inv nk2 fun c o hc e => (s1.2 c hc).trans e
    have ek : kz.take (j + 1) = kz.take j ++ [k] := by rw [List.take_add_one, hkj]; rfl
    have ea : (kA.push v).toList = kA.toList ++ [v] := by simp
    refine wpAny_pure ⟨rfl, H2, kA.push v, c2, I3, C.g, na2, nk2, hc2, (s1.2 a hka.symm).trans oa2, ?_⟩
    rw [ea, ek]
    exact PySem.W.each_snoc C.key (hk.mono fun u d ⟨w, q1, q2⟩ => ⟨w, q1, C.data w d q2⟩)
  · rintro s' ⟨H', kA, e, I', g', na', nk', ok', oa', hk⟩
    have hk1 : EachIs (fun v k => ∃ as, Reads s'.heap v k as) kA.toList kz := by
      have e3 : kz.take (0 + vs.length) = kz := List.take_of_length_le (by omega)
      rw [e3] at hk
      exact hk.mono fun v k ⟨w, q1, q2⟩ => Dp.reads I' k w v (Rp.dp q2) q1
    have hsz : kA.size = vs.length := by
      have h1 := hk1.length
      rw [Array.length_toList] at h1
      omega
    refine wpAny_bind (listItems_at ok' rfl ?_)
    refine PySem.W.keyH_end (κ := PySem.W.dataKind s'.heap kz) (h₁ := PySem.W.hideAll s'.heap [kS]) (fun b o _ q => PySem.W.of_hideAll _ q) (PySem.W.hideAll_none _ (by simp)) ok' oa' hka (PySem.W.SortsAt.data (s := s') hk1 hal hsk hu) hsz hZ fun h' tk c kp hh => ?_
    refine h _ s' H' h' tk c I' g' na' nk' (fun b o h1 h2 q => kp b o h1 (PySem.W.hideAll_get _ q (by simpa using h2))) hh ⟨s'.heap, kA.toList, hal, rfl, hk1⟩
end
end Bw
/-! Srt2: sorted(xs, key=lambda x: ..): the call, the lambda made, the lambda called. -/
namespace Bw
open PySem PySem.Spec PyProof.Rows L2
open PySem.W (EachIs AllAlike Sortable dataLe KeepsBut KeyedOut)
section
variable {X : Cx} {pins : List (Addr × Obj)} {σ : L2.St}
theorem key_tree {A : Around} {a : Addr} {f : Value} {vs : List Value} {kz : List PyData} {G : Hp → Prop} {P : PySem.Fin → Shared → Prop} {E : Value → Shared → Prop} {n : Nat} {H : Hp} {s : Shared} (I : Inv X pins σ H s) (g : G H) (ra : FbM.Rec X pins a) (na : H a = none)
    (oa : s.heap.get? a = some (seqObj "list" vs.toArray n)) (hlen : kz.length = vs.length) (hZ : vs.length ≤ sizeLine) (hal : AllAlike kz) (hsk : Sortable kz) (hu : ∀ d, d ∈ kz → A.units + d.depth < cLine)
    (turn : ∀ (i : Nat) (v : Value) (k : PyData), vs[i]? = some v → kz[i]? = some k → ∀ (s' : Shared) (H' : Hp), Inv X pins σ H' s' → G H' → wpAny (model X.prog X.w) A (call f [v]) (fun u s2 => ∃ H2, KeyCall X pins σ G s' H' k u s2 H2) (fun _ _ => False) s')
    (h : ∀ out s' H', G H' → H' a = none → KeyedOut false kz vs out → (∀ ws, Vals ws out → ws.length ≤ sizeLine → Inv X pins σ (upd H' a (.lst ws)) s') → P (.done (.ret .none)) s') :
    wpAny (model X.prog X.w) A (PyProof.Rows.ksk_tree a f false) P E s := by
  unfold PyProof.Rows.ksk_tree
  obtain ⟨e1, oa1⟩ : ∃ e1, (s.heap.update a (Obj.mapSeq fun _ => (#[] : Array Value))).get? a = some (seqObj "list" #[] e1) := ⟨_, get?_update_seq oa fun _ => #[]⟩
  have sb := Heap.SameBut.update s.heap a (Obj.mapSeq fun _ => (#[] : Array Value))
  refine wpAny_bind (listItems_at oa rfl ?_)
  refine wpAny_bind (listUpdate_at oa rfl ?_ (by rw [List.size_toArray]; exact hZ) (Nat.zero_le _))
  have I1 : Inv X pins σ H { s with heap := s.heap.update a (Obj.mapSeq fun _ => (#[] : Array Value)), toks := s.toks } := ra.turn I na fun c o hc e => (sb.2 c hc).trans e
  refine wpAny_bind (seqEpoch_at oa1 rfl ?_)
  refine wpAny_bind (wpAny_newTuple ?_ (by show vs.length ≤ _; exact hZ))
  refine wpAny_bind (wpAny_newList ?_ (Nat.zero_le _))
  refine wpAny_holding ?_
  have I2 : Inv X pins σ H { s with heap := (s.heap.update a (Obj.mapSeq fun _ => (#[] : Array Value))).push (seqObj "tuple" vs.toArray 0), toks := s.toks } := I1.kept (t' := s.toks) fun b o e => Heap.get?_push_of_some _ e
  have I3 : Inv X pins σ H { s with heap := ((s.heap.update a (Obj.mapSeq fun _ => (#[] : Array Value))).push (seqObj "tuple" vs.toArray 0)).push (seqObj "list" #[] 0), toks := s.toks } := I2.kept (t' := s.toks) fun b o e => Heap.get?_push_of_some _ e
  have lt : a < (s.heap.update a (Obj.mapSeq fun _ => (#[] : Array Value))).objs.size := Heap.lt_size oa1
  have rk := FbM.rec_new I2 (Nat.le_refl _)
  refine key_rest (s := { s with heap := ((s.heap.update a (Obj.mapSeq fun _ => (#[] : Array Value))).push (seqObj "tuple" vs.toArray 0)).push (seqObj "list" #[] 0) }) I3 g ra rk na (I2.hok.fresh (Nat.le_refl _)) (Heap.get?_push_size _ rfl) (Heap.get?_push_of_some _ (Heap.get?_push_of_some _ oa1)) ?_ hlen hZ hal hsk hu turn fun out s' H' h' tk c I' g' na' nk' kp oa' ko => ?_
  · rw [size_push']
    exact Nat.ne_of_gt (Nat.lt_succ_of_lt lt)
  · exact h out _ H' g' na' ko fun ws r hz => inv_end I' ra rk na' nk' kp oa' hz r
theorem sorted_keyI {l q : Addr} {bs : List (V × PyData)} {kf : PyData → PyData} {G : Hp → Prop} {H : Hp} {s : Shared} {Q : VK} (I : Inv X pins σ H s) (g : G H) (hl : SqL X.K H l (bs.map (·.1))) (hal : AllAlike (bs.map fun b => kf b.2)) (hsk : Sortable (bs.map fun b => kf b.2)) (hL : bs.length ≤ sizeLine)
    (hu : ∀ b ∈ bs, X.A.units + 2 + (kf b.2).depth < cLine)
    (turn : ∀ (b : V × PyData) (v : Value), b ∈ bs → RelV b.1 v → ∀ (s' : Shared) (H' : Hp), Inv X pins σ H' s' → G H' → wpAny (model X.prog X.w) X.A.in1.in1 (call (.ref q) [v]) (fun u s2 => ∃ H2, KeyCall X pins σ G s' H' (kf b.2) u s2 H2) (fun _ _ => False) s')
    (h : ∀ p H', G H' → H' p = none → Q (.ref p) (upd H' p (.lst ((bs.mergeSort (dataLe false fun b => kf b.2)).map (·.1))))) : wpAny (model X.prog X.w) X.A (call (.builtin "sorted") [.ref l] [(Str.ofString "key", .ref q)]) (EP X pins σ Q) X.xe s := by
  obtain ⟨its, rv, pl, hz⟩ := I.list hl
  have e := each_vals rv
  have el := e.length
  refine PySem.W.sorted_of_sort pl.isList (by rw [el]; exact hL) (PyProof.Rows.ksk_s1 _ _) (fun _ => PyProof.Rows.ksk_l1 _ _) fun E' => ?_
  rw [PyProof.Rows.ksk_t1]
  have I1 : Inv X pins σ H { s with heap := PySem.W.copyHeap s.heap its, toks := s.toks } := I.kept (t' := s.toks) fun b o q => PySem.W.copyHeap_old q
  have ra : FbM.Rec X pins (s.heap.objs.size + 1) := FbM.rec_new I (Nat.le_succ _)
  refine key_tree (kz := bs.map fun b => kf b.2) I1 g ra (I.hok.fresh (Nat.le_succ _)) (PySem.W.copyHeap_at s.heap its) (by rw [List.length_map, el]) (by rw [el]; exact hL) hal hsk (fun d hd => ?_) (fun i v k hv hk s' H' I' g' => ?_) fun out s' H' g' na' ko hI => ⟨rfl, ?_⟩
  · obtain ⟨b, hb, rfl⟩ := List.mem_map.mp hd
    exact hu b hb
  · rw [List.getElem?_map] at hk
    cases hb : bs[i]? with
    | none => rw [hb] at hk; cases hk
    | some b =>
      rw [hb] at hk
      have hk : kf b.2 = k := Option.some.inj hk
      subst hk
      have hz : (v, b) ∈ its.zip bs := List.mem_of_getElem? (i := i) (by rw [List.getElem?_zip_eq_some]; exact ⟨hv, hb⟩)
      exact turn b v (List.mem_of_getElem? hb) (e.zip _ hz) s' H' I' g'
  · have eo := PySem.W.keyedOut_each (fun b : V × PyData => kf b.2) ko e
    have rv' := vals_each eo
    exact ⟨.ref _, _, hI _ rv' (by rw [List.length_map, List.length_mergeSort]; exact hL), rfl, h _ H' g' na'⟩
end
/-- a lambda of one's own parameters, no name captured: called -/
theorem lam_call {P : Program} {w : World} {K : PySem.W.Frag} {mg : Str → Option Value} {base : Heap} {k : Nat} {f c' : Addr} {qual : Str} {params : Arguments} {body : Expr} {scope : Scope} {pm ctv : Value} {N ps : List Str} {A : Around} {outer : List Env} {s : Shared} {H : Hp} {E : XK} {us : List Value} {vs : List V} {Q : VK}
    (hr : Room (k + 1) A) (e0 : Env0 P w K mg base A outer s H) (ho : s.heap.get? f = some (PySem.W.kla_obj "<lambda>" qual params body scope [] pm c' ctv)) (hcd : s.heap.CodeRec (.ref c') qual) (S : FnScope N ps scope)
    (hbind : bindArgs (PySem.W.kla_fn "<lambda>" qual params body scope [] pm (.ref c') ctv) ⟨us, []⟩ = pure (ps.zip us)) (r : Vals vs us) (hl : vs.length = ps.length)
    (hbody : Room k (A.deeper (envOfC qual scope s.heap.objs.size f (.ref c'))) → ∃ te, PE (cxOf CX0 P w K mg base N qual scope f (.ref c') A outer s H E) body te ∧ te (L2.start N vs) H Q) :
    codeAny (model P w) A (.call (.ref f) ⟨us, []⟩) (CR CX0 outer P w H s Q E) s := by
  have lim : s.heap.NoLimit := e0.mod.nolimit.keeps fun b o e => (e0.bs b o e).1
  refine PySem.W.kla_callFunE hr.depth ho rfl S.co S.gen rfl hcd ?_
  rw [hbind]
  have hkind : ∀ y ∈ ps.zip us, scope.names.lookup y.1 = some .local ∨ (scope.names.lookup y.1 = some .cell ∧ ((cellsFrom (s.heap.objs.size + 1) scope.names []).lookup y.1).isSome = true) := by
    rintro ⟨n, v⟩ hy
    exact (S.par n (List.of_mem_zip hy).1).imp id fun q => ⟨q, PySem.W.cellsFrom_some _ _ _ (.inl q)⟩
  refine wpAny_pure (wpAny_newFunctionEnv_cells S.kind hkind fun env he s1 x => ?_)
  subst he
  refine ⟨lim.keeps x.toInCall.keep, PySem.W.kla_codeExpr ?_⟩
  obtain ⟨te, hte, hq⟩ := hbody (hr.deeper _)
  have J := inv_start (CX := CX0) (E := E) S hr.hd e0 hl r x
  refine wpAny_mono (hte.run [] s1 _ H _ J hq) (fun v s' hs => ?_) fun e s' hs => hs
  obtain ⟨u, H', J', rv, q⟩ := hs
  exact ⟨u, H', J'.os, J'.bare, J'.base, J'.hok, rv, q⟩
end Bw
/-! Srt3: a lambda made in a def's body whose table is told; sorted by such a key. -/
namespace Bw
open PySem PySem.Spec PyProof.Rows L2
section
variable {X : Cx} {pins : List (Addr × Obj)} {σ : L2.St} {H : Hp} {s : Shared}
/-- the table at P has grown by one, c' is its new code; or nothing has changed -/
structure Grown (q : Str) (P : Addr) (H H1 : Hp) : Prop where
  sm : Sm H H1
  but : ∀ b o, b ≠ P → H b = some o → H1 b = some o
  tab : LamX.TabS H1 P q
theorem Grown.tb {K : PySem.W.Frag} {q : Str} {P : Addr} {H1 : Hp} (g : Grown q P H H1) (hq : q = "all_errors.<locals>.<lambda>") (t : TbI K H) (hne : ∀ (b : Addr) u, H b = some u → LamX.TabS H P q → Tx u = true → (∀ ps, u ≠ .tbl ps) → b ≠ P) (hP : LamX.TabS H P q) : TbI K H1 := fun P' q' hi => by
  have e : q' = q := by
    obtain ⟨_, _, _, _, _, _, _, _, e⟩ := hi
    rw [e, hq]
  subst e
  by_cases z : P' = P
  · rw [z]
    exact g.tab
  · obtain ⟨ps, h1, h2, h3⟩ := t P' q' hi
    refine ⟨ps, g.but _ _ z h1, h2, fun pos cv hc => ?_⟩
    obtain ⟨c, e1, e2⟩ := h3 pos cv hc
    exact ⟨c, e1, g.but _ _ (hne c _ e2 hP rfl fun ps => LamX.codeO_ne ps) e2⟩
theorem tab_ne {q : Str} {P b : Addr} {u : HO} (h : H b = some u) (hP : LamX.TabS H P q) (hn : ∀ ps, u ≠ .tbl ps) : b ≠ P := fun z => by
  obtain ⟨ps, e, _⟩ := hP
  rw [← z, h] at e
  exact hn ps (Option.some.inj e)
theorem lam_mk {c P : Addr} {params : Arguments} {body : Expr} {scope : Scope} {pos : Pos} {E : Value → Shared → Prop} {Q : Value → Shared → Prop} (I : Inv X pins σ H s) (TB : LamX.TabB X.base X.mg c P) (hcode : X.env.code = .ref c) (hT : LamX.TabS H P (X.env.qual ++ "<lambda>"))
    (hdef : defaultsOf params X.env = ([], [])) (hfree : ∀ y ∈ scope.names, y.2 = .free → ∃ c, X.env.cells.lookup y.1 = some c) (hclo : cloFrom X.env.cells scope.names [] = [])
    (h : ∀ (f c' : Addr) (pm ctv : Value) (H1 : Hp) (s' : Shared), Inv X pins σ H1 s' → Grown (X.env.qual ++ "<lambda>") P H H1 → s'.heap.get? f = some (PySem.W.kla_obj "<lambda>" (X.env.qual ++ "<lambda>") params body scope [] pm c' ctv) → H1 f = none → s.heap.objs.size ≤ f →
      H1 c' = some (LamX.CodeO c' (X.env.qual ++ "<lambda>")) → Q (.ref f) s') : wpAny (model X.prog X.w) X.A (eval (.Lambda params body scope pos) X.env) Q E s := by
  have hT0 := hT
  obtain ⟨ps, hP, ht, ha⟩ := hT
  have bP := TB.bm.keeps I.bk
  have oP : s.heap.get? P = some { cls := .none, data := .fields ps } := I.hok P _ hP
  refine PySem.W.kla_eval hdef ?_
  cases hc : codeAmong pos ps.toList with
  | some cv =>
    obtain ⟨c', rfl, hco⟩ := ha pos cv hc
    refine PySem.W.kla_makeFunctionHit (mg := X.mg) (c := c) (P := P) (ps := ps) (closure_ok hfree) I.ok.glob (I.mod.glob.keeps I.bk) hcode (TB.code.keeps I.bk) oP ht hc bP fun ctv h' tk hx hsz => ?_
    rw [hclo]
    exact h _ c' ((X.mg "__name__").getD .none) ctv H _ (I.kept (t' := tk) fun b o e => Heap.get?_push_of_some _ (hx b o e)) ⟨Sm.of (Same.refl _), fun _ _ _ e => e, hT0⟩ (Heap.get?_push_size _ rfl) (I.hok.fresh hsz) hsz hco
  | none =>
    refine PySem.W.kla_makeFunction (mg := X.mg) (c := c) (P := P) (ps := ps) (closure_ok hfree) I.ok.glob (I.mod.glob.keeps I.bk) hcode (TB.code.keeps I.bk) oP ht hc TB.gP bP fun c' ctv h' tk hx hge hlt hrec htb => ?_
    rw [hclo]
    obtain ⟨c2, oc, vs, t, e2, hoc, hd, hv⟩ := hrec
    cases e2
    have nC : H c' = none := I.hok.fresh hge
    have fC : s.heap.objs.size ≤ h'.objs.size := Nat.le_trans hge (Nat.le_of_lt hlt)
    have J := LamX.inv_table (q := X.env.qual ++ "<lambda>") (t' := tk) (h' := h'.push (PySem.W.kla_obj "<lambda>" (X.env.qual ++ "<lambda>") params body scope [] ((X.mg "__name__").getD .none) c' ctv)) (more := #[rawInt pos.line, rawInt pos.col, .ref c']) I hP
      (fun b o hb e => Heap.get?_push_of_some _ (hx b o hb e)) (Heap.get?_push_of_some _ htb) hge ⟨oc, vs, t, Heap.get?_push_of_some _ hoc, hd, hv⟩
    have nPc : P ≠ c' := ne_of_none hP nC
    have eP : upd (upd H P (.tbl (ps ++ #[rawInt pos.line, rawInt pos.col, .ref c']))) c' (LamX.CodeO c' (X.env.qual ++ "<lambda>")) P = some (.tbl (ps ++ #[rawInt pos.line, rawInt pos.col, .ref c'])) := by rw [upd_ne nPc, upd_same]
    have eO : ∀ b o, b ≠ P → H b = some o → upd (upd H P (.tbl (ps ++ #[rawInt pos.line, rawInt pos.col, .ref c']))) c' (LamX.CodeO c' (X.env.qual ++ "<lambda>")) b = some o := fun b o hb e => by
      rw [upd_ne (ne_of_none e nC), upd_ne hb]
      exact e
    refine h _ c' ((X.mg "__name__").getD .none) ctv _ _ J ⟨fun b o e => ?_, eO, _, eP, ?_, fun p' cv hcv => ?_⟩ (Heap.get?_push_size _ rfl) ?_ fC upd_same
    · by_cases hb : b = P
      · subst hb
        rw [hP] at e
        cases e
        exact ⟨_, eP⟩
      · exact .of (eO b o hb e)
    · rw [show (ps ++ #[rawInt pos.line, rawInt pos.col, Value.ref c']).toList = ps.toList ++ [rawInt pos.line, rawInt pos.col, .ref c'] by simp]
      exact PySem.TriplesOk_snoc _ _ _ _ ht
    · rw [show (ps ++ #[rawInt pos.line, rawInt pos.col, Value.ref c']).toList = ps.toList ++ [rawInt pos.line, rawInt pos.col, .ref c'] by simp] at hcv
      rcases LamX.among_app _ ht hcv with z | z
      · obtain ⟨c0, e1, e2⟩ := ha p' cv z
        exact ⟨c0, e1, eO _ _ (tab_ne e2 hT0 fun ps => LamX.codeO_ne ps) e2⟩
      · exact ⟨c', z, upd_same⟩
    · rw [upd_ne (Nat.ne_of_gt hlt), upd_ne (Nat.ne_of_gt (Nat.lt_of_lt_of_le (Heap.lt_size oP) fC))]
      exact I.hok.fresh fC
end
end Bw
/-! Srt4: sorted(xs, key=lambda x: ..) of data. -/
namespace Bw
open PySem PySem.Spec PyProof.Rows L2
open PySem.W (EachIs AllAlike Sortable dataLe)
theorem room_in2 {k : Nat} {A : Around} (r : Room (k + 2) A) : Room (k + 1) A.in1.in1 :=
  ⟨r.hd, by have := r.dp; show A.depth + 3 * (k + 1) + 5 < _; omega, by have := r.un; show A.units + 1 + 1 + 16 * (k + 1) + 200 < _; omega⟩
def srtK (kf : PyData → PyData) (ds : List PyData) : List PyData := ds.mergeSort (dataLe false kf)
section
variable {X : Cx} {ρ ρ1 : List Sl} {a : Expr} {p pos lpos kp : Pos} {ds : List PyData} {bb : Bool}
theorem dl_sortedK {k : Nat} {c P : Addr} {params : Arguments} {body : Expr} {scope : Scope} {x : Str} (kf : PyData → PyData) (ha : DQ X ρ a true ds ρ1) (hal : AllAlike (ds.map kf)) (hk : Sortable (ds.map kf)) (hL : ds.length ≤ 100000) (hd : ∀ d ∈ ds, (kf d).depth ≤ 60) (hr : Room (k + 2) X.A)
    (TB : LamX.TabB X.base X.mg c P) (hcode : X.env.code = .ref c) (hT : IsTb X.K P (X.env.qual ++ "<lambda>")) (hdef : defaultsOf params X.env = ([], [])) (hfree : ∀ y ∈ scope.names, y.2 = .free → ∃ c, X.env.cells.lookup y.1 = some c) (hclo : cloFrom X.env.cells scope.names [] = [])
    (S : FnScope [x] [x] scope) (hbind : ∀ (q : Str) (pm cv ctv : Value) (v : Value), bindArgs (PySem.W.kla_fn "<lambda>" q params body scope [] pm cv ctv) ⟨[v], []⟩ = pure [(x, v)])
    (hbody : ∀ d ∈ ds, ∀ (f c' : Addr) (A : Around) (outer : List Env) (s : Shared) (H : Hp) (E : XK), Room k (A.deeper (envOfC (X.env.qual ++ "<lambda>") scope s.heap.objs.size f (.ref c'))) →
      DE (cxOf CX0 X.prog X.w X.K X.mg X.base [x] (X.env.qual ++ "<lambda>") scope f (.ref c') A outer s H E) (st0 [x] [.py d]) body (.py (kf d)) (st0 [x] [.py d]))
    (hm : X.mg "sorted" = none) (hg : Gl X "sorted" := by rfl) (he : starEach [a] X.env = (false, eval a X.env) :: starEach [] X.env := by rfl)
    (he2 : backTo pos (starEach [a] X.env) = (false, eval a X.env) :: backTo pos (starEach [] X.env) := by rfl) (hpl : (backTo pos (starEach [a] X.env)).any (·.1) = false := by rfl)
    (hall : (backToKw pos (keywordEach [⟨some "key", .Lambda params body scope lpos, kp⟩] X.env)).all (·.1.isSome) = true := by rfl) (hnone : (backToKw pos (keywordEach [⟨some "key", .Lambda params body scope lpos, kp⟩] X.env)).any (·.1.isNone) = false := by rfl)
    (hks : (backToKw pos (keywordEach [⟨some "key", .Lambda params body scope lpos, kp⟩] X.env)).filterMap (·.1) = [Str.ofString "key"] := by rfl) :
    DL X ρ (.Call (.Name "sorted" p) [a] [⟨some "key", .Lambda params body scope lpos, kp⟩] pos) (srtK kf ds) ρ1 := by
  obtain ⟨ta, p1, r1⟩ := ha
  have hq : X.env.qual ++ "<lambda>" = "all_errors.<locals>.<lambda>" := by
    obtain ⟨_, _, _, _, _, _, _, _, e⟩ := hT
    exact e
  refine ⟨fun σ H Q => ta σ H fun v H1 => ∃ (t : Addr) (vs : List V), [v] = [V.ref t] ∧ H1 t = some (.lst vs) ∧ RpAll X.K (fun _ => False) H1 vs ds ∧ TbI X.K H1 ∧
    ∀ p H', Sm H1 H' → TbI X.K H' → H' p = none → Q (.ref p) (upd H' p (.lst ((((vs.zip ds).mergeSort (dataLe false fun b : V × PyData => kf b.2)).map (fun b : V × PyData => b.1))))), ⟨fun pins s σ H Q I h => ?_⟩, fun F0 F M H0 σ H Q S q => ?_⟩
  · refine wpAny_Call_Name_kw (ld_blt (u := .builtin "sorted") I hg hm (by decide +kernel) ?_)
    refine PyProof.Rows.callWith_kw ?_ he2 hpl hall hnone
    refine thn ((pa_cons p1 pa_nil he).run pos pins s σ H (fun us H1 => ∃ (t : Addr) (vs : List V), us = [V.ref t] ∧ H1 t = some (.lst vs) ∧ RpAll X.K (fun _ => False) H1 vs ds ∧ TbI X.K H1 ∧
      ∀ p H', Sm H1 H' → TbI X.K H' → H' p = none → Q (.ref p) (upd H' p (.lst ((((vs.zip ds).mergeSort (dataLe false fun b : V × PyData => kf b.2)).map (fun b : V × PyData => b.1)))))) I h) fun u s1 ⟨v, H1, I1, ru, t, vs, ev, h1, g1, tb, q⟩ => ?_
    subst ev
    obtain rfl := Vals.ref1 ru
    rw [hks]
    have hT1 := tb P _ hT
    refine PyProof.Rows.kwAll_cons (lam_mk I1 TB hcode hT1 hdef hfree hclo fun f c' pm ctv H2 s2 I2 gr of hf hsz hc => PyProof.Rows.kwAll_nil ?_)
    have tb2 : TbI X.K H2 := gr.tb hq tb (fun b u e hP _ hn => tab_ne e hP hn) hT1
    obtain ⟨e1, e2, e3⟩ := rp_zip g1
    have rf := FbM.rec_new I1 hsz
    have J : Inv X (pins ++ [(f, PySem.W.kla_obj "<lambda>" (X.env.qual ++ "<lambda>") params body scope [] pm c' ctv)]) σ H2 s2 := I2.pins_of fun z hz => by
      rcases List.mem_append.mp hz with hz | hz
      · exact I2.pin z (List.mem_append_right _ hz)
      · rw [List.mem_singleton.mp hz]
        exact ⟨of, hf, rf.nl, I1.nofs hsz, fun v e => by cases e⟩
    have back : ∀ {σ' H' s'}, Inv X (pins ++ [(f, PySem.W.kla_obj "<lambda>" (X.env.qual ++ "<lambda>") params body scope [] pm c' ctv)]) σ' H' s' → Inv X pins σ' H' s' := fun {σ' H' s'} J' => J'.pins_of fun z hz => J'.pin z (List.mem_append_right _ (List.mem_append_left _ hz))
    refine wpAny_mono (sorted_keyI (bs := vs.zip ds) (kf := kf) (q := f) (G := fun H' => Sm H2 H' ∧ TbI X.K H') (Q := Q) J ⟨Sm.of (Same.refl _), tb2⟩ (by rw [e1]; exact SqL.of (gr.sm t _ h1)) ?_ ?_ ?_ ?_ ?_ ?_) (fun v s' hq => ?_) fun _ _ h => h
    · rw [← e2, List.map_map] at hal
      exact hal
    · rw [← e2, List.map_map] at hk
      exact hk
    · rw [List.length_zip, g1.length, Nat.min_self]
      exact sz _ hL
    · intro b hb
      have m : b.2 ∈ ds := by rw [← e2]; exact List.mem_map_of_mem hb
      have := hd _ m
      have := hr.un
      omega
    · rintro b v hb rv s' H' J' ⟨sm', tb'⟩
      have m : b.2 ∈ ds := by rw [← e2]; exact List.mem_map_of_mem hb
      obtain ⟨of', _⟩ := J'.pin _ (List.mem_append_right _ (List.mem_append_right _ (List.mem_singleton.mpr rfl)))
      have c2 : H' c' = some (LamX.CodeO c' (X.env.qual ++ "<lambda>")) := (sm' _ _ hc).kp rfl
      obtain ⟨⟨oc, us, tk, a1, a2, a3⟩, _, _⟩ := J'.hok _ _ c2
      have e0 := J'.env0
      have e0' : Env0 X.prog X.w X.K X.mg X.base X.A.in1.in1 X.stack s' H' := ⟨e0.frames, e0.mod, e0.bs, e0.bsz, e0.funs, e0.frf, e0.hok, e0.bare⟩
      refine wpAny_call (codeAny_mono (lam_call (Q := fun u H3 => Sm H' H3 ∧ TbI X.K H3 ∧ Rp X.K (fun _ => False) H3 u (kf b.2)) (E := E0) (room_in2 hr) e0' of' ⟨c', oc, us, tk, rfl, a1, a2, a3⟩ S (hbind _ _ _ _ v) (.cons rv .nil) rfl fun hr2 => ?_) fun r s3 hr3 => ?_)
      · obtain ⟨te, q1, q2⟩ := hbody b.2 m f c' X.A.in1.in1 X.stack s' H' E0 hr2
        refine ⟨te, q1, q2 (fun _ => False) (fun _ => False) (fun _ => False) H' _ H' _ (SR.start (fun a f => f.elim) tb' (.cons (Rp.ker (Ker.sm (gr.sm.trans sm')) (e3 b hb)) .nil) (Nat.le_refl 1)) fun u H3 S3 _ o3 g3 => ⟨fun b o e => o3 b o e fun z => ?_, S3.tb, g3⟩⟩
        obtain ⟨i, es, z1, _⟩ := z
        exact st0_own z1
      · cases r with
        | error e => exact (show False from hr3).elim
        | ok fl =>
          cases fl with
          | next => exact False.elim hr3
          | brk => exact False.elim hr3
          | cont => exact False.elim hr3
          | ret u =>
            obtain ⟨w, H3, os, bare, un, hok, rw_, sm3, tb3, g3⟩ := (show CE X.stack X.prog X.w H' _ _ u s3 from hr3)
            exact ⟨H3, J'.call' os un hok bare (fun b y => absurd y List.not_mem_nil), ⟨sm'.trans sm3, tb3⟩, fun b o e n nf => ⟨un.keep b o e n nf List.not_mem_nil, un.free b o e n List.not_mem_nil⟩, fun v d g => Rp.ker (Ker.sm sm3) g, w, rw_, g3⟩
    · rintro p' H' ⟨sm', tb'⟩ hp
      exact q p' H' (gr.sm.trans sm') tb' hp
    · obtain ⟨v', H', J', rv, q'⟩ := hq
      exact ⟨v', H', back J', rv, q'⟩
  · refine r1 F0 F M H0 σ H _ S fun t vs H1 S1 w1 o1 n1 h1 g1 => ?_
    refine ⟨t, vs, rfl, h1, g1.ker (ker_less fun _ f => f.elim), S1.tb, fun p' H' sm' tb' hp => ?_⟩
    have S2 := S1.growT sm' tb'
    obtain ⟨e1, e2, e3⟩ := rp_zip (g1.ker (Ker.sm (F := F) sm'))
    have rp := rp_of_zip (K := X.K) (F := F) (H := H') (bs := (vs.zip ds).mergeSort (dataLe false fun b : V × PyData => kf b.2)) fun b hb => e3 b ((List.mergeSort_perm _ _).mem_iff.mp hb)
    have e4 : ((vs.zip ds).mergeSort (dataLe false fun b : V × PyData => kf b.2)).map (·.2) = srtK kf ds := by
      unfold srtK
      conv => rhs; rw [← e2]
      exact PySem.W.sort_maps (fun b : V × PyData => b.2) fun _ _ _ _ => rfl
    rw [e4] at rp
    obtain ⟨S3, r3⟩ := rl_of_new (te' := fun _ _ _ => True) S2 hp rp
    have oo : Off (Ow ρ σ) H H' := o1.trans (Off.sm sm')
    exact q p' _ _ (new_back S S2 oo hp) S3 w1 (oo.trans (Off.same (same_new hp))) upd_same r3
end
end Bw
/-! G12: all_errors. -/
namespace Bw
open PySem PySem.Spec PyProof.Rows L2
open PySem.W (EachIs AllAlike Sortable dataLe)
local macro_rules | `(tactic| walk_at "lv") => `(tactic| first
  | fail)
local macro_rules | `(tactic| walk_at "cd") => `(tactic| first
  | assumption | exact Iff.rfl | omega | (rw [xs_len]; assumption) | (rw [zs_len]; assumption) | (refine ⟨?_, ?_⟩ <;> assumption) | (refine ⟨?_, ?_, ?_⟩ <;> assumption) | (simp only [xs_len, zs_len]; assumption) | (simp only [xs_len, zs_len]; omega) | walk_at "lv")
local macro_rules | `(tactic| walk_at "dxp") => `(tactic| first
  | assumption
  | exact ⟨_, rfl, rfl⟩
  | exact ⟨_, _, rfl, rfl⟩
  | exact ⟨_, _, _, rfl, rfl⟩
  | exact ⟨_, _, _, _, rfl, rfl⟩
  | exact ⟨_, rfl, rfl, by walk_at "cd"⟩
  | exact ⟨_, _, rfl, rfl, by walk_at "cd"⟩
  | exact ⟨_, _, _, rfl, rfl, by walk_at "cd"⟩
  | exact ⟨_, _, _, _, rfl, rfl, by walk_at "cd"⟩
  | exact ⟨_, _, _, _, _, rfl, rfl, by walk_at "cd"⟩
  | exact ⟨_, _, _, _, _, _, rfl, rfl, by walk_at "cd"⟩
  | exact ⟨_, _, _, _, _, _, _, rfl, rfl, by walk_at "cd"⟩
  | exact ⟨_, _, _, _, _, _, _, _, rfl, rfl, by walk_at "cd"⟩
  | exact ⟨_, _, _, _, _, _, _, _, _, rfl, rfl, by walk_at "cd"⟩
  | exact ⟨_, rfl, rfl, rfl, rfl, by walk_at "side"⟩
  | walk_at "lv")
local macro_rules | `(tactic| walk_at "kit") => `(tactic| first
  | exact kit_ii | exact kit_ib | exact kit_ll | exact kit_tt)
local macro_rules | `(tactic| walk_at "side") => `(tactic| first
  | assumption | exact sel_int _ _ _ | exact sel_bi _ _ _ | rfl | decide | omega | exact Nat.le_of_ble_eq_true rfl | (simp; done) | (simp; omega) | (refine Or.inl ⟨?_, ?_⟩ <;> decide) | (refine Or.inr ⟨?_, ?_⟩ <;> decide) | (refine Or.inl ⟨?_, ?_⟩ <;> omega) | (refine Or.inr ⟨?_, ?_⟩ <;> omega) | (rw [bi_xor]; refine Or.inl ⟨?_, ?_⟩ <;> omega) | (refine And.intro ?_ (And.intro ?_ ?_) <;> omega) | (refine And.intro ?_ ?_ <;> omega) | walk_at "lv")
/-- a def whose own code object is looked at -/
theorem fn_mkC {Pg : Program} {w : World} {K : PySem.W.Frag} {mg : Str → Option Value} {base : Heap} {x qual : Str} {st : Stmt} {f : Addr} {fd : FuncData} {N ps : List Str} {k : Nat} {cdv : Value} {pre : List D → D → Prop} (F : FunD K x qual (defArgs st) (defBody st) (defScope st) [] [] f fd) (hc : fd.code = cdv) (S : FnScope N ps (defScope st)) (hl : ∀ ds d, pre ds d → ds.length = ps.length) (hN : ps.length ≤ N.length)
    (body : ∀ (A : Around) (outer : List Env) (s : Shared) (H : Hp) (E : XK) (ds : List D) (d : D), Room k (BX Pg w K mg base N qual st f cdv A outer s H E).A → pre ds d →
      DSs (BX Pg w K mg base N qual st f cdv A outer s H E) (st0 N ds) (defBody st) { nx := fun _ => d = .py .none, rt := fun _ d' => d' = d }) : FnOk Pg w K mg base CX0 (k + 1) f fd ps (SpD K pre) := by
  obtain ⟨oc, od, dV, kV, doc, pm, an, cd2, ct, osl, rfl, lk, hcd, _, _⟩ := F.ex
  have e : cd2 = cdv := hc
  subst e
  refine fn_of lk hcd S (fun vs H Q E h => ?_) fun A outer s H vs Q E hr h => ?_
  · obtain ⟨G, ds, d, _, _, r, hp, _⟩ := h
    rw [r.length, hl ds d hp]
  · obtain ⟨G, ds, d, hG, tb, r, hp, q⟩ := h
    obtain ⟨t, p1, r1⟩ := body A outer s H E ds d hr hp
    refine ⟨t, p1.nox, r1 G G (fun _ => False) H _ H _ (SR.start hG tb r (by rw [hl ds d hp]; exact hN)) (fun F' ρ' σ' H' n S' k' => ?_) (fun F' ρ' σ' H' d' v n S' k' r' => ?_) (fun _ _ _ _ z => z.elim) (fun _ _ _ _ z => z.elim)⟩
    · have n : d = .py .none := n
      exact q _ H' (fun b o e => S'.same b o e fun z => z) S'.tb (by rw [n]; exact Rp.non)
    · have n : d' = d := n
      exact q v H' (fun b o e => S'.same b o e fun z => z) S'.tb (n ▸ r')
/-! the order -/
def unB : PyData → Bool
  | .int i => i == 1
  | _ => false
def unL : PyData → List Bool
  | .tuple l => l.map unB
  | _ => []
def unRow : PyData → Row
  | .tuple [t, a, b] => ⟨unB t, (unL a).zip (unL b)⟩
  | _ => ⟨false, []⟩
theorem unB_eB (b : Bool) : unB (eB b) = b := by cases b <;> rfl
theorem unL_eBits (l : List Bool) : unL (eBits l) = l := by
  show (l.map eB).map unB = l
  rw [List.map_map]
  exact (List.map_congr_left fun b _ => unB_eB b).trans (List.map_id l)
theorem unRow_eRow (e : Row) : unRow (eRow e) = e := by
  show Row.mk (unB (eB e.t)) ((unL (eBits e.xs)).zip (unL (eBits e.zs))) = e
  rw [unB_eB, unL_eBits, unL_eBits]
  have := zipB_p e.p
  unfold zipB at this
  rw [show e.xs.zip e.zs = e.p from this]
def keyE (e : Row) : PyData := .tuple [.int (wt e.p), eRow e]
def keyD (d : PyData) : PyData := .tuple [.int (wt (unRow d).p), d]
theorem keyD_eRow (e : Row) : keyD (eRow e) = keyE e := by unfold keyD; rw [unRow_eRow]; rfl
theorem alike_bits (a b : List Bool) : PySem.W.alike (eBits a) (eBits b) = true := by
  show PySem.W.alikeAll (a.map eB) (b.map eB) = true
  have := PySem.W.alike_ints (a.map bi) (b.map bi)
  rw [List.map_map, List.map_map] at this
  exact this
theorem alike_key (a b : Row) : PySem.W.alike (keyE a) (keyE b) = true := by
  have h1 := alike_bits a.xs b.xs
  have h2 := alike_bits a.zs b.zs
  simp [keyE, eRow, PySem.W.alike, PySem.W.alikeAll, h1, h2]
/-- each smaller than the next -/
def strictB : List Row → Bool
  | [] => true
  | [_] => true
  | a :: b :: l => dataLe false keyE a b && !dataLe false keyE b a && strictB (b :: l)
def Lt2 (a b : Row) : Prop := dataLe false keyE a b = true ∧ dataLe false keyE b a = false
theorem lt2_trans {a b c : Row} (h : Lt2 a b) (k : Lt2 b c) : Lt2 a c := by
  have T : PySem.W.TotalLe (dataLe false keyE) := PySem.W.sortLe_total _ _ _
  refine ⟨T.trans _ _ _ h.1 k.1, ?_⟩
  cases hc : dataLe false keyE c a with
  | false => rfl
  | true =>
    have := T.trans _ _ _ hc h.1
    rw [k.2] at this
    cases this
theorem strict_pw : ∀ {l : List Row}, strictB l = true → l.Pairwise Lt2
  | [], _ => .nil
  | [a], _ => List.pairwise_singleton ..
  | a :: b :: l, h => by
    simp only [strictB, Bool.and_eq_true, Bool.not_eq_true'] at h
    have ih := strict_pw h.2
    refine List.pairwise_cons.mpr ⟨fun c hc => ?_, ih⟩
    rcases List.mem_cons.mp hc with e | e
    · rw [e]
      exact h.1
    · exact lt2_trans h.1 ((List.pairwise_cons.mp ih).1 c e)
theorem pw_or {α : Type} {R : α → α → Prop} : ∀ {l : List α}, l.Pairwise R → ∀ {a b : α}, a ∈ l → b ∈ l → a = b ∨ R a b ∨ R b a
  | x :: l, h, a, b, ha, hb => by
    rw [List.pairwise_cons] at h
    rcases List.mem_cons.mp ha with e | e <;> rcases List.mem_cons.mp hb with f | f
    · exact .inl (e.trans f.symm)
    · rw [e]; exact .inr (.inl (h.1 b f))
    · rw [f]; exact .inr (.inr (h.1 a e))
    · exact pw_or h.2 e f
theorem srtK_eq {l m : List Row} (hp : l.Perm m) (hs : m.Pairwise Lt2) : srtK keyD (l.map eRow) = m.map eRow := by
  have e : srtK keyD (l.map eRow) = (l.mergeSort (dataLe false keyE)).map eRow := by
    refine (PySem.W.sort_maps eRow fun a _ b _ => ?_).symm
    show dataLe false keyE a b = dataLe false keyD (eRow a) (eRow b)
    unfold PySem.W.dataLe PySem.W.sortLe
    simp only [keyD_eRow]
  rw [e]
  have T : PySem.W.TotalLe (dataLe false keyE) := PySem.W.sortLe_total _ _ _
  refine congrArg (List.map eRow) (List.Perm.eq_of_pairwise (le := fun a b => dataLe false keyE a b = true) (fun a b h1 h2 h3 h4 => ?_) (PySem.W.sort_pairwise T l) (hs.imp fun h => h.1) ((List.mergeSort_perm _ _).trans hp))
  have ma : a ∈ m := hp.mem_iff.mp ((List.mergeSort_perm _ _).mem_iff.mp h1)
  rcases pw_or hs ma h2 with e | e | e
  · exact e
  · rw [e.2] at h4; cases h4
  · rw [e.2] at h3; cases h3
theorem errR_strict {n : Nat} (h : Wd n) : (errR n).Pairwise Lt2 := by
  have : n = 1 ∨ n = 2 ∨ n = 3 ∨ n = 4 ∨ n = 5 := by have := h.1; have := h.2; omega
  rcases this with h | h | h | h | h <;> subst h <;> exact strict_pw (by decide +kernel)
theorem flat_perm {α β : Type} (g : α → List β) : ∀ {l m : List α}, l.Perm m → (l.flatMap g).Perm (m.flatMap g) := fun h => h.flatMap_right g
def errB (n : Nat) (xs : List Bool) : List Row := (brR n).map fun zs => ⟨false, zipB xs zs⟩
def allB (n : Nat) : List Row := (brR n).flatMap (errB n)
theorem br_perm {n : Nat} (h : Wd n) : (brR n).Perm (blR n) := by
  have : n = 1 ∨ n = 2 ∨ n = 3 ∨ n = 4 ∨ n = 5 := by have := h.1; have := h.2; omega
  rcases this with h | h | h | h | h <;> subst h <;> decide +kernel
theorem flat_perm2 {α β : Type} {g h : α → List β} : ∀ {l : List α}, (∀ a ∈ l, (g a).Perm (h a)) → (l.flatMap g).Perm (l.flatMap h)
  | [], _ => .refl _
  | a :: l, hh => by
    rw [List.flatMap_cons, List.flatMap_cons]
    exact (hh a (List.mem_cons_self ..)).append (flat_perm2 fun b hb => hh b (List.mem_cons_of_mem _ hb))
theorem allB_perm {n : Nat} (h : Wd n) : (allB n).Perm (allR n) := by
  unfold allB
  rw [allR_eq]
  exact (flat_perm _ (br_perm h)).trans (flat_perm2 fun xs _ => (br_perm h).map _)
theorem ord_perm {α : Type} (f : α → Nat) (l : List α) : ∀ k, ((List.range k).flatMap fun k => l.filter fun e => f e == k).Perm (l.filter fun e => decide (f e < k))
  | 0 => by
    rw [List.filter_eq_nil_iff.mpr fun a _ => by simp]
    exact .refl _
  | k + 1 => by
    rw [List.range_succ, List.flatMap_append]
    refine ((ord_perm f l k).append_right _).trans ?_
    have e1 : l.filter (fun e => decide (f e < k)) = (l.filter fun e => decide (f e < k + 1)).filter fun e => decide (f e < k) := by
      rw [List.filter_filter]
      refine List.filter_congr fun a _ => ?_
      by_cases h : f a < k
      · rw [decide_eq_true h, decide_eq_true (by omega : f a < k + 1)]; rfl
      · rw [decide_eq_false h]; rfl
    have e2 : ([k].flatMap fun k => l.filter fun e => f e == k) = (l.filter fun e => decide (f e < k + 1)).filter fun e => !decide (f e < k) := by
      rw [List.filter_filter]
      simp only [List.flatMap_cons, List.flatMap_nil, List.append_nil]
      refine List.filter_congr fun a _ => ?_
      by_cases h : f a = k
      · rw [h]
        simp
      · have : (f a == k) = false := by simpa using h
        rw [this]
        by_cases h2 : f a < k
        · rw [decide_eq_true h2]; rfl
        · rw [decide_eq_false h2, decide_eq_false (by omega : ¬ f a < k + 1)]; rfl
    rw [e1, e2]
    exact List.filter_append_perm _ _
theorem errR_perm (n : Nat) : (errR n).Perm (allR n) := by
  have h := ord_perm (fun e : Row => wt e.p) (allR n) (n + 1)
  have e : (allR n).filter (fun e => decide (wt e.p < n + 1)) = allR n := List.filter_eq_self.mpr fun a ha => by
    have := wt_le a.p
    rw [(allR_each ha).2] at this
    simpa using Nat.lt_succ_of_le this
  rw [e] at h
  exact h
theorem errors_sorted {n : Nat} (h : Wd n) : srtK keyD ((allB n).map eRow) = (errR n).map eRow := srtK_eq ((allB_perm h).trans (errR_perm n).symm) (errR_strict h)
end Bw
/-! G13: all_errors walked. -/
namespace Bw
open PySem PySem.Spec PyProof.Rows L2
open PySem.W (EachIs AllAlike Sortable dataLe)
local macro_rules | `(tactic| walk_at "lv") => `(tactic| first
  | fail)
local macro_rules | `(tactic| walk_at "cd") => `(tactic| first
  | assumption | exact Iff.rfl | omega | (rw [xs_len]; assumption) | (rw [zs_len]; assumption) | (refine ⟨?_, ?_⟩ <;> assumption) | (refine ⟨?_, ?_, ?_⟩ <;> assumption) | (simp only [xs_len, zs_len]; assumption) | (simp only [xs_len, zs_len]; omega) | walk_at "lv")
local macro_rules | `(tactic| walk_at "dxp") => `(tactic| first
  | assumption
  | exact ⟨_, rfl, rfl⟩
  | exact ⟨_, _, rfl, rfl⟩
  | exact ⟨_, _, _, rfl, rfl⟩
  | exact ⟨_, _, _, _, rfl, rfl⟩
  | exact ⟨_, rfl, rfl, by walk_at "cd"⟩
  | exact ⟨_, _, rfl, rfl, by walk_at "cd"⟩
  | exact ⟨_, _, _, rfl, rfl, by walk_at "cd"⟩
  | exact ⟨_, _, _, _, rfl, rfl, by walk_at "cd"⟩
  | exact ⟨_, _, _, _, _, rfl, rfl, by walk_at "cd"⟩
  | exact ⟨_, _, _, _, _, _, rfl, rfl, by walk_at "cd"⟩
  | exact ⟨_, _, _, _, _, _, _, rfl, rfl, by walk_at "cd"⟩
  | exact ⟨_, _, _, _, _, _, _, _, rfl, rfl, by walk_at "cd"⟩
  | exact ⟨_, _, _, _, _, _, _, _, _, rfl, rfl, by walk_at "cd"⟩
  | exact ⟨_, rfl, rfl, rfl, rfl, by walk_at "side"⟩
  | walk_at "lv")
local macro_rules | `(tactic| walk_at "kit") => `(tactic| first
  | exact kit_ii | exact kit_ib | exact kit_ll | exact kit_tt)
local macro_rules | `(tactic| walk_at "side") => `(tactic| first
  | assumption | exact sel_int _ _ _ | exact sel_bi _ _ _ | rfl | decide | omega | exact Nat.le_of_ble_eq_true rfl | (simp; done) | (simp; omega) | (refine Or.inl ⟨?_, ?_⟩ <;> decide) | (refine Or.inr ⟨?_, ?_⟩ <;> decide) | (refine Or.inl ⟨?_, ?_⟩ <;> omega) | (refine Or.inr ⟨?_, ?_⟩ <;> omega) | (rw [bi_xor]; refine Or.inl ⟨?_, ?_⟩ <;> omega) | (refine And.intro ?_ (And.intro ?_ ?_) <;> omega) | (refine And.intro ?_ ?_ <;> omega) | walk_at "lv")
section
variable {Pg : Program} {w : World} {K : PySem.W.Frag} {mg : Str → Option Value} {base : Heap} {f CS CC : Addr} {fd : FuncData}
/-- the def's code and its table -/
structure TbC (K : PySem.W.Frag) (mg : Str → Option Value) (base : Heap) (fd : FuncData) : Prop where
  ex : ∃ c P : Addr, fd.code = .ref c ∧ LamX.TabB base mg c P ∧ IsTb K P "all_errors.<locals>.<lambda>"
theorem keyD_depth {n : Nat} {d : PyData} (h : d ∈ (allB n).map eRow) : (keyD d).depth ≤ 60 := by
  obtain ⟨e, _, rfl⟩ := List.mem_map.mp h
  show max (PyData.depth (.int _)) (max (PyData.depth (eRow e)) 0) + 1 ≤ 60
  have := eRow_depth e
  have h3 : ∀ i : Int, PyData.depth (.int i) ≤ 1 := fun i => by simp [PyData.depth]
  have := h3 (wt (unRow (eRow e)).p)
  omega
abbrev N_all_errors : List Str := ["many", "found", "xs", "zs"]
abbrev P_all_errors : List Str := ["many"]
theorem sc_all_errors : FnScope N_all_errors P_all_errors (defScope s_all_errors) := ⟨rfl, rfl, rfl, by decide +kernel, rfl, by decide +kernel, by decide +kernel⟩
theorem ok_all_errors (F : FnP K "all_errors" "all_errors" s_all_errors f fd) (BT : Bl mg) (T : TbC K mg base fd) (C_bit_rows : Cal Pg w K mg base "bit_rows" 1 P_bit_rows (SpD K p_bit_rows)) (C_size_of : Cal Pg w K mg base "size_of" 1 P_size_of (SpD K p_size_of)) : FnOk Pg w K mg base CX0 4 f fd P_all_errors (SpD K p_all_errors) := by
  obtain ⟨c, P, hcd, TB, hT⟩ := T.ex
  refine fn_mkC F hcd sc_all_errors (fun ds d h => ?_) (by decide) fun A outer s H E ds d hr h => ?_
  · obtain ⟨n, rfl, rfl, _⟩ := h
    rfl
  · obtain ⟨n, rfl, rfl, wn⟩ := h
    have nd := sc_all_errors.nd
    have wn5 := wn.2
    have pf := pow_few wn5
    have bl := brR_len n
    have el : ∀ xs, (errB n xs).length ≤ 32 := fun xs => by unfold errB; rw [List.length_map, bl]; exact pf.2
    have al : (allB n).length ≤ 1024 := by
      have h := flat_len (l := brR n) (g := errB n) (m := 32) fun a _ => el a
      rw [bl] at h
      exact Nat.le_trans h (Nat.mul_le_mul pf.2 (Nat.le_refl 32))
    refine dss_seq (ds_asgO 1 nd (dl_lst dp_nil (by walk_at "side")) rfl) ?_
    refine dss_seqA (ds_for (fun i ρ => ∃ a, ρ = [.val (I n), .own false ((((brR n).take i).flatMap (errB n)).map eRow), a, .any]) PassesOwn.never rfl (di_list (de_call C_bit_rows hr (da_cons (de_var 0) da_nil) (by walk_at "dxp"))) ⟨_, rfl⟩ (fun i ρi hi hI => ?_) fun ρ' hI => hI) fun ρ' hI => ?_
    · obtain ⟨a, rfl⟩ := hI
      rw [List.length_map] at hi
      have lp : ((((brR n).take i).flatMap (errB n)).map eRow).length ≤ 1024 := by
        have h := flat_len (l := (brR n).take i) (g := errB n) (m := 32) fun a _ => el a
        rw [List.length_map]
        have h2 : ((brR n).take i).length ≤ 32 := by rw [List.length_take, bl]; omega
        exact Nat.le_trans h (Nat.mul_le_mul h2 (Nat.le_refl 32))
      have lq : ((errB n (brR n)[i]).map eRow).length ≤ 32 := by rw [List.length_map]; exact el _
      refine ⟨_, _, (dg_name 2 nd), ?_⟩
      rw [at_map hi]
      refine dss_one (ds_augL 1 nd rfl (DL.ex (dl_lc (out := (errB n (brR n)[i]).map eRow) [("zs", 3)] rfl nd (blkOk_by (by show blkC N_all_errors (defScope s_all_errors) _ _ = true; decide +kernel)) (by
        unfold errB
        rw [List.map_map]
        exact lcw_mapA 3 (fun zs => eRow ⟨false, zipB (brR n)[i] zs⟩) (di_list (de_call C_bit_rows hr (da_cons (de_var 0) da_nil) (by walk_at "dxp"))) (by rw [bl]; omega) (fun d _ _ _ _ _ => dg_name 3 nd) fun zs hz s' H' C cl fp => by
          have hle : ((brR n)[i]).length = zs.length := by rw [brR_each n _ (List.getElem_mem hi), brR_each n zs hz]
          refine DE.is (de_tup (dp_cons de_int (dp_cons (de_var 2) (dp_cons (de_var 3) dp_nil))) (by walk_at "side")) ?_
          show Tu _ = .py (eRow _)
          simp only [eRow, Row.xs, Row.zs, zipB_x hle, zipB_z hle]
          rfl))) (by omega) ?_)
      refine ⟨.val (.py (eBits (brR n)[i])), ?_⟩
      rw [flat_take _ _ hi, List.map_append]
      rfl
    · obtain ⟨a, rfl⟩ := hI
      rw [List.length_map, List.take_length]
      have ek : ((allB n).map eRow).map keyD = (allB n).map keyE := by
        rw [List.map_map]
        exact List.map_congr_left fun e _ => keyD_eRow e
      refine dss_one (ds_ret (d := Li ((errR n).map eRow)) (DE.is (DL.ex (dl_sortedK (k := 1) (x := "error") keyD (dq_own 1) (by show AllAlike (((allB n).map eRow).map keyD); rw [ek]; exact AllAlike.of alike_key) (by show Sortable (((allB n).map eRow).map keyD); rw [ek]; exact Sortable.tuples fun e => ⟨_, _, rfl⟩) (by rw [List.length_map]; exact Nat.le_trans al (by decide)) (fun d hd => keyD_depth (n := n) hd) hr TB rfl hT rfl (fun y hy e => ?_) rfl ⟨rfl, rfl, rfl, by decide +kernel, rfl, by decide +kernel, by decide +kernel⟩ (fun _ _ _ _ _ => rfl) (fun d hd f2 c2 A2 o2 s2 H2 E2 hr2 => ?_) BT.b_sorted)) (congrArg Li (errors_sorted wn))) rfl)
      · rcases List.mem_cons.mp hy with z | z
        · rw [z] at e; cases e
        · rw [List.mem_singleton.mp z] at e; cases e
      · obtain ⟨e, he, rfl⟩ := List.mem_map.mp hd
        rw [keyD_eRow]
        have hl : e.p.length = n := (allR_each ((allB_perm wn).mem_iff.mp he)).2
        exact DE.is (de_tup (dp_cons (de_call C_size_of hr2 (da_cons (de_var 0) da_nil) ⟨e, rfl, rfl, by omega⟩) (dp_cons (de_var 0) dp_nil)) (by show 2 ≤ 100000; decide)) rfl
end
end Bw
/-! Dic1: a dict of pairs made at once, its keys pairs of bits; asked, never changed. -/
namespace Bw
open PySem PySem.Spec PyProof.Rows L2
def nkB (l : List Bool) : NestedKey := .tup (l.map fun b => .num (bi b))
/-- a row's bits as a key, as data -/
def nk (p : Pl) : NestedKey := .tup [nkB (p.map (·.1)), nkB (p.map (·.2))]
def keyP (p : Pl) : PyData := .tuple [eBits (p.map (·.1)), eBits (p.map (·.2))]
theorem nkB_data (l : List Bool) : (nkB l).data = eBits l := by
  have : ∀ l : List Bool, NestedKey.datas (l.map fun b => NestedKey.num (bi b)) = l.map eB := fun l => by
    induction l with
    | nil => rfl
    | cons b l ih =>
      rw [List.map_cons, List.map_cons, NestedKey.datas, NestedKey.data, ih]
      rfl
  unfold nkB
  rw [NestedKey.data, this]
  rfl
theorem nk_data (p : Pl) : (nk p).data = keyP p := by
  unfold nk keyP
  rw [NestedKey.data, NestedKey.datas, NestedKey.datas, NestedKey.datas, nkB_data, nkB_data]
theorem nkB_depth (l : List Bool) : (nkB l).depth ≤ 1 := by
  have : ∀ l : List Bool, NestedKey.depthAll (l.map fun b => NestedKey.num (bi b)) = 0 := fun l => by
    induction l with
    | nil => rfl
    | cons b l ih =>
      rw [List.map_cons, NestedKey.depthAll, ih]
      rfl
  unfold nkB
  rw [NestedKey.depth, this]
  exact Nat.le_refl _
theorem nk_depth (p : Pl) : (nk p).depth ≤ 8 := by
  have h1 := nkB_depth (p.map (·.1))
  have h2 := nkB_depth (p.map (·.2))
  unfold nk
  rw [NestedKey.depth, NestedKey.depthAll, NestedKey.depthAll, NestedKey.depthAll]
  omega
theorem nkB_inj : ∀ {a b : List Bool}, nkB a = nkB b → a = b := fun {a b} h => by
  have e := congrArg NestedKey.data h
  rw [nkB_data, nkB_data] at e
  have := congrArg unL e
  rw [unL_eBits, unL_eBits] at this
  exact this
theorem nk_inj {p q : Pl} (h : nk p = nk q) : p = q := by
  unfold nk at h
  injection h with h
  injection h with h1 h
  injection h with h2 _
  exact pl_ext (nkB_inj h1) (nkB_inj h2)
mutual
theorem nest_of {h : Heap} : ∀ (k : NestedKey) {u : Value} {as : List Addr}, Reads h u k.data as → NestedIs h k u
  | .none, u, as, r => by
    rw [NestedKey.data] at r
    cases r
    exact .none
  | .num i, u, as, r => by
    rw [NestedKey.data] at r
    cases r
    exact .int _ _
  | .text x, u, as, r => by
    rw [NestedKey.data] at r
    cases r
    exact .text _ _
  | .tup ks, u, as, r => by
    rw [NestedKey.data] at r
    cases r with
    | tuple h1 h2 h3 h4 => exact .tup h1 h2 h3 (nest_all ks h4)
theorem nest_all {h : Heap} : ∀ (ks : List NestedKey) {us : List Value} {as : List Addr}, ReadsAll h us (NestedKey.datas ks) as → NestedAll h ks us
  | [], us, as, r => by
    rw [NestedKey.datas] at r
    cases r
    exact .nil
  | k :: ks, us, as, r => by
    rw [NestedKey.datas] at r
    cases r with
    | cons a b => exact .cons (nest_of k a) (nest_all ks b)
end
/-- the dict's own object, told without its keys' tuples -/
def RawD (P : Program) (w : World) (d : Addr) (xs : List (NestedKey × Addr × Value)) (h : Heap) : Prop :=
  ∃ o es ep, h.get? d = some o ∧ o.ExactDict ∧ o.data = .dict es ep ∧ es.toList = xs.map (entryOfKey (nestedKind P w)) ∧ (xs.map (·.1)).Nodup
theorem rawD_ok {P : Program} {w : World} {H : Hp} {h : Heap} {d : Addr} {xs : List (NestedKey × Addr × Value)} (x : RawD P w d xs h) : ObjOk P w H h d (.ext (RawD P w d xs)) := by
  refine ⟨x, ?_, fun h1 h2 ⟨o, es, ep, e, r⟩ st => ⟨o, es, ep, st o e, r⟩⟩
  obtain ⟨o, _, _, e, _⟩ := x
  exact ⟨o, e⟩
/-- a key's tuple as the told things have it -/
def KeyT (K : PySem.W.Frag) (F : Addr → Prop) (H : Hp) (xs : List (NestedKey × Addr × Value)) : Prop := ∀ x ∈ xs, ∃ p, x.1 = nk p ∧ Rp K F H (.ref x.2.1) (keyP p)
/-- the dict of these keys -/
def GrpD (P : Program) (w : World) (K : PySem.W.Frag) (has : Pl → Prop) : D := .ob fun F H v => ∃ (d : Addr) (xs : List (NestedKey × Addr × Value)), v = .ref d ∧ H d = some (.ext (RawD P w d xs)) ∧ (d == sysModules) = false ∧ KeyT K F H xs ∧ ∀ p, (∃ x ∈ xs, x.1 = nk p) ↔ has p
theorem grp_rd {P : Program} {w : World} {K : PySem.W.Frag} {has : Pl → Prop} {F : Addr → Prop} {H : Hp} {v : V} {d : Addr} {xs : List (NestedKey × Addr × Value)} (e : v = .ref d) (h : H d = some (.ext (RawD P w d xs))) (hs : (d == sysModules) = false) (k : KeyT K F H xs) (hp : ∀ p, (∃ x ∈ xs, x.1 = nk p) ↔ has p) : RD K F H v (GrpD P w K has) :=
  ⟨⟨d, xs, e, h, hs, k, hp⟩, fun F' H' kk => ⟨d, xs, e, kk.k d _ h rfl, hs, fun x hx => let ⟨p, e1, e2⟩ := k x hx; ⟨p, e1, e2.ker kk⟩, hp⟩⟩
section
variable {X : Cx}
/-- x not in the dict -/
def rNotInN (P : Program) (w : World) (K : PySem.W.Frag) : V → V → Hp → VK → Prop := fun x y H Q => ∃ (d : Addr) (xs : List (NestedKey × Addr × Value)) (p : Pl) (F : Addr → Prop), y = .ref d ∧ Rp K F H x (keyP p) ∧ H d = some (.ext (RawD P w d xs)) ∧ (d == sysModules) = false ∧ KeyT K F H xs ∧ Q (.bl (!decide (∃ x ∈ xs, x.1 = nk p))) H
theorem key_is {pins : List (Addr × Obj)} {σ : L2.St} {H : Hp} {s : Shared} {F : Addr → Prop} {a : Addr} {p : Pl} (I : Inv X pins σ H s) (h : Rp X.K F H (.ref a) (keyP p)) : (nestedKind X.prog X.w).is s.heap (nk p) a := by
  obtain ⟨as, r⟩ := Dp.reads I _ _ (.ref a) (Rp.dp h) rfl
  rw [← nk_data] at r
  exact ⟨nest_of _ r, nk_depth p⟩
theorem at_key {xs : List (NestedKey × Addr × Value)} {k : NestedKey} : (valueAt (pairsH xs) k).isSome = decide (∃ x ∈ xs, x.1 = k) := by
  rw [valueAt_pairsH, Option.isSome_map, ← any_pairsH]
  unfold pairsH
  rw [List.any_map]
  by_cases h : ∃ x ∈ xs, x.1 = k
  · rw [decide_eq_true h]
    obtain ⟨x, hx, e⟩ := h
    exact List.any_eq_true.mpr ⟨x, hx, by simpa using e⟩
  · rw [decide_eq_false h]
    refine List.any_eq_false.mpr fun x hx e => h ⟨x, hx, by simpa using e⟩
theorem op_notInN (hu : X.A.units + 10 < cLine) : OpR X (compareOp .NotIn) (rNotInN X.prog X.w X.K) := by
  intro pins s σ H x y u v Q I rx ry h
  obtain ⟨d, xs, p, F, rfl, hx, hd, hs, hk, q⟩ := h
  cases ry
  cases hx with
  | @tup t zs ds ht hr =>
    cases rx
    obtain ⟨⟨o, es, ep, e1, e2, e3, e4, e5⟩, _, _⟩ := I.hok d _ hd
    have dk : s.heap.DictKeyed (nestedKind X.prog X.w) d (pairsH xs) := ⟨xs, ⟨o, es, ep, e1, e2, e3, e4, fun z hz => by
      obtain ⟨q', z1, z2⟩ := hk z hz
      rw [z1]
      exact key_is I z2, e5⟩, rfl⟩
    refine notIn_keyed (k := nk p) (show (nestedKind X.prog X.w).room X.A.in1 from by show X.A.units + 1 + 8 < cLine; omega) (key_is I (Rp.tup ht hr)) hs dk ?_
    rw [at_key]
    exact ⟨.bl _, H, I.tok _, rfl, q⟩
end
section
variable {X : Cx} {ρ ρ1 ρ2 : List Sl} {a b : Expr}
theorem dc_notInN {p : Pl} {has : Pl → Prop} (ha : DE X ρ a (.py (keyP p)) ρ1) (hb : DE X ρ1 b (GrpD X.prog X.w X.K has) ρ2) (hu : X.A.units + 10 < cLine) {z : Bool} (hz : z = true ↔ has p) : DC X ρ a .NotIn b (!z) ρ2 := by
  obtain ⟨_, p1, r1⟩ := ha
  obtain ⟨_, p2, r2⟩ := hb
  refine ⟨_, _, _, op_notInN hu, p1, p2, re_op r1 r2 fun F H v w q1 q2 Q q => ?_⟩
  obtain ⟨⟨d, xs, e, h, hs, k, hp⟩, _⟩ := q2
  refine ⟨d, xs, p, F, e, q1, h, hs, k, ?_⟩
  have ez : decide (∃ x ∈ xs, x.1 = nk p) = z := by
    cases z with
    | true => exact decide_eq_true ((hp p).mpr (hz.mp rfl))
    | false => exact decide_eq_false fun c => nomatch hz.mpr ((hp p).mp c)
  rw [ez]
  exact q _ H (Same.refl _) (.bl _)
end
end Bw
/-! Dic2: dict(pairs). -/
namespace Bw
open PySem PySem.Spec PyProof.Rows L2
def pairD (l : Pl × Int) : PyData := .tuple [keyP l.1, .int l.2]
theorem put_key {K : Type} [DecidableEq K] (k : K) (v : Value) (x : K × Addr × Value) : (putAt k v x).1 = x.1 ∧ (putAt k v x).2.1 = x.2.1 := by
  unfold putAt
  split <;> exact ⟨rfl, rfl⟩
theorem storedH_mem {K : Type} [DecidableEq K] {xs : List (K × Addr × Value)} {k : K} {a : Addr} {v : Value} : (∀ x ∈ storedH xs k a v, (∃ y ∈ xs, y.1 = x.1 ∧ y.2.1 = x.2.1) ∨ (x.1 = k ∧ x.2.1 = a)) ∧ (∀ y ∈ xs, ∃ x ∈ storedH xs k a v, x.1 = y.1) ∧ ∃ x ∈ storedH xs k a v, x.1 = k := by
  unfold storedH
  by_cases h : (atKey xs k).isSome = true
  · rw [if_pos h]
    refine ⟨fun x hx => ?_, fun y hy => ⟨_, List.mem_map_of_mem hy, (put_key k v y).1⟩, ?_⟩
    · obtain ⟨y, hy, rfl⟩ := List.mem_map.mp hx
      exact .inl ⟨y, hy, (put_key k v y).1.symm, (put_key k v y).2.symm⟩
    · rw [← any_pairsH] at h
      obtain ⟨z, hz, e⟩ := List.any_eq_true.mp h
      unfold pairsH at hz
      obtain ⟨y, hy, rfl⟩ := List.mem_map.mp hz
      exact ⟨_, List.mem_map_of_mem hy, (put_key k v y).1.trans (by simpa using e)⟩
  · rw [if_neg h]
    refine ⟨fun x hx => ?_, fun y hy => ⟨y, List.mem_append_left _ hy, rfl⟩, ⟨_, List.mem_append_right _ (List.mem_singleton.mpr rfl), rfl⟩⟩
    rcases List.mem_append.mp hx with hx | hx
    · exact .inl ⟨x, hx, rfl, rfl⟩
    · rw [List.mem_singleton.mp hx]
      exact .inr ⟨rfl, rfl⟩
theorem storedAll_mem {K : Type} [DecidableEq K] : ∀ (ps xs : List (K × Addr × Value)), (∀ x ∈ storedAllH xs ps, ∃ y, (y ∈ xs ∨ y ∈ ps) ∧ y.1 = x.1 ∧ y.2.1 = x.2.1) ∧ ∀ y, y ∈ xs ∨ y ∈ ps → ∃ x ∈ storedAllH xs ps, x.1 = y.1
  | [], xs => ⟨fun x hx => ⟨x, .inl hx, rfl, rfl⟩, fun y hy => ⟨y, hy.elim id fun z => (by cases z), rfl⟩⟩
  | p :: ps, xs => by
    obtain ⟨i1, i2⟩ := storedAll_mem ps (storedH xs p.1 p.2.1 p.2.2)
    obtain ⟨s1, s2, s3⟩ := storedH_mem (xs := xs) (k := p.1) (a := p.2.1) (v := p.2.2)
    refine ⟨fun x hx => ?_, fun y hy => ?_⟩
    · obtain ⟨y, hy, e1, e2⟩ := i1 x hx
      rcases hy with hy | hy
      · rcases s1 y hy with ⟨z, hz, f1, f2⟩ | ⟨f1, f2⟩
        · exact ⟨z, .inl hz, f1.trans e1, f2.trans e2⟩
        · exact ⟨p, .inr (List.mem_cons_self ..), f1.symm.trans e1, f2.symm.trans e2⟩
      · exact ⟨y, .inr (List.mem_cons_of_mem _ hy), e1, e2⟩
    · have : ∃ z, (z ∈ storedH xs p.1 p.2.1 p.2.2 ∨ z ∈ ps) ∧ z.1 = y.1 := by
        rcases hy with hy | hy
        · obtain ⟨z, hz, e⟩ := s2 y hy
          exact ⟨z, .inl hz, e⟩
        · rcases List.mem_cons.mp hy with e | e
          · rw [e]
            obtain ⟨z, hz, e⟩ := s3
            exact ⟨z, .inl hz, e⟩
          · exact ⟨y, .inr e, rfl⟩
      obtain ⟨z, hz, e⟩ := this
      obtain ⟨x, hx, e2⟩ := i2 z hz
      exact ⟨x, hx, e2.trans e⟩
section
variable {X : Cx} {pins : List (Addr × Obj)} {σ : L2.St} {H : Hp} {s : Shared} {F : Addr → Prop}
theorem pairs_of (I : Inv X pins σ H s) : ∀ {us : List V} {its : List Value} {L : List (Pl × Int)}, RpAll X.K F H us (L.map pairD) → Vals us its → ∃ rows : List (Addr × Addr × Value), its = rows.map (fun r => .ref r.1) ∧ rows.length = L.length ∧ (∀ r ∈ rows, s.heap.IsTuple r.1 #[.ref r.2.1, r.2.2]) ∧
    ∀ (j : Nat) (r : Addr × Addr × Value) (l : Pl × Int), rows[j]? = some r → L[j]? = some l → Rp X.K F H (.ref r.2.1) (keyP l.1)
  | [], [], [], .nil, .nil => ⟨[], rfl, rfl, fun r hr => (by cases hr), fun j r l h => (by simp at h)⟩
  | u :: us, w :: its, l :: L, .cons h t, .cons rv rt => by
    obtain ⟨rows, e1, e2, e3, e4⟩ := pairs_of I (L := L) t rt
    cases h with
    | @tup T zs ds ht hz =>
      cases hz with
      | @cons vk zs2 _ _ hk hz2 =>
        cases hz2 with
        | cons hi hz3 =>
          cases hz3
          cases hi
          cases hk with
          | @tup ka zk dk hkt hkr =>
            cases rv
            obtain ⟨it, rvs, htup, _⟩ := I.tuple ht.sq
            cases rvs with
            | cons ra rb =>
              cases rb with
              | @cons _ u2 _ _ rc rd =>
                cases rd
                cases ra
                refine ⟨(T, ka, u2) :: rows, by rw [e1]; rfl, by rw [List.length_cons, e2, List.length_cons], fun r hr => ?_, fun j r l' h1 h2 => ?_⟩
                · rcases List.mem_cons.mp hr with e | e
                  · rw [e]
                    obtain ⟨o, a1, a2, n, a3⟩ := htup
                    exact ⟨o, a1, a2, n, a3⟩
                  · exact e3 r e
                · cases j with
                  | zero =>
                    cases h1
                    cases h2
                    exact .tup hkt hkr
                  | succ j => exact e4 j r l' h1 h2
/-- dict(a list of pairs) -/
def rDictN (P : Program) (w : World) (K : PySem.W.Frag) : List V → Hp → VK → Prop := fun vs H Q => ∃ (a : Addr) (us : List V) (L : List (Pl × Int)) (F : Addr → Prop), vs = [.ref a] ∧ H a = some (.lst us) ∧ RpAll K F H us (L.map pairD) ∧ L.length ≤ 1000 ∧
  ∀ d xs, H d = none → (d == sysModules) = false → KeyT K F H xs → (∀ p, (∃ x ∈ xs, x.1 = nk p) ↔ ∃ l ∈ L, l.1 = p) → Q (.ref d) (upd H d (.ext (RawD P w d xs)))
theorem cr_dictN (hc : X.calm = true) (hu : X.A.units + 20 < cLine) : CallR X (.type "dict") (rDictN X.prog X.w X.K) := by
  intro pins s σ H vs us0 Q I r h
  obtain ⟨a, us, L, F, rfl, ha, hr, hL, q⟩ := h
  obtain rfl := Vals.ref1 r
  obtain ⟨its, n, rv, ho, hlen⟩ := I.lst ha
  obtain ⟨rows, e1, e2, e3, e4⟩ := pairs_of I hr rv
  have il : its.length = L.length := by rw [e1, List.length_map, e2]
  have ok : PlainSeq "list" s.heap a its.toArray ∧ PairItems s.heap its.toArray (fun j => (rows[j]?.map (·.1)).getD 0) (rows.map fun r => (Value.ref r.2.1, r.2.2)) := by
    refine ⟨⟨_, n, ho, rfl, rfl, rfl⟩, by rw [List.size_toArray, List.length_map, il, e2], fun j k v hj => ?_⟩
    rw [List.getElem?_map] at hj
    cases hq : rows[j]? with
    | none => rw [hq] at hj; cases hj
    | some r =>
      rw [hq] at hj
      have hj : (Value.ref r.2.1, r.2.2) = (k, v) := Option.some.inj hj
      cases hj
      have et : (fun j => (rows[j]?.map fun x : Addr × Addr × Value => x.1).getD 0) j = r.1 := by
        show (rows[j]?.map fun x : Addr × Addr × Value => x.1).getD 0 = r.1
        rw [hq]
        rfl
      refine ⟨?_, .inl (et ▸ e3 r (List.mem_of_getElem? hq))⟩
      rw [et, List.getElem?_toArray, e1, List.getElem?_map, hq]
      rfl
  have big := I.big
  refine call_dict_pairsH (knd := nestedKind X.prog X.w) (ps := (rows.zip L).map fun z => (nk z.2.1, z.1.2.1, z.1.2.2)) (PairArg.list a its.toArray (fun j => (rows[j]?.map (·.1)).getD 0) (rows.map fun r => (Value.ref r.2.1, r.2.2))) (I.ok.hd hc) (by show X.A.units + 1 + 1 + 8 < cLine; omega) ok ⟨?_, fun i key v hi => ?_⟩ (fun h' hk x hx => ?_) ?_ fun h' tk hd hk => ?_
  · rw [List.length_map, List.length_map, List.length_zip, e2, Nat.min_self]
  · have hi : (rows.map fun r => (Value.ref r.2.1, r.2.2))[i]? = some (key, v) := hi
    rw [List.getElem?_map] at hi
    cases hq : rows[i]? with
    | none => rw [hq] at hi; cases hi
    | some r =>
      rw [hq] at hi
      have hi : (Value.ref r.2.1, r.2.2) = (key, v) := Option.some.inj hi
      cases hi
      have hl : i < L.length := by rw [← e2]; exact (List.getElem?_eq_some_iff.mp hq).1
      refine ⟨nk L[i].1, r.2.1, ?_, rfl⟩
      rw [List.getElem?_map, (List.getElem?_zip_eq_some (z := (r, L[i]))).mpr ⟨hq, List.getElem?_eq_getElem hl⟩]
      rfl
  · obtain ⟨z, hz, rfl⟩ := List.mem_map.mp hx
    obtain ⟨j, hj⟩ := List.getElem?_of_mem hz
    obtain ⟨h1, h2⟩ := List.getElem?_zip_eq_some.mp hj
    have ki := key_is I (e4 j _ _ h1 h2)
    exact ⟨NestedIs.at (fun b o vs' n' e _ => hk b o (Nat.ne_of_lt (Heap.lt_size e)) List.not_mem_nil e) _ _ ki.1, ki.2⟩
  · rw [List.length_map, e2]
    exact sz _ (by omega)
  · obtain ⟨m1, m2⟩ := storedAll_mem ((rows.zip L).map fun z => (nk z.2.1, z.1.2.1, z.1.2.2)) []
    obtain ⟨o, es, ep, d1, d2, d3, d4, _, d5⟩ := hd
    refine ⟨.ref s.heap.objs.size, _, I.laid (t' := tk) (o := .ext (RawD X.prog X.w s.heap.objs.size (storedAllH [] ((rows.zip L).map fun z => (nk z.2.1, z.1.2.1, z.1.2.2))))) (fun b o e => hk b o List.not_mem_nil e) (Nat.le_refl _) (rawD_ok ⟨o, es, ep, d1, d2, d3, d4, d5⟩), rfl, q _ _ (I.hok.fresh (Nat.le_refl _)) ?_ (fun x hx => ?_) fun p => ⟨?_, ?_⟩⟩
    · simpa using Nat.ne_of_gt big
    · obtain ⟨y, hy, f1, f2⟩ := m1 x hx
      have hy := hy.resolve_left (by simp)
      obtain ⟨z, hz, rfl⟩ := List.mem_map.mp hy
      obtain ⟨j, hj⟩ := List.getElem?_of_mem hz
      obtain ⟨h1, h2⟩ := List.getElem?_zip_eq_some.mp hj
      exact ⟨z.2.1, f1.symm, f2 ▸ e4 j _ _ h1 h2⟩
    · rintro ⟨x, hx, e⟩
      obtain ⟨y, hy, f1, f2⟩ := m1 x hx
      have hy := hy.resolve_left (by simp)
      obtain ⟨z, hz, rfl⟩ := List.mem_map.mp hy
      exact ⟨z.2, (List.of_mem_zip hz).2, nk_inj (f1.trans e)⟩
    · rintro ⟨l, hl, e⟩
      obtain ⟨j, hj⟩ := List.getElem?_of_mem hl
      have hr2 : j < rows.length := by rw [e2]; exact (List.getElem?_eq_some_iff.mp hj).1
      have hz : (rows[j], l) ∈ rows.zip L := List.mem_of_getElem? ((List.getElem?_zip_eq_some (z := (rows[j], l))).mpr ⟨List.getElem?_eq_getElem hr2, hj⟩)
      obtain ⟨x, hx, e'⟩ := m2 _ (.inr (List.mem_map_of_mem (f := fun z : (Addr × Addr × Value) × (Pl × Int) => (nk z.2.1, z.1.2.1, z.1.2.2)) hz))
      exact ⟨x, hx, e'.trans (by rw [e])⟩
end
section
variable {X : Cx} {ρ ρ1 : List Sl} {a : Expr} {p pos : Pos}
theorem de_dictN {L : List (Pl × Int)} {has : Pl → Prop} (ha : DE X ρ a (Li (L.map pairD)) ρ1) (hL : L.length ≤ 1000) (hh : ∀ p, (∃ l ∈ L, l.1 = p) ↔ has p) (hc : X.calm = true) (hu : X.A.units + 20 < cLine) (hm : X.mg "dict" = none) (hg : Gl X "dict" := by rfl) (he : starEach [a] X.env = (false, eval a X.env) :: starEach [] X.env := by rfl) :
    DE X ρ (.Call (.Name "dict" p) [a] [] pos) (GrpD X.prog X.w X.K has) ρ1 := by
  obtain ⟨_, p1, r1⟩ := ha
  refine ⟨_, pe_callTy (cr_dictN hc hu) hg hm (by decide +kernel) (pa_cons p1 pa_nil he) (by decide) (by decide) he, fun F0 F M H0 σ H Q S q => r1 F0 F M H0 σ H _ S fun v H1 S1 w1 o1 g1 => ?_⟩
  cases g1 with
  | @lst t vs _ h1 n1 g1 =>
    refine ⟨t, vs, L, F, rfl, h1, g1, hL, fun d xs hd hs hk hp => ?_⟩
    have s1 : Same H1 (upd H1 d (.ext (RawD X.prog X.w d xs))) := same_new hd
    refine q _ _ (S1.grow s1) w1 (o1.trans (Off.same s1)) (grp_rd rfl upd_same hs (fun x hx => ?_) fun p => (hp p).trans (hh p))
    obtain ⟨p', e1, e2⟩ := hk x hx
    exact ⟨p', e1, e2.ker (Ker.same s1)⟩
end
end Bw
/-! G14: the law's group. -/
namespace Bw
open PySem PySem.Spec PyProof.Rows L2
local macro_rules | `(tactic| walk_at "lv") => `(tactic| first
  | fail)
local macro_rules | `(tactic| walk_at "cd") => `(tactic| first
  | assumption | exact Iff.rfl | omega | (rw [xs_len]; assumption) | (rw [zs_len]; assumption) | (refine ⟨?_, ?_⟩ <;> assumption) | (refine ⟨?_, ?_, ?_⟩ <;> assumption) | (simp only [xs_len, zs_len]; assumption) | (simp only [xs_len, zs_len]; omega) | walk_at "lv")
local macro_rules | `(tactic| walk_at "dxp") => `(tactic| first
  | assumption
  | exact ⟨_, rfl, rfl⟩
  | exact ⟨_, _, rfl, rfl⟩
  | exact ⟨_, _, _, rfl, rfl⟩
  | exact ⟨_, _, _, _, rfl, rfl⟩
  | exact ⟨_, rfl, rfl, by walk_at "cd"⟩
  | exact ⟨_, _, rfl, rfl, by walk_at "cd"⟩
  | exact ⟨_, _, _, rfl, rfl, by walk_at "cd"⟩
  | exact ⟨_, _, _, _, rfl, rfl, by walk_at "cd"⟩
  | exact ⟨_, _, _, _, _, rfl, rfl, by walk_at "cd"⟩
  | exact ⟨_, _, _, _, _, _, rfl, rfl, by walk_at "cd"⟩
  | exact ⟨_, _, _, _, _, _, _, rfl, rfl, by walk_at "cd"⟩
  | exact ⟨_, _, _, _, _, _, _, _, rfl, rfl, by walk_at "cd"⟩
  | exact ⟨_, _, _, _, _, _, _, _, _, rfl, rfl, by walk_at "cd"⟩
  | exact ⟨_, rfl, rfl, rfl, rfl, by walk_at "side"⟩
  | walk_at "lv")
local macro_rules | `(tactic| walk_at "kit") => `(tactic| first
  | exact kit_ii | exact kit_ib | exact kit_ll | exact kit_tt)
local macro_rules | `(tactic| walk_at "side") => `(tactic| first
  | assumption | exact sel_int _ _ _ | exact sel_bi _ _ _ | rfl | decide | omega | exact Nat.le_of_ble_eq_true rfl | (simp; done) | (simp; omega) | (refine Or.inl ⟨?_, ?_⟩ <;> decide) | (refine Or.inr ⟨?_, ?_⟩ <;> decide) | (refine Or.inl ⟨?_, ?_⟩ <;> omega) | (refine Or.inr ⟨?_, ?_⟩ <;> omega) | (rw [bi_xor]; refine Or.inl ⟨?_, ?_⟩ <;> omega) | (refine And.intro ?_ (And.intro ?_ ?_) <;> omega) | (refine And.intro ?_ ?_ <;> omega) | walk_at "lv")
theorem gr_len : ∀ (rows : List Row) (acc : List Row), (rows.foldl grStep acc).length = acc.length * 2 ^ rows.length
  | [], acc => by simp
  | r :: rows, acc => by
    show (rows.foldl grStep (grStep acc r)).length = _
    rw [gr_len rows, List.length_cons, Nat.pow_succ]
    unfold grStep
    rw [List.length_append, List.length_map, ← Nat.mul_assoc, Nat.mul_right_comm, Nat.mul_two]
def grK (n : Nat) (rows : List Row) (i : Nat) : List Row := (rows.take i).foldl grStep [nullR n]
theorem grK_step {n : Nat} {rows : List Row} {i : Nat} (h : i < rows.length) : grK n rows (i + 1) = grK n rows i ++ (grK n rows i).map (mul rows[i]) := by
  unfold grK
  rw [List.take_succ, List.getElem?_eq_getElem h, List.foldl_append]
  rfl
theorem grK_len {n : Nat} {rows : List Row} {i : Nat} (h : rows.length ≤ 5) : (grK n rows i).length ≤ 32 := by
  unfold grK
  rw [gr_len]
  have h2 : (rows.take i).length ≤ 5 := Nat.le_trans (List.length_take_le' _ _) h
  have := (pow_few h2).2
  simpa using this
theorem grK_all {n : Nat} {rows : List Row} (i : Nat) (h : AllN n rows) : AllN n (grK n rows i) := by
  refine (gr_acc (rows.take i) (acc := [nullR n]) (fun r hr => h r (List.mem_of_mem_take hr)) fun g hg => ?_).1
  rw [List.mem_singleton.mp hg]
  exact nulP_len n
section
variable {Pg : Program} {w : World} {K : PySem.W.Frag} {mg : Str → Option Value} {base : Heap} {f CS CC : Addr} {fd : FuncData}
abbrev N_l_group : List Str := ["_law_rows", "_law_noughts", "_law_found", "_law_row", "_law_one", "_law_turn", "_law_xs", "_law_zs"]
abbrev P_l_group : List Str := ["_law_rows"]
theorem sc_l_group : FnScope N_l_group P_l_group (defScope s_l_group) := ⟨rfl, rfl, rfl, by decide +kernel, rfl, by decide +kernel, by decide +kernel⟩
abbrev GrpR (P : Program) (w : World) (K : PySem.W.Frag) (n : Nat) (rows : List Row) : D := GrpD P w K fun p => ∃ g ∈ grR n rows, g.p = p
def p_l_group (P : Program) (w : World) (K : PySem.W.Frag) : List D → D → Prop := fun ds d => ∃ (rows : List Row) (n : Nat), ds = [Li (rows.map eRow)] ∧ d = GrpR P w K n rows ∧ Wd n ∧ AllN n rows ∧ rows ≠ [] ∧ rows.length ≤ 5
theorem ok_l_group (F : FnP K "_law_group" "_law_group" s_l_group f fd) (BT : Bl mg) (C_l_both : Cal Pg w K mg base "_law_both" 1 P_l_both (SpD K p_l_both)) : FnOk Pg w K mg base CX0 2 f fd P_l_group (SpD K (p_l_group Pg w K)) := by
  refine fn_mk F sc_l_group (fun ds d h => ?_) (by decide) fun cdv A outer s H E ds d hr h => ?_
  · obtain ⟨rows, n, rfl, rfl, _⟩ := h
    rfl
  · obtain ⟨rows, n, rfl, rfl, wn, al, ne, few⟩ := h
    have nd := sc_l_group.nd
    have wn5 := wn.2
    have wn1 := wn.1
    obtain ⟨r0, rest, e0⟩ : ∃ r0 rest, rows = r0 :: rest := by
      cases hrs : rows with
      | nil => exact absurd hrs ne
      | cons r rest => exact ⟨r, rest, rfl⟩
    have h0 : atI (rows.map eRow) 0 = some (eRow r0) := atI_n (i := 0) (by rw [e0]; rfl)
    have hn0 := al r0 (by rw [e0]; simp)
    have l1 : (r0.xs.map eB).length = n := by simp [Row.xs, hn0]
    have cl := fun i => grK_len (n := n) (i := i) few
    refine dss_seq (ds_asg 1 nd (d := .py (eBits (List.replicate n false))) (DE.is (de_rep (de_tup (dp_cons de_int dp_nil) (by walk_at "side")) (de_len (DE.tpl (de_ix (DE.tpl (de_ix (DE.lst (de_var 0)) de_int (by walk_at "side"))) de_int (by walk_at "side"))) BT.b_len) (by walk_at "side") (by walk_at "side") (by walk_at "side") (by walk_at "side")) (by rw [l1, Int.toNat_natCast, rep_zero]; rfl)) rfl) ?_
    refine dss_seq (ds_asg 2 nd (d := Li ((grK n rows 0).map eRow)) (DE.is (DL.ex (dl_lst (dp_cons (de_tup (dp_cons de_int (dp_cons (de_var 1) (dp_cons (de_var 1) dp_nil))) (by walk_at "side")) dp_nil) (by walk_at "side"))) (by show Li _ = Li [eRow (nullR n)]; rw [nullR_row]; rfl)) rfl) ?_
    refine dss_seqA (ds_for (fun i ρ => ∃ a, ρ = [.val (Li (rows.map eRow)), .val (.py (eBits (List.replicate n false))), .val (Li ((grK n rows i).map eRow)), a, .any, .any, .any, .any]) PassesOwn.never rfl (di_list (de_var 0)) ⟨_, rfl⟩ (fun i ρi hi hI => ?_) fun ρ' hI => hI) fun ρ' hI => ?_
    · obtain ⟨a, rfl⟩ := hI
      rw [List.length_map] at hi
      have mi : rows[i] ∈ rows := List.getElem_mem hi
      have li := al _ mi
      have ci := cl i
      refine ⟨_, _, (dg_name 3 nd), ?_⟩
      rw [at_map hi]
      refine dss_one (ds_asg 2 nd (d := Li ((grK n rows (i + 1)).map eRow)) (DE.is (DL.ex (dl_catE (de_var 2) (DL.ex (dl_lc (out := ((grK n rows i).map (mul rows[i])).map eRow) [("_law_one", 4)] rfl nd (blkOk_by (by show blkC N_l_group (defScope s_l_group) _ _ = true; decide +kernel)) (by
        rw [List.map_map]
        exact lcw_mapA 4 (fun g => eRow (mul rows[i] g)) (di_list (de_var 2)) (by omega) (fun d _ _ _ _ _ => dg_name 4 nd) fun g hg s' H' C cl fp => by
          have lg := grK_all (n := n) i al g hg
          have hc : g.p.length = rows[i].p.length := by rw [lg, li]
          have hw : Wd rows[i].p.length := by rw [li]; exact wn
          exact (de_call C_l_both hr (da_cons (de_var 3) (da_cons (de_var 4) da_nil)) (by walk_at "dxp"))))) (by rw [List.length_map, List.length_map, List.length_map]; omega))) (by rw [grK_step hi, List.map_append])) ?_)
      exact ⟨_, rfl⟩
    · obtain ⟨a, rfl⟩ := hI
      rw [List.length_map]
      have eg : grK n rows rows.length = grR n rows := by unfold grK; rw [List.take_length]; rfl
      have ci := cl rows.length
      rw [eg] at ci ⊢
      have al2 : AllN n (grR n rows) := eg ▸ grK_all rows.length al
      refine dss_one (ds_ret (d := GrpR Pg w K n rows) (de_dictN (L := (grR n rows).map fun g => (g.p, bi g.t)) (DL.ex (dl_lc [("_law_turn", 5), ("_law_xs", 6), ("_law_zs", 7)] rfl nd (blkOk_by (by show blkC N_l_group (defScope s_l_group) _ _ = true; decide +kernel)) (by
        rw [List.map_map]
        have e : (grR n rows).map (pairD ∘ fun g => (g.p, bi g.t)) = (List.range ((grR n rows).map eRow).length).map fun i => pairD ((rowAt (grR n rows) i).p, bi (rowAt (grR n rows) i).t) := by
          apply List.ext_getElem?
          intro j
          rw [List.length_map, List.getElem?_map, List.getElem?_map]
          by_cases hj : j < (grR n rows).length
          · rw [List.getElem?_range hj, List.getElem?_eq_getElem hj]
            show some (pairD ((grR n rows)[j].p, bi (grR n rows)[j].t)) = some (pairD ((rowAt (grR n rows) j).p, bi (rowAt (grR n rows) j).t))
            unfold rowAt
            rw [List.getElem?_eq_getElem hj]
            rfl
          · rw [List.getElem?_eq_none (by omega), List.getElem?_eq_none (by simpa using hj)]
            rfl
        rw [e]
        exact lcw_at (ρj := fun i => [.val (Li (rows.map eRow)), .val (.py (eBits (List.replicate n false))), .val (Li ((grR n rows).map eRow)), a, .any, .val (I (bi (rowAt (grR n rows) i).t)), .val (.py (eBits (rowAt (grR n rows) i).xs)), .val (.py (eBits (rowAt (grR n rows) i).zs))]) [5, 6, 7] _
          (di_list (de_var 2)) (by rw [List.length_map]; omega) (fun _ h => h) (fun _ => rfl) (fun i hi s' H' C cl fp => by
            rw [List.length_map] at hi
            rw [at_map hi]
            have er : rowAt (grR n rows) i = (grR n rows)[i] := by unfold rowAt; rw [List.getElem?_eq_getElem hi]; rfl
            rw [er]
            exact (dg_tup rfl (dgs_cons (dg_name 5 nd) (dgs_cons (dg_name 6 nd) (dgs_cons (dg_name 7 nd) dgs_nil))))) fun i hi s' H' C cl fp => DE.is (de_tup (dp_cons (de_tup (dp_cons (de_var 6) (dp_cons (de_var 7) dp_nil)) (by walk_at "side")) (dp_cons (de_var 5) dp_nil)) (by walk_at "side")) rfl))) (by rw [List.length_map]; omega) (fun p => ⟨?_, ?_⟩) rfl (by have := hr.un; omega) BT.b_dict) rfl)
      · rintro ⟨l, hl, e⟩
        obtain ⟨g, hg, rfl⟩ := List.mem_map.mp hl
        exact ⟨g, hg, e⟩
      · rintro ⟨g, hg, e⟩
        exact ⟨_, List.mem_map_of_mem hg, e⟩
end
end Bw
/-! Dic3: dicts whose keys are tuples of bits: asked, frozen. -/
namespace Bw
open PySem PySem.Spec PyProof.Rows L2
/-! keys -/
def keyL (l : List Bool) : List Key := l.map fun b => Sum.inl (bi b)
theorem keyL_inj : ∀ {a b : List Bool}, keyL a = keyL b → a = b
  | [], [], _ => rfl
  | [], _ :: _, h => nomatch h
  | _ :: _, [], h => nomatch h
  | a :: l, b :: m, h => by
    unfold keyL at h
    rw [List.map_cons, List.map_cons] at h
    injection h with h1 h2
    have e : a = b := by
      cases a <;> cases b <;> first | rfl | (injection h1 with h1; exact absurd h1 (by decide))
    rw [e, keyL_inj h2]
theorem rp_keys {K : PySem.W.Frag} {F : Addr → Prop} {H : Hp} : ∀ {l : List Bool} {vs : List V}, RpAll K F H vs (l.map eB) → vs = (keyL l).map kV
  | [], _, .nil => rfl
  | b :: l, _, .cons h r => by
    cases h
    rw [rp_keys r]
    rfl
section
variable {X : Cx} {pins : List (Addr × Obj)} {σ : L2.St} {H : Hp} {s : Shared} {F : Addr → Prop} {a : Addr} {sg : List Bool}
theorem key_isT (I : Inv X pins σ H s) (h : Rp X.K F H (.ref a) (eBits sg)) : (tupleKind (mixKind X.prog X.w)).is s.heap (keyL sg) a := by
  cases h with
  | tup h1 h2 =>
    have e := rp_keys h2
    subst e
    obtain ⟨its, r, ⟨o, q1, q2, n, q3⟩, _⟩ := I.tuple h1.sq
    exact ⟨o, its.toArray, n, q1, q2, q3, by simpa using items_are r⟩
theorem key_told {K : PySem.W.Frag} {v : V} (h : RD K F H v (TupN K (sg.map eB))) : ∃ b, v = .ref b ∧ H b = some (.tup ((keyL sg).map kV)) := by
  obtain ⟨⟨c, vs, rfl, h1, h2⟩, _⟩ := h
  exact ⟨c, rfl, by rw [h1, rp_keys h2]⟩
end
/-! asking -/
def tDGetR (K : PySem.W.Frag) (td ty : TE) : TE := fun σ H Q => td σ H fun x H1 => ty σ H1 fun y H2 => ∃ (a b : Addr) (kvs : List (List Key × V)) (sg : List Bool) (F : Addr → Prop) (v : V), x = .ref a ∧ y = .ref b ∧ Rd H2 a (.dT kvs) ∧ Rp K F H2 y (eBits sg) ∧ valV kvs (keyL sg) = some v ∧ Q v H2
def tDNotR (K : PySem.W.Frag) (ty td : TE) : TE := fun σ H Q => ty σ H fun y H1 => td σ H1 fun x H2 => ∃ (a b : Addr) (kvs : List (List Key × V)) (sg : List Bool) (F : Addr → Prop), x = .ref a ∧ y = .ref b ∧ Rd H2 a (.dT kvs) ∧ Rp K F H2 y (eBits sg) ∧ Q (.bl (!(valV kvs (keyL sg)).isSome)) H2
section
variable {X : Cx} {o i : Expr} {pos : Pos} {td ty : TE}
theorem pe_dgetR (hu : X.A.units + 1 < cLine) (ho : PE X o td) (hi : PE X i ty) (hs : NoSl i) : PE X (.Subscript o i pos) (tDGetR X.K td ty) := by
  refine ⟨fun pins s σ H Q I h => ?_⟩
  refine subD_of PySem.F.slot_dict_getitem.lookup hs (thn (ho.run pins s σ H _ I h) fun u s1 ⟨x, H1, I1, rx, q1⟩ => thn (hi.run pins s1 σ H1 _ I1 q1) fun iv s2 ⟨y, H2, I2, ry, a, b, kvs, sg, F, v, ex, ey, hd, hk, l, q2⟩ => ?_)
  subst ex
  subst ey
  obtain rfl : u = Value.ref a := rx
  obtain rfl : iv = Value.ref b := ry
  obtain ⟨z, hs', xs, rel, dd⟩ := dt_rd I2.hok hd
  obtain ⟨w', hw, rw'⟩ := RelO.some_of (v := v) (o := (atKey xs (keyL sg)).map (·.2)) (by rw [← l]; exact rel.val (keyL sg))
  obtain ⟨p, hp, hp2⟩ := Option.map_eq_some_iff.mp hw
  refine ⟨dd.typeIs, wpAny_getItem_heap (tupleKind_room_in1 hu) (key_isT I2 hk) dd hp ?_⟩
  rw [hp2]
  exact ⟨v, H2, I2.tok _, rw', q2⟩
theorem pc_dnotR (hu : X.A.units + 1 < cLine) (hi : PE X i ty) (ho : PE X o td) : PC X .NotIn i o (tDNotR X.K ty td) := by
  refine ⟨fun pins s σ H Q I h => ?_⟩
  refine thn (hi.run pins s σ H _ I h) fun iv s1 ⟨y, H1, I1, ry, q1⟩ => thn (ho.run pins s1 σ H1 _ I1 q1) fun u s2 ⟨x, H2, I2, rx, a, b, kvs, sg, F, ex, ey, hd, hk, q2⟩ => ?_
  subst ex
  subst ey
  obtain rfl : u = Value.ref a := rx
  obtain rfl : iv = Value.ref b := ry
  obtain ⟨z, hs', xs, rel, dd⟩ := dt_rd I2.hok hd
  refine wpAny_notIn_heap (tupleKind_room_in1 hu) (key_isT I2 hk) hs' dd ?_
  have q := (rel.val (keyL sg)).isSome_eq
  rw [Option.isSome_map] at q
  rw [← q]
  exact ⟨.bl (!(valV kvs (keyL sg)).isSome), H2, I2.tok _, rfl, q2⟩
end
/-! a frozen dict as data -/
def EntR (K : PySem.W.Frag) (F : Addr → Prop) (H : Hp) : List (List Key × V) → Tb PyData → Prop := Paired fun p q => p.1 = keyL q.1 ∧ Rp K F H p.2 q.2
theorem EntR.ker {K : PySem.W.Frag} {F F' : Addr → Prop} {H H' : Hp} {kvs : List (List Key × V)} {t : Tb PyData} (h : EntR K F H kvs t) (k : Ker F H F' H') : EntR K F' H' kvs t := Paired.mapP h fun _ _ z => ⟨z.1, z.2.ker k⟩
theorem EntR.get {K : PySem.W.Frag} {F : Addr → Prop} {H : Hp} {kvs : List (List Key × V)} {t : Tb PyData} (h : EntR K F H kvs t) (sg : List Bool) : (valV kvs (keyL sg)).isSome = (tfind t sg).isSome ∧ ∀ q, tfind t sg = some q → ∃ v, valV kvs (keyL sg) = some v ∧ Rp K F H v q.2 := by
  induction h with
  | nil => exact ⟨rfl, fun q h => nomatch h⟩
  | @cons p r kvs t hpr _ ih =>
    obtain ⟨k, v⟩ := p
    obtain ⟨e1, e2⟩ := hpr
    have e1 : k = keyL r.1 := e1
    subst e1
    by_cases h : r.1 = sg
    · have e3 : valV ((keyL r.1, v) :: kvs) (keyL sg) = some v := valV_pos (by rw [h])
      have e4 : tfind (r :: t) sg = some r := by
        unfold tfind
        rw [List.find?_cons, show (r.1 == sg) = true by simpa using h]
      rw [e3, e4]
      refine ⟨rfl, fun q hq => ?_⟩
      have := Option.some.inj hq
      subst this
      exact ⟨v, rfl, e2⟩
    · have e3 : valV ((keyL r.1, v) :: kvs) (keyL sg) = valV kvs (keyL sg) := valV_neg fun e => h (keyL_inj e)
      have e4 : tfind (r :: t) sg = tfind t sg := by
        unfold tfind
        rw [List.find?_cons, show (r.1 == sg) = false by simpa using h]
      rw [e3, e4]
      exact ih
def DicF (K : PySem.W.Frag) (t : Tb PyData) : D := .ob fun F H v => ∃ (d : Addr) (o : Obj) (kvs : List (List Key × V)), v = .ref d ∧ H d = some (.frz o (.dT kvs)) ∧ EntR K F H kvs t
theorem dicF_rd {K : PySem.W.Frag} {F : Addr → Prop} {H : Hp} {v : V} {d : Addr} {o : Obj} {kvs : List (List Key × V)} {t : Tb PyData} (e : v = .ref d) (h : H d = some (.frz o (.dT kvs))) (r : EntR K F H kvs t) : RD K F H v (DicF K t) :=
  ⟨⟨d, o, kvs, e, h, r⟩, fun F' H' k => ⟨d, o, kvs, e, k.k d _ h rfl, r.ker k⟩⟩
section
variable {X : Cx} {ρ ρ1 ρ2 : List Sl} {a b : Expr} {pos : Pos} {t : Tb PyData} {sg : List Bool}
theorem de_dgetF {q : List Bool × PyData} (ha : DE X ρ a (DicF X.K t) ρ1) (hb : DE X ρ1 b (.py (eBits sg)) ρ2) (hu : X.A.units + 1 < cLine) (hq : tfind t sg = some q) (hs : NoSl b) : DE X ρ (.Subscript a b pos) (.py q.2) ρ2 := by
  obtain ⟨_, p1, r1⟩ := ha
  obtain ⟨_, p2, r2⟩ := hb
  refine ⟨_, pe_dgetR hu p1 p2 hs, fun F0 F M H0 σ H Q S k => r1 F0 F M H0 σ H _ S fun v H1 S1 w1 o1 g1 => r2 F0 F M H0 σ H1 _ S1 fun w H2 S2 w2 o2 g2 => ?_⟩
  obtain ⟨⟨d, o, kvs, e, h, r⟩, _⟩ := g1.ker (S1.ker o2)
  obtain ⟨u, e1, e2⟩ := (r.get sg).2 q hq
  have g2' : Rp X.K F H2 w (eBits sg) := g2
  cases g2 with
  | @tup c zs ds h1 h2 => exact ⟨d, c, kvs, sg, F, u, e, rfl, .inr ⟨o, h⟩, g2', e1, k u H2 S2 (w1.trans w2) (off2 o1 w1 o2) e2⟩
end
end Bw
/-! Dic4: a frozen dict walked by its items, its keys sorted; a dict locked, its setdefault. -/
namespace Bw
open PySem PySem.Spec PyProof.Rows L2
open PySem.W (EachIs AllAlike Sortable dataLe)
/-- the pairs of a locked dict with tuple keys: each a new tuple of the key's own tuple and the value -/
def ItB (d : Addr) (o : Obj) (kvs : List (List Key × V)) : It :=
  ⟨fun i H => H d = some (.frz o (.dT kvs)) ∧ i < kvs.length, fun i H x H' => ∃ (T q : Addr) (k : List Key) (v : V), kvs[i]? = some (k, v) ∧ x = .ref T ∧ H T = none ∧ H q = some (.tup (k.map kV)) ∧ H' = upd H T (.tup [.ref q, v]), fun i H => H d = some (.frz o (.dT kvs)) ∧ kvs.length ≤ i⟩
theorem frz_ent {X : Cx} {pins : List (Addr × Obj)} {σ : L2.St} {H : Hp} {s : Shared} {d : Addr} {o : Obj} {kvs : List (List Key × V)} (I : Inv X pins σ H s) (h : H d = some (.frz o (.dT kvs))) :
    (d == sysModules) = false ∧ s.heap.get? d = some o ∧ o.ExactDict ∧ kvs.length ≤ sizeLine ∧ ∃ (es : Array DictEntry) (ep : Nat), o.data = .dict es ep ∧ es.size = kvs.length ∧
      ∀ (i : Nat) (hi : i < es.size) (k : List Key) (v : V), kvs[i]? = some (k, v) → ∃ q : Addr, es[i].key = .ref q ∧ H q = some (.tup (k.map kV)) ∧ RelV v es[i].val := by
  obtain ⟨hd, z, hs, xs, pr, o', es, ep, ho, hx, hdt, he, _⟩ := I.hok d _ h
  rw [hd] at ho
  cases ho
  have l1 : es.size = xs.length := size_of_entries he
  have l2 : kvs.length = xs.length := Paired.length pr
  refine ⟨hs, hd, hx, z, es, ep, hdt, by omega, fun i hi k v e => ?_⟩
  obtain ⟨b, hb, e1, e2, e3⟩ := paired_get pr e
  have q := entry_at he i
  rw [hb, Array.getElem?_eq_getElem hi] at q
  have q : es[i] = entryOfKey (tupleKind (mixKind X.prog X.w)) b := Option.some.inj q
  rw [q]
  exact ⟨b.2.1, rfl, e2, e3⟩
theorem turn_itB {P : Program} {w : World} {K : PySem.W.Frag} {d : Addr} {o : Obj} {es : Array DictEntry} {ep : Nat} {kvs : List (List Key × V)} {elts : List Expr} {kk : Nat} {tpos : Pos} (it : Addr) (hod : o.data = .dict es ep) (hsz : es.size = kvs.length) :
    Turn P w K (.Tuple elts kk tpos) (ItB d o kvs) [it] it (fun i h => ∃ ok ov, IsItemIter h it d i es.size ep ok ov) where
  mem := List.mem_singleton.mpr rfl
  obj := fun i h st b hb => by
    obtain rfl := List.mem_singleton.mp hb
    obtain ⟨_, _, e⟩ := st
    exact ⟨_, e, fun v z => nomatch z⟩
  keep := fun i h h' st k => by
    obtain ⟨ok, ov, e⟩ := st
    exact ⟨ok, ov, k it (List.mem_singleton.mpr rfl) _ e⟩
  item := by
    intro X hP hw hK hc i pins s σ H E I hf st hg
    subst hP hw hK
    obtain ⟨hd, hi⟩ := hg
    obtain ⟨hs, hgd, hx, _, es', ep', hdt, hz, ent⟩ := frz_ent I hd
    obtain ⟨rfl, rfl⟩ := dict_ep hod hdt
    obtain ⟨ok, ov, he⟩ := st
    have hie : i < es'.size := by omega
    obtain ⟨⟨k, v⟩, hkv⟩ : ∃ p, kvs[i]? = some p := ⟨_, List.getElem?_eq_getElem hi⟩
    obtain ⟨q, ek, hq, rv⟩ := ent i hie k v hkv
    have ht : it < s.heap.objs.size := Heap.lt_size he
    refine DT.nextI he ⟨o, hgd, hx, hod⟩ hie fun h1 ho hT hz1 hk1 => ⟨_, rfl, wpAny_letOwnedTupleGo_items (s := { s with heap := h1 }) ho fun h2 he2 sb => ?_⟩
    have fr : H s.heap.objs.size = none := I.hok.fresh (Nat.le_refl _)
    have hT2 : h2.get? s.heap.objs.size = some { cls := .type "tuple", data := .seq #[es'[i].key, es'[i].val] } := (sb.2 _ (Nat.ne_of_gt ht)).trans hT
    have I1 : Inv X pins σ (upd H s.heap.objs.size (.tup [.ref q, v])) { s with heap := h2 } :=
      I.turnedNew (t' := s.toks) (ch := [it]) (fun b ob hb e => (sb.2 b (by simpa using hb)).trans (hk1 b ob (by simpa using hb) e)) hf (Nat.le_refl _) ⟨by show 2 ≤ sizeLine; decide, [es'[i].key, es'[i].val], .cons (by rw [ek]; rfl) (.cons rv .nil), _, hT2, rfl, _, rfl⟩
    refine ⟨.ref s.heap.objs.size, _, I1, rfl, ⟨_, q, k, v, hkv, rfl, fr, hq, rfl⟩, ⟨_, _, he2⟩, fun b hb => ?_⟩
    obtain rfl := List.mem_singleton.mp hb
    rw [upd_ne (Nat.ne_of_lt ht)]
    exact (hf b (List.mem_singleton.mpr rfl)).1
  done := by
    intro X hP hw hK hc i pins s σ H E I hf st hg
    subst hP hw hK
    obtain ⟨hd, hi⟩ := hg
    obtain ⟨f0, f1, f2, f3, f4, f5⟩ := hf it (List.mem_singleton.mpr rfl)
    obtain ⟨hs, hgd, hx, _, es', ep', hdt, hz, ent⟩ := frz_ent I hd
    obtain ⟨rfl, rfl⟩ := dict_ep hod hdt
    obtain ⟨ok, ov, he⟩ := st
    exact DT.endI (I.ok.hd hc) he ⟨o, hgd, hx, hod⟩ (by omega) fun h2 eb => ⟨rfl, I.turned (t' := s.toks) (fun b ob hb e => eb b ob hb e) f0 f1 f3 f4 f5⟩
  self := fun A i s Q E st h => let ⟨_, _, e⟩ := st; PySem.W.kcp_self e h
def iItB (td : TE) : TI := fun σ H R => td σ H fun x H1 => ∃ d o kvs, x = .ref d ∧ H1 d = some (.frz o (.dT kvs)) ∧ R (ItB d o kvs) H1
section
variable {X : Cx} {e : Expr} {apos cpos : Pos} {td : TE}
theorem pi_itB {elts : List Expr} {kk : Nat} {tpos : Pos} (he : PE X e td) (hbase : attributeBase e "items" X.env (eval e X.env) = eval e X.env := by rfl) (hline : (apos.endLine == cpos.line) = true := by rfl) :
    PI X (.Tuple elts kk tpos) (.Call (.Attribute e "items" apos) [] [] cpos) (iItB td) := by
  refine ⟨fun pins s σ H R I h => wpAny_Call_method (T := "dict") (id := "dict.items") hbase rfl hline F.plainAttrs_dict F.slot_dict_items F.type_dict_items (thn (he.run pins s σ H _ I h) fun u s1 ⟨x, H1, I1, rx, d, o, kvs, ex, hd, q⟩ => ?_)⟩
  subst ex
  obtain rfl : u = Value.ref d := rx
  obtain ⟨hs, hgd, hx, _, es, ep, hdt, hz, _⟩ := frz_ent I1 hd
  have raw : DT.Raw s1.heap d es ep := ⟨o, hgd, hx, hdt⟩
  refine ⟨raw.typeIs, ?_, ?_⟩
  · rintro b q
    cases q
    exact ⟨o, hgd, hx.2.1⟩
  · show wpAny _ _ (callWith cpos (.builtin "dict.items") [.ref d] [] []) _ X.xe s1
    have I2 : Inv X pins σ H1 { s1 with heap := s1.heap.push { cls := .type "dict_items", data := .fields #[.ref d] } } := I1.kept (t' := s1.toks) fun b ob q => Heap.get?_push_of_some _ q
    refine PyProof.Rows.callWith_method0 (env := X.env) (DT.callItems hs raw ?_)
    refine DT.iterI (d := d) ⟨_, Heap.get?_push_size _ rfl, rfl, rfl⟩ (raw.push _) ?_
    exact pi_one (tk := s1.toks) I2 _ (turn_itB _ hdt hz) ⟨.none, .none, Heap.get?_push_size _ rfl⟩ q
end
end Bw
/-! Dic5: items of a frozen dict as data; sorted keys; locking; setdefault. -/
namespace Bw
open PySem PySem.Spec PyProof.Rows L2
open PySem.W (EachIs AllAlike Sortable dataLe)
theorem rp_of_keys {K : PySem.W.Frag} {F : Addr → Prop} {H : Hp} : ∀ l : List Bool, RpAll K F H ((keyL l).map kV) (l.map eB)
  | [] => .nil
  | b :: l => .cons (.int _) (rp_of_keys l)
theorem rp_key {K : PySem.W.Frag} {F : Addr → Prop} {H : Hp} {q : Addr} {l : List Bool} (h : H q = some (.tup ((keyL l).map kV))) : Rp K F H (.ref q) (eBits l) := .tup (.inl h) (rp_of_keys l)
theorem EntR.at {K : PySem.W.Frag} {F : Addr → Prop} {H : Hp} {kvs : List (List Key × V)} {t : Tb PyData} (h : EntR K F H kvs t) : kvs.length = t.length ∧ ∀ (i : Nat) (k : List Key) (v : V), kvs[i]? = some (k, v) → ∃ q, t[i]? = some q ∧ k = keyL q.1 ∧ Rp K F H v q.2 :=
  ⟨Paired.length h, fun i k v e => let ⟨q, h1, h2, h3⟩ := paired_get h e; ⟨q, h1, h2, h3⟩⟩
def itD (t : Tb PyData) (i : Nat) : PyData := at_ (t.map fun q => PyData.tuple [eBits q.1, q.2]) i
section
variable {X : Cx} {ρ ρ1 ρ2 : List Sl} {a b e : Expr} {p pos apos cpos : Pos} {t : Tb PyData} {sg : Bool}
theorem di_itemsF {elts : List Expr} {kk : Nat} {tpos : Pos} (h : DE X ρ e (DicF X.K t) ρ1) (hbase : attributeBase e "items" X.env (eval e X.env) = eval e X.env := by rfl) (hline : (apos.endLine == cpos.line) = true := by rfl) :
    DI X sg ρ (.Tuple elts kk tpos) (.Call (.Attribute e "items" apos) [] [] cpos) t.length (itD t) ρ1 := by
  obtain ⟨_, p1, r1⟩ := h
  refine ⟨_, pi_itB p1 hbase hline, fun F0 F M H0 σ H R S q => r1 F0 F M H0 σ H _ S fun v H1 S1 w1 o1 g1 => ?_⟩
  obtain ⟨⟨d, o, kvs, e1, h1, er⟩, _⟩ := g1
  refine ⟨d, o, kvs, e1, h1, q _ H1 S1 w1 o1 fun F' H' k _ i => ?_⟩
  have h2 : H' d = some (.frz o (.dT kvs)) := k.k d _ h1 rfl
  obtain ⟨hl, hat⟩ := (er.ker k).at
  refine ⟨fun hi => ⟨⟨h2, by omega⟩, ?_⟩, fun hi => ⟨h2, by omega⟩⟩
  rintro x H'' ⟨T, q, kk', v', e2, rfl, hT, hq, rfl⟩
  obtain ⟨z, hz, ek, rv⟩ := hat i kk' v' e2
  subst ek
  have s1 : Same H' (upd H' T (.tup [.ref q, v'])) := same_new hT
  refine ⟨s1, ?_⟩
  have et : itD t i = .tuple [eBits z.1, z.2] := by
    unfold itD
    exact at_eq (by rw [List.getElem?_map, hz]; rfl)
  rw [et]
  exact .tup (.inl upd_same) (.cons (rp_key (s1 q _ hq)) (.cons (rv.ker (Ker.same s1)) .nil))
end
/-! sorted(d) -/
theorem reads_key {X : Cx} {pins : List (Addr × Obj)} {σ : L2.St} {H : Hp} {s : Shared} (I : Inv X pins σ H s) {q : Addr} {l : List Bool} (h : H q = some (.tup ((keyL l).map kV))) : Reads s.heap (.ref q) (eBits l) [] := by
  obtain ⟨_, its, r, o, h1, h2, n, h3⟩ := (show ObjOk X.prog X.w H s.heap q (.tup ((keyL l).map kV)) from I.hok q _ h)
  have key : ∀ (l : List Bool) (its : List Value), Vals ((keyL l).map kV) its → ReadsAll s.heap its (l.map eB) [] := by
    intro l
    induction l with
    | nil =>
      intro its r
      cases r
      exact .nil
    | cons b l ih =>
      intro its r
      cases r with
      | cons ra rb =>
        obtain ⟨tk, rfl⟩ := (show ∃ t, _ = Value.int (bi b) t from ra)
        exact .cons (as := []) (bs := []) (.int _ _) (ih _ rb)
  exact .tuple h1 h2 h3 (by simpa using key l its r)
def keysD (t : Tb PyData) : List PyData := t.map fun q => eBits q.1
def rSortB (K : PySem.W.Frag) : List V → Hp → VK → Prop := fun vs H Q => ∃ (d : Addr) (o : Obj) (kvs : List (List Key × V)) (t : Tb PyData) (F : Addr → Prop), vs = [.ref d] ∧ H d = some (.frz o (.dT kvs)) ∧ EntR K F H kvs t ∧ (∀ q ∈ t, q.1 ≠ []) ∧
  ∀ p us, H p = none → RpAll K (fun _ => False) H us (srt (keysD t)) → Q (.ref p) (upd H p (.lst us))
theorem each_refs {H : Hp} : ∀ {out : List Value} {m : List (Addr × List Bool)}, EachIs (fun (v : Value) (b : Addr × List Bool) => v = .ref b.1 ∧ H b.1 = some (.tup ((keyL b.2).map kV))) out m → Vals (m.map fun b => V.ref b.1) out
  | _, _, .nil => .nil
  | _, _, .cons hb h => .cons (by rw [hb.1]; rfl) (each_refs h)
theorem cr_sortB {X : Cx} (hc : X.calm = true) (hu : X.A.units + 66 < cLine) : CallR X (.builtin "sorted") (rSortB X.K) := by
  intro pins s σ H vs us Q I r h
  obtain ⟨d, o, kvs, t, F, rfl, hd, er, hne, q⟩ := h
  obtain rfl := Vals.ref1 r
  obtain ⟨hs, hgd, hx, hz, es, ep, hdt, hsz, ent⟩ := frz_ent I hd
  obtain ⟨hl, hat⟩ := er.at
  refine Calls.call_function_entry PyProof.Rows.kind_sorted PyProof.Rows.plain_sorted PyProof.Rows.entry_sorted (PyProof.Rows.args_sorted1 _) ?_
  unfold Builtin.«sorted»
  refine wpAny_bind (m := checkCount "sorted" 1 1 _) (wpAny_pure ?_)
  refine wpAny_bind (PySem.W.kdu_collect (A := X.A.in1) (kdl_raw hs hx hdt) (I.ok.hd hc) hgd (by rw [hsz]; exact hz) fun h' tk acc hk hacc => ?_)
  have al : acc.toList.length = t.length := by
    rw [Array.length_toList, hacc.1]
    omega
  have each : ∀ (j : Nat) (v : Value) (z : List Bool × PyData), acc.toList[j]? = some v → t[j]? = some z → ∃ q, v = .ref q ∧ H q = some (.tup ((keyL z.1).map kV)) := fun j v z hv hz2 => by
    obtain ⟨en, e1, e2⟩ := hacc.2 j v (by rw [← Array.getElem?_toList]; exact hv)
    obtain ⟨hj, e3⟩ := Array.getElem?_eq_some_iff.mp e1
    have hjk : j < kvs.length := by omega
    obtain ⟨q, f1, f2, _⟩ := ent j hj kvs[j].1 kvs[j].2 (List.getElem?_eq_getElem hjk)
    obtain ⟨z', g1, g2, _⟩ := hat j kvs[j].1 kvs[j].2 (List.getElem?_eq_getElem hjk)
    rw [hz2] at g1
    cases g1
    exact ⟨q, by rw [e2, ← e3, f1], by rw [f2, g2]⟩
  let un : Value → Addr := fun v => match v with | .ref q => q | _ => 0
  let bs : List (Addr × List Bool) := (acc.toList.map un).zip (t.map (·.1))
  have lb : bs.length = t.length := by
    show ((acc.toList.map un).zip (t.map (·.1))).length = _
    rw [List.length_zip, List.length_map, List.length_map, al, Nat.min_self]
  have getb : ∀ (j : Nat) (b : Addr × List Bool), bs[j]? = some b → ∃ v z, acc.toList[j]? = some v ∧ t[j]? = some z ∧ v = .ref b.1 ∧ z.1 = b.2 ∧ H b.1 = some (.tup ((keyL b.2).map kV)) := fun j b hb => by
    obtain ⟨h1, h2⟩ := List.getElem?_zip_eq_some.mp hb
    rw [List.getElem?_map] at h1 h2
    cases hv : acc.toList[j]? with
    | none => rw [hv] at h1; cases h1
    | some v =>
      cases hz2 : t[j]? with
      | none => rw [hz2] at h2; cases h2
      | some z =>
        rw [hv] at h1
        rw [hz2] at h2
        have h1 : un v = b.1 := Option.some.inj h1
        have h2 : z.1 = b.2 := Option.some.inj h2
        obtain ⟨q, e1, e2⟩ := each j v z hv hz2
        subst e1
        have h1 : q = b.1 := h1
        subst h1
        rw [h2] at e2
        exact ⟨_, z, rfl, rfl, rfl, h2, e2⟩
  have eR : EachIs (fun (v : Value) (b : Addr × List Bool) => v = .ref b.1 ∧ H b.1 = some (.tup ((keyL b.2).map kV))) acc.toList bs := EachIs.of_zip (by rw [lb, al]) fun p hp => by
    obtain ⟨j, hj⟩ := List.getElem?_of_mem hp
    obtain ⟨h1, h2⟩ := List.getElem?_zip_eq_some.mp hj
    obtain ⟨v, z, a1, a2, a3, a4, a5⟩ := getb j p.2 h2
    rw [h1] at a1
    cases a1
    exact ⟨a3, a5⟩
  have I1 : Inv X pins σ H { s with heap := h', toks := tk } := I.kept hk
  have zl : acc.toList.length ≤ sizeLine := by rw [al, ← hl]; exact hz
  refine wpAny_bind (wpAny_newList ?_ zl)
  have hoL : (h'.push (seqObj "list" acc.toList.toArray 0)).get? h'.objs.size = some (seqObj "list" acc.toList.toArray 0) := Heap.get?_push_size _ rfl
  have I2 : Inv X pins σ H { s with heap := h'.push (seqObj "list" acc.toList.toArray 0), toks := tk } := I1.kept (t' := tk) fun b o e => Heap.get?_push_of_some _ e
  have nz : ∀ b ∈ bs, b.2 ≠ [] := fun b hb => by
    obtain ⟨j, hj⟩ := List.getElem?_of_mem hb
    obtain ⟨v, z, _, a2, _, a4, _⟩ := getb j b hj
    rw [← a4]
    exact hne z (List.mem_of_getElem? a2)
  show wpAny _ _ _ _ _ { s with heap := h'.push (seqObj "list" acc.toList.toArray 0), toks := tk }
  refine wpAny_bind (wpAny_holding (PySem.W.list_sort_data (A := X.A.in1) (enc := fun b : Addr × List Bool => eBits b.2) hoL eR (eR.mono fun v b hb => ⟨[], by rw [hb.1]; exact reads_key I2 hb.2, List.not_mem_nil⟩) (AllAlike.of fun a b => eBits_alike a.2 b.2) (.inl fun x hx => ?_) (by rw [lb, ← al]; exact zl) (fun b hb => ?_) fun out lo eo => ?_))
  · obtain ⟨b, hb, rfl⟩ := List.mem_map.mp hx
    obtain ⟨c, l, e⟩ := List.exists_cons_of_ne_nil (nz b hb)
    exact ⟨eB c, l.map eB, by show eBits b.2 = _; rw [e]; rfl⟩
  · have := eBits_depth b.2
    show X.A.units + 1 + 1 + (eBits b.2).depth < cLine
    omega
  · obtain ⟨e', he'⟩ := PyProof.Rows.sortedHeap_at (vs := acc.toList) (out := out.toArray) hoL
    have rv : Vals ((bs.mergeSort (dataLe false fun b : Addr × List Bool => eBits b.2)).map fun b => V.ref b.1) out := each_refs eo
    have hlen : ((bs.mergeSort (dataLe false fun b : Addr × List Bool => eBits b.2)).map fun b => V.ref b.1).length ≤ sizeLine := by rw [List.length_map, List.length_mergeSort, lb, ← al]; exact zl
    refine wpAny_pure ⟨_, rfl, .ref h'.objs.size, _, I1.laid (t' := tk) (fun b u e => ?_) (Nat.le_refl _) (show ObjOk X.prog X.w _ _ _ (.lst _) from ⟨hlen, out, e', rv, he'⟩), rfl, q _ _ (I1.hok.fresh (Nat.le_refl _)) ?_⟩
    · have hb : b < h'.objs.size := Heap.lt_size e
      rw [PyProof.Rows.sortedHeap_old (Nat.ne_of_lt hb) (by rw [size_push']; exact Nat.lt_succ_of_lt hb)]
      exact Heap.get?_push_of_some _ e
    · have ek : srt (keysD t) = (bs.mergeSort (dataLe false fun b : Addr × List Bool => eBits b.2)).map fun b => eBits b.2 := by
        have e1 : keysD t = bs.map fun b => eBits b.2 := by
          unfold keysD
          have e2 : bs.map (·.2) = t.map (·.1) := List.map_snd_zip (Nat.le_of_eq (by rw [List.length_map, List.length_map, al]))
          have e3 : (bs.map fun b => eBits b.2) = (bs.map (·.2)).map eBits := by rw [List.map_map]; rfl
          rw [e3, e2, List.map_map]
          rfl
        unfold srt
        rw [e1]
        exact (PySem.W.sort_maps (fun b : Addr × List Bool => eBits b.2) fun _ _ _ _ => rfl).symm
      rw [ek]
      have mem : ∀ b ∈ bs.mergeSort (dataLe false fun b : Addr × List Bool => eBits b.2), H b.1 = some (.tup ((keyL b.2).map kV)) := fun b hb => by
        obtain ⟨j, hj⟩ := List.getElem?_of_mem ((List.mergeSort_perm _ _).mem_iff.mp hb)
        obtain ⟨_, _, _, _, _, _, a5⟩ := getb j b hj
        exact a5
      generalize bs.mergeSort (dataLe false fun b : Addr × List Bool => eBits b.2) = m at mem
      induction m with
      | nil => exact .nil
      | cons b m ih => exact .cons (rp_key (mem b (List.mem_cons_self ..))) (ih fun c hc => mem c (List.mem_cons_of_mem _ hc))
section
variable {X : Cx} {ρ ρ1 : List Sl} {a : Expr} {p pos : Pos} {t : Tb PyData}
theorem dl_sortedF (ha : DE X ρ a (DicF X.K t) ρ1) (hc : X.calm = true) (hu : X.A.units + 66 < cLine) (hne : ∀ q ∈ t, q.1 ≠ []) (hm : X.mg "sorted" = none) (hg : Gl X "sorted" := by rfl) (he : starEach [a] X.env = (false, eval a X.env) :: starEach [] X.env := by rfl) :
    DL X ρ (.Call (.Name "sorted" p) [a] [] pos) (srt (keysD t)) ρ1 := by
  obtain ⟨_, p1, r1⟩ := ha
  refine ⟨_, pe_callB (cr_sortB hc hu) hg hm (by decide +kernel) (pa_cons p1 pa_nil he) (by decide) (by decide) he, fun F0 F M H0 σ H Q S q => r1 F0 F M H0 σ H _ S fun v H1 S1 w1 o1 g1 => ?_⟩
  obtain ⟨⟨d, o, kvs, e, h, r⟩, _⟩ := g1
  refine ⟨d, o, kvs, t, F, by rw [e], h, r, hne, fun l us hl rp => ?_⟩
  have rp2 : RpAll X.K F H1 us (srt (keysD t)) := RpAll.nl (NLs.of fun d hd => ?_) rp
  · obtain ⟨S2, r2⟩ := rl_of_new (te' := fun _ _ _ => True) S1 hl rp2
    exact q l _ _ (new_back S S1 o1 hl) S2 w1 (o1.trans (Off.same (same_new hl))) upd_same r2
  · have hd := (List.mergeSort_perm _ _).mem_iff.mp hd
    obtain ⟨z, _, rfl⟩ := List.mem_map.mp hd
    refine .tup (NLs.of fun d hd => ?_)
    obtain ⟨b, _, rfl⟩ := List.mem_map.mp hd
    exact .int _
end
end Bw
/-! Dic6: a dict of one's own beside the environment: locked, unlocked, changed; setdefault. -/
namespace Bw
open PySem PySem.Spec PyProof.Rows L2
section
variable {K : PySem.W.Frag} {F0 F M : Addr → Prop} {H0 H H2 : Hp} {ρ : List Sl} {σ : L2.St} {d : Addr} {kvs : List (List Key × V)} {u : HO} {o : Obj}
/-- the dict at d becomes another thing -/
theorem ker_dset (hd : H d = some (.dT kvs)) : Ker F H F (upd H d u) := by
  have ne : ∀ b v, H b = some v → (∀ k, v ≠ .dT k) → b ≠ d := fun b v e h z => by
    rw [z, hd] at e
    exact h kvs (Option.some.inj e).symm
  refine ⟨fun b v e hk => ?_, fun a xs n e => ?_⟩
  · rw [upd_ne (ne b v e fun k z => by rw [z] at hk; cases hk)]
    exact e
  · rw [upd_ne (ne a _ e fun k z => nomatch z)]
    exact ⟨e, n⟩
theorem SR.dset (S : SR K F0 F M H0 ρ σ H) (hd : H d = some (.dT kvs)) (h0 : H0 d = none) : SR K F0 F M H0 ρ σ (upd H d u) where
  len := S.len
  same := fun b v e n => by
    rw [upd_ne fun z => by rw [z, h0] at e; cases e]
    exact S.same b v e n
  sub := S.sub
  all := fun a f => by
    by_cases z : a = d
    · exact ⟨u, by rw [z, upd_same]⟩
    · rw [upd_ne z]
      exact S.all a f
  mf := S.mf
  val := fun i dd e => let ⟨v, h1, h2⟩ := S.val i dd e; ⟨v, h1, h2.ker (ker_dset hd)⟩
  own := fun i m ds e => by
    obtain ⟨l, vs, h1, h2, h3, h4⟩ := S.own i m ds e
    refine ⟨l, vs, h1, ?_, h3.ker (ker_dset hd), h4⟩
    rw [upd_ne fun z => by rw [z, hd] at h2; cases h2]
    exact h2
  inj := S.inj
  m0 := S.m0
  tb := S.tb.keep fun b v e hx => by
    rw [upd_ne fun z => by rw [z, hd] at e; cases e; cases hx]
    exact e
/-- behind something done while it was locked -/
theorem unlock_sm (hd : H d = some (.dT kvs)) (s : Sm (upd H d (.frz o (.dT kvs))) H2) : Sm H (upd H2 d (.dT kvs)) := fun b v e => by
  by_cases z : b = d
  · subst z
    rw [hd] at e
    cases e
    rw [upd_same]
    exact rfl
  · rw [upd_ne z]
    exact s b v (by rw [upd_ne z]; exact e)
theorem unlock_frz (hd : H d = some (.dT kvs)) (s : Sm (upd H d (.frz o (.dT kvs))) H2) : H2 d = some (.frz o (.dT kvs)) := s d (.frz o (.dT kvs)) upd_same
theorem unlock_tb (t : TbI K H2) (h2 : H2 d = some (.frz o (.dT kvs))) : TbI K (upd H2 d u) := t.keep fun b v e hx => by
  rw [upd_ne fun z => by rw [z, h2] at e; cases e; cases hx]
  exact e
theorem SR.unlock (S : SR K F0 F M H0 ρ σ H) (hd : H d = some (.dT kvs)) (s : Sm (upd H d (.frz o (.dT kvs))) H2) (t : TbI K H2) : SR K F0 F M H0 ρ σ (upd H2 d (.dT kvs)) :=
  S.growT (unlock_sm hd s) (unlock_tb t (unlock_frz hd s))
end
/-- d.setdefault(y, z) -/
def tSetT (td ty tx : TE) : TE := fun σ H Q => td σ H fun x H1 => ∃ a, x = .ref a ∧ (∃ k0, H1 a = some (.dT k0)) ∧ ty σ H1 fun y H2 => tx σ H2 fun z H3 => ∃ (kvs : List (List Key × V)) (b : Addr) (k : List Key), H3 a = some (.dT kvs) ∧ y = .ref b ∧ H3 b = some (.tup (k.map kV)) ∧ kvs.length < sizeLine ∧
  (∀ v, valV kvs k = some v → Q v H3) ∧ (valV kvs k = none → Q z (upd H3 a (.dT (putK kvs k z))))
section
variable {X : Cx} {o e f : Expr} {td ty tx : TE} {apos cpos : Pos}
theorem d_setT {pins : List (Addr × Obj)} {σ : L2.St} {H : Hp} {s : Shared} {a b : Addr} {z : V} {r : Value} {kvs : List (List Key × V)} {k : List Key} {A : Around} {E : Value → Shared → Prop} {Q : Value → Shared → Prop} (hu : A.units + 1 < cLine) (I : Inv X pins σ H s) (hd : H a = some (.dT kvs)) (hb : H b = some (.tup (k.map kV))) (rz : RelV z r) (hl : kvs.length < sizeLine)
    (h1 : ∀ v, valV kvs k = some v → ∀ (w' : Value) (s' : Shared), Inv X pins σ H s' → RelV v w' → Q w' s') (h2 : valV kvs k = none → ∀ s' : Shared, Inv X pins σ (upd H a (.dT (putK kvs k z))) s' → Q r s') :
    wpAny (model X.prog X.w) A (call (.builtin "dict.setdefault") [.ref a, .ref b, r]) Q E s := by
  obtain ⟨zz, hs, xs, rel, dd⟩ := L2.dt_of I.hok hd
  have hz : xs.length ≤ sizeLine := by
    rw [← Paired.length rel]
    exact zz
  have hv := rel.val k
  refine call_setdefault_heap (hsz := hz) (tupleKind_room_in1 hu) (key_of I.hok hb) hs dd (fun p hp => ?_) fun hn h' dd' sb => ?_
  · rw [hp] at hv
    cases q0 : valV kvs k with
    | none =>
      rw [q0] at hv
      exact (show False from hv).elim
    | some v0 =>
      rw [q0] at hv
      exact h1 v0 q0 _ _ (I.tok _) hv
  · rw [hn] at hv
    cases q0 : valV kvs k with
    | some v0 =>
      rw [q0] at hv
      exact (show False from hv).elim
    | none =>
      obtain ⟨q, es, ep, hq, g2, g3, g4, _, g5⟩ := dd'
      have l2 : (putK kvs k z).length ≤ sizeLine := by
        have := length_putK kvs k z
        omega
      refine h2 q0 _ (d_write I (by rw [hd]; exact True.intro) sb ⟨q, hq⟩ ⟨l2, hs, _, (rel.put k hb rz).keeps fun c ys ec => ?_, q, es, ep, hq, g2, g3, g4, g5⟩)
      rw [upd_ne (ne_of ec hd (fun z => nomatch z))]
      exact ec
theorem pe_setT (hu : X.A.units + 1 < cLine) (ho : PE X o td) (he : PE X e ty) (hf : PE X f tx) (m : M2 X o "setdefault" apos e f cpos) : PE X (.Call (.Attribute o "setdefault" apos) [e, f] [] cpos) (tSetT td ty tx) := by
  refine ⟨fun pins s σ H Q I h => wpAny_Call_method m.base m.few m.line PySem.F.plainAttrs_dict PySem.F.slot_dict_setdefault PySem.F.type_dict_setdefault (thn (ho.run pins s σ H _ I h) fun u s1 ⟨x, H1, I1, rx, a, ex, ⟨k0, d0⟩, q1⟩ => ?_)⟩
  subst ex
  obtain rfl : u = Value.ref a := rx
  obtain ⟨t1, t2, _⟩ := isD_at I1 (.inr ⟨k0, .inl d0⟩)
  refine ⟨t1, t2, ?_⟩
  rw [m.trees]
  refine Calls.callWith_builtin rfl (Calls.evalArgs_plain (Calls.spliced_cons (thn (he.run pins s1 σ H1 _ I1 q1) fun iv s2 ⟨y, H2, I2, ry, q2⟩ => Calls.spliced_cons (thn (hf.run pins s2 σ H2 _ I2 q2) fun fv s3 ⟨z, H3, I3, rz, kvs, b, k, ea, ey, eb, hl, q3, q4⟩ => Calls.spliced_nil ?_))))
  subst ey
  obtain rfl : iv = Value.ref b := ry
  exact d_setT hu I3 ea eb rz hl (fun v hv w' s4 I4 rw' => ⟨v, H3, I4, rw', q3 v hv⟩) fun hn s4 I4 => ⟨z, _, I4, rz, q4 hn⟩
end
/-! locking -/
section
variable {X : Cx} {e : Expr}
theorem pt_lockB {tt : TT} (h : PT X e tt) : PT X e (fun σ H Q => ∃ d kvs, H d = some (.dT kvs) ∧ ∀ o, tt σ (upd H d (.frz o (.dT kvs))) fun b H' => H' d = some (.frz o (.dT kvs)) ∧ Q b (upd H' d (.dT kvs))) := by
  refine ⟨fun pins s σ H Q I ⟨d, kvs, hd, q⟩ => ?_⟩
  obtain ⟨o, I1⟩ := I.lock hd True.intro
  exact wpAny_mono (h.run pins s σ _ _ I1 (q o)) (fun b s1 ⟨H', I2, e2, q2⟩ => ⟨_, I2.unlock e2 (I.nofrz hd True.intro), q2⟩) fun _ _ x => x
/-- locked for good -/
theorem pss_lockB {body : List Stmt} {t : TS} (h : PSs X body t) : PSs X body (fun D σ H => ∃ d kvs, H d = some (.dT kvs) ∧ ∀ o, t D σ (upd H d (.frz o (.dT kvs)))) := by
  refine ⟨fun pins s σ H D I ⟨d, kvs, hd, q⟩ => ?_⟩
  obtain ⟨o, I1⟩ := I.lock hd True.intro
  exact h.run pins s σ _ D I1 (q o)
end
end Bw
/-! Dic7: for loops by hand, beside the environment. -/
namespace Bw
open PySem PySem.Spec PyProof.Rows L2
theorem psall {X : Cx} {st : Stmt} : PS X st (fun D σ H => ∃ t, PS X st t ∧ t D σ H) := ⟨fun pins s σ H D I ⟨t, h, q⟩ => h.run pins s σ H D I q⟩
section
variable {K : PySem.W.Frag} {F0 F M : Addr → Prop} {H0 H : Hp} {ρ ρ1 : List Sl} {σ : L2.St} {n : Nat} {y : Nat → PyData} {wi : TI} {g : TG} {tb : TS} {E : Ends}
/-- a loop by an invariant over the very state -/
theorem for_hand (h : RI K true ρ wi n y ρ1) (S : SR K F0 F M H0 ρ σ H)
    (k : ∀ H1, SR K F0 F M H0 ρ1 σ H1 → Shp ρ ρ1 → Off (Ow ρ σ) H H1 → ∃ Inv : Nat → (Addr → Prop) → L2.St → Hp → Prop, (∃ F', Inv 0 F' σ H1) ∧ (∀ i F' σ' H', Inv i F' σ' H' → Ker F H1 F' H') ∧ (∀ F' σ' H', Inv n F' σ' H' → E.nx σ' H') ∧
      ∀ i F' σ' H', i < n → Inv i F' σ' H' → ∀ x H'', Same H' H'' → Rp K F' H'' x (y i) → g x σ' H'' fun σ2 H2 => tb { E with nx := fun σ3 H3 => ∃ F3, Inv (i + 1) F3 σ3 H3, ct := fun σ3 H3 => ∃ F3, Inv (i + 1) F3 σ3 H3, bk := E.nx } σ2 H2) : tFor wi g tb E σ H :=
  h F0 F M H0 σ H _ S fun J H1 S1 w1 o1 wk => by
    obtain ⟨Inv, ⟨Fs, i0⟩, kr, en, st⟩ := k H1 S1 w1 o1
    refine ⟨fun i m σ' H' => m = n - i ∧ i ≤ n ∧ ∃ F', Inv i F' σ' H', ⟨n, by simp, Nat.zero_le _, Fs, i0⟩, ?_⟩
    rintro i m σ' H' ⟨rfl, hi, F', hI⟩
    have tn := wk F' H' (kr i F' σ' H' hI) (fun z => nomatch z) i
    by_cases hlt : i < n
    · obtain ⟨go, yl⟩ := tn.1 hlt
      refine .inr ⟨go, fun σ2 H2 => ∃ F2, Inv (i + 1) F2 σ2 H2, fun σ2 H2 ⟨F2, a1⟩ => ⟨n - (i + 1), by omega, rfl, hlt, F2, a1⟩, fun x H'' yx => ?_⟩
      obtain ⟨s2, r2⟩ := yl x H'' yx
      exact st i F' σ' H' hlt hI x H'' s2 r2
    · have e : i = n := by omega
      subst e
      exact .inl ⟨tn.2 (Nat.le_refl _), en F' σ' H' hI⟩
theorem SR.tell {i : Nat} {v : V} {d : D} (S : SR K F0 F M H0 ρ σ H) (e : σ[i]? = some (some v)) (r : RD K F H v d) : SR K F0 F M H0 (ρ.set i (.val d)) σ H := by
  have h := S.setVal (i := i) r
  have e2 : σ.set i (some v) = σ := by
    apply List.ext_getElem?
    intro j
    by_cases z : i = j
    · subst z
      rw [List.getElem?_set_self (List.getElem?_eq_some_iff.mp e).1, e]
    · rw [List.getElem?_set_ne z]
  rw [e2] at h
  exact h
/-- a slot forgotten -/
theorem SR.drop (S : SR K F0 F M H0 ρ σ H) (i : Nat) : SR K F0 F M H0 (ρ.set i .any) σ H where
  len := by rw [List.length_set]; exact S.len
  same := S.same
  sub := S.sub
  all := S.all
  mf := S.mf
  val := fun j d e => by
    by_cases z : i = j
    · subst z
      rw [List.getElem?_set_self (by
        have := (List.getElem?_eq_some_iff.mp e).1
        rwa [List.length_set] at this)] at e
      cases e
    · rw [List.getElem?_set_ne z] at e
      exact S.val j d e
  own := fun j m ds e => by
    by_cases z : i = j
    · subst z
      rw [List.getElem?_set_self (by
        have := (List.getElem?_eq_some_iff.mp e).1
        rwa [List.length_set] at this)] at e
      cases e
    · rw [List.getElem?_set_ne z] at e
      exact S.own j m ds e
  inj := fun j1 j2 m1 m2 d1 d2 l e1 e2 q1 q2 => by
    have back : ∀ (j : Nat) (m : Bool) (ds : List PyData), (ρ.set i Sl.any)[j]? = some (Sl.own m ds) → ρ[j]? = some (Sl.own m ds) := fun j m ds e => by
      by_cases z : i = j
      · subst z
        rw [List.getElem?_set_self (by
          have := (List.getElem?_eq_some_iff.mp e).1
          rwa [List.length_set] at this)] at e
        cases e
      · rw [List.getElem?_set_ne z] at e
        exact e
    exact S.inj j1 j2 _ _ _ _ l (back _ _ _ e1) (back _ _ _ e2) q1 q2
  m0 := S.m0
  tb := S.tb
end
def gAll (X : Cx) (tg : Expr) : TG := fun v σ H Q => ∃ g, PG X tg g ∧ g v σ H Q
def bAll (X : Cx) (body : List Stmt) : TS := fun D σ H => ∃ t, PSs X body t ∧ t D σ H
section
variable {X : Cx} {ρ ρ1 : List Sl} {n : Nat} {y : Nat → PyData} {P : Po} {x : Str} {p2 q pos pos2 : Pos} {tg iter : Expr} {fb rest : List Stmt}
/-- x = {}, then a loop that fills it, then the rest: by hand -/
theorem dss_dict (i : Nat) (hN : X.N.Nodup) (hv : ρ[i]? = some .any) (hp : PassesOwn (model X.prog X.w) X.A X.env X.xe) (hc : X.calm = true) (h : DI X true ρ tg iter n y ρ1)
    (hand : ∀ (F0 F M : Addr → Prop) (H0 : Hp) (σ : L2.St) (H : Hp) (E : Ends) (wi : TI) (d : Addr), RI X.K true ρ wi n y ρ1 → SR X.K F0 F M H0 ρ σ H → σ[i]? = some (some (.ref d)) → H d = some (.dT []) → H0 d = none →
      (∀ F' ρ' σ' H', P.nx ρ' → SR X.K F0 F' M H0 ρ' σ' H' → Ker F H F' H' → E.nx σ' H') →
      (∀ F' ρ' σ' H' d v, P.rt ρ' d → SR X.K F0 F' M H0 ρ' σ' H' → Ker F H F' H' → RD X.K F0 H' v d → E.rt v H') → tSeq (tFor wi (gAll X tg) (bAll X fb)) (bAll X rest) E σ H)
    (hi : X.N[i]? = some x := by rfl) (hx : Loc X.env.scope x := by first | exact Or.inl rfl | exact Or.inr rfl) (hs : swapsWith (.Dict [] [] q) (some (.Name x p2)) pos.line X.env = pure false := by rfl) (hf : X.fn x = true ∨ X.env.scope.names.lookup x = some .local := by first | exact .inl rfl | exact .inr rfl)
    (hit : ∀ x, foldedSetIterable iter X.env x = pure x := by intro _; rfl) : DSs X ρ (.Assign [.Name x p2] (.Dict [] [] q) pos :: .For tg iter fb [] pos2 :: rest) P := by
  obtain ⟨wi, p1, r1⟩ := h
  refine ⟨_, pss_cons (ps_set (i := i) hN hi hx pe_dnewT hs hf) (pss_cons (ps_for hp hc p1 (pg_all (tg := tg)) (pss_all (body := fb)) hit) (pss_all (body := rest))), fun F0 F M H0 σ H E S q1 q2 _ _ => ?_⟩
  intro d hd
  have s : Same H (upd H d (.dT [])) := same_new hd
  have S1 : SR X.K F0 F M H0 ρ (σ.set i (some (.ref d))) (upd H d (.dT [])) := by
    have := (((S.grow s).setVal (i := i) (v := .ref d) (d := .ob fun _ _ _ => True) ⟨trivial, fun _ _ _ => trivial⟩).drop i)
    rw [List.set_set] at this
    have e : ρ.set i .any = ρ := by
      apply List.ext_getElem?
      intro j
      by_cases z : i = j
      · subst z
        rw [List.getElem?_set_self (List.getElem?_eq_some_iff.mp hv).1, hv]
      · rw [List.getElem?_set_ne z]
    rw [e] at this
    exact this
  have hi2 : i < σ.length := by rw [← S.len]; exact (List.getElem?_eq_some_iff.mp hv).1
  exact hand F0 F M H0 _ _ E wi d r1 S1 (List.getElem?_set_self hi2) upd_same (S.h0 hd) (fun F' ρ' σ' H' n S' k => q1 F' ρ' σ' H' n S' ((Ker.same s).trans k)) fun F' ρ' σ' H' d v n S' k r => q2 F' ρ' σ' H' d v n S' ((Ker.same s).trans k) r
end
end Bw
/-! Dic8: statements by hand, one behind another. -/
namespace Bw
open PySem PySem.Spec PyProof.Rows L2
section
variable {X : Cx} {F0 F M : Addr → Prop} {H0 H : Hp} {ρ ρ1 : List Sl} {σ : L2.St} {x xi xj xk : Str} {e c : Expr} {d : D} {pos p2 p3 p4 p5 p6 : Pos} {rest A B : List Stmt} {D : Ends}
theorem bAll_asg (i : Nat) (hN : X.N.Nodup) (h : DE X ρ e d ρ1) (S : SR X.K F0 F M H0 ρ σ H) (k : ∀ v H1, SR X.K F0 F M H0 (ρ1.set i (.val d)) (σ.set i (some v)) H1 → Shp ρ ρ1 → Off (Ow ρ σ) H H1 → RD X.K F H1 v d → bAll X rest D (σ.set i (some v)) H1)
    (hi : X.N[i]? = some x := by rfl) (hx : Loc X.env.scope x := by first | exact Or.inl rfl | exact Or.inr rfl) (hs : swapsWith e (some (.Name x p2)) pos.line X.env = pure false := by rfl) (hf : X.fn x = true ∨ X.env.scope.names.lookup x = some .local := by first | exact .inl rfl | exact .inr rfl) :
    bAll X (.Assign [.Name x p2] e pos :: rest) D σ H := by
  obtain ⟨te, p1, r1⟩ := h
  refine ⟨_, pss_cons (ps_set (i := i) hN hi hx p1 hs hf) (pss_all (body := rest)), ?_⟩
  exact r1 F0 F M H0 σ H _ S fun v H1 S1 w1 o1 g1 => k v H1 (S1.setVal g1) w1 o1 g1
/-- if key not in dict -/
theorem bAll_ifd (i j : Nat) {kb dd : Addr} {kvs : List (List Key × V)} {sg : List Bool} (hu : X.A.units + 1 < cLine) (hk : σ[i]? = some (some (.ref kb))) (hr : Rp X.K F H (.ref kb) (eBits sg)) (hj : σ[j]? = some (some (.ref dd))) (hd : H dd = some (.dT kvs))
    (k1 : valV kvs (keyL sg) = none → bAll X A D σ H) (k2 : ∀ v, valV kvs (keyL sg) = some v → bAll X B D σ H)
    (hNi : X.N[i]? = some xi := by rfl) (hNj : X.N[j]? = some xj := by rfl) (hvi : Vis X.env.scope xi := by first | exact Or.inl rfl | exact Or.inr (Or.inl rfl) | exact Or.inr (Or.inr rfl)) (hvj : Vis X.env.scope xj := by first | exact Or.inl rfl | exact Or.inr (Or.inl rfl) | exact Or.inr (Or.inr rfl))
    (hdi : (xi == ("__debug__" : Str)) = false := by decide) (hci : (xi == ("__classdict__" : Str)) = false := by decide) (hdj : (xj == ("__debug__" : Str)) = false := by decide) (hcj : (xj == ("__classdict__" : Str)) = false := by decide) :
    bAll X [.If (.Compare (.Name xi p2) [.NotIn] [.Name xj p3] p4) A B pos] D σ H := by
  refine ⟨_, pss_one (ps_if (L2.pt_cmp (pc_dnotR hu (pe_var hNi hvi hdi hci) (pe_var hNj hvj hdj hcj))) (pss_all (body := A)) (pss_all (body := B))), _, hk, _, hj, dd, kb, kvs, sg, F, rfl, rfl, .inl hd, hr, ?_⟩
  refine ⟨_, rfl, ?_⟩
  cases hv : valV kvs (keyL sg) with
  | none => exact k1 hv
  | some v => exact k2 v hv
/-- dict[key] = value -/
theorem bAll_put (j i l : Nat) {kb dd : Addr} {v : V} {kvs : List (List Key × V)} {kk : List Key} (hu : X.A.units + 1 < cLine) (hj : σ[j]? = some (some (.ref dd))) (hk : σ[i]? = some (some (.ref kb))) (hv : σ[l]? = some (some v)) (hd : H dd = some (.dT kvs)) (hkb : H kb = some (.tup (kk.map kV))) (hl : kvs.length < sizeLine)
    (k : D.nx σ (upd H dd (.dT (putK kvs kk v))))
    (hNi : X.N[i]? = some xi := by rfl) (hNj : X.N[j]? = some xj := by rfl) (hNk : X.N[l]? = some xk := by rfl) (hvi : Vis X.env.scope xi := by first | exact Or.inl rfl | exact Or.inr (Or.inl rfl) | exact Or.inr (Or.inr rfl)) (hvj : Vis X.env.scope xj := by first | exact Or.inl rfl | exact Or.inr (Or.inl rfl) | exact Or.inr (Or.inr rfl)) (hvk : Vis X.env.scope xk := by first | exact Or.inl rfl | exact Or.inr (Or.inl rfl) | exact Or.inr (Or.inr rfl))
    (hdi : (xi == ("__debug__" : Str)) = false := by decide) (hci : (xi == ("__classdict__" : Str)) = false := by decide) (hdj : (xj == ("__debug__" : Str)) = false := by decide) (hcj : (xj == ("__classdict__" : Str)) = false := by decide) (hdk : (xk == ("__debug__" : Str)) = false := by decide) (hck : (xk == ("__classdict__" : Str)) = false := by decide)
    (hs : swapsWith (.Name xk p2) (some (.Subscript (.Name xj p3) (.Name xi p4) p5)) pos.line X.env = pure false := by rfl) :
    bAll X [.Assign [.Subscript (.Name xj p3) (.Name xi p4) p5] (.Name xk p2) pos] D σ H :=
  ⟨_, pss_one (ps_dput hu (pe_var hNj hvj hdj hcj) (pe_var hNi hvi hdi hci) (pe_var hNk hvk hdk hck) hs), _, hv, _, hj, _, hk, dd, _, rfl, DPut.t hd hkb hl, k⟩
/-- if test: A, the test in an environment to which the dict is told as frozen -/
theorem bAll_ifLock {ρF : List Sl} {dd : Addr} {kvs : List (List Key × V)} {z : Bool} (hd : H dd = some (.dT kvs)) (h0 : H0 dd = none) (h : DT X ρF c z ρF) (S : SR X.K F0 F M H0 ρ σ H) (SF : ∀ o, SR X.K F0 F M H0 ρF σ (upd H dd (.frz o (.dT kvs)))) (ow : ∀ a, ¬ Ow ρF σ a)
    (k1 : z = true → ∀ H', SR X.K F0 F M H0 ρ σ H' → Sm H H' → H' dd = some (.dT kvs) → bAll X A D σ H') (k2 : z = false → ∀ H', SR X.K F0 F M H0 ρ σ H' → Sm H H' → H' dd = some (.dT kvs) → bAll X B D σ H') : bAll X [.If c A B pos] D σ H := by
  obtain ⟨tt, p1, r1⟩ := h
  refine ⟨_, pss_one (ps_if (pt_lockB p1) (pss_all (body := A)) (pss_all (body := B))), dd, kvs, hd, fun o => ?_⟩
  refine r1 F0 F M H0 σ _ _ (SF o) fun H' S' w' o' => ?_
  have sm : Sm (upd H dd (.frz o (.dT kvs))) H' := fun b v e => o' b v e (ow b)
  refine ⟨unlock_frz hd sm, ?_⟩
  have S2 := S.unlock hd sm S'.tb
  cases z with
  | true => exact k1 rfl _ S2 (unlock_sm hd sm) upd_same
  | false => exact k2 rfl _ S2 (unlock_sm hd sm) upd_same
/-- the rest, in an environment to which the dict is told as frozen -/
theorem bAll_lock {ρF : List Sl} {dd : Addr} {kvs : List (List Key × V)} {P : Po} (hd : H dd = some (.dT kvs)) (h : DSs X ρF A P) (SF : ∀ o, SR X.K F0 F M H0 ρF σ (upd H dd (.frz o (.dT kvs))))
    (q1 : ∀ F' ρ' σ' H', P.nx ρ' → SR X.K F0 F' M H0 ρ' σ' H' → Ker F H F' H' → D.nx σ' H') (q2 : ∀ F' ρ' σ' H' d v, P.rt ρ' d → SR X.K F0 F' M H0 ρ' σ' H' → Ker F H F' H' → RD X.K F0 H' v d → D.rt v H')
    (q3 : ∀ ρ', ¬ P.bk ρ') (q4 : ∀ ρ', ¬ P.ct ρ') : bAll X A D σ H := by
  obtain ⟨ts, p1, r1⟩ := h
  refine ⟨_, pss_lockB p1, dd, kvs, hd, fun o => ?_⟩
  have kk : Ker F H F (upd H dd (.frz o (.dT kvs))) := ker_dset hd
  exact r1 F0 F M H0 σ _ D (SF o) (fun F' ρ' σ' H' n S' k => q1 F' ρ' σ' H' n S' (kk.trans k)) (fun F' ρ' σ' H' d v n S' k r => q2 F' ρ' σ' H' d v n S' (kk.trans k) r) (fun F' ρ' σ' H' n => (q3 ρ' n).elim) fun F' ρ' σ' H' n => (q4 ρ' n).elim
theorem bAll_nil (h : D.nx σ H) : bAll X [] D σ H := ⟨_, pss_nil, h⟩
end
theorem EntR.snoc {K : PySem.W.Frag} {F : Addr → Prop} {H : Hp} {kvs : List (List Key × V)} {t : Tb PyData} (h : EntR K F H kvs t) {v : V} {sg : List Bool} {d : PyData} (r : Rp K F H v d) : EntR K F H (kvs ++ [(keyL sg, v)]) (t ++ [(sg, d)]) := by
  induction h with
  | nil => exact .cons ⟨rfl, r⟩ .nil
  | cons a _ ih => exact .cons a ih
end Bw
/-! G15: the law's pairs. -/
namespace Bw
open PySem PySem.Spec PyProof.Rows L2
open PySem.W (EachIs AllAlike Sortable dataLe)
local macro_rules | `(tactic| walk_at "lv") => `(tactic| first
  | fail)
local macro_rules | `(tactic| walk_at "cd") => `(tactic| first
  | assumption | exact Iff.rfl | omega | (rw [xs_len]; assumption) | (rw [zs_len]; assumption) | (refine ⟨?_, ?_⟩ <;> assumption) | (refine ⟨?_, ?_, ?_⟩ <;> assumption) | (simp only [xs_len, zs_len]; assumption) | (simp only [xs_len, zs_len]; omega) | walk_at "lv")
local macro_rules | `(tactic| walk_at "dxp") => `(tactic| first
  | assumption
  | exact ⟨_, rfl, rfl⟩
  | exact ⟨_, _, rfl, rfl⟩
  | exact ⟨_, _, _, rfl, rfl⟩
  | exact ⟨_, _, _, _, rfl, rfl⟩
  | exact ⟨_, rfl, rfl, by walk_at "cd"⟩
  | exact ⟨_, _, rfl, rfl, by walk_at "cd"⟩
  | exact ⟨_, _, _, rfl, rfl, by walk_at "cd"⟩
  | exact ⟨_, _, _, _, rfl, rfl, by walk_at "cd"⟩
  | exact ⟨_, _, _, _, _, rfl, rfl, by walk_at "cd"⟩
  | exact ⟨_, _, _, _, _, _, rfl, rfl, by walk_at "cd"⟩
  | exact ⟨_, _, _, _, _, _, _, rfl, rfl, by walk_at "cd"⟩
  | exact ⟨_, _, _, _, _, _, _, _, rfl, rfl, by walk_at "cd"⟩
  | exact ⟨_, _, _, _, _, _, _, _, _, rfl, rfl, by walk_at "cd"⟩
  | exact ⟨_, rfl, rfl, rfl, rfl, by walk_at "side"⟩
  | walk_at "lv")
local macro_rules | `(tactic| walk_at "kit") => `(tactic| first
  | exact kit_ii | exact kit_ib | exact kit_ll | exact kit_tt)
local macro_rules | `(tactic| walk_at "side") => `(tactic| first
  | assumption | exact sel_int _ _ _ | exact sel_bi _ _ _ | rfl | decide | omega | exact Nat.le_of_ble_eq_true rfl | (simp; done) | (simp; omega) | (refine Or.inl ⟨?_, ?_⟩ <;> decide) | (refine Or.inr ⟨?_, ?_⟩ <;> decide) | (refine Or.inl ⟨?_, ?_⟩ <;> omega) | (refine Or.inr ⟨?_, ?_⟩ <;> omega) | (rw [bi_xor]; refine Or.inl ⟨?_, ?_⟩ <;> omega) | (refine And.intro ?_ (And.intro ?_ ?_) <;> omega) | (refine And.intro ?_ ?_ <;> omega) | walk_at "lv")
def resD : (Row × Row) ⊕ Tb Row → D
  | .inl c => Tu [.str "clash", eRow c.1, eRow c.2]
  | .inr g => Tu [.str "mends", .list (g.map ePair)]
def tbR (f : Tb Row) : Tb PyData := f.map fun q => (q.1, eRow q.2)
theorem tbR_find (f : Tb Row) (sg : List Bool) : tfind (tbR f) sg = (tfind f sg).map fun q => (q.1, eRow q.2) := by
  unfold tbR
  exact tfind_map (fun q : List Bool × Row => (q.1, eRow q.2)) (fun _ => rfl) f sg
theorem tbR_len (f : Tb Row) : (tbR f).length = f.length := List.length_map ..
/-- what the table holds -/
structure TbK (n size : Nat) (kept : List Row) (f : Tb Row) : Prop where
  each : ∀ q ∈ f, q.2 ∈ errS n size ∧ q.1 = sgns kept q.2
theorem inGr_any (n : Nat) (rows : List Row) (p : Pl) : inGr n rows p = true ↔ ∃ g ∈ grR n rows, g.p = p := by
  unfold inGr
  rw [List.any_eq_true]
  exact ⟨fun ⟨g, hg, e⟩ => ⟨g, hg, by simpa using e⟩, fun ⟨g, hg, e⟩ => ⟨g, hg, by simpa using e⟩⟩
section
variable {Pg : Program} {w : World} {K : PySem.W.Frag} {mg : Str → Option Value} {base : Heap} {f CS CC : Addr} {fd : FuncData}
abbrev N_l_pairs : List Str := ["_law_rows", "_law_group_here", "_law_size_here", "_law_firsts", "_law_error", "_law_signs_here"]
abbrev P_l_pairs : List Str := ["_law_rows", "_law_group_here", "_law_size_here"]
theorem sc_l_pairs : FnScope N_l_pairs P_l_pairs (defScope s_l_pairs) := ⟨rfl, rfl, rfl, by decide +kernel, rfl, by decide +kernel, by decide +kernel⟩
def p_l_pairs (P : Program) (w : World) (K : PySem.W.Frag) : List D → D → Prop := fun ds d => ∃ (rows kept : List Row) (n size : Nat), ds = [Li (kept.map eRow), GrpR P w K n rows, I size] ∧ d = resD (prR n rows kept size) ∧ Wd n ∧ AllN n kept ∧ kept ≠ [] ∧ kept.length ≤ 100 ∧ AllN n rows ∧ size ≤ n
theorem ok_l_pairs (F : FnP K "_law_pairs" "_law_pairs" s_l_pairs f fd) (BT : Bl mg) (C_l_all_errors : Cal Pg w K mg base "_law_all_errors" 2 P_l_all_errors (SpD K p_all_errors)) (C_l_size : Cal Pg w K mg base "_law_size" 1 P_l_size (SpD K p_l_size)) (C_l_signs : Cal Pg w K mg base "_law_signs" 2 P_l_signs (SpD K (p_l_signs (K := K))))
    (C_l_product_bits : Cal Pg w K mg base "_law_product_bits" 1 P_l_product_bits (SpD K p_l_product_bits)) : FnOk Pg w K mg base CX0 3 f fd P_l_pairs (SpD K (p_l_pairs Pg w K)) := by
  refine fn_mk F sc_l_pairs (fun ds d h => ?_) (by decide) fun cdv A outer s Hq E ds d hr h => ?_
  · obtain ⟨rows, kept, n, size, rfl, rfl, _⟩ := h
    rfl
  · obtain ⟨rows, kept, n, size, rfl, rfl, wn, hall, ne, few, hrows, hs⟩ := h
    have nd := sc_l_pairs.nd
    have wn5 := wn.2
    have hf := errR_few wn5
    have hu1 : (BX Pg w K mg base N_l_pairs "_law_pairs" s_l_pairs f cdv A outer s Hq E).A.units + 70 < cLine := by have := hr.un; omega
    obtain ⟨r0, rest, e0⟩ : ∃ r0 rest, kept = r0 :: rest := by
      cases hrs : kept with
      | nil => exact absurd hrs ne
      | cons r rest => exact ⟨r, rest, rfl⟩
    have h0 : atI (kept.map eRow) 0 = some (eRow r0) := atI_n (i := 0) (by rw [e0]; rfl)
    have hn0 := hall r0 (by rw [e0]; simp)
    have l1 : (r0.xs.map eB).length = n := by simp [Row.xs, hn0]
    have el : (errS n size).length ≤ 1024 := Nat.le_trans (List.length_filter_le ..) hf
    have rt1 : ∀ f : Tb Row, (∀ q ∈ f, q.2 ∈ errS n size) → ∀ q ∈ tbR f, SeqAt.shaped q.2 = true := fun f hq q hm => by
      obtain ⟨z, _, rfl⟩ := List.mem_map.mp hm
      exact row_shaped z.2
    refine dss_dict 3 nd rfl PassesOwn.never rfl (di_list (DL.ex (dl_lc (out := (errS n size).map eRow) [("_law_error", 4)] rfl nd (blkOk_by (by show blkC N_l_pairs (defScope s_l_pairs) _ _ = true; decide +kernel)) (lcw_seqA 4 (fun e : Row => decide (wt e.p ≤ size)) eRow (di_list (de_call C_l_all_errors hr (da_cons (DE.is (de_len (DE.tpl (de_ix (DE.tpl (de_ix (DE.lst (de_var 0)) de_int (by walk_at "side"))) de_int (by walk_at "side"))) BT.b_len) (by rw [l1])) da_nil) ⟨n, rfl, rfl, wn⟩)) (by omega) (fun d _ _ _ _ _ => dg_name 4 nd) (fun e he s' H' C cl fp => dts_one (by
      have c3 : e.p.length ≤ 100 := by rw [(errR_each he).2]; omega
      refine DT.is (dt_cmp (dc_le (de_call C_l_size hr (da_cons (de_var 4) da_nil) (by walk_at "dxp")) (de_var 2))) ?_
      simp)) fun e he hb s' H' C cl fp => (de_var 4))))) fun F0 F M H0 σ H E' wi d r1 S hsl hd h0 q1 q2 => ?_
    refine for_hand (E := { E' with nx := bAll _ _ E' }) r1 S fun H1 S1 w1 o1 => ?_
    have ow0 : ∀ (a4 a5 : Sl), (∀ m ds, a4 ≠ .own m ds) → (∀ m ds, a5 ≠ .own m ds) → ∀ (z : Sl), (∀ m ds, z ≠ .own m ds) → ∀ σ a, ¬ Ow [.val (Li (kept.map eRow)), .val (GrpR Pg w K n rows), .val (I size), z, a4, a5] σ a := fun a4 a5 h4 h5 z hz σ a h => by
      obtain ⟨i, ds, e, _⟩ := h
      match i, e with
      | 0, e => cases e
      | 1, e => cases e
      | 2, e => cases e
      | 3, e => exact hz _ _ (Option.some.inj e)
      | 4, e => exact h4 _ _ (Option.some.inj e)
      | 5, e => exact h5 _ _ (Option.some.inj e)
      | i + 6, e => cases e
    have k1 : Ker F H F H1 := S.ker o1
    have hd1 : H1 d = some (.dT []) := o1 d _ hd (ow0 .any .any (fun _ _ h => nomatch h) (fun _ _ h => nomatch h) .any (fun _ _ h => nomatch h) σ d)
    refine ⟨fun i F' σ' H' => F' = F ∧ Ker F H1 F H' ∧ ∃ (f : Tb Row) (kvs : List (List Key × V)), SR K F0 F M H0 [.val (Li (kept.map eRow)), .val (GrpR Pg w K n rows), .val (I size), .any, .any, .any] σ' H' ∧ σ'[3]? = some (some (.ref d)) ∧ H' d = some (.dT kvs) ∧ EntR K F H' kvs (tbR f) ∧
      prGo n rows kept ((errS n size).drop i) f = prGo n rows kept (errS n size) [] ∧ f.length ≤ i ∧ (∀ q ∈ f, q.2 ∈ errS n size ∧ q.1 = sgns kept q.2), ⟨F, rfl, Ker.refl _ _, [], [], S1, hsl, hd1, .nil, rfl, Nat.le_refl _, fun q hq => (by cases hq)⟩, ?_, ?_, ?_⟩
    · rintro i F' σ' H' ⟨rfl, k, _⟩
      exact k
    · rintro F' σ' H' ⟨rfl, k, g, kvs, S', hs', hd', er, hgo, hl, hg⟩
      rw [List.length_map, List.drop_eq_nil_of_le (Nat.le_refl _)] at hgo
      have hgo : prGo n rows kept (errS n size) [] = .inr g := hgo.symm
      have hres : resD (prR n rows kept size) = Tu [.str "mends", .list ((g.mergeSort leK).map ePair)] := by
        unfold prR
        rw [hgo]
        rfl
      rw [hres] at q1 q2
      show bAll _ _ E' σ' H'
      have hnd := prGo_ok (kept := kept) hrows (fun e => e ∈ errS n size) (fun e h => (errS_each h).2.1) (errS n size) [] (fun e h => h) List.nodup_nil (fun q h => by (cases h))
      rw [hgo] at hnd
      have gnd : (g.map (·.1)).Nodup := hnd.1
      have gl : g.length ≤ 1024 := by rw [List.length_map] at hl; omega
      have sl : ∀ q ∈ g, q.1.length ≤ 100 := fun q hq => by
        rw [(hg q hq).2]
        simpa [sgns] using few
      have sne : ∀ q ∈ tbR g, q.1 ≠ [] := fun q hq => by
        obtain ⟨z, hz, rfl⟩ := List.mem_map.mp hq
        show z.1 ≠ []
        rw [(hg z hz).2]
        unfold sgns
        simpa using ne
      have ek : srt (keysD (tbR g)) = (g.mergeSort leK).map fun q => eBits q.1 := by
        unfold srt keysD tbR leK
        rw [List.map_map]
        exact (PySem.W.sort_maps (fun q : List Bool × Row => eBits q.1) fun _ _ _ _ => rfl).symm
      refine bAll_lock (ρF := [.val (Li (kept.map eRow)), .val (GrpR Pg w K n rows), .val (I size), .val (DicF K (tbR g)), .any, .any]) (P := { nx := fun _ => False, rt := fun _ d' => d' = Tu [.str "mends", .list ((g.mergeSort leK).map ePair)] }) hd' (dss_one (ds_ret (d := Tu [.str "mends", .list ((g.mergeSort leK).map ePair)]) (de_tup (dp_cons de_str (dp_cons (DL.ex (dl_lc (out := (g.mergeSort leK).map ePair) [("_law_signs_here", 5)] rfl nd (blkOk_by (by show blkC N_l_pairs (defScope s_l_pairs) _ _ = true; decide +kernel)) (lcw_mapA (e := fun q : List Bool × Row => eBits q.1) (l := g.mergeSort leK) 5 ePair (di_list (DE.is (DL.ex (dl_sortedF (de_var 3) rfl (by omega) sne BT.b_sorted)) (congrArg Li ek))) (by rw [List.length_mergeSort]; omega) (fun d _ _ _ _ _ => dg_name 5 nd) fun q hq s' H2 C cl fp => ?_))) dp_nil)) (by show 2 ≤ 100000; decide)) rfl)) (fun o => ?_) (fun F2 ρ2 σ2 H2 nn S2 k2 => nn.elim) (fun F2 ρ2 σ2 H2 d2 v2 e2 S2 k2 r2 => q2 F2 ρ2 σ2 H2 d2 v2 e2 S2 ((k1.trans k).trans k2) r2) (fun ρ' h => h) (fun ρ' h => h)
      · have hm : q ∈ g := (List.mergeSort_perm _ _).mem_iff.mp hq
        have hf2 : tfind (tbR g) q.1 = some (q.1, eRow q.2) := by rw [tbR_find, (tfind_iff gnd).mpr hm]; rfl
        exact DE.is (de_tup (dp_cons (de_var 5) (dp_cons (de_dgetF (q := (q.1, eRow q.2)) (de_var 3) (de_var 5) (Nat.lt_of_le_of_lt (Nat.add_le_add_left (show 1 ≤ 70 by decide) _) hu1) hf2 (fun _ _ => rfl)) dp_nil)) (by show 2 ≤ 100000; decide)) rfl
      · exact (S'.dset hd' h0).tell hs' (dicF_rd rfl upd_same (er.ker (ker_dset hd')))
    · rintro i F' σ' H' hi ⟨rfl, k, g, kvs, S', hs', hd', er, hgo, hl, hg⟩ x H'' s2 rx
      rw [List.length_map] at hi
      rw [at_map hi] at rx
      have me : (errS n size)[i] ∈ errS n size := List.getElem_mem hi
      obtain ⟨et, el5, ew⟩ := errS_each me
      generalize he : (errS n size)[i] = e at rx me et el5 ew
      have hdrop : (errS n size).drop i = e :: (errS n size).drop (i + 1) := by rw [List.drop_eq_getElem_cons hi, he]
      rw [hdrop] at hgo
      refine ⟨_, pg_name (i := 4) nd rfl (Or.inl rfl), ?_⟩
      have S2 := (S'.grow s2).setVal (i := 4) (d := .py (eRow e)) rx
      have hd2 : H'' d = some (.dT kvs) := s2 d _ hd'
      have er2 := er.ker (Ker.same (F := F') s2)
      have hs2 : (σ'.set 4 (some x))[3]? = some (some (.ref d)) := by rw [List.getElem?_set_ne (by decide)]; exact hs'
      refine bAll_asg 5 nd (d := TupN K ((sgns kept e).map eB)) (de_call C_l_signs hr (da_cons (de_var 0) (da_cons (de_var 4) da_nil)) ⟨kept, n, e, rfl, rfl, wn, hall, el5, few⟩) S2 fun v H3 S3 w3 o3 g3 => ?_
      have nz : ∀ σ a, ¬ Ow [.val (Li (kept.map eRow)), .val (GrpR Pg w K n rows), .val (I size), .any, .val (.py (eRow e)), .any] σ a := ow0 (.val (.py (eRow e))) .any (fun _ _ h => nomatch h) (fun _ _ h => nomatch h) .any fun _ _ h => nomatch h
      have sm3 : Sm H'' H3 := fun b u eb => o3 b u eb (nz _ b)
      have hd3 : H3 d = some (.dT kvs) := sm3 d _ hd2
      have er3 := er2.ker (Ker.sm (F := F') sm3)
      obtain ⟨kb, rfl, hkb⟩ := key_told g3
      have S4 : SR K F0 F' M H0 [.val (Li (kept.map eRow)), .val (GrpR Pg w K n rows), .val (I size), .any, .val (.py (eRow e)), .val (TupN K ((sgns kept e).map eB))] ((σ'.set 4 (some x)).set 5 (some (.ref kb))) H3 := S3
      have hs4 : ((σ'.set 4 (some x)).set 5 (some (V.ref kb)))[3]? = some (some (.ref d)) := by rw [List.getElem?_set_ne (by decide)]; exact hs2
      have k4 : Ker F' H1 F' H3 := (k.trans (Ker.same s2)).trans (Ker.sm sm3)
      have len := S'.len
      have h4 : ((σ'.set 4 (some x)).set 5 (some (V.ref kb)))[4]? = some (some x) := by
        rw [List.getElem?_set_ne (by decide), List.getElem?_set_self (by rw [← len]; exact (show 4 < 6 by decide))]
      have h5 : ((σ'.set 4 (some x)).set 5 (some (V.ref kb)))[5]? = some (some (.ref kb)) := List.getElem?_set_self (by rw [List.length_set, ← len]; exact (show 5 < 6 by decide))
      generalize hσ4 : (σ'.set 4 (some x)).set 5 (some (V.ref kb)) = σ4 at S4 hs4 h4 h5
      have gl : g.length ≤ 1024 := by omega
      have lk : kvs.length = g.length := by rw [er3.at.1, tbR_len]
      obtain ⟨eg1, eg2⟩ := er3.get (sgns kept e)
      rw [tbR_find] at eg1 eg2
      refine bAll_ifd 5 3 (F := F') (sg := sgns kept e) (by omega) h5 (rp_key hkb) hs4 hd3 (fun hn => ?_) fun v0 hv0 => ?_
      · have tn : tfind g (sgns kept e) = none := by
          rw [hn] at eg1
          cases hq : tfind g (sgns kept e) with
          | none => rfl
          | some q => rw [hq] at eg1; cases eg1
        have hgo2 : prGo n rows kept ((errS n size).drop (i + 1)) (g ++ [(sgns kept e, e)]) = prGo n rows kept (errS n size) [] := by
          rw [← hgo]
          conv => rhs; unfold prGo
          rw [tn]
        refine bAll_put 3 5 4 (kk := keyL (sgns kept e)) (by omega) hs4 h5 h4 hd3 hkb (Nat.lt_of_le_of_lt (show kvs.length ≤ 1024 by omega) (by decide)) ?_
        rw [putK_new x hn]
        have kd : Ker F' H3 F' (upd H3 d (.dT (kvs ++ [(keyL (sgns kept e), x)]))) := ker_dset hd3
        refine ⟨F', rfl, k4.trans kd, g ++ [(sgns kept e, e)], _, (((S4.dset hd3 h0).drop 4).drop 5), hs4, upd_same, ?_, hgo2, ?_, fun q hq => ?_⟩
        · unfold tbR
          rw [List.map_append]
          exact EntR.snoc (er3.ker kd) ((rx.ker (Ker.sm sm3)).ker kd)
        · rw [List.length_append]
          simpa using hl
        · rcases List.mem_append.mp hq with hq | hq
          · exact hg q hq
          · rw [List.mem_singleton.mp hq]
            exact ⟨me, rfl⟩
      · rw [hv0] at eg1
        obtain ⟨q0, hq0⟩ : ∃ q, tfind g (sgns kept e) = some q := by
          cases hq : tfind g (sgns kept e) with
          | none => rw [hq] at eg1; cases eg1
          | some q => exact ⟨q, rfl⟩
        obtain ⟨f1, f2⟩ := tfind_key hq0
        obtain ⟨g1, g2⟩ := hg q0 f2
        obtain ⟨t0, l0, w0⟩ := errS_each g1
        have hq2 : tfind (tbR g) (sgns kept e) = some (q0.1, eRow q0.2) := by rw [tbR_find, hq0]; rfl
        have hwd : Wd q0.2.p.length := by rw [l0]; exact wn
        have SF : ∀ (H' : Hp), SR K F0 F' M H0 [.val (Li (kept.map eRow)), .val (GrpR Pg w K n rows), .val (I size), .any, .val (.py (eRow e)), .val (TupN K ((sgns kept e).map eB))] σ4 H' → H' d = some (.dT kvs) → EntR K F' H' kvs (tbR g) → ∀ o, SR K F0 F' M H0 [.val (Li (kept.map eRow)), .val (GrpR Pg w K n rows), .val (I size), .val (DicF K (tbR g)), .val (.py (eRow e)), .val (TupN K ((sgns kept e).map eB))] σ4 (upd H' d (.frz o (.dT kvs))) := fun H' SS hh er o =>
          (SS.dset hh h0).tell hs4 (dicF_rd rfl upd_same (er.ker (ker_dset hh)))
        have hgo2 : (if inGr n rows (plx q0.2.p e.p) = true then prGo n rows kept ((errS n size).drop (i + 1)) g else .inl (q0.2, e)) = prGo n rows kept (errS n size) [] := by
          rw [← hgo]
          conv => rhs; unfold prGo
          rw [hq0]
        refine bAll_ifLock (ρF := [.val (Li (kept.map eRow)), .val (GrpR Pg w K n rows), .val (I size), .val (DicF K (tbR g)), .val (.py (eRow e)), .val (TupN K ((sgns kept e).map eB))]) (z := !inGr n rows (plx q0.2.p e.p)) hd3 h0
          (dt_cmp (dc_notInN (p := plx q0.2.p e.p) (de_call C_l_product_bits hr (da_cons (de_dgetF (q := (q0.1, eRow q0.2)) (de_var 3) (DE.tu (de_var 5)) (by omega) hq2 (fun _ _ => rfl)) (da_cons (de_var 4) da_nil)) ⟨q0.2, e, rfl, rfl, hwd, by rw [el5, l0]⟩) (de_var 1) (by omega) (inGr_any _ _ _))) S4 (SF H3 S4 hd3 er3) (ow0 (.val (.py (eRow e))) (.val (TupN K ((sgns kept e).map eB))) (fun _ _ h => nomatch h) (fun _ _ h => nomatch h) (.val (DicF K (tbR g))) (fun _ _ h => nomatch h) σ4) (fun hz H' SS ss hh => ?_) fun hz H' SS ss hh => ?_
        · have hng : inGr n rows (plx q0.2.p e.p) = false := by simpa using hz
          rw [hng] at hgo2
          have hres : resD (prR n rows kept size) = Tu [.str "clash", eRow q0.2, eRow e] := by
            unfold prR
            rw [← hgo2]
            rfl
          rw [hres] at q1 q2
          have er4 := er3.ker (Ker.sm (F := F') ss)
          refine bAll_lock (P := { nx := fun _ => False, rt := fun _ d' => d' = Tu [.str "clash", eRow q0.2, eRow e] }) hh (dss_one (ds_ret (d := Tu [.str "clash", eRow q0.2, eRow e]) (de_tup (dp_cons de_str (dp_cons (de_dgetF (q := (q0.1, eRow q0.2)) (de_var 3) (DE.tu (de_var 5)) (by omega) hq2 (fun _ _ => rfl)) (dp_cons (de_var 4) dp_nil))) (by show 3 ≤ 100000; decide)) rfl)) (SF H' SS hh er4) (fun F2 ρ2 σ2 H2 nn S2 k2 => nn.elim) (fun F2 ρ2 σ2 H2 d2 v2 e2 S2 k2 r2 => ?_) (fun ρ' h => h) (fun ρ' h => h)
          exact q2 F2 ρ2 σ2 H2 d2 v2 e2 S2 (((k1.trans k4).trans (Ker.sm ss)).trans k2) r2
        · have hg1 : inGr n rows (plx q0.2.p e.p) = true := by simpa using hz
          rw [hg1] at hgo2
          refine bAll_nil ⟨F', rfl, k4.trans (Ker.sm ss), g, kvs, (SS.drop 4).drop 5, hs4, hh, er3.ker (Ker.sm ss), hgo2, by omega, hg⟩
end
end Bw
/-! Dic9: a dict of lists: what it tells, a loop over a told list, append; pairs sorted. -/
namespace Bw
open PySem PySem.Spec PyProof.Rows L2
open PySem.W (EachIs AllAlike Sortable dataLe)
section
variable {X : Cx} {F0 F M : Addr → Prop} {H0 H : Hp} {ρ ρ1 : List Sl} {σ : L2.St} {x xj : Str} {e c tg : Expr} {d : D} {pos p2 p3 p4 apos : Pos} {rest A B fb : List Stmt} {D : Ends}
theorem bAll_forList (j : Nat) {l : Addr} {vs : List V} (hp : PassesOwn (model X.prog X.w) X.A X.env X.xe) (hc : X.calm = true) (hj : σ[j]? = some (some (.ref l))) (hl : H l = some (.lst vs)) (Inv : Nat → L2.St → Hp → Prop) (i0 : Inv 0 σ H) (hI : ∀ i σ' H', Inv i σ' H' → H' l = some (.lst vs))
    (en : ∀ σ' H', Inv vs.length σ' H' → bAll X rest D σ' H') (st : ∀ i σ' H' x, i < vs.length → Inv i σ' H' → vs[i]? = some x → gAll X tg x σ' H' fun σ2 H2 => bAll X fb { D with nx := Inv (i + 1), ct := Inv (i + 1), bk := bAll X rest D } σ2 H2)
    (hNj : X.N[j]? = some xj := by rfl) (hvj : Vis X.env.scope xj := by first | exact Or.inl rfl | exact Or.inr (Or.inl rfl) | exact Or.inr (Or.inr rfl)) (hdj : (xj == ("__debug__" : Str)) = false := by decide) (hcj : (xj == ("__classdict__" : Str)) = false := by decide)
    (hit : ∀ x, foldedSetIterable (.Name xj p2) X.env x = pure x := by intro _; rfl) : bAll X (.For tg (.Name xj p2) fb [] pos :: rest) D σ H := by
  refine ⟨_, pss_cons (ps_for hp hc (pi_list (pe_var hNj hvj hdj hcj)) (pg_all (tg := tg)) (pss_all (body := fb)) hit) (pss_all (body := rest)), ?_⟩
  refine ⟨_, hj, l, rfl, ⟨vs, SqL.of hl⟩, fun i m σ' H' => m = vs.length - i ∧ i ≤ vs.length ∧ Inv i σ' H', ⟨vs.length, by simp, Nat.zero_le _, i0⟩, ?_⟩
  rintro i m σ' H' ⟨rfl, hi, hv⟩
  have hl' := hI i σ' H' hv
  by_cases hlt : i < vs.length
  · refine .inr ⟨⟨vs, vs[i], SqL.of hl', List.getElem?_eq_getElem hlt⟩, Inv (i + 1), fun σ2 H2 a1 => ⟨vs.length - (i + 1), by omega, rfl, hlt, a1⟩, fun x H'' ⟨e1, e2⟩ => ?_⟩
    subst e1
    exact st i σ' H'' x hlt hv (e2 vs (SqL.of hl'))
  · have e : i = vs.length := by omega
    subst e
    exact .inl ⟨⟨vs, SqL.of hl', Nat.le_refl _⟩, en σ' H' hv⟩
theorem bAll_if {z : Bool} (h : DT X ρ c z ρ) (S : SR X.K F0 F M H0 ρ σ H) (k1 : z = true → ∀ H', SR X.K F0 F M H0 ρ σ H' → Off (Ow ρ σ) H H' → bAll X A D σ H') (k2 : z = false → ∀ H', SR X.K F0 F M H0 ρ σ H' → Off (Ow ρ σ) H H' → bAll X B D σ H') : bAll X [.If c A B pos] D σ H := by
  obtain ⟨tt, p1, r1⟩ := h
  refine ⟨_, pss_one (ps_if p1 (pss_all (body := A)) (pss_all (body := B))), ?_⟩
  refine r1 F0 F M H0 σ H _ S fun H' S' w' o' => ?_
  cases z with
  | true => exact k1 rfl H' S' o'
  | false => exact k2 rfl H' S' o'
theorem bAll_ds {P : Po} (h : DSs X ρ A P) (S : SR X.K F0 F M H0 ρ σ H) (q1 : ∀ F' ρ' σ' H', P.nx ρ' → SR X.K F0 F' M H0 ρ' σ' H' → Ker F H F' H' → D.nx σ' H') (q2 : ∀ F' ρ' σ' H' d v, P.rt ρ' d → SR X.K F0 F' M H0 ρ' σ' H' → Ker F H F' H' → RD X.K F0 H' v d → D.rt v H')
    (q3 : ∀ ρ', ¬ P.bk ρ') (q4 : ∀ ρ', ¬ P.ct ρ') : bAll X A D σ H := by
  obtain ⟨ts, p1, r1⟩ := h
  exact ⟨_, p1, r1 F0 F M H0 σ H D S q1 q2 (fun F' ρ' σ' H' n => (q3 ρ' n).elim) fun F' ρ' σ' H' n => (q4 ρ' n).elim⟩
/-- x.append(name) -/
theorem bAll_append (j i : Nat) {l : Addr} {vs : List V} {v : V} {xi : Str} (hj : σ[j]? = some (some (.ref l))) (hi : σ[i]? = some (some v)) (hl : H l = some (.lst vs)) (hz : vs.length < sizeLine) (k : D.nx σ (upd H l (.lst (vs ++ [v]))))
    (hNi : X.N[i]? = some xi := by rfl) (hNj : X.N[j]? = some xj := by rfl) (hvi : Vis X.env.scope xi := by first | exact Or.inl rfl | exact Or.inr (Or.inl rfl) | exact Or.inr (Or.inr rfl)) (hvj : Vis X.env.scope xj := by first | exact Or.inl rfl | exact Or.inr (Or.inl rfl) | exact Or.inr (Or.inr rfl))
    (hdi : (xi == ("__debug__" : Str)) = false := by decide) (hci : (xi == ("__classdict__" : Str)) = false := by decide) (hdj : (xj == ("__debug__" : Str)) = false := by decide) (hcj : (xj == ("__classdict__" : Str)) = false := by decide)
    (hbase : attributeBase (.Name xj p2) "append" X.env (eval (.Name xj p2) X.env) = eval (.Name xj p2) X.env := by rfl)
    (hfew : ((backTo p3 (starEach [.Name xi p4] X.env)).all (fun x => !x.1) && (backToKw p3 (keywordEach [] X.env)).all (fun x => x.1.isSome) && decide ([Expr.Name xi p4].length + ([] : List Keyword).length + (if ([] : List Keyword).isEmpty then 0 else 1) < 30)) = true := by rfl)
    (hline : (apos.endLine == p3.line) = true := by rfl) (hs : starEach [.Name xi p4] X.env = (false, eval (.Name xi p4) X.env) :: starEach [] X.env := by rfl) (hplain : (backTo p3 (starEach [] X.env)).any (·.1) = false := by rfl)
    (hsw : swapsWith (.Call (.Attribute (.Name xj p2) "append" apos) [.Name xi p4] [] p3) none pos.line X.env = pure false := by rfl) :
    bAll X [.Expr (.Call (.Attribute (.Name xj p2) "append" apos) [.Name xi p4] [] p3) pos] D σ H :=
  ⟨_, pss_one (ps_expr (pe_bm PySem.F.plainAttrs_list PySem.F.slot_list_append PySem.F.type_list_append mt_append (pe_var hNj hvj hdj hcj) (pa_cons (pe_var hNi hvi hdi hci) pa_nil hs) hbase hfew hline hs hplain) hsw), _, hj, .inl ⟨rfl, _, SqL.of hl⟩, _, hi, _, _, _, rfl, rfl, hl, hz, k⟩
/-- x = d.setdefault(e, []) -/
theorem bAll_setd (i j : Nat) {dd : Addr} {sg : List Bool} {o2 f2 : Expr} {kvs : List (List Key × V)} (hN : X.N.Nodup) (hu : X.A.units + 1 < cLine) (hj : σ[j]? = some (some (.ref dd))) (hd : H dd = some (.dT kvs)) (h0 : H0 dd = none) (hl : kvs.length < sizeLine) (h1 : DE X ρ e (TupN X.K (sg.map eB)) ρ) (h2 : DL X ρ f2 [] ρ) (S : SR X.K F0 F M H0 ρ σ H) (ow : ∀ a, ¬ Ow ρ σ a)
    (k1 : ∀ v, valV kvs (keyL sg) = some v → ∀ p H', H p = none → H' p = some (.lst []) → SR X.K F0 (fun a => F a ∨ a = p) M H0 (ρ.set i .any) (σ.set i (some v)) H' → Sm H H' → bAll X rest D (σ.set i (some v)) H')
    (k2 : valV kvs (keyL sg) = none → ∀ p kb H', H p = none → H' p = some (.lst []) → H' dd = some (.dT kvs) → H' kb = some (.tup ((keyL sg).map kV)) → SR X.K F0 (fun a => F a ∨ a = p) M H0 (ρ.set i .any) (σ.set i (some (.ref p))) (upd H' dd (.dT (kvs ++ [(keyL sg, .ref p)]))) → Sm H H' → bAll X rest D (σ.set i (some (.ref p))) (upd H' dd (.dT (kvs ++ [(keyL sg, .ref p)]))))
    (m : M2 X (.Name xj p2) "setdefault" apos e f2 p3)
    (hNj : X.N[j]? = some xj := by rfl) (hvj : Vis X.env.scope xj := by first | exact Or.inl rfl | exact Or.inr (Or.inl rfl) | exact Or.inr (Or.inr rfl)) (hdj : (xj == ("__debug__" : Str)) = false := by decide) (hcj : (xj == ("__classdict__" : Str)) = false := by decide)
    (hi : X.N[i]? = some x := by rfl) (hx : Loc X.env.scope x := by first | exact Or.inl rfl | exact Or.inr rfl) (hs : swapsWith (.Call (.Attribute (.Name xj p2) "setdefault" apos) [e, f2] [] p3) (some (.Name x p4)) pos.line X.env = pure false := by rfl) (hf : X.fn x = true ∨ X.env.scope.names.lookup x = some .local := by first | exact .inl rfl | exact .inr rfl) :
    bAll X (.Assign [.Name x p4] (.Call (.Attribute (.Name xj p2) "setdefault" apos) [e, f2] [] p3) pos :: rest) D σ H := by
  obtain ⟨te, a1, r1⟩ := h1
  obtain ⟨tl, a2, r2⟩ := h2
  refine ⟨_, pss_cons (ps_set (i := i) hN hi hx (pe_setT hu (pe_var hNj hvj hdj hcj) a1 a2 m) hs hf) (pss_all (body := rest)), ?_⟩
  refine ⟨_, hj, dd, rfl, ⟨kvs, hd⟩, r1 F0 F M H0 σ H _ S fun v H1 S1 w1 o1 g1 => r2 F0 F M H0 σ H1 _ S1 fun p vs H2 hp S2 w2 o2 hl2 g2 => ?_⟩
  have sm1 : Sm H H1 := fun b u eb => o1 b u eb (ow b)
  have sm2 : Sm H1 H2 := fun b u eb => o2 b u eb (ow b)
  have sm := sm1.trans sm2
  obtain ⟨kb, rfl, hkb⟩ := key_told (g1.ker (Ker.sm (F := F) sm2))
  cases g2
  have hd2 : H2 dd = some (.dT kvs) := sm dd _ hd
  have hpn : H p = none := by
    cases eH : H p with
    | none => rfl
    | some u =>
      obtain ⟨u', e'⟩ := (sm1 p u eH).ex
      rw [hp] at e'
      cases e'
  have any : ∀ {v : V} {HH : Hp}, SR X.K F0 (fun a => F a ∨ a = p) M H0 ρ σ HH → SR X.K F0 (fun a => F a ∨ a = p) M H0 (ρ.set i .any) (σ.set i (some v)) HH := fun {v HH} SS => by
    have := (SS.setVal (i := i) (v := v) (d := .ob fun _ _ _ => True) ⟨trivial, fun _ _ _ => trivial⟩).drop i
    rwa [List.set_set] at this
  refine ⟨kvs, kb, keyL sg, hd2, rfl, hkb, hl, fun v hv => k1 v hv p H2 hpn hl2 (any S2) sm, fun hv => ?_⟩
  rw [putK_new (V.ref p) hv]
  exact k2 hv p kb H2 hpn hl2 hd2 hkb (any (S2.dset hd2 h0)) sm
end
end Bw
/-! Dic10: a dict whose values are lists of rows of one's own; pairs sorted by their signs. -/
namespace Bw
open PySem PySem.Spec PyProof.Rows L2
open PySem.W (EachIs AllAlike Sortable dataLe)
def EL (K : PySem.W.Frag) (F0 F : Addr → Prop) (H0 H : Hp) (p : List Key × V) (q : List Bool × List Row) : Prop :=
  p.1 = keyL q.1 ∧ ∃ l vs, p.2 = .ref l ∧ H l = some (.lst vs) ∧ RpAll K F H vs (q.2.map eRow) ∧ F l ∧ ¬ F0 l ∧ H0 l = none
abbrev EntL (K : PySem.W.Frag) (F0 F : Addr → Prop) (H0 H : Hp) : List (List Key × V) → Tb (List Row) → Prop := Paired (EL K F0 F H0 H)
section
variable {K : PySem.W.Frag} {F0 F F' : Addr → Prop} {H0 H H' : Hp} {kvs : List (List Key × V)} {t : Tb (List Row)}
theorem EntL.ker (h : EntL K F0 F H0 H kvs t) (k : Ker F H F' H') (s : ∀ l vs, H l = some (.lst vs) → H' l = some (.lst vs)) (hF : ∀ a, F a → F' a) : EntL K F0 F' H0 H' kvs t :=
  Paired.mapP h fun _ _ ⟨e, l, vs, h1, h2, h3, h4, h5⟩ => ⟨e, l, vs, h1, s _ _ h2, h3.ker k, hF _ h4, h5⟩
theorem EntL.len (h : EntL K F0 F H0 H kvs t) : kvs.length = t.length := Paired.length h
theorem EntL.get (h : EntL K F0 F H0 H kvs t) (sg : List Bool) : (valV kvs (keyL sg)).isSome = (tfind t sg).isSome ∧ ∀ q, tfind t sg = some q → ∃ l vs, valV kvs (keyL sg) = some (.ref l) ∧ (keyL sg, V.ref l) ∈ kvs ∧ H l = some (.lst vs) ∧ RpAll K F H vs (q.2.map eRow) ∧ F l ∧ ¬ F0 l ∧ H0 l = none := by
  induction h with
  | nil => exact ⟨rfl, fun q h => nomatch h⟩
  | @cons p r kvs t hpr _ ih =>
    obtain ⟨k, v⟩ := p
    obtain ⟨e1, l, vs, e2, e3⟩ := hpr
    have e1 : k = keyL r.1 := e1
    have e2 : v = .ref l := e2
    subst e1
    subst e2
    by_cases h : r.1 = sg
    · have f1 : valV ((keyL r.1, V.ref l) :: kvs) (keyL sg) = some (.ref l) := valV_pos (by rw [h])
      have f2 : tfind (r :: t) sg = some r := by
        unfold tfind
        rw [List.find?_cons, show (r.1 == sg) = true by simpa using h]
      rw [f1, f2]
      refine ⟨rfl, fun q hq => ?_⟩
      have := Option.some.inj hq
      subst this
      exact ⟨l, vs, rfl, by rw [h]; exact List.mem_cons_self .., e3⟩
    · have f1 : valV ((keyL r.1, V.ref l) :: kvs) (keyL sg) = valV kvs (keyL sg) := valV_neg fun e => h (keyL_inj e)
      have f2 : tfind (r :: t) sg = tfind t sg := by
        unfold tfind
        rw [List.find?_cons, show (r.1 == sg) = false by simpa using h]
      rw [f1, f2]
      refine ⟨ih.1, fun q hq => ?_⟩
      obtain ⟨l', vs', a1, a2, a3⟩ := ih.2 q hq
      exact ⟨l', vs', a1, List.mem_cons_of_mem _ a2, a3⟩
theorem EntL.snoc (h : EntL K F0 F H0 H kvs t) {p : List Key × V} {q : List Bool × List Row} (r : EL K F0 F H0 H p q) : EntL K F0 F H0 H (kvs ++ [p]) (t ++ [q]) := by
  induction h with
  | nil => exact .cons r .nil
  | cons a _ ih => exact .cons a ih
/-- one told list has got longer -/
theorem EntL.app {l : Addr} {vs : List V} {v : V} {sg : List Bool} {e : Row} {ds : List Row} (hl : H l = some (.lst vs)) (rv : RpAll K F H vs (ds.map eRow)) (re : Rp K F H v (eRow e)) (k : Ker F H F (upd H l (.lst (vs ++ [v])))) : ∀ {kvs : List (List Key × V)} {t : Tb (List Row)}, EntL K F0 F H0 H kvs t → (kvs.map (·.2)).Nodup → (t.map (·.1)).Nodup →
    ((∀ p ∈ kvs, p.2 ≠ .ref l) ∧ (∀ q ∈ t, q.1 ≠ sg) ∨ (valV kvs (keyL sg) = some (.ref l) ∧ ∀ q, tfind t sg = some q → q.2 = ds)) → EntL K F0 F H0 (upd H l (.lst (vs ++ [v]))) kvs (t.map fun q => if q.1 == sg then (q.1, q.2 ++ [e]) else q)
  | _, _, .nil, _, _, _ => .nil
  | _, _, @Paired.cons _ _ _ p q kvs t hpq ht, n1, n2, hc => by
    rw [List.map_cons, List.nodup_cons] at n1 n2
    rw [List.map_cons]
    obtain ⟨k0, w⟩ := p
    obtain ⟨e1, l2, vs2, e2, e3, e4, e5⟩ := hpq
    have e1 : k0 = keyL q.1 := e1
    have e2 : w = .ref l2 := e2
    subst e1
    subst e2
    have keep : l2 ≠ l → EL K F0 F H0 (upd H l (.lst (vs ++ [v]))) (keyL q.1, V.ref l2) q := fun ne => ⟨rfl, l2, vs2, rfl, by rw [upd_ne ne]; exact e3, e4.ker k, e5⟩
    rcases hc with ⟨c1, c2⟩ | ⟨c1, c2⟩
    · have ne : l2 ≠ l := fun z => c1 _ (List.mem_cons_self ..) (by rw [z])
      have nk : (q.1 == sg) = false := by simpa using c2 q (List.mem_cons_self ..)
      rw [nk]
      exact .cons (keep ne) (EntL.app hl rv re k ht n1.2 n2.2 (.inl ⟨fun p hp => c1 p (List.mem_cons_of_mem _ hp), fun q hq => c2 q (List.mem_cons_of_mem _ hq)⟩))
    · by_cases h : q.1 = sg
      · have f1 : valV ((keyL q.1, V.ref l2) :: kvs) (keyL sg) = some (.ref l2) := valV_pos (by rw [h])
        rw [f1] at c1
        injection c1 with c1
        injection c1 with c1
        subst c1
        have nk : (q.1 == sg) = true := by simpa using h
        have f2 : tfind (q :: t) sg = some q := by
          unfold tfind
          rw [List.find?_cons, nk]
        have hds := c2 q f2
        rw [nk]
        rw [e3] at hl
        cases hl
        refine .cons ⟨rfl, l2, vs ++ [v], rfl, upd_same, ?_, e5⟩ (EntL.app e3 rv re k ht n1.2 n2.2 (.inl ⟨fun p hp z => n1.1 (List.mem_map.mpr ⟨p, hp, z⟩), fun q' hq z => n2.1 (List.mem_map.mpr ⟨q', hq, z.trans h.symm⟩)⟩))
        show RpAll K F _ (vs ++ [v]) ((q.2 ++ [e]).map eRow)
        rw [List.map_append]
        exact (e4.ker k).append (.cons (re.ker k) .nil)
      · have f1 : valV ((keyL q.1, V.ref l2) :: kvs) (keyL sg) = valV kvs (keyL sg) := valV_neg fun z => h (keyL_inj z)
        rw [f1] at c1
        have nk : (q.1 == sg) = false := by simpa using h
        have f2 : tfind (q :: t) sg = tfind t sg := by
          unfold tfind
          rw [List.find?_cons, nk]
        rw [nk]
        rw [f2] at c2
        have hm : V.ref l ∈ kvs.map (·.2) := by
          unfold valV at c1
          cases hq : kvs.find? fun kv => decide (kv.1 = keyL sg) with
          | none => rw [hq] at c1; cases c1
          | some z =>
            rw [hq] at c1
            exact List.mem_map.mpr ⟨z, List.mem_of_find?_eq_some hq, Option.some.inj c1⟩
        have ne : l2 ≠ l := fun z => n1.1 (by rw [z]; exact hm)
        exact .cons (keep ne) (EntL.app hl rv re k ht n1.2 n2.2 (.inr ⟨c1, c2⟩))
/-- the lists frozen -/
theorem EntL.frz (h : EntL K F0 F H0 H kvs t) (hF : ∀ a, F' a → F a) (nF : ∀ p ∈ kvs, ∀ l, p.2 = .ref l → ¬ F' l) : EntR K F' H kvs (t.map fun q => (q.1, PyData.list (q.2.map eRow))) := by
  induction h with
  | nil => exact .nil
  | @cons p q kvs t hpq _ ih =>
    obtain ⟨e1, l, vs, e2, e3, e4, _⟩ := hpq
    refine .cons ⟨e1, ?_⟩ (ih fun p hp => nF p (List.mem_cons_of_mem _ hp))
    show Rp K F' H p.2 (.list (q.2.map eRow))
    rw [e2]
    exact .lst e3 (nF p (List.mem_cons_self ..) l e2) (e4.ker (ker_less hF))
end
/-! pairs sorted -/
theorem leK_eq (a b : List Bool × Row) : leK a b = decide (a.1.map bi ≤ b.1.map bi) := by
  have h := congrFun (congrFun (PySem.W.dataLe_rows (β := List Bool × Row) fun q => q.1.map bi) a) b
  rw [← h]
  have e : ∀ l : List Bool, PySem.W.keyToks (eBits l) = PySem.W.keyToks (.list ((l.map bi).map .int)) := fun l => by
    unfold eBits
    rw [PySem.W.keyToks, PySem.W.keyToks, List.map_map]
    rfl
  unfold leK PySem.W.dataLe PySem.W.sortLe
  simp only [e]
theorem leK_anti {a b : List Bool × Row} (h : leK a b = true) (k : leK b a = true) : a.1 = b.1 := by
  rw [leK_eq] at h k
  have := List.le_antisymm (of_decide_eq_true h) (of_decide_eq_true k)
  have e : ∀ {l m : List Bool}, l.map bi = m.map bi → l = m := fun {l m} h => by
    have := congrArg (List.map fun i : Int => i == 1) h
    rw [List.map_map, List.map_map] at this
    have id1 : ∀ l : List Bool, l.map ((fun i : Int => i == 1) ∘ bi) = l := fun l => (List.map_congr_left fun b _ => bi_one b).trans (List.map_id l)
    rwa [id1, id1] at this
  exact e this
theorem leP_of {a b : List Bool × Row} (hne : a.1 ≠ b.1) : dataLe false ePair a b = leK a b := by
  unfold leK
  rw [PySem.W.dataLe_eq, PySem.W.dataLe_eq]
  show (!PySem.W.dataLt (ePair b) (ePair a)) = !PySem.W.dataLt (eBits b.1) (eBits a.1)
  unfold ePair
  rw [PySem.W.dataLt_pair (eBits_alike _ _) ?_, eBits_eqv, show (b.1 == a.1) = false by simpa using fun z => hne z.symm]
  · rfl
  · have h1 := alike_bits b.2.xs a.2.xs
    have h2 := alike_bits b.2.zs a.2.zs
    simp [eRow, PySem.W.alike, PySem.W.alikeAll, h1, h2]
theorem pair_alike (a b : List Bool × Row) : PySem.W.alike (ePair a) (ePair b) = true := by
  have h0 := alike_bits a.1 b.1
  have h1 := alike_bits a.2.xs b.2.xs
  have h2 := alike_bits a.2.zs b.2.zs
  simp [ePair, eRow, PySem.W.alike, PySem.W.alikeAll, h0, h1, h2]
theorem srt_pairs {g : Tb Row} (nd : (g.map (·.1)).Nodup) : srt (g.map ePair) = (g.mergeSort leK).map ePair := by
  have T : PySem.W.TotalLe leK := by
    show PySem.W.TotalLe (PySem.W.dataLe false fun q : List Bool × Row => eBits q.1)
    exact PySem.W.sortLe_total _ _ _
  have hp : g.Perm (g.mergeSort leK) := (List.mergeSort_perm _ _).symm
  have nd2 : ((g.mergeSort leK).map (·.1)).Nodup := (hp.map _).nodup_iff.mp nd
  refine srt_eq hp ?_ fun a ha b hb h1 h2 => ?_
  · have p1 := PySem.W.sort_pairwise T g
    have p2 : (g.mergeSort leK).Pairwise fun a b => a.1 ≠ b.1 := List.pairwise_map.mp nd2
    exact (p1.and p2).imp fun {a b} h => by rw [leP_of h.2]; exact h.1
  · have hb' := hp.mem_iff.mpr hb
    by_cases h : a.1 = b.1
    · exact nd_uniq nd ha hb' h
    · rw [leP_of h] at h1
      rw [leP_of (Ne.symm h)] at h2
      exact absurd (leK_anti h1 h2) h
end Bw
/-! Dic11: x = d.setdefault(key, []) of a dict of lists, whether the key is there or not. -/
namespace Bw
open PySem PySem.Spec PyProof.Rows L2
/-- the dict behind it: its table f1, the list at l what was told -/
structure Setd (K : PySem.W.Frag) (F0 F F2 : Addr → Prop) (H0 H H4 : Hp) (dd : Addr) (g f1 : Tb (List Row)) (sg : List Bool) (kvs1 : List (List Key × V)) (l : Addr) (vs : List V) : Prop where
  sub : ∀ a, F a → F2 a
  ker : Ker F H F2 H4
  dct : H4 dd = some (.dT kvs1)
  ent : EntL K F0 F2 H0 H4 kvs1 f1
  n1 : (kvs1.map (·.2)).Nodup
  n2 : (f1.map (·.1)).Nodup
  val : valV kvs1 (keyL sg) = some (.ref l)
  lst : H4 l = some (.lst vs)
  rp : RpAll K F2 H4 vs ((told g sg).map eRow)
  fl : F2 l
  f0 : ¬ F0 l
  h0 : H0 l = none
  told : ∀ q, tfind f1 sg = some q → q.2 = told g sg
  put : ∀ e, (f1.map fun q => if q.1 == sg then (q.1, q.2 ++ [e]) else q) = tput g sg e
  len : f1.length ≤ g.length + 1
section
variable {X : Cx} {F0 F M : Addr → Prop} {H0 H : Hp} {ρ : List Sl} {σ : L2.St} {x xj : Str} {e : Expr} {pos p2 p3 p4 apos : Pos} {rest : List Stmt} {D : Ends}
theorem bAll_setdL (i j : Nat) {dd : Addr} {sg : List Bool} {o2 f2 : Expr} {kvs : List (List Key × V)} {g : Tb (List Row)} (hN : X.N.Nodup) (hu : X.A.units + 1 < cLine) (hj : σ[j]? = some (some (.ref dd))) (hd : H dd = some (.dT kvs)) (h0 : H0 dd = none) (hl : kvs.length < sizeLine) (h1 : DE X ρ e (TupN X.K (sg.map eB)) ρ) (h2 : DL X ρ f2 [] ρ) (S : SR X.K F0 F M H0 ρ σ H) (ow : ∀ a, ¬ Ow ρ σ a)
    (er : EntL X.K F0 F H0 H kvs g) (n1 : (kvs.map (·.2)).Nodup) (n2 : (g.map (·.1)).Nodup)
    (k : ∀ F2 H4 kvs1 f1 l vs, Setd X.K F0 F F2 H0 H H4 dd g f1 sg kvs1 l vs → SR X.K F0 F2 M H0 (ρ.set i .any) (σ.set i (some (.ref l))) H4 → bAll X rest D (σ.set i (some (.ref l))) H4)
    (m : M2 X (.Name xj p2) "setdefault" apos e f2 p3)
    (hNj : X.N[j]? = some xj := by rfl) (hvj : Vis X.env.scope xj := by first | exact Or.inl rfl | exact Or.inr (Or.inl rfl) | exact Or.inr (Or.inr rfl)) (hdj : (xj == ("__debug__" : Str)) = false := by decide) (hcj : (xj == ("__classdict__" : Str)) = false := by decide)
    (hi : X.N[i]? = some x := by rfl) (hx : Loc X.env.scope x := by first | exact Or.inl rfl | exact Or.inr rfl) (hs : swapsWith (.Call (.Attribute (.Name xj p2) "setdefault" apos) [e, f2] [] p3) (some (.Name x p4)) pos.line X.env = pure false := by rfl) (hf : X.fn x = true ∨ X.env.scope.names.lookup x = some .local := by first | exact .inl rfl | exact .inr rfl) :
    bAll X (.Assign [.Name x p4] (.Call (.Attribute (.Name xj p2) "setdefault" apos) [e, f2] [] p3) pos :: rest) D σ H := by
  obtain ⟨eg1, eg2⟩ := er.get sg
  refine bAll_setd i j (o2 := o2) hN hu hj hd h0 hl h1 h2 S ow (fun v hv p H' hp hl2 S2 sm => ?_) (fun hv p kb H' hp hl2 hd2 hkb S2 sm => ?_) m hNj hvj hdj hcj hi hx hs hf
  · rw [hv] at eg1
    obtain ⟨q, hq⟩ : ∃ q, tfind g sg = some q := by
      cases hq : tfind g sg with
      | none => rw [hq] at eg1; cases eg1
      | some q => exact ⟨q, rfl⟩
    obtain ⟨l, vs, a1, a2, a3, a4, a5, a6, a7⟩ := eg2 q hq
    rw [hv] at a1
    have e1 : v = .ref l := Option.some.inj a1
    subst e1
    have hk : Ker F H (fun a => F a ∨ a = p) H' := ⟨fun b o eb kb => (sm b o eb).kp kb, fun a xs n eb => ⟨sm a _ eb, fun z => z.elim n fun z => by rw [z, hp] at eb; cases eb⟩⟩
    have ht : told g sg = q.2 := by unfold told; rw [hq]; rfl
    exact k _ H' kvs g l vs ⟨fun _ h => .inl h, hk, sm dd _ hd, er.ker hk (fun l vs h => sm l _ h) fun _ h => .inl h, n1, n2, hv, sm l _ a3, by rw [ht]; exact a4.ker hk, .inl a5, a6, a7, fun z hz => by rw [hq] at hz; cases hz; exact ht.symm, fun e => by unfold tput; rw [hq], by omega⟩ S2
  · rw [hv] at eg1
    have hq : tfind g sg = none := by
      cases hq : tfind g sg with
      | none => rfl
      | some q => rw [hq] at eg1; cases eg1
    have ht : told g sg = [] := by unfold told; rw [hq]; rfl
    have hk0 : Ker F H (fun a => F a ∨ a = p) H' := ⟨fun b o eb kb => (sm b o eb).kp kb, fun a xs n eb => ⟨sm a _ eb, fun z => z.elim n fun z => by rw [z, hp] at eb; cases eb⟩⟩
    have hk : Ker F H (fun a => F a ∨ a = p) (upd H' dd (.dT (kvs ++ [(keyL sg, .ref p)]))) := hk0.trans (ker_dset hd2)
    have np : p ≠ dd := fun z => by rw [z, hd] at hp; cases hp
    have hlp : upd H' dd (.dT (kvs ++ [(keyL sg, V.ref p)])) p = some (.lst []) := by rw [upd_ne np]; exact hl2
    have lk : ∀ l vs, H l = some (.lst vs) → upd H' dd (.dT (kvs ++ [(keyL sg, V.ref p)])) l = some (.lst vs) := fun l vs h => by
      rw [upd_ne fun z => by rw [z, hd] at h; cases h]
      exact sm l _ h
    have nf0 : ¬ F0 p := fun h => by
      obtain ⟨o, eo⟩ := S.all p (S.sub p h)
      rw [hp] at eo
      cases eo
    have hp0 : H0 p = none := S.h0 hp
    have gm : ∀ e : Row, (g.map fun q => if q.1 == sg then (q.1, q.2 ++ [e]) else q) = g := fun e => by
      conv => rhs; rw [← List.map_id g]
      refine List.map_congr_left fun q hm => ?_
      have : (q.1 == sg) = false := by simpa using List.find?_eq_none.mp hq q hm
      rw [this]
      rfl
    refine k _ _ (kvs ++ [(keyL sg, .ref p)]) (g ++ [(sg, [])]) p [] ⟨fun _ h => .inl h, hk, upd_same, EntL.snoc (er.ker hk lk fun _ h => .inl h) ⟨rfl, p, [], rfl, hlp, .nil, .inr rfl, nf0, hp0⟩, ?_, nd_snoc n2 (tfind_none hq), ?_, hlp, by rw [ht]; exact .nil, .inr rfl, nf0, hp0, fun q hz => ?_, fun e => ?_, by simp⟩ S2
    · rw [List.map_append, List.nodup_append]
      refine ⟨n1, by simp, fun a ha b hb z => ?_⟩
      have hb : b = .ref p := by simpa using hb
      obtain ⟨z0, hz0, e0⟩ := List.mem_map.mp ha
      obtain ⟨jj, hj0⟩ := List.getElem?_of_mem hz0
      obtain ⟨q, _, _, l, vs, f1, f2, _⟩ := paired_get er hj0
      rw [e0, z, hb] at f1
      injection f1 with f1
      rw [← f1, hp] at f2
      cases f2
    · unfold valV at hv ⊢
      rw [List.find?_append]
      cases hz : kvs.find? fun kv => decide (kv.1 = keyL sg) with
      | some z => rw [hz] at hv; cases hv
      | none => simp
    · have e1 : tfind (g ++ [(sg, [])]) sg = some (sg, []) := by
        unfold tfind at hq ⊢
        rw [List.find?_append, hq]
        simp
      rw [e1] at hz
      cases hz
      exact ht.symm
    · unfold tput
      rw [hq, List.map_append, gm e]
      simp
end
end Bw
/-! Bal1: defs whose result holds a list that nothing else holds; statements one by one by hand. -/
namespace Bw
open PySem PySem.Spec PyProof.Rows L2
/-- as SpD, and what post says of the new -/
def SpG (K : PySem.W.Frag) (pre : List D → D → Prop) (post : D → (Addr → Prop) → Hp → V → Prop) : L2.Sp := fun vs H Q _ => ∃ (F : Addr → Prop) (ds : List D) (d : D), (∀ a, F a → ∃ o, H a = some o) ∧ TbI K H ∧ RDs K F H vs ds ∧ pre ds d ∧ ∀ v H', Sm H H' → TbI K H' → RD K F H' v d → post d (fun a => H a = none) H' v → Q v H'
section
variable {Pg : Program} {w : World} {K : PySem.W.Frag} {mg : Str → Option Value} {base : Heap} {x qual : Str} {st : Stmt} {f : Addr} {fd : FuncData} {N ps : List Str} {k : Nat}
theorem fn_mkB {pre : List D → D → Prop} {post : D → (Addr → Prop) → Hp → V → Prop} (F : FunD K x qual (defArgs st) (defBody st) (defScope st) [] [] f fd) (S : FnScope N ps (defScope st)) (hl : ∀ ds d, pre ds d → ds.length = ps.length) (hN : ps.length ≤ N.length)
    (body : ∀ (cdv : Value) (A : Around) (outer : List Env) (s : Shared) (H : Hp) (E : XK) (ds : List D) (d : D) (G : Addr → Prop) (vs : List V) (D : Ends), Room k (BX Pg w K mg base N qual st f cdv A outer s H E).A → pre ds d →
      SR K G G (fun _ => False) H (st0 N ds) (L2.start N vs) H → (∀ v H', Sm H H' → TbI K H' → RD K G H' v d → post d (fun a => H a = none) H' v → D.rt v H') →
      bAll (BX Pg w K mg base N qual st f cdv A outer s H E) (defBody st) D (L2.start N vs) H) : FnOk Pg w K mg base CX0 (k + 1) f fd ps (SpG K pre post) := by
  refine F.ok S (fun vs H Q E h => ?_) (fun cdv A outer s H vs Q E hr h => ?_)
  · obtain ⟨G, ds, d, _, _, r, hp, _⟩ := h
    rw [r.length, hl ds d hp]
  · obtain ⟨G, ds, d, hG, tb, r, hp, q⟩ := h
    have S0 := SR.start (N := N) hG tb r (by rw [hl ds d hp]; exact hN)
    have main := fun D q => body cdv A outer s H E ds d G vs D hr hp S0 q
    suffices hh : ∃ t, PSs (BX Pg w K mg base N qual st f cdv A outer s H E) (defBody st) t ∧ t _ _ _ from let ⟨t, p1, r1⟩ := hh; ⟨t, p1.nox, r1⟩
    exact main _ q
/-- said less -/
theorem Cal.less {pre : List D → D → Prop} {post : D → (Addr → Prop) → Hp → V → Prop} (C : Cal Pg w K mg base x k ps (SpG K pre post)) : Cal Pg w K mg base x k ps (SpD K pre) := by
  obtain ⟨f, fd, h1, h2, h3, h4⟩ := C.ex
  refine ⟨f, fd, h1, h2, h3, ?_⟩
  exact h4.imp fun vs H Q E ⟨G, ds, d, a1, a2, a3, a4, q⟩ => ⟨G, ds, d, a1, a2, a3, a4, fun v H' s1 s2 s3 _ => q v H' s1 s2 s3⟩
end
/-! statements one by one -/
theorem SR.back {K : PySem.W.Frag} {F0 F M : Addr → Prop} {H0 H : Hp} {ρ : List Sl} {σ : L2.St} (S : SR K F0 F M H0 ρ σ H) {d : Addr} (hd : H d = none) : H0 d = none := by
  cases e : H0 d with
  | none => rfl
  | some o =>
    by_cases m : M d
    · obtain ⟨o', e'⟩ := S.all d (S.mf d m)
      rw [hd] at e'
      cases e'
    · have := S.same d o e m
      rw [hd] at this
      cases o <;> first | exact nomatch this | (obtain ⟨_, z⟩ := this; cases z)
section
variable {X : Cx} {F0 F M : Addr → Prop} {H0 H : Hp} {ρ ρ1 : List Sl} {σ : L2.St} {x xj : Str} {a e c tg iter : Expr} {es : List Expr} {d : D} {dr : List D} {ds : List PyData} {p pos p2 p3 p4 p5 apos cpos pos2 q : Pos} {rest A B fb : List Stmt} {s : Stmt} {D : Ends} {ps : List Str} {k n : Nat} {y : Nat → PyData}
theorem bAll_seq {P : Po} (h : DS X ρ s P) (S : SR X.K F0 F M H0 ρ σ H) (k1 : ∀ F' ρ' σ' H', P.nx ρ' → SR X.K F0 F' M H0 ρ' σ' H' → Ker F H F' H' → bAll X rest D σ' H') (k2 : ∀ F' ρ' σ' H' d v, P.rt ρ' d → SR X.K F0 F' M H0 ρ' σ' H' → Ker F H F' H' → RD X.K F0 H' v d → D.rt v H')
    (k3 : ∀ ρ', ¬ P.bk ρ') (k4 : ∀ ρ', ¬ P.ct ρ') : bAll X (s :: rest) D σ H := by
  obtain ⟨ts, p1, r1⟩ := h
  refine ⟨_, pss_cons p1 (pss_all (body := rest)), ?_⟩
  exact r1 F0 F M H0 σ H _ S k1 k2 (fun F' ρ' σ' H' z => (k3 ρ' z).elim) fun F' ρ' σ' H' z => (k4 ρ' z).elim
theorem bAll_ifR {z : Bool} (h : DT X ρ c z ρ) (S : SR X.K F0 F M H0 ρ σ H) (k1 : z = true → ∀ H', SR X.K F0 F M H0 ρ σ H' → Off (Ow ρ σ) H H' → bAll X A { D with nx := bAll X rest D } σ H') (k2 : z = false → ∀ H', SR X.K F0 F M H0 ρ σ H' → Off (Ow ρ σ) H H' → bAll X B { D with nx := bAll X rest D } σ H') : bAll X (.If c A B pos :: rest) D σ H := by
  obtain ⟨tt, p1, r1⟩ := h
  refine ⟨_, pss_cons (ps_if p1 (pss_all (body := A)) (pss_all (body := B))) (pss_all (body := rest)), ?_⟩
  refine r1 F0 F M H0 σ H _ S fun H' S' w' o' => ?_
  cases z with
  | true => exact k1 rfl H' S' o'
  | false => exact k2 rfl H' S' o'
/-- x = f(..), where what is told may be new -/
theorem bAll_asgG (i : Nat) {j : Nat} {pre : List Bw.D → Bw.D → Prop} {post : Bw.D → (Addr → Prop) → Hp → V → Prop} {z : Str} (hN : X.N.Nodup) (C : Cal X.prog X.w X.K X.mg X.base z k ps (SpG X.K pre post)) (hr : Room j X.A) (ha : DA X ρ (a :: es) dr ρ1) (hp : pre dr d) (S : SR X.K F0 F M H0 ρ σ H)
    (kk : ∀ v H1, SR X.K F0 F M H0 (ρ1.set i (.val d)) (σ.set i (some v)) H1 → Shp ρ ρ1 → Off (Ow ρ σ) H H1 → RD X.K F H1 v d → post d (fun a => H a = none) H1 v → bAll X rest D (σ.set i (some v)) H1) (mono : ∀ (d : Bw.D) (N N' : Addr → Prop) (H : Hp) (v : V), (∀ a, N a → N' a) → post d N H v → post d N' H v)
    (hj : k ≤ j := by decide) (hg : Gl X z := by rfl) (hdb : (z == ("__debug__" : Str)) = false := by decide)
    (he : starEach (a :: es) X.env = (false, eval a X.env) :: starEach es X.env := by rfl) (hpl : (backTo pos2 (starEach es X.env)).any (·.1) = false := by rfl)
    (hi : X.N[i]? = some x := by rfl) (hx : Loc X.env.scope x := by first | exact Or.inl rfl | exact Or.inr rfl) (hs : swapsWith (.Call (.Name z p) (a :: es) [] pos2) (some (.Name x p2)) pos.line X.env = pure false := by rfl) (hf : X.fn x = true ∨ X.env.scope.names.lookup x = some .local := by first | exact .inl rfl | exact .inr rfl) :
    bAll X (.Assign [.Name x p2] (.Call (.Name z p) (a :: es) [] pos2) pos :: rest) D σ H := by
  obtain ⟨f, fd, hm, hk, hb, FF⟩ := C.ex
  obtain ⟨_, p1, r1⟩ := ha
  refine ⟨_, pss_cons (ps_set (i := i) hN hi hx (pe_call FF (hr.mono hj) hg hm hk hb .nil pass0 p1 hdb he hpl) hs hf) (pss_all (body := rest)), ?_⟩
  refine r1 F0 F M H0 σ H _ S fun vs H1 S1 w1 o1 g1 => ⟨F, dr, d, S1.all, S1.tb, by rw [List.append_nil]; exact g1, hp, fun v H2 s2 t2 r2 n2 => ?_⟩
  exact kk v H2 ((S1.growT s2 t2).setVal r2) w1 (o1.trans (Off.sm s2)) r2 (mono _ _ _ _ _ (fun p hp => new_back S S1 o1 hp) n2)
theorem RL.exN {K : PySem.W.Frag} {te : TE} (h : RL K ρ te ds ρ1) {Q : VK} (S : SR K F0 F M H0 ρ σ H) (kk : ∀ p vs H', H p = none → SR K F0 F M H0 ρ1 σ H' → Shp ρ ρ1 → Off (Ow ρ σ) H H' → H' p = some (.lst vs) → RpAll K F H' vs ds → Q (.ref p) H') : te σ H Q :=
  h F0 F M H0 σ H Q S fun p vs H' hp S' w o hl r => by
    exact kk p vs H' hp (S'.less (fun a f => .inl f) S.sub S.mf fun i m es l e1 e2 => by
      obtain ⟨fs, e3⟩ := (w i m).mp ⟨es, e1⟩
      obtain ⟨l', _, e4, _, _, f, _⟩ := S.own i m fs e3
      rw [e2] at e4
      cases e4
      exact f) w o hl (r.ker (ker_less fun a f => .inl f))
theorem DL.is {fs : List PyData} (h : DL X ρ e ds ρ1) (q : ds = fs) : DL X ρ e fs ρ1 := q ▸ h
/-- return e, a new list -/
theorem bAll_retL (h : DL X ρ e ds ρ1) (S : SR X.K F0 F M H0 ρ σ H) (kk : ∀ p vs H', H p = none → SR X.K F0 F M H0 ρ1 σ H' → Off (Ow ρ σ) H H' → H' p = some (.lst vs) → RpAll X.K F H' vs ds → D.rt (.ref p) H') : bAll X [.Return (some e) pos] D σ H := by
  obtain ⟨te, p1, r1⟩ := h
  refine ⟨_, pss_one (ps_ret p1), ?_⟩
  exact RL.exN r1 S fun p vs H' hp S' w o hl r => kk p vs H' hp S' o hl r
/-- return ("..", e), e a new list -/
theorem bAll_retT {z : Str} {m m2 : Nat} (h : DL X ρ e ds ρ1) (S : SR X.K F0 F M H0 ρ σ H) (kk : ∀ T p vs H', H p = none → SR X.K F0 F M H0 ρ1 σ H' → Off (Ow ρ σ) H H' → H' T = some (.tup [.str z, .ref p]) → H' p = some (.lst vs) → vs.length = ds.length → RD X.K F H' (.ref T) (Tu [.str z, .list ds]) → D.rt (.ref T) H')
    (h1 : starEach [.Constant (.str z) m p2, e] X.env = (false, eval (.Constant (.str z) m p2) X.env) :: starEach [e] X.env := by rfl) (h2 : starEach [e] X.env = (false, eval e X.env) :: starEach [] X.env := by rfl) : bAll X [.Return (some (.Tuple [.Constant (.str z) m p2, e] m2 p3)) pos] D σ H := by
  obtain ⟨te, p1, r1⟩ := h
  refine ⟨_, pss_one (ps_ret (pe_tup (pa_cons pe_str (pa_cons p1 pa_nil h2) h1))), ?_⟩
  refine RL.exN r1 S fun p vs H' hp S' w o hl r => ⟨by show 2 ≤ _; decide, fun T hT => ?_⟩
  have s : Same H' (upd H' T (.tup [.str z, .ref p])) := same_new hT
  have np : ¬ F p := S.new hp
  exact kk T p vs _ hp (S'.grow s) (o.trans (Off.same s)) upd_same (s p _ hl) r.length (.tup (.inl upd_same) (.cons (.str _) (.cons (.lst (s p _ hl) np (r.ker (Ker.same s))) .nil)))
/-- x = [e], e a new list -/
theorem bAll_asgLL (i : Nat) (hN : X.N.Nodup) (h : DL X ρ e ds ρ1) (S : SR X.K F0 F M H0 ρ σ H)
    (kk : ∀ q r us H', H q = none → H r = none → H' q = some (.lst us) → H' r = some (.lst [.ref q]) → RpAll X.K F H' us ds → SR X.K F0 F M H0 (ρ1.set i .any) (σ.set i (some (.ref r))) H' → Off (Ow ρ σ) H H' → bAll X rest D (σ.set i (some (.ref r))) H')
    (h2 : starEach [e] X.env = (false, eval e X.env) :: starEach [] X.env := by rfl)
    (hi : X.N[i]? = some x := by rfl) (hx : Loc X.env.scope x := by first | exact Or.inl rfl | exact Or.inr rfl) (hs : swapsWith (.List [e] p3) (some (.Name x p2)) pos.line X.env = pure false := by rfl) (hf : X.fn x = true ∨ X.env.scope.names.lookup x = some .local := by first | exact .inl rfl | exact .inr rfl) :
    bAll X (.Assign [.Name x p2] (.List [e] p3) pos :: rest) D σ H := by
  obtain ⟨te, p1, r1⟩ := h
  refine ⟨_, pss_cons (ps_set (i := i) hN hi hx (pe_lst (pa_cons p1 pa_nil h2)) hs hf) (pss_all (body := rest)), ?_⟩
  refine RL.exN r1 S fun q vs H' hp S' w o hl r => ⟨by show 1 ≤ _; decide, fun T hT => ?_⟩
  have s : Same H' (upd H' T (.lst [.ref q])) := same_new hT
  have hr : H T = none := new_back S S' o hT
  have S2 := ((S'.grow s).setVal (i := i) (v := .ref T) (d := .ob fun _ _ _ => True) ⟨trivial, fun _ _ _ => trivial⟩).drop i
  rw [List.set_set] at S2
  exact kk q T vs _ hp hr (s q _ hl) upd_same (r.ker (Ker.same s)) S2 (o.trans (Off.same s))
/-- x[1].append(None), where x is a pair -/
theorem bAll_append1 (j : Nat) {m m2 : Nat} {T l : Addr} {v0 : V} {us : List V} (hj : σ[j]? = some (some (.ref T))) (hT : H T = some (.tup [v0, .ref l])) (hl : H l = some (.lst us)) (hz : us.length < sizeLine) (kk : D.nx σ (upd H l (.lst (us ++ [.non]))))
    (hNj : X.N[j]? = some xj := by rfl) (hvj : Vis X.env.scope xj := by first | exact Or.inl rfl | exact Or.inr (Or.inl rfl) | exact Or.inr (Or.inr rfl))
    (hdj : (xj == ("__debug__" : Str)) = false := by decide) (hcj : (xj == ("__classdict__" : Str)) = false := by decide)
    (hbase : attributeBase (.Subscript (.Name xj p2) (.Constant (.int 1) m p4) p5) "append" X.env (eval (.Subscript (.Name xj p2) (.Constant (.int 1) m p4) p5) X.env) = eval (.Subscript (.Name xj p2) (.Constant (.int 1) m p4) p5) X.env := by rfl)
    (hfew : ((backTo p3 (starEach [.Constant .none m2 q] X.env)).all (fun x => !x.1) && (backToKw p3 (keywordEach [] X.env)).all (fun x => x.1.isSome) && decide ([Expr.Constant .none m2 q].length + ([] : List Keyword).length + (if ([] : List Keyword).isEmpty then 0 else 1) < 30)) = true := by rfl)
    (hline : (apos.endLine == p3.line) = true := by rfl) (hs : starEach [.Constant .none m2 q] X.env = (false, eval (.Constant .none m2 q) X.env) :: starEach [] X.env := by rfl) (hplain : (backTo p3 (starEach [] X.env)).any (·.1) = false := by rfl)
    (hsw : swapsWith (.Call (.Attribute (.Subscript (.Name xj p2) (.Constant (.int 1) m p4) p5) "append" apos) [.Constant .none m2 q] [] p3) none pos.line X.env = pure false := by rfl) :
    bAll X [.Expr (.Call (.Attribute (.Subscript (.Name xj p2) (.Constant (.int 1) m p4) p5) "append" apos) [.Constant .none m2 q] [] p3) pos] D σ H :=
  ⟨_, pss_one (ps_expr (pe_bm PySem.F.plainAttrs_list PySem.F.slot_list_append PySem.F.type_list_append mt_append (pe_ix ix_seq (pe_var hNj hvj hdj hcj) pe_int fun _ _ => rfl) (pa_cons pe_non pa_nil hs) hbase hfew hline hs hplain) hsw), _, hj, .inr (.inl ⟨_, _, _, _, rfl, rfl, Tp.sq (.inl hT), rfl, .inl ⟨rfl, _, SqL.of hl⟩, _, _, _, rfl, rfl, hl, hz, kk⟩)⟩
/-- x = {}, then a loop that fills it -/
theorem bAll_dict (i : Nat) (hN : X.N.Nodup) (hv : ρ[i]? = some .any) (hp : PassesOwn (model X.prog X.w) X.A X.env X.xe) (hc : X.calm = true) (h : DI X true ρ tg iter n y ρ1) (S : SR X.K F0 F M H0 ρ σ H)
    (hand : ∀ (σ1 : L2.St) (H1 : Hp) (wi : TI) (d : Addr), RI X.K true ρ wi n y ρ1 → SR X.K F0 F M H0 ρ σ1 H1 → σ1[i]? = some (some (.ref d)) → H1 d = some (.dT []) → H0 d = none → Ker F H F H1 → tSeq (tFor wi (gAll X tg) (bAll X fb)) (bAll X rest) D σ1 H1)
    (hi : X.N[i]? = some x := by rfl) (hx : Loc X.env.scope x := by first | exact Or.inl rfl | exact Or.inr rfl) (hs : swapsWith (.Dict [] [] q) (some (.Name x p2)) pos.line X.env = pure false := by rfl) (hf : X.fn x = true ∨ X.env.scope.names.lookup x = some .local := by first | exact .inl rfl | exact .inr rfl)
    (hit : ∀ x, foldedSetIterable iter X.env x = pure x := by intro _; rfl) : bAll X (.Assign [.Name x p2] (.Dict [] [] q) pos :: .For tg iter fb [] pos2 :: rest) D σ H := by
  obtain ⟨wi, p1, r1⟩ := h
  refine ⟨_, pss_cons (ps_set (i := i) hN hi hx pe_dnewT hs hf) (pss_cons (ps_for hp hc p1 (pg_all (tg := tg)) (pss_all (body := fb)) hit) (pss_all (body := rest))), ?_⟩
  intro d hd
  have s : Same H (upd H d (.dT [])) := same_new hd
  have S1 : SR X.K F0 F M H0 ρ (σ.set i (some (.ref d))) (upd H d (.dT [])) := by
    have := (((S.grow s).setVal (i := i) (v := .ref d) (d := .ob fun _ _ _ => True) ⟨trivial, fun _ _ _ => trivial⟩).drop i)
    rw [List.set_set] at this
    have e : ρ.set i .any = ρ := by
      apply List.ext_getElem?
      intro j
      by_cases z : i = j
      · subst z
        rw [List.getElem?_set_self (List.getElem?_eq_some_iff.mp hv).1, hv]
      · rw [List.getElem?_set_ne z]
    rw [e] at this
    exact this
  have hi2 : i < σ.length := by rw [← S.len]; exact (List.getElem?_eq_some_iff.mp hv).1
  exact hand _ _ wi d r1 S1 (List.getElem?_set_self hi2) upd_same (S.back hd) (Ker.same s)
theorem bAll_lockB {dd : Addr} {kvs : List (List Key × V)} (hd : H dd = some (.dT kvs)) (h : ∀ o, bAll X A D σ (upd H dd (.frz o (.dT kvs)))) : bAll X A D σ H :=
  ⟨_, pss_lockB (pss_all (body := A)), dd, kvs, hd, h⟩
end
/-! a new list is taken over -/
section
variable {K : PySem.W.Frag} {F0 F7 F M : Addr → Prop} {H0 H7 H : Hp} {ρ ρ7 ρ' : List Sl} {σ σ7 : L2.St} {p : Addr} {o : HO}
theorem ker_take (k : Ker F7 H7 F H) (h : H7 p = none) : Ker F7 H7 (fun a => F a ∨ a = p) H :=
  ⟨k.k, fun a xs n e => ⟨(k.l a xs n e).1, fun z => z.elim (k.l a xs n e).2 fun z => by rw [z, h] at e; cases e⟩⟩
theorem SR.take (S7 : SR K F0 F7 M H0 ρ7 σ7 H7) (S : SR K F0 F M H0 ρ σ H) (k : Ker F7 H7 F H) (hp7 : H7 p = none) (hp : H p = some o) (len : ρ'.length = ρ.length) (keep : ∀ (i : Nat) (d : D), ρ'[i]? = some (Sl.val d) → ρ7[i]? = some (Sl.val d) ∧ σ[i]? = σ7[i]?)
    (own : ∀ (i : Nat) (m : Bool) (ds : List PyData), ρ'[i]? = some (Sl.own m ds) → ρ[i]? = some (Sl.own m ds) ∧ NLs ds) : SR K F0 (fun a => F a ∨ a = p) M H0 ρ' σ H where
  len := len.trans S.len
  same := S.same
  sub := fun a f => .inl (S.sub a f)
  all := fun a f => f.elim (S.all a) fun z => ⟨o, z ▸ hp⟩
  mf := fun a m => .inl (S.mf a m)
  val := fun i d e => by
    obtain ⟨e1, e2⟩ := keep i d e
    obtain ⟨v, h1, h2⟩ := S7.val i d e1
    exact ⟨v, e2.trans h1, h2.ker (ker_take k hp7)⟩
  own := fun i m ds e => by
    obtain ⟨e1, nl⟩ := own i m ds e
    obtain ⟨l, vs, h1, h2, h3, h4, h5⟩ := S.own i m ds e1
    exact ⟨l, vs, h1, h2, RpAll.nl nl h3, .inl h4, h5⟩
  inj := fun i j m n ds es l e1 e2 s1 s2 => S.inj i j m n ds es l (own i m ds e1).1 (own j n es e2).1 s1 s2
  m0 := S.m0
  tb := S.tb
/-- from here on the list at p is one that was handed in -/
theorem SR.rebase (S : SR K F0 F M H0 ρ σ H) (i : Nat) {ds : List PyData} {vs : List V} (fp : F p) (hp : H p = some (.lst vs)) (r : RpAll K F H vs ds) (hi : σ[i]? = some (some (.ref p))) (no : ∀ (j : Nat) (m : Bool) (es : List PyData), ρ[j]? ≠ some (Sl.own m es)) : SR K F F (fun a => a = p) H (ρ.set i (.own true ds)) σ H where
  len := by rw [List.length_set]; exact S.len
  same := fun b o e _ => .of e
  sub := fun _ f => f
  all := S.all
  mf := fun a e => by rw [e]; exact fp
  val := fun j d e => by
    by_cases z : i = j
    · subst z
      have hi : i < ρ.length := by
        have q := (List.getElem?_eq_some_iff.mp e).1
        rwa [List.length_set] at q
      rw [List.getElem?_set_self hi] at e
      cases e
    · rw [List.getElem?_set_ne z] at e
      exact S.val j d e
  own := fun j m es e => by
    by_cases z : i = j
    · subst z
      have hi2 : i < ρ.length := by
        have q := (List.getElem?_eq_some_iff.mp e).1
        rwa [List.length_set] at q
      rw [List.getElem?_set_self hi2] at e
      cases e
      exact ⟨p, vs, hi, hp, r, fp, by rw [if_pos rfl]⟩
    · rw [List.getElem?_set_ne z] at e
      exact absurd e (no j m es)
  inj := fun a b m n ds2 es l e1 e2 _ _ => by
    have key : ∀ {j : Nat} {m : Bool} {es : List PyData}, (ρ.set i (Sl.own true ds))[j]? = some (Sl.own m es) → i = j := fun {j} {m} {es'} e => by
      by_cases z : i = j
      · exact z
      · rw [List.getElem?_set_ne z] at e
        exact absurd e (no j m es')
    exact (key e1).symm.trans (key e2)
  m0 := fun a e => ⟨_, (congrArg H e).trans hp⟩
  tb := S.tb
end
end Bw
/-! G16: mends. -/
namespace Bw
open PySem PySem.Spec PyProof.Rows L2
open PySem.W (EachIs AllAlike Sortable dataLe)
local macro_rules | `(tactic| walk_at "lv") => `(tactic| first
  | fail)
local macro_rules | `(tactic| walk_at "cd") => `(tactic| first
  | assumption | exact Iff.rfl | omega | (rw [xs_len]; assumption) | (rw [zs_len]; assumption) | (refine ⟨?_, ?_⟩ <;> assumption) | (refine ⟨?_, ?_, ?_⟩ <;> assumption) | (simp only [xs_len, zs_len]; assumption) | (simp only [xs_len, zs_len]; omega) | walk_at "lv")
local macro_rules | `(tactic| walk_at "dxp") => `(tactic| first
  | assumption
  | exact ⟨_, rfl, rfl⟩
  | exact ⟨_, _, rfl, rfl⟩
  | exact ⟨_, _, _, rfl, rfl⟩
  | exact ⟨_, _, _, _, rfl, rfl⟩
  | exact ⟨_, rfl, rfl, by walk_at "cd"⟩
  | exact ⟨_, _, rfl, rfl, by walk_at "cd"⟩
  | exact ⟨_, _, _, rfl, rfl, by walk_at "cd"⟩
  | exact ⟨_, _, _, _, rfl, rfl, by walk_at "cd"⟩
  | exact ⟨_, _, _, _, _, rfl, rfl, by walk_at "cd"⟩
  | exact ⟨_, _, _, _, _, _, rfl, rfl, by walk_at "cd"⟩
  | exact ⟨_, _, _, _, _, _, _, rfl, rfl, by walk_at "cd"⟩
  | exact ⟨_, _, _, _, _, _, _, _, rfl, rfl, by walk_at "cd"⟩
  | exact ⟨_, _, _, _, _, _, _, _, _, rfl, rfl, by walk_at "cd"⟩
  | exact ⟨_, rfl, rfl, rfl, rfl, by walk_at "side"⟩
  | walk_at "lv")
local macro_rules | `(tactic| walk_at "kit") => `(tactic| first
  | exact kit_ii | exact kit_ib | exact kit_ll | exact kit_tt)
local macro_rules | `(tactic| walk_at "side") => `(tactic| first
  | assumption | exact sel_int _ _ _ | exact sel_bi _ _ _ | rfl | decide | omega | exact Nat.le_of_ble_eq_true rfl | (simp; done) | (simp; omega) | (refine Or.inl ⟨?_, ?_⟩ <;> decide) | (refine Or.inr ⟨?_, ?_⟩ <;> decide) | (refine Or.inl ⟨?_, ?_⟩ <;> omega) | (refine Or.inr ⟨?_, ?_⟩ <;> omega) | (rw [bi_xor]; refine Or.inl ⟨?_, ?_⟩ <;> omega) | (refine And.intro ?_ (And.intro ?_ ?_) <;> omega) | (refine And.intro ?_ ?_ <;> omega) | walk_at "lv")
def notOwn : Sl → Bool
  | .own _ _ => false
  | _ => true
theorem nOw_by {ρ : List Sl} (h : ρ.all notOwn = true) (σ : L2.St) (a : Addr) : ¬ Ow ρ σ a := fun ⟨i, ds, e, _⟩ => by
  have := List.all_eq_true.mp h _ (List.mem_of_getElem? e)
  cases this
theorem nOw_none {c s : Sl} {d3 : D} (jj : Nat) (m : Bool) (es : List PyData) (h : [c, s, .any, .val d3, .any, .any, .any][jj]? = some (Sl.own m es)) (hc : notOwn c = true := by rfl) (hs : notOwn s = true := by rfl) : False := by
  match jj, h with
  | 0, h => cases h; cases hc
  | 1, h => cases h; cases hs
  | 2, h => cases h
  | 3, h => cases h
  | 4, h => cases h
  | 5, h => cases h
  | 6, h => cases h
  | jj + 7, h => cases h
theorem tput_each {P : List Bool × List Row → Prop} {f : Tb (List Row)} {sg : List Bool} {e : Row} (h : ∀ q ∈ f, P q) (new : tfind f sg = none → P (sg, [e])) (app : ∀ q ∈ f, q.1 = sg → P (q.1, q.2 ++ [e])) : ∀ q ∈ tput f sg e, P q := by
  intro q hq
  unfold tput at hq
  cases ht : tfind f sg with
  | none =>
    rw [ht] at hq
    rcases List.mem_append.mp hq with hq | hq
    · exact h q hq
    · rw [List.mem_singleton.mp hq]
      exact new ht
  | some r =>
    rw [ht] at hq
    obtain ⟨z, hz, rfl⟩ := List.mem_map.mp hq
    by_cases hk : z.1 = sg
    · rw [if_pos (by simpa using hk)]
      exact app z hz hk
    · rw [if_neg (by simpa using hk)]
      exact h z hz
theorem entL_mem {K : PySem.W.Frag} {F0 F : Addr → Prop} {H0 H : Hp} {kvs : List (List Key × V)} {t : Tb (List Row)} (h : EntL K F0 F H0 H kvs t) : ∀ p ∈ kvs, ∃ l, p.2 = .ref l ∧ ¬ F0 l ∧ H0 l = none := by
  induction h with
  | nil => exact fun p hp => nomatch hp
  | @cons p q kvs t hpq _ ih =>
    intro r hr
    rcases List.mem_cons.mp hr with e | e
    · subst e
      obtain ⟨_, l, vs, e2, _, _, _, f0, h0⟩ := hpq
      exact ⟨l, e2, f0, h0⟩
    · exact ih r e
def tbL (g : Tb (List Row)) : Tb PyData := g.map fun q => (q.1, PyData.list (q.2.map eRow))
theorem ePair_depth (q : List Bool × Row) : (ePair q).depth ≤ 60 := by
  show max (PyData.depth (eBits q.1)) (max (PyData.depth (eRow q.2)) 0) + 1 ≤ 60
  have h1 := eBits_depth q.1
  have h2 := eRow_depth q.2
  omega
section
variable {Pg : Program} {w : World} {K : PySem.W.Frag} {mg : Str → Option Value} {base : Heap} {f CS CC : Addr} {fd : FuncData}
abbrev N_mends : List Str := ["code", "size", "found", "error", "told", "one", "signs"]
abbrev P_mends : List Str := ["code", "size"]
theorem sc_mends : FnScope N_mends P_mends (defScope s_mends) := ⟨rfl, rfl, rfl, by decide +kernel, rfl, by decide +kernel, by decide +kernel⟩
def p_mends : List D → D → Prop := fun ds d => ∃ (kept : List Row) (n size : Nat), ds = [Cd K CC kept, I size] ∧ d = resD (mnR n kept size) ∧ Kept n kept ∧ size ≤ n
/-- the list of the pairs is new -/
def selM : D → (Addr → Prop) → Hp → V → Prop := fun d N H v => ∀ g : Tb Row, d = resD (.inr g) → ∃ (T p : Addr) (us : List V) (z : Str), v = .ref T ∧ H T = some (.tup [.str z, .ref p]) ∧ H p = some (.lst us) ∧ us.length = g.length ∧ N p
theorem selM_mono (d : D) (N N' : Addr → Prop) (H : Hp) (v : V) (h : ∀ a, N a → N' a) (q : selM d N H v) : selM d N' H v := fun g e => let ⟨T, p, us, z, h1, h2, h3, h5, h4⟩ := q g e; ⟨T, p, us, z, h1, h2, h3, h5, h _ h4⟩
theorem ok_mends (F : FnP K "mends" "mends" s_mends f fd) (BT : Bl mg) (GK : GkP K mg CS CC) (C_errors : Cal Pg w K mg base "errors" 5 P_errors (SpD K p_errors)) (M_Code_many : Cam Pg w K mg base CC "many" 1 P_Code_many (SpD K (p_Code_many (K := K) (CC := CC))))
    (M_Code_signs : Cam Pg w K mg base CC "signs" 6 P_Code_signs (SpD K (p_Code_signs (K := K) (CC := CC)))) (M_Code_same : Cam Pg w K mg base CC "same" 8 P_Code_same (SpD K (p_Code_same (K := K) (CC := CC)))) : FnOk Pg w K mg base CX0 9 f fd P_mends (SpG K (p_mends (K := K) (CC := CC)) selM) := by
  refine fn_mkB F sc_mends (fun ds d h => ?_) (by decide) fun cdv A outer s Hq E ds d G us E' hr h SS qq => ?_
  · obtain ⟨kept, n, size, rfl, rfl, _⟩ := h
    rfl
  · obtain ⟨kept, n, size, rfl, rfl, kk, hs⟩ := h
    have nd := sc_mends.nd
    have wn := kk.wd
    have wn5 := wn.2
    have few := kk.few
    have hf := errR_few wn5
    have hu1 : (BX Pg w K mg base N_mends "mends" s_mends f cdv A outer s Hq E).A.units + 70 < cLine := by have := hr.un; omega
    have el : (errS n size).length ≤ 1024 := Nat.le_trans (List.length_filter_le ..) hf
    refine bAll_dict 2 nd rfl PassesOwn.never rfl (di_list (de_call C_errors hr (da_cons (de_meth0 (de_var 0) M_Code_many hr (by walk_at "dxp")) (da_cons (de_var 1) da_nil)) ⟨n, size, rfl, rfl, wn, hs⟩)) SS fun σ H wi d r1 S hsl hd h0 k0 => ?_
    have q2 : ∀ (F' : Addr → Prop) (ρ' : List Sl) (σ' : L2.St) (H' : Hp) (v : V), SR K G F' (fun _ => False) Hq ρ' σ' H' → RD K G H' v (resD (mnR n kept size)) → selM (resD (mnR n kept size)) (fun a => Hq a = none) H' v → E'.rt v H' := fun F' ρ' σ' H' v S' r' n' => qq v H' (fun b o e => S'.same b o e fun z => z) S'.tb r' n'
    refine for_hand (E := { E' with nx := bAll _ _ E' }) r1 S fun H1 S1 w1 o1 => ?_
    have k1 : Ker G H G H1 := S.ker o1
    have hd1 : H1 d = some (.dT []) := o1 d _ hd (nOw_by rfl σ d)
    refine ⟨fun i F' σ' H' => (∀ a, G a → F' a) ∧ Ker G H1 F' H' ∧ ∃ (g : Tb (List Row)) (kvs : List (List Key × V)), SR K G F' (fun _ => False) Hq [.val (Cd K CC kept), .val (I size), .any, .any, .any, .any, .any] σ' H' ∧ σ'[2]? = some (some (.ref d)) ∧ H' d = some (.dT kvs) ∧ EntL K G F' Hq H' kvs g ∧ (kvs.map (·.2)).Nodup ∧ (g.map (·.1)).Nodup ∧
      mnGo kept ((errS n size).drop i) g = mnGo kept (errS n size) [] ∧ g.length ≤ i ∧ (∀ q ∈ g, q.2 ≠ [] ∧ q.1.length = kept.length ∧ ∀ a ∈ q.2, a ∈ errS n size) ∧ ∀ q ∈ g, q.2.length ≤ i, ⟨G, fun _ h => h, Ker.refl _ _, [], [], S1, hsl, hd1, .nil, .nil, .nil, rfl, Nat.le_refl _, fun q hq => (by cases hq), fun q hq => (by cases hq)⟩, ?_, ?_, ?_⟩
    · rintro i F' σ' H' ⟨_, k, _⟩
      exact k
    · rintro F' σ' H' ⟨hF, k, g, kvs, S', hs', hd', er, hn1, hn2, hgo, hl, hg, hgl⟩
      rw [List.length_map, List.drop_eq_nil_of_le (Nat.le_refl _)] at hgo
      have hgo : mnGo kept (errS n size) [] = .inr g := hgo.symm
      have hres : resD (mnR n kept size) = Tu [.str "mends", .list (((g.map hdT).mergeSort leK).map ePair)] := by
        unfold mnR
        rw [hgo]
        rfl
      rw [hres] at q2
      show bAll _ _ E' σ' H'
      have gl : g.length ≤ 1024 := by rw [List.length_map] at hl; omega
      have ml := entL_mem er
      have no : ∀ (i : Nat) (m : Bool) (ds : List PyData), [Sl.val (Cd K CC kept), .val (I size), .any, .any, .any, .any, .any][i]? ≠ some (Sl.own m ds) := fun i m ds e => by
        match i, e with
        | 0, e => cases e
        | 1, e => cases e
        | 2, e => cases e
        | 3, e => cases e
        | 4, e => cases e
        | 5, e => cases e
        | 6, e => cases e
        | i + 7, e => cases e
      have S2 : SR K G (fun a => F' a ∧ ∀ p ∈ kvs, p.2 ≠ .ref a) (fun _ => False) Hq [.val (Cd K CC kept), .val (I size), .any, .any, .any, .any, .any] σ' H' := by
        refine S'.less (fun a h => h.1) (fun a h => ⟨S'.sub a h, fun p hp e => ?_⟩) (fun a h => ⟨S'.mf a h, fun p hp e => ?_⟩) fun i m ds l e _ => absurd e (no i m ds)
        · obtain ⟨l, e1, e2, _⟩ := ml p hp
          rw [e] at e1
          cases e1
          exact e2 h
        · obtain ⟨l, e1, _, e2⟩ := ml p hp
          rw [e] at e1
          cases e1
          obtain ⟨o, ho⟩ := S'.m0 a h
          rw [e2] at ho
          cases ho
      have t2 : EntR K (fun a => F' a ∧ ∀ p ∈ kvs, p.2 ≠ .ref a) H' kvs (tbL g) := er.frz (fun a h => h.1) fun p hp l e h => h.2 p hp e
      have kk2 : Ker G H (fun a => F' a ∧ ∀ p ∈ kvs, p.2 ≠ .ref a) H' := (k1.trans k).trans (ker_less fun a h => h.1)
      have nd2 : ((g.map hdT).map (·.1)).Nodup := by
        rw [List.map_map]
        exact hn2
      have gl2 : (tbL g).length = g.length := List.length_map ..
      refine bAll_lockB hd' fun o => ?_
      have S3 : SR K G (fun a => F' a ∧ ∀ p ∈ kvs, p.2 ≠ .ref a) (fun _ => False) Hq [.val (Cd K CC kept), .val (I size), .val (DicF K (tbL g)), .any, .any, .any, .any] σ' (upd H' d (.frz o (.dT kvs))) := (S2.dset hd' (by exact h0)).tell hs' (dicF_rd rfl upd_same (t2.ker (ker_dset hd')))
      refine bAll_retT (DL.is (dl_sorted (ds := (g.map hdT).map ePair) (DL.ex (dl_lc (ρ1 := [.val (Cd K CC kept), .val (I size), .val (DicF K (tbL g)), .any, .any, .any, .any]) [("told", 4), ("signs", 6)] rfl nd (blkOk_by (by show blkC N_mends (defScope s_mends) _ _ = true; decide +kernel)) ?_)) (by omega) (AllAlike.of pair_alike) (Sortable.tuples fun e => ⟨_, _, rfl⟩) (by rw [List.length_map, List.length_map]; omega) (fun d hd => by
        obtain ⟨z, _, rfl⟩ := List.mem_map.mp hd
        exact ePair_depth z) BT.b_sorted) (srt_pairs nd2)) S3 fun T p vs H5 hp S5 o5 hT hl5 lv r5 => q2 _ _ _ H5 _ S5 (r5.ker (ker_less S2.sub)) fun g' e1 => ⟨T, p, vs, _, rfl, hT, hl5, ?_, S3.back hp⟩
      · have e : (g.map hdT).map ePair = (List.range (tbL g).length).map fun i => ePair (hdT (g[i]?.getD ([], []))) := by
          apply List.ext_getElem?
          intro j
          rw [gl2, List.map_map, List.getElem?_map, List.getElem?_map]
          by_cases hj : j < g.length
          · rw [List.getElem?_range hj, List.getElem?_eq_getElem hj]
            show some (ePair (hdT g[j])) = some (ePair (hdT (g[j]?.getD ([], []))))
            rw [List.getElem?_eq_getElem hj]
            rfl
          · rw [List.getElem?_eq_none (by omega), List.getElem?_eq_none (by simpa using hj)]
            rfl
        rw [e]
        refine lcw_at (ρj := fun i => [.val (Cd K CC kept), .val (I size), .val (DicF K (tbL g)), .any, .val (Li (((g[i]?.getD ([], [])).2).map eRow)), .any, .val (.py (eBits (g[i]?.getD ([], [])).1))]) [6, 4] _ (di_itemsF (de_var 2)) (by rw [gl2]; omega) (fun j hj => ?_) (fun _ => rfl) (fun i hi s' H' C cl fp => ?_) fun i hi s' H' C cl fp => ?_
        · revert j
          decide
        · rw [gl2] at hi
          have ei : itD (tbL g) i = .tuple [eBits g[i].1, .list (g[i].2.map eRow)] := by
            unfold itD
            exact at_eq (by unfold tbL; rw [List.map_map, List.getElem?_map, List.getElem?_eq_getElem hi]; rfl)
          rw [ei, List.getElem?_eq_getElem hi]
          exact dg_tup rfl (dgs_cons (dg_name 6 nd) (dgs_cons (dg_name 4 nd) dgs_nil))
        · rw [gl2] at hi
          rw [List.getElem?_eq_getElem hi]
          obtain ⟨r0, rest, e0⟩ : ∃ r0 rest, g[i].2 = r0 :: rest := by
            cases hrs : g[i].2 with
            | nil => exact absurd hrs (hg _ (List.getElem_mem hi)).1
            | cons r rest => exact ⟨r, rest, rfl⟩
          have hx0 : atI (g[i].2.map eRow) 0 = some (eRow r0) := atI_n (i := 0) (by rw [e0]; rfl)
          have eh : hdT g[i] = (g[i].1, r0) := by unfold hdT; rw [e0]; rfl
          show DE _ _ _ (.py (ePair (hdT g[i]))) _
          rw [eh]
          exact de_tup (dp_cons (de_var 6) (dp_cons (DE.is (de_ixE (de_var 4) de_int hx0) rfl) dp_nil)) (by show 2 ≤ 100000; decide)
      · have e2 : (((g.map hdT).mergeSort leK).map ePair).length = (g'.map ePair).length := by
          injection e1 with e1
          injection e1 with e1
          injection e1 with _ e1
          injection e1 with e1
          injection e1 with e1
          rw [e1]
        rw [lv, e2, List.length_map]
    · rintro i F' σ' H' hi ⟨hF, k, g, kvs, S', hs', hd', er, hn1, hn2, hgo, hl, hg, hgl⟩ x H'' s2 rx
      rw [List.length_map] at hi
      rw [at_map hi] at rx
      have me : (errS n size)[i] ∈ errS n size := List.getElem_mem hi
      obtain ⟨et, el5, ew⟩ := errS_each me
      generalize he : (errS n size)[i] = e at rx me et el5 ew
      have hdrop : (errS n size).drop i = e :: (errS n size).drop (i + 1) := by rw [List.drop_eq_getElem_cons hi, he]
      rw [hdrop] at hgo
      refine ⟨_, pg_name (i := 3) nd rfl (Or.inl rfl), ?_⟩
      have S2 := (S'.grow s2).setVal (i := 3) (d := .py (eRow e)) rx
      have hd2 : H'' d = some (.dT kvs) := s2 d _ hd'
      have er2 := er.ker (F' := F') (Ker.same s2) (fun l vs h => s2 l _ h) fun _ h => h
      have hs2 : (σ'.set 3 (some x))[2]? = some (some (.ref d)) := by rw [List.getElem?_set_ne (by decide)]; exact hs'
      have len := S'.len
      have h3 : (σ'.set 3 (some x))[3]? = some (some x) := List.getElem?_set_self (by rw [← len]; exact (show 3 < 7 by decide))
      have l3 : (σ'.set 3 (some x)).length = 7 := by rw [List.length_set, ← len]; rfl
      show bAll _ _ _ (σ'.set 3 (some x)) H''
      generalize hσ3 : σ'.set 3 (some x) = σ3 at S2 hs2 h3 l3 ⊢
      have gl : g.length ≤ 1024 := by omega
      have lk := er.len
      refine bAll_setdL 4 2 (o2 := .Name "found" ⟨0, 0, 0, 0⟩) (sg := sgns kept e) nd (by omega) hs2 hd2 h0 (Nat.lt_of_le_of_lt (show kvs.length ≤ 1024 by omega) (by decide)) (de_meth (de_var 0) M_Code_signs hr (da_cons (de_var 3) da_nil) (by walk_at "dxp")) (dl_lst dp_nil (by walk_at "side")) S2 (nOw_by rfl σ3) er2 hn1 hn2 (fun F2 H4 kvs1 f1 l vs Z S4 => ?_) ⟨rfl, rfl, rfl, rfl⟩
      have S4 : SR K G F2 (fun _ => False) Hq [.val (Cd K CC kept), .val (I size), .any, .val (.py (eRow e)), .any, .any, .any] (σ3.set 4 (some (.ref l))) H4 := S4
      have tl : (told g (sgns kept e)).length ≤ i ∧ ∀ a ∈ told g (sgns kept e), a ∈ errS n size := by
        unfold told
        cases hq : tfind g (sgns kept e) with
        | none => exact ⟨Nat.zero_le _, fun a ha => by cases ha⟩
        | some q => exact ⟨hgl q (tfind_key hq).2, (hg q (tfind_key hq).2).2.2⟩
      have hm : mnGo kept (errS n size) [] = match (told g (sgns kept e)).find? (fun one => !sameR kept one e) with | some one => .inl (one, e) | none => mnGo kept ((errS n size).drop (i + 1)) (tput g (sgns kept e) e) := by
        rw [← hgo]
        conv => lhs; unfold mnGo
        all_goals (cases (told g (sgns kept e)).find? (fun one => !sameR kept one e) <;> rfl)
      generalize hT : told g (sgns kept e) = T at tl hm
      have zrp : RpAll K F2 H4 vs (T.map eRow) := hT ▸ Z.rp
      have vl : vs.length = T.length := by rw [zrp.length, List.length_map]
      have s42 : (σ3.set 4 (some (V.ref l)))[2]? = some (some (.ref d)) := by rw [List.getElem?_set_ne (by decide)]; exact hs2
      have s43 : (σ3.set 4 (some (V.ref l)))[3]? = some (some x) := by rw [List.getElem?_set_ne (by decide)]; exact h3
      have s44 : (σ3.set 4 (some (V.ref l)))[4]? = some (some (.ref l)) := List.getElem?_set_self (by rw [l3]; decide)
      have l4 : (σ3.set 4 (some (V.ref l))).length = 7 := by rw [List.length_set, l3]
      generalize hσ4 : σ3.set 4 (some (V.ref l)) = σ4 at S4 s42 s43 s44 l4 ⊢
      have xr : Rp K F2 H4 x (eRow e) := (rx.ker (Ker.refl _ _)).ker Z.ker
      have kh : Ker G H1 F2 H4 := (k.trans (Ker.same s2)).trans Z.ker
      refine bAll_forList 4 PassesOwn.never rfl s44 Z.lst (fun j σ5 H5 => (T.take j).find? (fun one => !sameR kept one e) = none ∧ SR K G F2 (fun _ => False) Hq [.val (Cd K CC kept), .val (I size), .any, .val (.py (eRow e)), .any, .any, .any] σ5 H5 ∧ Sm H4 H5 ∧ σ5[2]? = some (some (.ref d)) ∧ σ5[3]? = some (some x) ∧ σ5[4]? = some (some (.ref l)) ∧ σ5.length = 7) ⟨by rw [List.take_zero]; rfl, S4, Sm.of (Same.refl _), s42, s43, s44, l4⟩ (fun j σ5 H5 ⟨_, _, sm, _⟩ => sm l _ Z.lst) (fun σ5 H5 ⟨hT0, S5, sm, t2, t3, t4, t5⟩ => ?_) fun j σ5 H5 x1 hj ⟨hT0, S5, sm, t2, t3, t4, t5⟩ hx1 => ?_
      · rw [vl, List.take_length] at hT0
        rw [hT0] at hm
        have hl5 : H5 l = some (.lst vs) := sm l _ Z.lst
        have k5 : Ker F2 H4 F2 H5 := Ker.sm sm
        obtain ⟨S6, k6⟩ := S5.updF (ws := vs ++ [x]) hl5 Z.fl Z.h0 fun jj m es ej => absurd (nOw_none jj m es ej) id
        have ent5 := Z.ent.ker (F' := F2) k5 (fun l vs h => sm l _ h) fun _ h => h
        have ent6 := EntL.app (sg := sgns kept e) (e := e) (ds := T) hl5 (zrp.ker k5) (xr.ker k5) k6 ent5 Z.n1 Z.n2 (.inr ⟨Z.val, fun q hq => (Z.told q hq).trans hT⟩)
        rw [Z.put e] at ent6
        have d6 : upd H5 l (.lst (vs ++ [x])) d = some (.dT kvs1) := by
          rw [upd_ne fun z => by rw [← z, sm d _ Z.dct] at hl5; cases hl5]
          exact sm d _ Z.dct
        refine bAll_append 4 3 t4 t3 hl5 (Nat.lt_of_le_of_lt (show vs.length ≤ 1024 by omega) (by decide)) ?_
        refine ⟨F2, fun a h => Z.sub a (hF a h), (kh.trans k5).trans k6, tput g (sgns kept e) e, kvs1, S6.drop 3, t2, d6, ent6, Z.n1, ?_, hm.symm, ?_, fun q hq => ?_, fun q hq => ?_⟩
        · rw [← Z.put e, List.map_map]
          have : f1.map ((fun x : List Bool × List Row => x.1) ∘ fun q => if q.1 == sgns kept e then (q.1, q.2 ++ [e]) else q) = f1.map (·.1) := List.map_congr_left fun r hr => by
            show (if r.1 == sgns kept e then (r.1, r.2 ++ [e]) else r).1 = r.1
            split <;> rfl
          rw [this]
          exact Z.n2
        · rw [← Z.put e, List.length_map]
          have := Z.len
          omega
        · refine tput_each (P := fun q => q.2 ≠ [] ∧ q.1.length = kept.length ∧ ∀ a ∈ q.2, a ∈ errS n size) hg (fun _ => ⟨List.cons_ne_nil _ _, by simp [sgns], fun a ha => ?_⟩) (fun q hq hk => ⟨by simp, (hg q hq).2.1, fun a ha => ?_⟩) q hq
          · rw [List.mem_singleton.mp ha]
            exact me
          · rcases List.mem_append.mp ha with ha | ha
            · exact (hg q hq).2.2 a ha
            · rw [List.mem_singleton.mp ha]
              exact me
        · refine tput_each (P := fun q => q.2.length ≤ i + 1) (fun q hq => Nat.le_succ_of_le (hgl q hq)) (fun _ => by simp) (fun q hq hk => ?_) q hq
          show (q.2 ++ [e]).length ≤ i + 1
          rw [List.length_append]
          exact Nat.succ_le_succ (hgl q hq)
      · rw [vl] at hj
        obtain ⟨o1', ho1, ro⟩ := zrp.get hx1
        rw [List.getElem?_map, List.getElem?_eq_getElem hj] at ho1
        have ho1 : eRow T[j] = o1' := Option.some.inj ho1
        subst ho1
        have mo := tl.2 T[j] (List.getElem_mem hj)
        obtain ⟨ot, ol, ow⟩ := errS_each mo
        refine ⟨_, pg_name (i := 5) nd rfl (Or.inl rfl), ?_⟩
        have S6 := S5.setVal (i := 5) (d := .py (eRow T[j])) (ro.ker (Ker.sm (F := F2) sm))
        have u2 : (σ5.set 5 (some x1))[2]? = some (some (.ref d)) := by rw [List.getElem?_set_ne (by decide)]; exact t2
        have u3 : (σ5.set 5 (some x1))[3]? = some (some x) := by rw [List.getElem?_set_ne (by decide)]; exact t3
        have u4 : (σ5.set 5 (some x1))[4]? = some (some (.ref l)) := by rw [List.getElem?_set_ne (by decide)]; exact t4
        have u5 : (σ5.set 5 (some x1)).length = 7 := by rw [List.length_set, t5]
        show bAll _ _ _ (σ5.set 5 (some x1)) H5
        generalize hσ6 : σ5.set 5 (some x1) = σ6 at S6 u2 u3 u4 u5 ⊢
        have S6 : SR K G F2 (fun _ => False) Hq [.val (Cd K CC kept), .val (I size), .any, .val (.py (eRow e)), .any, .val (.py (eRow T[j])), .any] σ6 H5 := S6
        refine bAll_if (z := !sameR kept T[j] e) (dt_not (dt_of (DE.is (de_meth (de_var 0) M_Code_same hr (da_cons (de_var 5) (da_cons (de_var 3) da_nil)) ⟨kept, n, T[j], e, rfl, rfl, kk, ot, ol, et, el5⟩) rfl))) S6 (fun hz H7 S7 o7 => ?_) fun hz H7 S7 o7 => ?_
        · have hm2 : mnGo kept (errS n size) [] = .inl (T[j], e) := by
            rw [hm, find_at hj hT0 hz]
          have hres : resD (mnR n kept size) = Tu [.str "clash", eRow T[j], eRow e] := by
            unfold mnR
            rw [hm2]
            rfl
          rw [hres] at q2
          refine bAll_ds (P := { nx := fun _ => False, rt := fun _ d' => d' = Tu [.str "clash", eRow T[j], eRow e] }) (dss_one (ds_ret (d := Tu [.str "clash", eRow T[j], eRow e]) (de_tup (dp_cons de_str (dp_cons (de_var 5) (dp_cons (de_var 3) dp_nil))) (by show 3 ≤ 100000; decide)) rfl)) S7 (fun F2 ρ2 σ2 H2 nn S2 k2 => nn.elim) (fun F2 ρ2 σ2 H2 d2 v2 e2 S2 k2 r2 => q2 F2 ρ2 σ2 H2 v2 S2 (e2 ▸ r2) fun g' e => by cases e) (fun ρ' h => h) (fun ρ' h => h)
        · refine bAll_nil ⟨find_next hj hT0 hz, ?_, sm.trans fun b u eb => o7 b u eb (nOw_by rfl σ6 b), u2, u3, u4, u5⟩
          exact S7.drop 5
end
end Bw
/-! Bal2: "or" as a value; what the whole's parts ask of each other. -/
namespace Bw
open PySem PySem.Spec PyProof.Rows L2
section
variable {X : Cx} {ρ ρ1 ρ2 : List Sl} {a b : Expr} {es : List Expr} {pos : Pos} {d : D}
theorem de_orT (h : DE X ρ a (B true) ρ1) : DE X ρ (.BoolOp .Or (a :: b :: es) pos) (B true) ρ1 := by
  obtain ⟨ta, p1, r1⟩ := h
  exact ⟨tOrV ta (fun _ _ _ => False), pe_or p1 ⟨fun pins s σ H Q I h => h.elim⟩, fun F0 F M H0 σ H Q S q => r1 F0 F M H0 σ H _ S fun v H1 S1 w1 o1 q1 => by
    cases q1
    refine ⟨true, rfl, ?_⟩
    show Q (.bl true) H1
    exact q _ H1 S1 w1 o1 (.bl _)⟩
theorem de_orF (h : DE X ρ a (B false) ρ1) (h2 : DE X ρ1 (.BoolOp .Or (b :: es) pos) d ρ2) : DE X ρ (.BoolOp .Or (a :: b :: es) pos) d ρ2 := by
  obtain ⟨ta, p1, r1⟩ := h
  obtain ⟨tb, p2, r2⟩ := h2
  exact ⟨_, pe_or p1 p2, fun F0 F M H0 σ H Q S q => r1 F0 F M H0 σ H _ S fun v H1 S1 w1 o1 q1 => by
    cases q1
    refine ⟨false, rfl, ?_⟩
    show tb σ H1 Q
    exact r2 F0 F M H0 σ H1 Q S1 fun u H2 S2 w2 o2 q2 => q u H2 S2 (w1.trans w2) (off2 o1 w1 o2) q2⟩
end
/-! what mends and pairs tell -/
def wordD : (Row × Row) ⊕ Tb Row → Str
  | .inl _ => "clash"
  | .inr _ => "mends"
def tailD : (Row × Row) ⊕ Tb Row → List PyData
  | .inl c => [eRow c.1, eRow c.2]
  | .inr g => [.list (g.map ePair)]
def resP (c : (Row × Row) ⊕ Tb Row) : PyData := .tuple (.str (wordD c) :: tailD c)
theorem resD_eq (c : (Row × Row) ⊕ Tb Row) : resD c = .py (resP c) := by cases c <;> rfl
theorem ePair_lay (q : List Bool × Row) : (ePair q).canLay0 = true := by
  show (PyData.canLay0 (eBits q.1) && (PyData.canLay0 (eRow q.2) && true)) = true
  rw [eBits_lay, eRow_lay]
  rfl
theorem tailD_lay (c : (Row × Row) ⊕ Tb Row) : PyData.canLayAll0 (tailD c) = true := by
  cases c with
  | inl c =>
    show (PyData.canLay0 (eRow c.1) && (PyData.canLay0 (eRow c.2) && true)) = true
    rw [eRow_lay, eRow_lay]
    rfl
  | inr g =>
    show (PyData.canLayAll0 (g.map ePair) && true) = true
    rw [lays_of ePair_lay]
    rfl
theorem tailD_depth (c : (Row × Row) ⊕ Tb Row) : PyData.depthAll (tailD c) ≤ 61 := by
  cases c with
  | inl c =>
    show max (PyData.depth (eRow c.1)) (max (PyData.depth (eRow c.2)) 0) ≤ 61
    have h1 := eRow_depth c.1
    have h2 := eRow_depth c.2
    omega
  | inr g =>
    show max (PyData.depthAll (g.map ePair) + 1) 0 ≤ 61
    have := depths_of ePair_depth g
    omega
theorem tail_shaped (c : (Row × Row) ⊕ Tb Row) : SeqAt.shaped (.list (tailD c)) = true := shaped_of (tailD_lay c) (by
  show PyData.depthAll (tailD c) + 1 ≤ 64
  have := tailD_depth c
  omega)
theorem res_shaped (c : (Row × Row) ⊕ Tb Row) : SeqAt.shaped (resP c) = true := shaped_of (by
  have h : PyData.canLay0 (.str (wordD c)) = true := by
    cases c with
    | inl c => show PyData.canLay0 (.str (Str.ofString "clash")) = true; decide +kernel
    | inr g => show PyData.canLay0 (.str (Str.ofString "mends")) = true; decide +kernel
  show (PyData.canLay0 (.str (wordD c)) && PyData.canLayAll0 (tailD c)) = true
  rw [tailD_lay, h]
  rfl) (by
  show max (PyData.depth (.str (wordD c))) (PyData.depthAll (tailD c)) + 1 ≤ 64
  have := tailD_depth c
  have h : PyData.depth (.str (wordD c)) ≤ 1 := by simp [PyData.depth]
  omega)
theorem eqv_self {d : PyData} (h : SeqAt.shaped d = true) : PyData.eqv d d = true := by
  unfold SeqAt.shaped at h
  simp only [Bool.and_eq_true] at h
  exact SeqAt.eqv_refl d h.1
/-! the code as it is kept -/
theorem lead_bit {r : Row} {k : Nat} (h : bitB r k = true) : (1 : Int) ∈ bitsI r := by
  rw [bitsI_eq]
  unfold bitB at h
  cases hk : (r.xs ++ r.zs)[k]? with
  | none => rw [hk] at h; cases h
  | some b =>
    rw [hk] at h
    have h : b = true := h
    subst h
    exact List.mem_map.mpr ⟨true, List.mem_of_getElem? hk, rfl⟩
theorem kept_of {n : Nat} {rs kept : List Row} (K : KeptI n rs kept) (wd : Wd n) (ne : rs ≠ []) (few : rs.length ≤ 5) : Kept n kept where
  wd := wd
  ne := fun z => by
    have := K.len
    rw [z] at this
    exact ne (List.length_eq_zero_iff.mp this.symm)
  few := by rw [K.len]; omega
  alln := K.al
  one := fun r hr => lead_bit (K.lead r hr).2
theorem back_all {n size : Nat} {rows kept : List Row} {g : Tb Row} (K : KeptI n rows kept) (C : CodeI n rows) (hm : Mends n rows kept g (errS n size)) :
    (∀ e ∈ errS n size, ∀ zs ∈ someR n rows, BackOk n kept g e zs) ∧ (∀ e ∈ errS n size, ∀ zs ∈ someR n rows, ∀ ys ∈ someR n rows, ∀ v : Int, 1 ≤ v → v ≤ 7 → BackOk n kept g e (mixA zs ys v)) := by
  have fx : ∀ zs ∈ someR n rows, FixA n rows zs := fun zs hz => by
    obtain ⟨b, _, rfl⟩ := List.mem_map.mp (List.mem_filter.mp hz).1
    exact cnR_fix C.alln C.com
  have el : ∀ e ∈ errS n size, e.p.length = n := fun e he => (errS_each he).2.1
  exact ⟨fun e he zs hz => back_ok K C.alln hm el (null_mem n size) he (fx zs hz), fun e he zs hz ys hy v _ _ => back_ok K C.alln hm el (null_mem n size) he (mix_fix C.alln (fx zs hz) (fx ys hy))⟩
theorem prGo_len {n : Nat} {rs kept : List Row} : ∀ (es : List Row) (f g : Tb Row), prGo n rs kept es f = .inr g → g.length ≤ f.length + es.length
  | [], f, g, h => by
    unfold prGo at h
    cases h
    exact Nat.le_refl _
  | e :: es, f, g, h => by
    unfold prGo at h
    cases hq : tfind f (sgns kept e) with
    | none =>
      rw [hq] at h
      have := prGo_len es _ g h
      rw [List.length_append] at this
      simp only [List.length_cons, List.length_nil] at this ⊢
      omega
    | some q =>
      rw [hq] at h
      have h : (if inGr n rs (plx q.2.p e.p) = true then prGo n rs kept es f else .inl (q.2, e)) = .inr g := h
      by_cases hg : inGr n rs (plx q.2.p e.p) = true
      · rw [if_pos hg] at h
        have := prGo_len es _ g h
        simp only [List.length_cons]
        omega
      · rw [if_neg hg] at h
        cases h
theorem prR_len {n size : Nat} {rs kept : List Row} {g : Tb Row} (h : prR n rs kept size = .inr g) : g.length ≤ (errS n size).length := by
  unfold prR at h
  cases hp : prGo n rs kept (errS n size) [] with
  | inl c => rw [hp] at h; cases h
  | inr f =>
    rw [hp] at h
    cases h
    rw [List.length_mergeSort]
    have := prGo_len _ _ _ hp
    simpa using this
/-! the size -/
def sizeM (n : Nat) (q : Int) : Int := if n = 1 then 2 else if n = 2 then 3 else if n = 3 then 4 else if n = 4 then 5 else q
theorem sizeM_at {n : Nat} (h : Wd n) (q : Int) : atI [PyData.int 0, .int 2, .int 3, .int 4, .int 5, .int q] (n : Int) = some (.int (sizeM n q)) := by
  obtain ⟨h1, h2⟩ := h
  match n, h1, h2 with
  | 1, _, _ => rfl
  | 2, _, _ => rfl
  | 3, _, _ => rfl
  | 4, _, _ => rfl
  | 5, _, _ => rfl
theorem sizeM_le {n : Nat} (h : Wd n) {q : Int} (h1 : 0 < q) (h2 : q ≤ 4) : 0 < sizeM n q ∧ sizeM n q ≤ n + 1 := by
  obtain ⟨a, b⟩ := h
  unfold sizeM
  repeat' split
  all_goals omega
end Bw
/-! G17: the law's state as a new list. -/
namespace Bw
open PySem PySem.Spec PyProof.Rows L2
local macro_rules | `(tactic| walk_at "lv") => `(tactic| first
  | fail)
local macro_rules | `(tactic| walk_at "cd") => `(tactic| first
  | assumption | exact Iff.rfl | omega | (rw [xs_len]; assumption) | (rw [zs_len]; assumption) | (refine ⟨?_, ?_⟩ <;> assumption) | (refine ⟨?_, ?_, ?_⟩ <;> assumption) | (simp only [xs_len, zs_len]; assumption) | (simp only [xs_len, zs_len]; omega) | walk_at "lv")
local macro_rules | `(tactic| walk_at "dxp") => `(tactic| first
  | assumption
  | exact ⟨_, rfl, rfl⟩
  | exact ⟨_, _, rfl, rfl⟩
  | exact ⟨_, _, _, rfl, rfl⟩
  | exact ⟨_, _, _, _, rfl, rfl⟩
  | exact ⟨_, rfl, rfl, by walk_at "cd"⟩
  | exact ⟨_, _, rfl, rfl, by walk_at "cd"⟩
  | exact ⟨_, _, _, rfl, rfl, by walk_at "cd"⟩
  | exact ⟨_, _, _, _, rfl, rfl, by walk_at "cd"⟩
  | exact ⟨_, _, _, _, _, rfl, rfl, by walk_at "cd"⟩
  | exact ⟨_, _, _, _, _, _, rfl, rfl, by walk_at "cd"⟩
  | exact ⟨_, _, _, _, _, _, _, rfl, rfl, by walk_at "cd"⟩
  | exact ⟨_, _, _, _, _, _, _, _, rfl, rfl, by walk_at "cd"⟩
  | exact ⟨_, _, _, _, _, _, _, _, _, rfl, rfl, by walk_at "cd"⟩
  | exact ⟨_, rfl, rfl, rfl, rfl, by walk_at "side"⟩
  | walk_at "lv")
local macro_rules | `(tactic| walk_at "kit") => `(tactic| first
  | exact kit_ii | exact kit_ib | exact kit_ll | exact kit_tt)
local macro_rules | `(tactic| walk_at "side") => `(tactic| first
  | assumption | exact sel_int _ _ _ | exact sel_bi _ _ _ | rfl | decide | omega | exact Nat.le_of_ble_eq_true rfl | (simp; done) | (simp; omega) | (refine Or.inl ⟨?_, ?_⟩ <;> decide) | (refine Or.inr ⟨?_, ?_⟩ <;> decide) | (refine Or.inl ⟨?_, ?_⟩ <;> omega) | (refine Or.inr ⟨?_, ?_⟩ <;> omega) | (rw [bi_xor]; refine Or.inl ⟨?_, ?_⟩ <;> omega) | (refine And.intro ?_ (And.intro ?_ ?_) <;> omega) | (refine And.intro ?_ ?_ <;> omega) | walk_at "lv")
section
variable {Pg : Program} {w : World} {K : PySem.W.Frag} {mg : Str → Option Value} {base : Heap} {f CS CC : Addr} {fd : FuncData}
def selS : D → (Addr → Prop) → Hp → V → Prop := fun _ N _ v => ∀ p, v = .ref p → N p
theorem selS_mono (d : D) (N N' : Addr → Prop) (H : Hp) (v : V) (h : ∀ a, N a → N' a) (q : selS d N H v) : selS d N' H v := fun p e => h _ (q p e)
theorem ok_l_stateN (F : FnP K "_law_state" "_law_state" s_l_state f fd) (BT : Bl mg) : FnOk Pg w K mg base CX0 1 f fd P_l_state (SpG K p_l_state selS) := by
  refine fn_mkB F sc_l_state (fun ds d h => ?_) (by decide) fun cdv A outer s H E ds d G us E' hr h SS qq => ?_
  · obtain ⟨ns, k, rfl, rfl, _⟩ := h
    rfl
  · obtain ⟨ns, k, rfl, rfl, h0, h1⟩ := h
    have nd := sc_l_state.nd
    refine bAll_asg 2 nd (de_mod (de_add (de_add (de_add (de_mul (de_sum (DE.lst (de_var 0)) rfl BT.b_sum) de_int (by walk_at "side")) (de_mul (de_len (DE.lst (de_var 0)) BT.b_len) de_int (by walk_at "side"))) (de_mul (de_var 1) de_int (by walk_at "side"))) de_int) de_int (by walk_at "side")) SS fun v H1 S1 w1 o1 g1 => ?_
    have q0 : 0 ≤ (ns.sum * 48271 + ((ns.map PyData.int).length : Int) * 7919 + k * 104729 + 17) % 2147483647 := Int.emod_nonneg _ (by decide)
    have q1 : (ns.sum * 48271 + ((ns.map PyData.int).length : Int) * 7919 + k * 104729 + 17) % 2147483647 < 2147483647 := Int.emod_lt_of_pos _ (by decide)
    refine bAll_retL (ds := [.int (stR ns k)]) (DL.is (dl_lst (dp_cons (de_add de_int (de_mod (de_add (de_mul (de_var 2) (de_var 2) (by walk_at "side")) (de_mul de_int (de_var 1) (by walk_at "side"))) de_int (by walk_at "side"))) dp_nil) (by walk_at "side")) ?_) S1 fun p vs H' hp S' o' hl r => ?_
    · unfold stR
      rw [List.length_map]
    · refine qq _ H' (fun b o e => S'.same b o e fun z => z) S'.tb (.lst hl (S1.new hp) r) fun p' e => ?_
      cases e
      exact S1.back hp
end
end Bw
/-! G18: one stretch of cells. -/
namespace Bw
open PySem PySem.Spec PyProof.Rows L2
local macro_rules | `(tactic| walk_at "lv") => `(tactic| first
  | fail)
local macro_rules | `(tactic| walk_at "cd") => `(tactic| first
  | assumption | exact Iff.rfl | omega | (rw [xs_len]; assumption) | (rw [zs_len]; assumption) | (refine ⟨?_, ?_⟩ <;> assumption) | (refine ⟨?_, ?_, ?_⟩ <;> assumption) | (simp only [xs_len, zs_len]; assumption) | (simp only [xs_len, zs_len]; omega) | walk_at "lv")
local macro_rules | `(tactic| walk_at "dxp") => `(tactic| first
  | assumption
  | exact ⟨_, rfl, rfl⟩
  | exact ⟨_, _, rfl, rfl⟩
  | exact ⟨_, _, _, rfl, rfl⟩
  | exact ⟨_, _, _, _, rfl, rfl⟩
  | exact ⟨_, rfl, rfl, by walk_at "cd"⟩
  | exact ⟨_, _, rfl, rfl, by walk_at "cd"⟩
  | exact ⟨_, _, _, rfl, rfl, by walk_at "cd"⟩
  | exact ⟨_, _, _, _, rfl, rfl, by walk_at "cd"⟩
  | exact ⟨_, _, _, _, _, rfl, rfl, by walk_at "cd"⟩
  | exact ⟨_, _, _, _, _, _, rfl, rfl, by walk_at "cd"⟩
  | exact ⟨_, _, _, _, _, _, _, rfl, rfl, by walk_at "cd"⟩
  | exact ⟨_, _, _, _, _, _, _, _, rfl, rfl, by walk_at "cd"⟩
  | exact ⟨_, _, _, _, _, _, _, _, _, rfl, rfl, by walk_at "cd"⟩
  | exact ⟨_, rfl, rfl, rfl, rfl, by walk_at "side"⟩
  | walk_at "lv")
local macro_rules | `(tactic| walk_at "kit") => `(tactic| first
  | exact kit_ii | exact kit_ib | exact kit_ll | exact kit_tt)
local macro_rules | `(tactic| walk_at "side") => `(tactic| first
  | assumption | exact sel_int _ _ _ | exact sel_bi _ _ _ | rfl | decide | omega | exact Nat.le_of_ble_eq_true rfl | (simp; done) | (simp; omega) | (refine Or.inl ⟨?_, ?_⟩ <;> decide) | (refine Or.inr ⟨?_, ?_⟩ <;> decide) | (refine Or.inl ⟨?_, ?_⟩ <;> omega) | (refine Or.inr ⟨?_, ?_⟩ <;> omega) | (rw [bi_xor]; refine Or.inl ⟨?_, ?_⟩ <;> omega) | (refine And.intro ?_ (And.intro ?_ ?_) <;> omega) | (refine And.intro ?_ ?_ <;> omega) | walk_at "lv")
theorem nl_bits (l : List Bool) : NL (eBits l) := .tup (NLs.of fun d hd => by
  obtain ⟨b, _, rfl⟩ := List.mem_map.mp hd
  exact .int _)
theorem nl_pair (q : List Bool × Row) : NL (ePair q) := .tup (.cons (nl_bits _) (.cons (.tup (.cons (.int _) (.cons (nl_bits _) (.cons (nl_bits _) .nil)))) .nil))
section
variable {Pg : Program} {w : World} {K : PySem.W.Frag} {mg : Str → Option Value} {base : Heap} {f CS CC : Addr} {fd : FuncData}
abbrev N_l_right : List Str := ["_law_cells", "_law_state_here", "_law_rows", "_law_many", "_law_size_here", "_law_code_here", "_law_other", "_law_found", "_law_due", "_law_far"]
abbrev P_l_right : List Str := ["_law_cells"]
theorem sc_l_right : FnScope N_l_right P_l_right (defScope s_l_right) := ⟨rfl, rfl, rfl, by decide +kernel, rfl, by decide +kernel, by decide +kernel⟩
def selN : D → (Addr → Prop) → Hp → V → Prop := fun _ _ _ _ => True
def p_l_right : List D → D → Prop := fun ds d => ∃ ns : List Int, ds = [Li (ns.map PyData.int)] ∧ d = B true
theorem ok_l_right (F : FnP K "_law_right" "_law_right" s_l_right f fd) (BT : Bl mg) (GK : GkP K mg CS CC) (C_l_state : Cal Pg w K mg base "_law_state" 1 P_l_state (SpG K p_l_state selS)) (C_l_code : Cal Pg w K mg base "_law_code" 4 P_l_code (SpS K p_l_code)) (C_l_draw : Cal Pg w K mg base "_law_draw" 1 P_l_draw (SpS K p_l_draw))
    (C_Code : CaI Pg w K mg base "Code" CC 8 P_Code_init (SpI K CC "kept" p_Code_init)) (M_Code_rows : Cam Pg w K mg base CC "rows" 1 P_Code_rows (SpD K (p_Code_rows (K := K) (CC := CC)))) (M_Code_far : Cam Pg w K mg base CC "far" 9 P_Code_far (SpD K (p_Code_far (K := K) (CC := CC))))
    (C_mendsG : Cal Pg w K mg base "mends" 9 P_mends (SpG K (p_mends (K := K) (CC := CC)) selM)) (C_l_pairs : Cal Pg w K mg base "_law_pairs" 3 P_l_pairs (SpD K (p_l_pairs Pg w K))) (C_l_group : Cal Pg w K mg base "_law_group" 2 P_l_group (SpD K (p_l_group Pg w K)))
    (C_l_all_back : Cal Pg w K mg base "_law_all_back" 9 P_l_all_back (SpS K (p_l_all_back (K := K) (CC := CC)))) : FnOk Pg w K mg base CX0 11 f fd P_l_right (SpG K p_l_right selN) := by
  have C_mends := C_mendsG.less
  refine fn_mkB F sc_l_right (fun ds d h => ?_) (by decide) fun cdv A outer s Hq E ds d G us E' hr h SS qq => ?_
  · obtain ⟨ns, rfl, rfl⟩ := h
    rfl
  · obtain ⟨ns, rfl, rfl⟩ := h
    have nd := sc_l_right.nd
    have hu1 : (BX Pg w K mg base N_l_right "_law_right" s_l_right f cdv A outer s Hq E).A.units + 70 < cLine := by have := hr.un; omega
    refine bAll_asgG 1 nd C_l_state hr (da_cons (de_var 0) (da_cons de_int da_nil)) ⟨ns, 8, rfl, rfl, by decide, by decide⟩ SS (fun v H1 S1 w1 o1 r1 n1 => ?_) selS_mono
    have sm1 : Sm Hq H1 := fun b u eb => o1 b u eb (nOw_by rfl _ b)
    have n1 := fun p e => n1 p e
    obtain ⟨p, x, rfl, hp1, hp0⟩ : ∃ p x, v = .ref p ∧ H1 p = some (.lst [.int (stR ns 8)]) ∧ Hq p = none := by
      cases r1 with
      | @lst p xs _ h1 h2 h3 =>
        have := rp_int1 h3
        subst this
        exact ⟨p, 0, rfl, h1, n1 p rfl⟩
    generalize stR ns 8 = s0 at S1 r1 hp1 ⊢
    have T1 := (SS.take (ρ' := [.val (Li (ns.map PyData.int)), .any, .any, .any, .any, .any, .any, .any, .any, .any]) S1 (Ker.sm sm1) hp0 hp1 rfl (fun i d e => by
      match i, e with
      | 0, e => exact ⟨e, List.getElem?_set_ne (by decide)⟩
      | i + 10, e => cases e) fun i m ds e => by
      match i, e with
      | i + 10, e => cases e).rebase 1 (ds := [.int s0]) (.inr rfl) hp1 (.cons (.int _) .nil) (List.getElem?_set_self (by rw [← SS.len]; exact (show 1 < 10 by decide))) fun j m es e => by
      match j, e with
      | j + 10, e => cases e
    have qf : ∀ (F' : Addr → Prop) (ρ' : List Sl) (σ' : L2.St) (H' : Hp) (v : V), SR K (fun a => G a ∨ a = p) F' (fun a => a = p) H1 ρ' σ' H' → RD K (fun a => G a ∨ a = p) H' v (B true) → E'.rt v H' := fun F' ρ' σ' H' v S' r' => by
      refine qq v H' (fun b o e => (sm1 b o e).trans fun u eu => S'.same b u eu fun z => ?_) S'.tb ?_ trivial
      · rw [z, hp0] at e
        cases e
      · cases r'
        exact .bl _
    clear qq SS S1 r1 n1
    have T1 : SR K (fun a => G a ∨ a = p) (fun a => G a ∨ a = p) (fun a => a = p) H1 [.val (Li (ns.map PyData.int)), .own true [.int s0], .any, .any, .any, .any, .any, .any, .any, .any] ((L2.start N_l_right us).set 1 (some (.ref p))) H1 := T1
    generalize (L2.start N_l_right us).set 1 (some (V.ref p)) = σ1 at T1 ⊢
    generalize (fun a => G a ∨ a = p) = G1 at T1 qf
    generalize (fun a => a = p) = M at T1 qf
    refine bAll_asg 2 nd (de_callSE C_l_code hr (das_here 1 da_nil) rfl ⟨rfl, rfl, rfl, rfl⟩) T1 fun v2 H2 S2 w2 o2 g2 => ?_
    obtain ⟨n, wn, ne, l5, CI⟩ := codeR_okM s0
    generalize (codeR s0).1 = rows at S2 g2 ne l5 CI
    generalize (codeR s0).2 = s1 at S2
    have KI := kept_ok CI.alln CI.ind CI.com
    have KP := kept_of KI wn ne l5
    have wn1 := wn.1
    have wn5 := wn.2
    obtain ⟨r0, rest, e0⟩ : ∃ r0 rest, rows = r0 :: rest := by
      cases hrs : rows with
      | nil => exact absurd hrs ne
      | cons r rest => exact ⟨r, rest, rfl⟩
    have h0 : atI (rows.map eRow) 0 = some (eRow r0) := atI_n (i := 0) (by rw [e0]; rfl)
    have hn0 := CI.alln r0 (by rw [e0]; simp)
    have l1 : (r0.xs.map eB).length = n := by simp [Row.xs, hn0]
    refine bAll_asg 3 nd (d := I n) (DE.is (de_len (DE.tpl (de_ix (DE.tpl (de_ix (DE.lst (de_var 2)) de_int (by walk_at "side"))) de_int (by walk_at "side"))) BT.b_len) (by rw [l1])) S2 fun v3 H3 S3 w3 o3 g3 => ?_
    have hq : atI [PyData.int 3, .int 4] (if decide (dv s1 4 = 0) = true then 1 else 0) = some (.int (if dv s1 4 = 0 then 4 else 3)) := by
      by_cases z : dv s1 4 = 0
      · rw [if_pos z, decide_eq_true z]
        exact atI_n (i := 1) rfl
      · rw [if_neg z, decide_eq_false z]
        exact atI_n (i := 0) rfl
    have hq2 : (0 : Int) < (if dv s1 4 = 0 then 4 else 3) ∧ (if dv s1 4 = 0 then (4 : Int) else 3) ≤ 4 := by split <;> decide
    generalize (if dv s1 4 = 0 then (4 : Int) else 3) = q at hq hq2
    have hm := sizeM_at wn q
    obtain ⟨hm1, hm2⟩ := sizeM_le wn hq2.1 hq2.2
    have hd := dv_range (nx s1) hm1
    refine bAll_asg 4 nd (de_callSE C_l_draw hr (das_here 1 (da_cons (de_ix (DL.lst (dl_lst (dp_cons de_int (dp_cons de_int (dp_cons de_int (dp_cons de_int (dp_cons de_int (dp_cons (de_ixE (DL.ex (dl_lst (dp_cons de_int (dp_cons de_int dp_nil)) (by walk_at "side"))) (de_intB (de_cmp (dc_eqI (de_callSE C_l_draw hr (das_here 1 (da_cons de_int da_nil)) rfl (by walk_at "dxp")) de_int)) BT.b_int) (by walk_at "side")) dp_nil)))))) (by walk_at "side"))) (de_var 3) (by walk_at "side")) da_nil)) rfl (by walk_at "dxp")) S3 fun v4 H4 S4 w4 o4 g4 => ?_
    have hle : dv (nx s1) (sizeM n q) ≤ n := by omega
    have h0d := hd.1
    clear g4 hd
    generalize dv (nx s1) (sizeM n q) = szI at S4 hle h0d
    obtain ⟨sz, rfl⟩ : ∃ sz : Nat, szI = (sz : Int) := ⟨szI.toNat, (Int.toNat_of_nonneg h0d).symm⟩
    have hsz : sz ≤ n := by omega
    refine bAll_asg 5 nd (de_make C_Code hr (DL.ex (dl_list (DE.lst (de_var 2)) BT.b_list)) ⟨rows, n, rfl, rfl, ⟨wn, ne, by omega, CI.alln, CI.com⟩, KI.len⟩) S4 fun v5 H5 S5 w5 o5 g5 => ?_
    generalize hkept : clearR n rows = kept at S5 KI KP
    have S5 : SR K G1 G1 M H1 [.val (Li (ns.map PyData.int)), .own true [.int (nx (nx s1))], .val (Li (rows.map eRow)), .val (I n), .val (I sz), .val (Cd K CC kept), .any, .any, .any, .any] _ H5 := S5
    have eo : ((sz : Int) + 1) % (1 + if (2 : Int) < (n : Int) then 2 else (n : Int)) = (((sz + 1) % (1 + min n 2) : Nat) : Int) := by
      have e1 : (1 + if (2 : Int) < (n : Int) then 2 else (n : Int)) = ((1 + min n 2 : Nat) : Int) := by split <;> omega
      rw [e1, Int.natCast_emod]
      rfl
    have ho : (sz + 1) % (1 + min n 2) ≤ n := by
      have := Nat.mod_lt (sz + 1) (show 0 < 1 + min n 2 by omega)
      omega
    have hmn : (0 : Int) < 1 + if (2 : Int) < (n : Int) then 2 else (n : Int) := by split <;> omega
    refine bAll_asg 6 nd (d := I (((sz + 1) % (1 + min n 2) : Nat) : Int)) (DE.is (de_mod (de_add (de_var 4) de_int) (de_add de_int (de_min (de_var 3) de_int rfl BT.b_min)) (by walk_at "side")) (by rw [eo])) S5 fun v6 H6 S6 w6 o6 g6 => ?_
    generalize (sz + 1) % (1 + min n 2) = oth at S6 ho
    have hX : ∀ c : (Row × Row) ⊕ Tb Row, (!PyData.eqv (resP c) (resP c)) = false := fun c => by rw [eqv_self (res_shaped c)]; rfl
    refine bAll_ifR (z := false) (DT.is (dt_cmp (dc_ne (DE.is (de_call C_mends hr (da_cons (de_var 5) (da_cons (de_var 6) da_nil)) ⟨kept, n, oth, rfl, rfl, KP, ho⟩) ((congrArg resD (mnR_prR KI CI.alln)).trans (resD_eq _)))
      (DE.is (de_call C_l_pairs hr (da_cons (de_meth0 (de_var 5) M_Code_rows hr ⟨kept, rfl, rfl⟩) (da_cons (de_call C_l_group hr (da_cons (de_var 2) da_nil) ⟨rows, n, rfl, rfl, wn, CI.alln, ne, l5⟩) (da_cons (de_var 6) da_nil))) ⟨rows, kept, n, oth, rfl, rfl, wn, KI.al, KP.ne, KP.few, CI.alln, ho⟩) (resD_eq _)) hr.units (res_shaped _) (res_shaped _))) (hX _)) S6 (fun hz => nomatch hz) fun _ H7 S7 o7 => bAll_nil ?_
    show bAll _ _ E' _ H7
    have eS7 : SR K G1 G1 M H1 [.val (Li (ns.map PyData.int)), .own true [.int (nx (nx s1))], .val (Li (rows.map eRow)), .val (I n), .val (I sz), .val (Cd K CC kept), .val (I oth), .any, .any, .any] _ H7 := S7
    have hfar := far_ok (size := sz) KI CI.alln
    have cut1 : ∀ c : (Row × Row) ⊕ Tb Row, cutD (.str (wordD c) :: tailD c) (some 1) none = tailD c := fun c => by cases c <;> rfl
    have emn : mnR n kept sz = prR n rows kept sz := mnR_prR KI CI.alln
    generalize hc : prR n rows kept sz = c at hfar emn
    have s1c : SeqAt.shaped (.str (Str.ofString "clash")) = true := by decide +kernel
    have s1m : SeqAt.shaped (.str (Str.ofString "mends")) = true := by decide +kernel
    have q1 : PyData.eqv (.str (Str.ofString "clash")) (.str (Str.ofString "mends")) = false := by decide +kernel
    have q2 : PyData.eqv (.str (Str.ofString "mends")) (.str (Str.ofString "clash")) = false := by decide +kernel
    have main : ∀ (F' : Addr → Prop) (σ' : L2.St) (H' : Hp), SR K G1 F' M H1 [.val (Li (ns.map PyData.int)), .own true [.int (nx (nx s1))], .val (Li (rows.map eRow)), .val (I n), .val (I sz), .val (Cd K CC kept), .val (I oth), .any, .val (Li (tailD c)), .any] σ' H' →
        bAll (BX Pg w K mg base N_l_right "_law_right" s_l_right f cdv A outer s Hq E) ((defBody s_l_right).drop 11) E' σ' H' := fun F' σ' H' S => by
      refine bAll_asg 7 nd (d := resD c) (DE.is (de_call C_mends hr (da_cons (de_var 5) (da_cons (de_var 4) da_nil)) ⟨kept, n, sz, rfl, rfl, KP, hsz⟩) (congrArg resD emn)) S fun va Ha Sa wa oa ga => ?_
      refine bAll_ifR (z := false) (DT.is (dt_cmp (dc_ne (DL.ex (dl_list (DE.tpl (DE.is (de_slT (DE.is (de_var 7) (resD_eq c)) (do_some de_int) do_none) (congrArg Tu (cut1 c)))) BT.b_list)) (de_var 8) hr.units (tail_shaped c) (tail_shaped c))) (by rw [eqv_self (tail_shaped c)]; rfl)) Sa (fun hz => nomatch hz) fun _ Hb Sb ob => bAll_nil ?_
      refine bAll_asg 9 nd (de_meth0 (de_var 5) M_Code_far hr ⟨kept, n, rfl, rfl, KP⟩) Sb fun vc Hc Sc wc oc gc => ?_
      cases c with
      | inl c =>
        obtain ⟨_, _, w, hw, hwle⟩ := hfar
        rw [hw] at Sc
        have Sc : SR K G1 F' M H1 [.val (Li (ns.map PyData.int)), .own true [.int (nx (nx s1))], .val (Li (rows.map eRow)), .val (I n), .val (I sz), .val (Cd K CC kept), .val (I oth), .val (resD (.inl c)), .val (Li (tailD (.inl c))), .val (I w)] _ Hc := Sc
        refine bAll_ifR (z := false) (DT.is (dt_cmp (dc_ne (DE.is (de_cmp (dc_eq (de_ix (DE.tpl (DE.is (de_var 7) (resD_eq (.inl c)))) de_int (atI_n (i := 0) rfl)) de_str hr.units s1c s1m)) (congrArg B q1))
          (DE.is (de_orF (DE.is (de_cmp (dc_isN (de_var 9))) rfl) (de_one (de_cmp (dc_gt (de_var 9) (de_mul de_int (de_var 4) (by walk_at "side")))))) (congrArg B (decide_eq_false (by omega)))) hr.units rfl rfl)) rfl) Sc (fun hz => nomatch hz) fun _ Hd Sd od => bAll_nil ?_
        show bAll _ _ E' _ Hd
        exact bAll_ds (P := { nx := fun _ => False, rt := fun _ d' => d' = B true }) (dss_one (ds_ret (de_orT (DE.is (de_cmp (dc_eq (de_ix (DE.tpl (DE.is (de_var 7) (resD_eq (.inl c)))) de_int (atI_n (i := 0) rfl)) de_str hr.units s1c s1c)) (congrArg B (eqv_self s1c)))) rfl)) Sd (fun F2 ρ2 σ2 H2 nn S2 k2 => nn.elim) (fun F2 ρ2 σ2 H2 d2 v2 e2 S2 k2 r2 => qf F2 ρ2 σ2 H2 v2 S2 (e2 ▸ r2)) (fun ρ' h => h) (fun ρ' h => h)
      | inr g =>
        obtain ⟨hme, _, hfw⟩ := hfar
        obtain ⟨b1, b2⟩ := back_all KI CI hme
        refine bAll_ifR (z := false) (DT.is (dt_cmp (dc_ne (DE.is (de_cmp (dc_eq (de_ix (DE.tpl (DE.is (de_var 7) (resD_eq (.inr g)))) de_int (atI_n (i := 0) rfl)) de_str hr.units s1m s1m)) (congrArg B (eqv_self s1m)))
          (show DE _ _ _ (B true) _ from ?_) hr.units rfl rfl)) rfl) Sc (fun hz => nomatch hz) fun _ Hd Sd od => bAll_nil ?_
        · cases hw : farR n kept with
          | none =>
            exact de_orT (DE.is (de_cmp (dc_isN (de_var 9))) rfl)
          | some w =>
            have := hfw w hw
            exact de_orF (DE.is (de_cmp (dc_isN (de_var 9))) rfl) (DE.is (de_one (de_cmp (dc_gt (i := (w : Int)) (de_var 9 (h := rfl)) (de_mul de_int (de_var 4) (by walk_at "side"))))) (congrArg B (decide_eq_true (by omega))))
        show bAll _ _ E' _ Hd
        exact bAll_ds (P := { nx := fun _ => False, rt := fun _ d' => d' = B true }) (dss_one (ds_ret (de_orF (DE.is (de_cmp (dc_eq (de_ix (DE.tpl (DE.is (de_var 7) (resD_eq (.inr g)))) de_int (atI_n (i := 0) rfl)) de_str hr.units s1m s1c)) (congrArg B q2))
          (de_one (de_callSE C_l_all_back hr (das_consE (de_var 5) (das_consE (de_var 2) (das_consE (de_ix (DE.tpl (DE.is (de_var 7) (resD_eq (.inr g)))) de_int (atI_n (i := 1) rfl)) (das_consE (de_var 4) (das_here 1 da_nil))))) rfl ⟨kept, rows, g, n, sz, rfl, rfl, rfl, rfl, KP, ne, by omega, CI.alln, hsz, some_ok wn CI, b1, b2⟩))) rfl)) Sd (fun F2 ρ2 σ2 H2 nn S2 k2 => nn.elim) (fun F2 ρ2 σ2 H2 d2 v2 e2 S2 k2 r2 => qf F2 ρ2 σ2 H2 v2 S2 (e2 ▸ r2)) (fun ρ' h => h) (fun ρ' h => h)
    refine bAll_asgG 7 nd C_mendsG hr (da_cons (de_var 5) (da_cons (de_var 4) da_nil)) (d := resD c) ⟨kept, n, sz, rfl, congrArg resD emn.symm, KP, hsz⟩ S7 (fun v8 H8 S8 w8 o8 g8 n8 => ?_) selM_mono
    have S8 : SR K G1 G1 M H1 [.val (Li (ns.map PyData.int)), .own true [.int (nx (nx s1))], .val (Li (rows.map eRow)), .val (I n), .val (I sz), .val (Cd K CC kept), .val (I oth), .val (resD c), .any, .any] _ H8 := S8
    have S7 := eS7
    have L7 := S7.len
    generalize hσ7 : ((((σ1.set 2 (some v2)).set 3 (some v3)).set 4 (some v4)).set 5 (some v5)).set 6 (some v6) = σ7 at S7 S8 o8 L7 ⊢
    refine bAll_ifR (z := false) (DT.is (dt_cmp (dc_ne (DE.is (de_var 7) (resD_eq c))
      (DE.is (de_call C_l_pairs hr (da_cons (de_meth0 (de_var 5) M_Code_rows hr ⟨kept, rfl, rfl⟩) (da_cons (de_call C_l_group hr (da_cons (de_var 2) da_nil) ⟨rows, n, rfl, rfl, wn, CI.alln, ne, l5⟩) (da_cons (de_var 4) da_nil))) ⟨rows, kept, n, sz, rfl, (congrArg resD hc.symm), wn, KI.al, KP.ne, KP.few, CI.alln, hsz⟩) (resD_eq c)) hr.units (res_shaped c) (res_shaped c))) (hX c)) S8 (fun hz => nomatch hz) fun _ H9 S9 o9 => bAll_nil ?_
    show bAll _ _ E' _ H9
    refine bAll_asg 8 nd (d := Li (tailD c)) (DL.ex (dl_list (DE.tpl (DE.is (de_slT (DE.is (de_var 7) (resD_eq c)) (do_some de_int) do_none) (congrArg Tu (cut1 c)))) BT.b_list)) S9 fun v10 H10 S10 w10 o10 g10 => ?_
    have S10 : SR K G1 G1 M H1 [.val (Li (ns.map PyData.int)), .own true [.int (nx (nx s1))], .val (Li (rows.map eRow)), .val (I n), .val (I sz), .val (Cd K CC kept), .val (I oth), .val (resD c), .val (Li (tailD c)), .any] _ H10 := S10
    cases c with
    | inl c =>
      refine bAll_ifR (z := false) (DT.is (dt_cmp (dc_eq (de_ix (DE.tpl (DE.is (de_var 7) (resD_eq (.inl c)))) de_int (atI_n (i := 0) rfl)) de_str hr.units s1c s1m)) q1) S10 (fun hz => nomatch hz) fun _ H11 S11 o11 => bAll_nil ?_
      exact main _ _ _ (S11.drop 7)
    | inr g =>
      refine bAll_ifR (z := true) (DT.is (dt_cmp (dc_eq (de_ix (DE.tpl (DE.is (de_var 7) (resD_eq (.inr g)))) de_int (atI_n (i := 0) rfl)) de_str hr.units s1m s1m)) (eqv_self s1m)) S10 (fun _ H11 S11 o11 => ?_) fun hz => nomatch hz
      obtain ⟨T, p2, us2, z, rfl, hT, hp2, hlen, hn2⟩ := n8 g rfl
      have np2 : ¬ G1 p2 := S7.new hn2
      have k8 : Ker G1 H7 G1 H8 := S7.ker o8
      have k11 : Ker G1 H8 G1 H11 := ((S8.ker o9).trans (S9.ker o10)).trans (S10.ker o11)
      refine bAll_asgLL 8 nd (dl_list (DE.lst (de_ix (DE.tpl (DE.is (de_var 7) (resD_eq (.inr g)))) de_int (atI_n (i := 1) rfl))) BT.b_list) S11 fun q r us3 H12 hq12 hr12 hql hrl ru S12 o12 => ?_
      have k12 : Ker G1 H8 G1 H12 := k11.trans (S11.ker o12)
      have hT12 : H12 T = some (.tup [.str z, .ref p2]) := k12.k T _ hT rfl
      have hp11 : H11 p2 = some (.lst us2) := (k11.l p2 us2 np2 hp2).1
      have hp12 : H12 p2 = some (.lst us2) := (k12.l p2 us2 np2 hp2).1
      have S12 : SR K G1 G1 M H1 [.val (Li (ns.map PyData.int)), .own true [.int (nx (nx s1))], .val (Li (rows.map eRow)), .val (I n), .val (I sz), .val (Cd K CC kept), .val (I oth), .val (resD (.inr g)), .any, .any] (((σ7.set 7 (some (.ref T))).set 8 (some v10)).set 8 (some (.ref r))) H12 := S12
      have g7 : (((σ7.set 7 (some (V.ref T))).set 8 (some v10)).set 8 (some (V.ref r)))[7]? = some (some (.ref T)) := by
        rw [List.getElem?_set_ne (by decide), List.getElem?_set_ne (by decide), List.getElem?_set_self (by rw [← L7]; exact (show 7 < 10 by decide))]
      have g8' : (((σ7.set 7 (some (V.ref T))).set 8 (some v10)).set 8 (some (V.ref r)))[8]? = some (some (.ref r)) := List.getElem?_set_self (by rw [List.length_set, List.length_set, ← L7]; exact (show 8 < 10 by decide))
      have gk : ∀ i, i < 7 → (((σ7.set 7 (some (V.ref T))).set 8 (some v10)).set 8 (some (V.ref r)))[i]? = σ7[i]? := fun i hi => by
        rw [List.getElem?_set_ne (by omega), List.getElem?_set_ne (by omega), List.getElem?_set_ne (by omega)]
      generalize ((σ7.set 7 (some (V.ref T))).set 8 (some v10)).set 8 (some (V.ref r)) = σ12 at S12 g7 g8' gk ⊢
      have T12 : SR K G1 (fun a => G1 a ∨ a = p2) M H1 [.val (Li (ns.map PyData.int)), .own true [.int (nx (nx s1))], .val (Li (rows.map eRow)), .val (I n), .val (I sz), .val (Cd K CC kept), .val (I oth), .any, .any, .any] σ12 H12 := by
        refine SR.take (ρ' := [.val (Li (ns.map PyData.int)), .own true [.int (nx (nx s1))], .val (Li (rows.map eRow)), .val (I n), .val (I sz), .val (Cd K CC kept), .val (I oth), .any, .any, .any]) S7 S12 (k8.trans k12) hn2 hp12 rfl (fun i d e => ?_) fun i m ds e => ?_
        · match i, e with
          | 0, e => exact ⟨e, gk 0 (by decide)⟩
          | 2, e => exact ⟨e, gk 2 (by decide)⟩
          | 3, e => exact ⟨e, gk 3 (by decide)⟩
          | 4, e => exact ⟨e, gk 4 (by decide)⟩
          | 5, e => exact ⟨e, gk 5 (by decide)⟩
          | 6, e => exact ⟨e, gk 6 (by decide)⟩
          | i + 10, e => cases e
        · match i, e with
          | 1, e =>
            refine ⟨e, ?_⟩
            cases e
            exact .cons (.int _) .nil
          | i + 10, e => cases e
      obtain ⟨l, vs0, l1', l2', _, l4', _⟩ := S12.own 1 true _ rfl
      obtain ⟨U, ku⟩ := T12.updF (ws := us2 ++ [.non]) hp12 (.inr rfl) (S7.back hn2) fun j m es e z => by
        match j, e with
        | 1, e =>
          rw [l1'] at z
          cases z
          exact np2 l4'
        | i + 10, e => cases e
      have gl : g.length ≤ 1024 := Nat.le_trans (prR_len hc) (Nat.le_trans (List.length_filter_le ..) (errR_few wn5))
      refine bAll_append1 7 g7 hT12 hp12 (Nat.lt_of_le_of_lt (show us2.length ≤ 1024 by omega) (by decide)) ?_
      have ne : ∀ a, H11 a = none → a ≠ p2 := fun a ha z => by rw [z, hp11] at ha; cases ha
      have hr13 : upd H12 p2 (.lst (us2 ++ [.non])) r = some (.lst [.ref q]) := by rw [upd_ne (ne r hr12)]; exact hrl
      have hq13 : upd H12 p2 (.lst (us2 ++ [.non])) q = some (.lst us3) := by rw [upd_ne (ne q hq12)]; exact hql
      have nf : ∀ a, H11 a = none → ¬ (G1 a ∨ a = p2) := fun a ha z => z.elim (S11.new ha) (ne a ha)
      refine main _ _ _ ((U.drop 7).tell (i := 8) (d := Li [.list (g.map ePair)]) g8' ?_)
      refine .lst hr13 (nf r hr12) (.cons (.lst hq13 (nf q hq12) ((RpAll.nl (NLs.of fun d hd => ?_) ru).ker ku)) .nil)
      obtain ⟨z, _, rfl⟩ := List.mem_map.mp hd
      exact nl_pair z
end
end Bw
/-! G19: the law; its script is a list that nothing may change. -/
namespace Bw
open PySem PySem.Spec PyProof.Rows L2
local macro_rules | `(tactic| walk_at "lv") => `(tactic| first
  | fail)
local macro_rules | `(tactic| walk_at "cd") => `(tactic| first
  | assumption | exact Iff.rfl | omega | (rw [xs_len]; assumption) | (rw [zs_len]; assumption) | (refine ⟨?_, ?_⟩ <;> assumption) | (refine ⟨?_, ?_, ?_⟩ <;> assumption) | (simp only [xs_len, zs_len]; assumption) | (simp only [xs_len, zs_len]; omega) | walk_at "lv")
local macro_rules | `(tactic| walk_at "dxp") => `(tactic| first
  | assumption
  | exact ⟨_, rfl, rfl⟩
  | exact ⟨_, _, rfl, rfl⟩
  | exact ⟨_, _, _, rfl, rfl⟩
  | exact ⟨_, _, _, _, rfl, rfl⟩
  | exact ⟨_, rfl, rfl, by walk_at "cd"⟩
  | exact ⟨_, _, rfl, rfl, by walk_at "cd"⟩
  | exact ⟨_, _, _, rfl, rfl, by walk_at "cd"⟩
  | exact ⟨_, _, _, _, rfl, rfl, by walk_at "cd"⟩
  | exact ⟨_, _, _, _, _, rfl, rfl, by walk_at "cd"⟩
  | exact ⟨_, _, _, _, _, _, rfl, rfl, by walk_at "cd"⟩
  | exact ⟨_, _, _, _, _, _, _, rfl, rfl, by walk_at "cd"⟩
  | exact ⟨_, _, _, _, _, _, _, _, rfl, rfl, by walk_at "cd"⟩
  | exact ⟨_, _, _, _, _, _, _, _, _, rfl, rfl, by walk_at "cd"⟩
  | exact ⟨_, rfl, rfl, rfl, rfl, by walk_at "side"⟩
  | walk_at "lv")
local macro_rules | `(tactic| walk_at "kit") => `(tactic| first
  | exact kit_ii | exact kit_ib | exact kit_ll | exact kit_tt)
local macro_rules | `(tactic| walk_at "side") => `(tactic| first
  | assumption | exact sel_int _ _ _ | exact sel_bi _ _ _ | rfl | decide | omega | exact Nat.le_of_ble_eq_true rfl | (simp; done) | (simp; omega) | (refine Or.inl ⟨?_, ?_⟩ <;> decide) | (refine Or.inr ⟨?_, ?_⟩ <;> decide) | (refine Or.inl ⟨?_, ?_⟩ <;> omega) | (refine Or.inr ⟨?_, ?_⟩ <;> omega) | (rw [bi_xor]; refine Or.inl ⟨?_, ?_⟩ <;> omega) | (refine And.intro ?_ (And.intro ?_ ?_) <;> omega) | (refine And.intro ?_ ?_ <;> omega) | walk_at "lv")
/-- a list of numbers that is read only -/
def FrzP (K : PySem.W.Frag) (ns : List Int) (F : Addr → Prop) (H : Hp) (v : V) : Prop := ∃ a : Addr, v = .ref a ∧ ((H a = some (.lst (ns.map V.int)) ∧ ¬ F a) ∨ (∃ o, H a = some (.frz o (.lst (ns.map V.int)))) ∨
  ∃ (o : Obj) (its : Array Value) (n : Nat), K.lookup a = some o ∧ o.cls = .type "list" ∧ o.dict = none ∧ o.data = .seq its n ∧ its.size ≤ sizeLine ∧ Vals (ns.map V.int) its.toList)
def FrzI (K : PySem.W.Frag) (ns : List Int) : D := .ob (FrzP K ns)
theorem FrzP.sq {K : PySem.W.Frag} {ns : List Int} {F : Addr → Prop} {H : Hp} {v : V} (h : FrzP K ns F H v) : ∃ a, v = .ref a ∧ SqL K H a (ns.map V.int) := by
  obtain ⟨a, e, h | h | h⟩ := h
  · exact ⟨a, e, SqL.of h.1⟩
  · exact ⟨a, e, .inl (.inr h)⟩
  · exact ⟨a, e, .inr h⟩
theorem frz_of {K : PySem.W.Frag} {ns : List Int} {H : Hp} {a : Addr} (h : SqL K H a (ns.map V.int)) : RD K (fun _ => False) H (.ref a) (FrzI K ns) := by
  have ker : ∀ F' H', Ker (fun _ => False) H F' H' → FrzP K ns F' H' (.ref a) := fun F' H' k => by
    rcases h with (h | ⟨o, h⟩) | h
    · have := k.l a _ (fun z => z) h
      exact ⟨a, rfl, .inl this⟩
    · exact ⟨a, rfl, .inr (.inl ⟨o, k.k a _ h rfl⟩)⟩
    · exact ⟨a, rfl, .inr (.inr h)⟩
  exact ⟨ker _ _ (Ker.refl _ _), ker⟩
theorem rp_nums {K : PySem.W.Frag} {F : Addr → Prop} {H : Hp} : ∀ ns : List Int, RpAll K F H (ns.map V.int) (ns.map PyData.int)
  | [] => .nil
  | n :: ns => .cons (.int n) (rp_nums ns)
section
variable {X : Cx} {ρ ρ1 : List Sl} {a : Expr} {p p2 pos : Pos} {ns : List Int}
theorem de_lenF (ha : DE X ρ a (FrzI X.K ns) ρ1) (hm : X.mg "len" = none) (hg : Gl X "len" := by rfl) (he : starEach [a] X.env = (false, eval a X.env) :: starEach [] X.env := by rfl) : DE X ρ (.Call (.Name "len" p) [a] [] pos) (I (ns.length : Int)) ρ1 := by
  obtain ⟨_, p1, r1⟩ := ha
  refine ⟨_, pe_callB call_len_seq hg hm PySem.boot_len (pa_cons p1 pa_nil he) (by decide) (by decide) he, re_cb (ra_cons r1 ra_nil) fun F H vs q1 Q q => ?_⟩
  cases q1 with
  | cons g gs =>
    cases gs
    obtain ⟨t, rfl, h⟩ := FrzP.sq g.1
    refine ⟨t, _, rfl, .inl h, ?_⟩
    rw [List.length_map]
    exact q _ H (Same.refl _) (.int _)
theorem dl_slF {lo hi : Option Expr} {l h : Option Int} (ha : DE X ρ a (FrzI X.K ns) ρ) (h1 : DO X ρ lo l) (h2 : DO X ρ hi h) : DL X ρ (.Subscript a (.Slice lo hi none p2) pos) (cutD (ns.map PyData.int) l h) ρ := by
  obtain ⟨_, p1, r1⟩ := ha
  obtain ⟨_, q1, s1⟩ := h1
  obtain ⟨_, q2, s2⟩ := h2
  refine ⟨_, pe_slice sl_list p1 q1 q2, fun F0 F M H0 σ H Q S q => r1 F0 F M H0 σ H _ S fun v H1 S1 w1 o1 g1 => s1 F0 F M H0 σ H1 _ S1 fun H2 S2 o2 => s2 F0 F M H0 σ H2 _ S2 fun H3 S3 o3 => ?_⟩
  have g3 := (g1.ker (S1.ker o2)).ker (S2.ker o3)
  obtain ⟨t, rfl, h⟩ := FrzP.sq g3.1
  have oo := (o1.trans o2).trans o3
  refine ⟨t, _, rfl, h, fun t ht => ?_⟩
  obtain ⟨S4, r4⟩ := rl_of_new (te' := fun _ _ _ => True) S3 ht ((rp_nums ns).cut l _)
  exact q t _ _ (new_back S S3 oo ht) S4 (Shp.refl _) (oo.trans (Off.same (same_new ht))) upd_same r4
end
section
variable {Pg : Program} {w : World} {K : PySem.W.Frag} {mg : Str → Option Value} {base : Heap} {f CS CC : Addr} {fd : FuncData}
abbrev N_law : List Str := ["_law_script", "_law_begin", "_law_cells"]
abbrev P_law : List Str := ["_law_script"]
theorem sc_law : FnScope N_law P_law (defScope s_law) := ⟨rfl, rfl, rfl, by decide +kernel, rfl, by decide +kernel, by decide +kernel⟩
def p_law (K : PySem.W.Frag) : List D → D → Prop := fun ds d => ∃ ns : List Int, ds = [FrzI K ns] ∧ d = B true ∧ ns.length ≤ 100000
theorem ok_law (F : FnP K "law" "law" s_law f fd) (BT : Bl mg) (C_l_right : Cal Pg w K mg base "_law_right" 11 P_l_right (SpG K p_l_right selN)) : FnOk Pg w K mg base CX0 12 f fd P_law (SpD K (p_law K)) := by
  have C_l_right := C_l_right.less
  refine fn_mk F sc_law (fun ds d h => ?_) (by decide) fun cdv A outer s H E ds d hr h => ?_
  · obtain ⟨ns, rfl, rfl, _⟩ := h
    rfl
  · obtain ⟨ns, rfl, rfl, _⟩ := h
    have nd := sc_law.nd
    have cut : ∀ lo hi : Option Int, ∃ ms : List Int, cutD (ns.map PyData.int) lo hi = ms.map PyData.int := fun lo hi => by
      unfold cutD
      rw [← List.map_drop, ← List.map_take]
      exact ⟨_, rfl⟩
    have hL : (0 : Int) ≤ (ns.length : Int) := by omega
    have hm : ∀ L : Int, 0 ≤ L → 0 ≤ (if (1 : Int) < (if L < 16 then L else 16) then (if L < 16 then L else 16) else 1) ∧ (if (1 : Int) < (if L < 16 then L else 16) then (if L < 16 then L else 16) else 1) ≤ 1000000 := fun L h => by
      repeat' split
      all_goals omega
    obtain ⟨m1, m2⟩ := hm _ hL
    have rg := rgc_up (i := 0) (k := 16) (by decide) (by decide) m1 m2 (by decide) (by decide)
    refine dss_seqA (ds_for (fun i ρ => ∃ a b, ρ = [.val (FrzI K ns), a, b]) PassesOwn.never rfl (di_range3 de_int (de_max de_int (de_min de_int (de_lenF (de_var 0) BT.b_len) rfl BT.b_min) rfl BT.b_max) de_int rg BT.b_range) ⟨_, _, rfl⟩ (fun i ρi hi hI => ?_) fun ρ' hI => hI) fun ρ' hI => ?_
    · obtain ⟨a, b, rfl⟩ := hI
      refine ⟨_, _, (dg_name 1 nd), ?_⟩
      obtain ⟨ms, em⟩ := cut (some (0 + (i : Int) * 16)) (some (0 + (i : Int) * 16 + 16))
      refine dss_seq (ds_asg 2 nd (d := Li (ms.map PyData.int)) (DE.is (DL.ex (dl_slF (de_var 0) (do_some (de_var 1)) (do_some (de_add (de_var 1) de_int)))) (congrArg Li em)) rfl) ?_
      exact dss_one (ds_ifF (dt_not (dt_of (de_call C_l_right hr (da_cons (de_var 2) da_nil) ⟨ms, rfl, rfl⟩))) rfl (dss_nil ⟨_, _, rfl⟩))
    · obtain ⟨a, b, rfl⟩ := hI
      exact dss_one (ds_ret de_bl rfl)
end
end Bw
/-! Hd2: every def's promise out of what the head tells (printed by genfacts.py). -/
namespace Bw
open PySem PySem.Spec PyProof.Rows L2
theorem lk_mem {a : Addr} {o : Obj} {K : PySem.W.Frag} (h : K.lookup a = some o) : (a, o) ∈ K := He.lookup_mem h
theorem ints_of : ∀ {ns : List Int} {us : List Value}, Vals (ns.map V.int) us → IntsAre us ns
  | [], _, .nil => .nil
  | n :: ns, _, .cons ra rb => by
    obtain ⟨t, rfl⟩ := (show ∃ t, _ = Value.int n t from ra)
    exact .cons n t (ints_of rb)
theorem ktup_of {K : PySem.W.Frag} {mg : Str → Option Value} {x : Str} {ns : List Int} (hm : mg x = some (.ref (He.ga K x))) (h : ktB K x ns = true) : KTup K mg x ns := by
  unfold ktB at h
  cases q : K.lookup (He.ga K x) with
  | none => rw [q] at h; cases h
  | some o =>
    obtain ⟨oc, od, dt, osl⟩ := o
    rw [q] at h
    cases oc with
    | type c =>
      cases od with
      | none =>
        cases dt with
        | seq its n =>
          obtain ⟨h1, h2⟩ := He.ba h
          obtain ⟨h3, h4⟩ := He.ba h2
          exact ⟨_, _, its, n, hm, q, congrArg Value.type (of_decide_eq_true h1), rfl, rfl, of_decide_eq_true h3, ints_of (He.relAll_ok h4)⟩
        | _ => cases h
      | some a => cases dt <;> cases h
    | _ => cases od <;> cases dt <;> cases h
abbrev aeT (K : PySem.W.Frag) : Addr := (He.cT K ("all_errors", none)).2
theorem isTb_one {K : PySem.W.Frag} (e : tbOne K = true) {P : Addr} {q : Str} (h : IsTb K P q) : P = aeT K := by
  obtain ⟨c, o, vs, t, h1, h2, h3, h4, _⟩ := h
  have := List.all_eq_true.mp e _ (lk_mem h1)
  have e1 : vs.toList[1]? = some (.str "all_errors" t) := by rw [Array.getElem?_toList]; exact h3
  have e2 : vs.toList[11]? = some (.ref P) := by rw [Array.getElem?_toList]; exact h4
  simp only [h2, e1, e2] at this
  have e3 : (("all_errors" : Str) == "all_errors") = true := by decide +kernel
  rw [e3] at this
  simpa using this
theorem tbI_of {K : PySem.W.Frag} (e : tbOne K = true) {H : Hp} (h : H (aeT K) = some (.tbl #[])) : TbI K H := fun P q hq => by
  rw [isTb_one e hq]
  exact LamX.TabS.nil h
theorem isTb_at {K : PySem.W.Frag} (e : tbAt K = true) : IsTb K (aeT K) "all_errors.<locals>.<lambda>" := by
  unfold tbAt at e
  cases q : K.lookup (He.cT K ("all_errors", none)).1 with
  | none => rw [q] at e; cases e
  | some o =>
    rw [q] at e
    have e : (match o.data with
      | .fields vs => (match vs.toList[1]?, vs.toList[11]? with
        | some (Value.str s _), some (Value.ref P) => (s == ("all_errors" : Str)) && decide (P = (He.cT K ("all_errors", none)).2)
        | _, _ => false)
      | _ => false) = true := e
    split at e
    · rename_i vs hd
      split at e
      · rename_i s t P h1 h2
        obtain ⟨h3, h4⟩ := He.ba e
        have h5 := of_decide_eq_true h4
        have h6 : s = "all_errors" := by simpa using h3
        subst h6
        refine ⟨_, o, vs, t, q, hd, by rw [← Array.getElem?_toList]; exact h1, ?_, rfl⟩
        rw [← Array.getElem?_toList, h2, h5]
      · cases e
    · cases e
theorem tbc_of {K : PySem.W.Frag} {mg : Str → Option Value} {base : Heap} {fd : FuncData} (c : He.SaysD fa fn K) (e1 : tbOne K = true) (e2 : tbAt K = true) (F : FunD K "all_errors" "all_errors" (defArgs s_all_errors) (defBody s_all_errors) (defScope s_all_errors) [] [] (He.fAd K ("all_errors", none)) fd) (TB : LamX.TabB base mg (He.cT K ("all_errors", none)).1 (He.cT K ("all_errors", none)).2) : TbC K mg base fd := by
  obtain ⟨oc, od, dV, kV, doc, pm, an, cdv, ct, osl, rfl, lk, hcd, hD, hK⟩ := F.ex
  obtain ⟨cc, rfl⟩ := He.codeIn_ref hcd
  have ec := He.codeOf_eq lk (c := cc) rfl
  refine ⟨cc, aeT K, rfl, ?_, isTb_at e2⟩
  have : (He.cT K ("all_errors", none)).1 = cc := ec
  rw [← this]
  exact TB
theorem facts {Pg : Program} {w : World} {K : PySem.W.Frag} {mg : Str → Option Value} {base : Heap} (X : K.In base) (G : base.Ns mainGlobals mg) (c : He.SaysD fa fn K) (e : ex K = true) (TB : LamX.TabB base mg (He.cT K ("all_errors", none)).1 (He.cT K ("all_errors", none)).2) {fd_law : FuncData} (F_law : FunD K "law" "law" (defArgs s_law) (defBody s_law) (defScope s_law) [] [] (He.ga K "law") fd_law) :
    FnOk Pg w K mg base CX0 12 (He.ga K "law") fd_law P_law (SpD K (p_law K)) := by
  obtain ⟨ek, e⟩ := He.ba e
  obtain ⟨k1, k2⟩ := He.ba ek
  obtain ⟨ei, e⟩ := He.ba e
  obtain ⟨e1, e2⟩ := He.ba e
  obtain ⟨i1, ei⟩ := He.ba ei
  obtain ⟨i2, ei⟩ := He.ba ei
  obtain ⟨i3, i4⟩ := He.ba ei
  have BT : Bl mg := ⟨He.free_ok X G (c.fact 66 rfl), He.free_ok X G (c.fact 67 rfl), He.free_ok X G (c.fact 68 rfl), He.free_ok X G (c.fact 69 rfl), He.free_ok X G (c.fact 70 rfl), He.free_ok X G (c.fact 71 rfl), He.free_ok X G (c.fact 72 rfl), He.free_ok X G (c.fact 73 rfl), He.free_ok X G (c.fact 74 rfl), He.free_ok X G (c.fact 75 rfl), He.free_ok X G (c.fact 76 rfl), He.free_ok X G (c.fact 77 rfl), He.free_ok X G (c.fact 78 rfl), He.free_ok X G (c.fact 79 rfl), He.free_ok X G (c.fact 80 rfl), He.free_ok X G (c.fact 81 rfl)⟩
  have GK : GkP K mg (He.ga K "State") (He.ga K "Code") := ⟨He.cls_ok (c.fact 52 rfl), He.cls_ok (c.fact 55 rfl), He.noat_ok (c.fact 54 rfl), He.noat_ok (c.fact 57 rfl), He.eqO_ok i1, He.eqO_ok i2, of_decide_eq_true i3, of_decide_eq_true i4, He.glo_ok X G (c.fact 47 rfl), ktup_of (He.glo_ok X G (c.fact 50 rfl)) k2, ktup_of (He.glo_ok X G (c.fact 49 rfl)) k1, He.int_ok X G (c.fact 51 rfl)⟩
  obtain ⟨fd_is_whole, F_is_whole⟩ := c.def_ 0 (d := mkD ("is_whole", none) "is_whole" "is_whole" s_is_whole) rfl
  have C_is_whole : Cal Pg w K mg base "is_whole" 1 P_is_whole (SpD K p_is_whole) := ⟨⟨_, fd_is_whole, He.glo_ok X G (c.fact 0 rfl), F_is_whole.kp, (F_is_whole.bindsN fun _ _ _ _ _ _ us hl => match us, hl with | [_], _ => rfl), ok_is_whole F_is_whole BT⟩⟩
  obtain ⟨fd_lowest, F_lowest⟩ := c.def_ 1 (d := mkD ("lowest", none) "lowest" "lowest" s_lowest) rfl
  have C_lowest : Cal Pg w K mg base "lowest" 1 P_lowest (SpD K p_lowest) := ⟨⟨_, fd_lowest, He.glo_ok X G (c.fact 1 rfl), F_lowest.kp, (F_lowest.bindsN fun _ _ _ _ _ _ us hl => match us, hl with | [_, _, _, _, _], _ => rfl), ok_lowest F_lowest BT⟩⟩
  obtain ⟨fd_is_eighth, F_is_eighth⟩ := c.def_ 2 (d := mkD ("is_eighth", none) "is_eighth" "is_eighth" s_is_eighth) rfl
  have C_is_eighth : Cal Pg w K mg base "is_eighth" 2 P_is_eighth (SpD K p_is_eighth) := ⟨⟨_, fd_is_eighth, He.glo_ok X G (c.fact 2 rfl), F_is_eighth.kp, (F_is_eighth.bindsN fun _ _ _ _ _ _ us hl => match us, hl with | [_], _ => rfl), ok_is_eighth F_is_eighth BT C_is_whole C_lowest⟩⟩
  obtain ⟨fd_turned, F_turned⟩ := c.def_ 3 (d := mkD ("turned", none) "turned" "turned" s_turned) rfl
  have C_turned : Cal Pg w K mg base "turned" 2 P_turned (SpD K p_turned) := ⟨⟨_, fd_turned, He.glo_ok X G (c.fact 3 rfl), F_turned.kp, (F_turned.bindsN fun _ _ _ _ _ _ us hl => match us, hl with | [_, _], _ => rfl), ok_turned F_turned BT C_is_whole⟩⟩
  obtain ⟨fd_State_init, F_State_init⟩ := c.def_ 4 (d := mkD ("State", some "__init__") "__init__" "State.__init__" s_State_init) rfl
  have C_State : CaI Pg w K mg base "State" (He.ga K "State") 3 P_State_init (SpI K (He.ga K "State") "kept" p_State_init) := ⟨He.glo_ok X G (c.fact 47 rfl), ⟨_, fd_State_init, He.mkr_ok (c.fact 53 rfl), (F_State_init.bindsN fun _ _ _ _ _ _ us hl => match us, hl with | [_, _], _ => rfl), ok_State_init F_State_init BT GK C_is_eighth⟩⟩
  obtain ⟨fd_State_many, F_State_many⟩ := c.def_ 5 (d := mkD ("State", some "many") "many" "State.many" s_State_many) rfl
  have M_State_many : Cam Pg w K mg base (He.ga K "State") "many" 1 P_State_many (SpD K (p_State_many (K := K) (CS := (He.ga K "State")))) := ⟨He.cls_ok (c.fact 52 rfl), ⟨_, fd_State_many, He.meth_ok (c.fact 58 rfl), (F_State_many.bindsN fun _ _ _ _ _ _ us hl => match us, hl with | [_], _ => rfl), ok_State_many F_State_many BT GK⟩⟩
  obtain ⟨fd_State_eighths, F_State_eighths⟩ := c.def_ 6 (d := mkD ("State", some "eighths") "eighths" "State.eighths" s_State_eighths) rfl
  have M_State_eighths : Cam Pg w K mg base (He.ga K "State") "eighths" 1 P_State_eighths (SpD K (p_State_eighths (K := K) (CS := (He.ga K "State")))) := ⟨He.cls_ok (c.fact 52 rfl), ⟨_, fd_State_eighths, He.meth_ok (c.fact 59 rfl), (F_State_eighths.bindsN fun _ _ _ _ _ _ us hl => match us, hl with | [_], _ => rfl), ok_State_eighths F_State_eighths BT GK⟩⟩
  obtain ⟨fd_is_bit_row, F_is_bit_row⟩ := c.def_ 7 (d := mkD ("is_bit_row", none) "is_bit_row" "is_bit_row" s_is_bit_row) rfl
  have C_is_bit_row : Cal Pg w K mg base "is_bit_row" 2 P_is_bit_row (SpD K p_is_bit_row) := ⟨⟨_, fd_is_bit_row, He.glo_ok X G (c.fact 4 rfl), F_is_bit_row.kp, (F_is_bit_row.bindsN fun _ _ _ _ _ _ us hl => match us, hl with | [_], _ => rfl), ok_is_bit_row F_is_bit_row BT GK C_is_whole⟩⟩
  obtain ⟨fd_is_sign_row, F_is_sign_row⟩ := c.def_ 8 (d := mkD ("is_sign_row", none) "is_sign_row" "is_sign_row" s_is_sign_row) rfl
  have C_is_sign_row : Cal Pg w K mg base "is_sign_row" 3 P_is_sign_row (SpD K p_is_sign_row) := ⟨⟨_, fd_is_sign_row, He.glo_ok X G (c.fact 5 rfl), F_is_sign_row.kp, (F_is_sign_row.bindsN fun _ _ _ _ _ _ us hl => match us, hl with | [_], _ => rfl), ok_is_sign_row F_is_sign_row BT GK C_is_whole C_is_bit_row⟩⟩
  obtain ⟨fd_need_alike, F_need_alike⟩ := c.def_ 9 (d := mkD ("need_alike", none) "need_alike" "need_alike" s_need_alike) rfl
  have C_need_alike : Cal Pg w K mg base "need_alike" 4 P_need_alike (SpD K p_need_alike) := ⟨⟨_, fd_need_alike, He.glo_ok X G (c.fact 6 rfl), F_need_alike.kp, (F_need_alike.bindsN fun _ _ _ _ _ _ us hl => match us, hl with | [_, _], _ => rfl), ok_need_alike F_need_alike BT C_is_sign_row⟩⟩
  obtain ⟨fd_turns_at, F_turns_at⟩ := c.def_ 10 (d := mkD ("turns_at", none) "turns_at" "turns_at" s_turns_at) rfl
  have C_turns_at : Cal Pg w K mg base "turns_at" 1 P_turns_at (SpD K p_turns_at) := ⟨⟨_, fd_turns_at, He.glo_ok X G (c.fact 7 rfl), F_turns_at.kp, (F_turns_at.bindsN fun _ _ _ _ _ _ us hl => match us, hl with | [_, _, _], _ => rfl), ok_turns_at F_turns_at BT⟩⟩
  obtain ⟨fd_done, F_done⟩ := c.def_ 11 (d := mkD ("done", none) "done" "done" s_done) rfl
  have C_done : Cal Pg w K mg base "done" 5 P_done (SpD K (p_done (K := K) (CS := (He.ga K "State")))) := ⟨⟨_, fd_done, He.glo_ok X G (c.fact 8 rfl), F_done.kp, (F_done.bindsN fun _ _ _ _ _ _ us hl => match us, hl with | [_, _], _ => rfl), ok_done F_done BT GK C_is_sign_row C_turned C_turns_at C_State M_State_many M_State_eighths⟩⟩
  obtain ⟨fd_goes_with, F_goes_with⟩ := c.def_ 12 (d := mkD ("goes_with", none) "goes_with" "goes_with" s_goes_with) rfl
  have C_goes_with : Cal Pg w K mg base "goes_with" 5 P_goes_with (SpD K p_goes_with) := ⟨⟨_, fd_goes_with, He.glo_ok X G (c.fact 9 rfl), F_goes_with.kp, (F_goes_with.bindsN fun _ _ _ _ _ _ us hl => match us, hl with | [_, _], _ => rfl), ok_goes_with F_goes_with BT C_need_alike⟩⟩
  obtain ⟨fd_product, F_product⟩ := c.def_ 13 (d := mkD ("product", none) "product" "product" s_product) rfl
  have C_product : Cal Pg w K mg base "product" 5 P_product (SpD K p_product) := ⟨⟨_, fd_product, He.glo_ok X G (c.fact 10 rfl), F_product.kp, (F_product.bindsN fun _ _ _ _ _ _ us hl => match us, hl with | [_, _], _ => rfl), ok_product F_product BT C_need_alike⟩⟩
  obtain ⟨fd_both, F_both⟩ := c.def_ 14 (d := mkD ("both", none) "both" "both" s_both) rfl
  have C_both : Cal Pg w K mg base "both" 6 P_both (SpD K p_both) := ⟨⟨_, fd_both, He.glo_ok X G (c.fact 11 rfl), F_both.kp, (F_both.bindsN fun _ _ _ _ _ _ us hl => match us, hl with | [_, _], _ => rfl), ok_both F_both BT C_product⟩⟩
  obtain ⟨fd_bits_of, F_bits_of⟩ := c.def_ 15 (d := mkD ("bits_of", none) "bits_of" "bits_of" s_bits_of) rfl
  have C_bits_of : Cal Pg w K mg base "bits_of" 1 P_bits_of (SpD K p_bits_of) := ⟨⟨_, fd_bits_of, He.glo_ok X G (c.fact 12 rfl), F_bits_of.kp, (F_bits_of.bindsN fun _ _ _ _ _ _ us hl => match us, hl with | [_], _ => rfl), ok_bits_of F_bits_of BT⟩⟩
  obtain ⟨fd_go_together, F_go_together⟩ := c.def_ 16 (d := mkD ("go_together", none) "go_together" "go_together" s_go_together) rfl
  have C_go_together : Cal Pg w K mg base "go_together" 6 P_go_together (SpD K p_go_together) := ⟨⟨_, fd_go_together, He.glo_ok X G (c.fact 13 rfl), F_go_together.kp, (F_go_together.bindsN fun _ _ _ _ _ _ us hl => match us, hl with | [_], _ => rfl), ok_go_together F_go_together BT C_is_sign_row C_goes_with⟩⟩
  obtain ⟨fd_cleared, F_cleared⟩ := c.def_ 17 (d := mkD ("cleared", none) "cleared" "cleared" s_cleared) rfl
  have C_cleared : Cal Pg w K mg base "cleared" 7 P_cleared (SpD K p_cleared) := ⟨⟨_, fd_cleared, He.glo_ok X G (c.fact 14 rfl), F_cleared.kp, (F_cleared.bindsN fun _ _ _ _ _ _ us hl => match us, hl with | [_], _ => rfl), ok_cleared F_cleared BT C_both C_bits_of⟩⟩
  obtain ⟨fd_reduced, F_reduced⟩ := c.def_ 18 (d := mkD ("reduced", none) "reduced" "reduced" s_reduced) rfl
  have C_reduced : Cal Pg w K mg base "reduced" 7 P_reduced (SpD K p_reduced) := ⟨⟨_, fd_reduced, He.glo_ok X G (c.fact 15 rfl), F_reduced.kp, (F_reduced.bindsN fun _ _ _ _ _ _ us hl => match us, hl with | [_, _], _ => rfl), ok_reduced F_reduced BT C_both C_bits_of⟩⟩
  obtain ⟨fd_bit_rows, F_bit_rows⟩ := c.def_ 19 (d := mkD ("bit_rows", none) "bit_rows" "bit_rows" s_bit_rows) rfl
  have C_bit_rows : Cal Pg w K mg base "bit_rows" 1 P_bit_rows (SpD K p_bit_rows) := ⟨⟨_, fd_bit_rows, He.glo_ok X G (c.fact 16 rfl), F_bit_rows.kp, (F_bit_rows.bindsN fun _ _ _ _ _ _ us hl => match us, hl with | [_], _ => rfl), ok_bit_rows F_bit_rows BT⟩⟩
  obtain ⟨fd_size_of, F_size_of⟩ := c.def_ 20 (d := mkD ("size_of", none) "size_of" "size_of" s_size_of) rfl
  have C_size_of : Cal Pg w K mg base "size_of" 1 P_size_of (SpD K p_size_of) := ⟨⟨_, fd_size_of, He.glo_ok X G (c.fact 17 rfl), F_size_of.kp, (F_size_of.bindsN fun _ _ _ _ _ _ us hl => match us, hl with | [_], _ => rfl), ok_size_of F_size_of BT⟩⟩
  obtain ⟨fd_all_errors, F_all_errors⟩ := c.def_ 21 (d := mkD ("all_errors", none) "all_errors" "all_errors" s_all_errors) rfl
  have C_all_errors : Cal Pg w K mg base "all_errors" 4 P_all_errors (SpD K p_all_errors) := ⟨⟨_, fd_all_errors, He.glo_ok X G (c.fact 18 rfl), F_all_errors.kp, (F_all_errors.bindsN fun _ _ _ _ _ _ us hl => match us, hl with | [_], _ => rfl), ok_all_errors F_all_errors BT (tbc_of c e1 e2 F_all_errors TB) C_bit_rows C_size_of⟩⟩
  obtain ⟨fd_Code_init, F_Code_init⟩ := c.def_ 22 (d := mkD ("Code", some "__init__") "__init__" "Code.__init__" s_Code_init) rfl
  have C_Code : CaI Pg w K mg base "Code" (He.ga K "Code") 8 P_Code_init (SpI K (He.ga K "Code") "kept" p_Code_init) := ⟨He.glo_ok X G (c.fact 48 rfl), ⟨_, fd_Code_init, He.mkr_ok (c.fact 56 rfl), (F_Code_init.bindsN fun _ _ _ _ _ _ us hl => match us, hl with | [_, _], _ => rfl), ok_Code_init F_Code_init BT GK C_go_together C_cleared⟩⟩
  obtain ⟨fd_Code_many, F_Code_many⟩ := c.def_ 23 (d := mkD ("Code", some "many") "many" "Code.many" s_Code_many) rfl
  have M_Code_many : Cam Pg w K mg base (He.ga K "Code") "many" 1 P_Code_many (SpD K (p_Code_many (K := K) (CC := (He.ga K "Code")))) := ⟨He.cls_ok (c.fact 55 rfl), ⟨_, fd_Code_many, He.meth_ok (c.fact 60 rfl), (F_Code_many.bindsN fun _ _ _ _ _ _ us hl => match us, hl with | [_], _ => rfl), ok_Code_many F_Code_many BT GK⟩⟩
  obtain ⟨fd_Code_rows, F_Code_rows⟩ := c.def_ 24 (d := mkD ("Code", some "rows") "rows" "Code.rows" s_Code_rows) rfl
  have M_Code_rows : Cam Pg w K mg base (He.ga K "Code") "rows" 1 P_Code_rows (SpD K (p_Code_rows (K := K) (CC := (He.ga K "Code")))) := ⟨He.cls_ok (c.fact 55 rfl), ⟨_, fd_Code_rows, He.meth_ok (c.fact 61 rfl), (F_Code_rows.bindsN fun _ _ _ _ _ _ us hl => match us, hl with | [_], _ => rfl), ok_Code_rows F_Code_rows BT GK⟩⟩
  obtain ⟨fd_Code_need_error, F_Code_need_error⟩ := c.def_ 25 (d := mkD ("Code", some "need_error") "need_error" "Code.need_error" s_Code_need_error) rfl
  have M_Code_need_error : Cam Pg w K mg base (He.ga K "Code") "need_error" 4 P_Code_need_error (SpD K (p_Code_need_error (K := K) (CC := (He.ga K "Code")))) := ⟨He.cls_ok (c.fact 55 rfl), ⟨_, fd_Code_need_error, He.meth_ok (c.fact 62 rfl), (F_Code_need_error.bindsN fun _ _ _ _ _ _ us hl => match us, hl with | [_, _], _ => rfl), ok_Code_need_error F_Code_need_error BT GK C_is_sign_row M_Code_many⟩⟩
  obtain ⟨fd_Code_signs, F_Code_signs⟩ := c.def_ 26 (d := mkD ("Code", some "signs") "signs" "Code.signs" s_Code_signs) rfl
  have M_Code_signs : Cam Pg w K mg base (He.ga K "Code") "signs" 6 P_Code_signs (SpD K (p_Code_signs (K := K) (CC := (He.ga K "Code")))) := ⟨He.cls_ok (c.fact 55 rfl), ⟨_, fd_Code_signs, He.meth_ok (c.fact 63 rfl), (F_Code_signs.bindsN fun _ _ _ _ _ _ us hl => match us, hl with | [_, _], _ => rfl), ok_Code_signs F_Code_signs BT GK C_goes_with M_Code_need_error⟩⟩
  obtain ⟨fd_Code_same, F_Code_same⟩ := c.def_ 27 (d := mkD ("Code", some "same") "same" "Code.same" s_Code_same) rfl
  have M_Code_same : Cam Pg w K mg base (He.ga K "Code") "same" 8 P_Code_same (SpD K (p_Code_same (K := K) (CC := (He.ga K "Code")))) := ⟨He.cls_ok (c.fact 55 rfl), ⟨_, fd_Code_same, He.meth_ok (c.fact 64 rfl), (F_Code_same.bindsN fun _ _ _ _ _ _ us hl => match us, hl with | [_, _, _], _ => rfl), ok_Code_same F_Code_same BT GK C_product C_reduced C_bits_of M_Code_need_error⟩⟩
  obtain ⟨fd_Code_far, F_Code_far⟩ := c.def_ 28 (d := mkD ("Code", some "far") "far" "Code.far" s_Code_far) rfl
  have M_Code_far : Cam Pg w K mg base (He.ga K "Code") "far" 9 P_Code_far (SpD K (p_Code_far (K := K) (CC := (He.ga K "Code")))) := ⟨He.cls_ok (c.fact 55 rfl), ⟨_, fd_Code_far, He.meth_ok (c.fact 65 rfl), (F_Code_far.bindsN fun _ _ _ _ _ _ us hl => match us, hl with | [_], _ => rfl), ok_Code_far F_Code_far BT GK C_all_errors C_size_of M_Code_many M_Code_signs M_Code_same⟩⟩
  obtain ⟨fd_errors, F_errors⟩ := c.def_ 29 (d := mkD ("errors", none) "errors" "errors" s_errors) rfl
  have C_errors : Cal Pg w K mg base "errors" 5 P_errors (SpD K p_errors) := ⟨⟨_, fd_errors, He.glo_ok X G (c.fact 19 rfl), F_errors.kp, (F_errors.bindsN fun _ _ _ _ _ _ us hl => match us, hl with | [_, _], _ => rfl), ok_errors F_errors BT GK C_is_whole C_all_errors C_size_of⟩⟩
  obtain ⟨fd_mends, F_mends⟩ := c.def_ 30 (d := mkD ("mends", none) "mends" "mends" s_mends) rfl
  have C_mends : Cal Pg w K mg base "mends" 9 P_mends (SpG K (p_mends (K := K) (CC := (He.ga K "Code"))) selM) := ⟨⟨_, fd_mends, He.glo_ok X G (c.fact 20 rfl), F_mends.kp, (F_mends.bindsN fun _ _ _ _ _ _ us hl => match us, hl with | [_, _], _ => rfl), ok_mends F_mends BT GK C_errors M_Code_many M_Code_signs M_Code_same⟩⟩
  obtain ⟨fd_signs_of, F_signs_of⟩ := c.def_ 31 (d := mkD ("signs_of", none) "signs_of" "signs_of" s_signs_of) rfl
  have C_signs_of : Cal Pg w K mg base "signs_of" 6 P_signs_of (SpD K (p_signs_of (K := K) (CS := (He.ga K "State")) (CC := (He.ga K "Code")))) := ⟨⟨_, fd_signs_of, He.glo_ok X G (c.fact 21 rfl), F_signs_of.kp, (F_signs_of.bindsN fun _ _ _ _ _ _ us hl => match us, hl with | [_, _], _ => rfl), ok_signs_of F_signs_of BT GK C_done C_turned M_Code_rows M_State_eighths⟩⟩
  obtain ⟨fd_mended, F_mended⟩ := c.def_ 32 (d := mkD ("mended", none) "mended" "mended" s_mended) rfl
  have C_mended : Cal Pg w K mg base "mended" 7 P_mended (SpD K (p_mended (K := K) (CS := (He.ga K "State")) (CC := (He.ga K "Code")))) := ⟨⟨_, fd_mended, He.glo_ok X G (c.fact 22 rfl), F_mended.kp, (F_mended.bindsN fun _ _ _ _ _ _ us hl => match us, hl with | [_, _, _], _ => rfl), ok_mended F_mended BT GK C_done C_signs_of M_Code_many M_State_many⟩⟩
  obtain ⟨fd_l_draw, F_l_draw⟩ := c.def_ 33 (d := mkD ("_law_draw", none) "_law_draw" "_law_draw" s_l_draw) rfl
  have C_l_draw : Cal Pg w K mg base "_law_draw" 1 P_l_draw (SpS K p_l_draw) := ⟨⟨_, fd_l_draw, He.glo_ok X G (c.fact 23 rfl), F_l_draw.kp, (F_l_draw.bindsN fun _ _ _ _ _ _ us hl => match us, hl with | [_, _], _ => rfl), ok_l_draw F_l_draw BT⟩⟩
  obtain ⟨fd_l_state, F_l_state⟩ := c.def_ 34 (d := mkD ("_law_state", none) "_law_state" "_law_state" s_l_state) rfl
  have C_l_state : Cal Pg w K mg base "_law_state" 1 P_l_state (SpG K p_l_state selS) := ⟨⟨_, fd_l_state, He.glo_ok X G (c.fact 24 rfl), F_l_state.kp, (F_l_state.bindsN fun _ _ _ _ _ _ us hl => match us, hl with | [_, _], _ => rfl), ok_l_stateN F_l_state BT⟩⟩
  obtain ⟨fd_l_turned, F_l_turned⟩ := c.def_ 35 (d := mkD ("_law_turned", none) "_law_turned" "_law_turned" s_l_turned) rfl
  have C_l_turned : Cal Pg w K mg base "_law_turned" 1 P_l_turned (SpD K p_l_turned) := ⟨⟨_, fd_l_turned, He.glo_ok X G (c.fact 25 rfl), F_l_turned.kp, (F_l_turned.bindsN fun _ _ _ _ _ _ us hl => match us, hl with | [_, _], _ => rfl), ok_l_turned F_l_turned BT⟩⟩
  obtain ⟨fd_l_sum, F_l_sum⟩ := c.def_ 36 (d := mkD ("_law_sum", none) "_law_sum" "_law_sum" s_l_sum) rfl
  have C_l_sum : Cal Pg w K mg base "_law_sum" 1 P_l_sum (SpD K p_l_sum) := ⟨⟨_, fd_l_sum, He.glo_ok X G (c.fact 26 rfl), F_l_sum.kp, (F_l_sum.bindsN fun _ _ _ _ _ _ us hl => match us, hl with | [_, _], _ => rfl), ok_l_sum F_l_sum BT⟩⟩
  obtain ⟨fd_l_done, F_l_done⟩ := c.def_ 37 (d := mkD ("_law_done", none) "_law_done" "_law_done" s_l_done) rfl
  have C_l_done : Cal Pg w K mg base "_law_done" 2 P_l_done (SpD K p_l_done) := ⟨⟨_, fd_l_done, He.glo_ok X G (c.fact 27 rfl), F_l_done.kp, (F_l_done.bindsN fun _ _ _ _ _ _ us hl => match us, hl with | [_, _], _ => rfl), ok_l_done F_l_done BT C_l_turned⟩⟩
  obtain ⟨fd_l_put, F_l_put⟩ := c.def_ 38 (d := mkD ("_law_put", none) "_law_put" "_law_put" s_l_put) rfl
  have C_l_put : Cal Pg w K mg base "_law_put" 1 P_l_put (SpD K p_l_put) := ⟨⟨_, fd_l_put, He.glo_ok X G (c.fact 28 rfl), F_l_put.kp, (F_l_put.bindsN fun _ _ _ _ _ _ us hl => match us, hl with | [_, _, _], _ => rfl), ok_l_put F_l_put BT⟩⟩
  obtain ⟨fd_l_behind, F_l_behind⟩ := c.def_ 39 (d := mkD ("_law_behind", none) "_law_behind" "_law_behind" s_l_behind) rfl
  have C_l_behind : Cal Pg w K mg base "_law_behind" 2 P_l_behind (SpD K p_l_behind) := ⟨⟨_, fd_l_behind, He.glo_ok X G (c.fact 29 rfl), F_l_behind.kp, (F_l_behind.bindsN fun _ _ _ _ _ _ us hl => match us, hl with | [_, _, _], _ => rfl), ok_l_behind F_l_behind BT C_l_put⟩⟩
  obtain ⟨fd_l_both, F_l_both⟩ := c.def_ 40 (d := mkD ("_law_both", none) "_law_both" "_law_both" s_l_both) rfl
  have C_l_both : Cal Pg w K mg base "_law_both" 1 P_l_both (SpD K p_l_both) := ⟨⟨_, fd_l_both, He.glo_ok X G (c.fact 30 rfl), F_l_both.kp, (F_l_both.bindsN fun _ _ _ _ _ _ us hl => match us, hl with | [_, _], _ => rfl), ok_l_both F_l_both BT⟩⟩
  obtain ⟨fd_l_group, F_l_group⟩ := c.def_ 41 (d := mkD ("_law_group", none) "_law_group" "_law_group" s_l_group) rfl
  have C_l_group : Cal Pg w K mg base "_law_group" 2 P_l_group (SpD K (p_l_group Pg w K)) := ⟨⟨_, fd_l_group, He.glo_ok X G (c.fact 31 rfl), F_l_group.kp, (F_l_group.bindsN fun _ _ _ _ _ _ us hl => match us, hl with | [_], _ => rfl), ok_l_group F_l_group BT C_l_both⟩⟩
  obtain ⟨fd_l_unlike, F_l_unlike⟩ := c.def_ 42 (d := mkD ("_law_unlike", none) "_law_unlike" "_law_unlike" s_l_unlike) rfl
  have C_l_unlike : Cal Pg w K mg base "_law_unlike" 1 P_l_unlike (SpD K p_l_unlike) := ⟨⟨_, fd_l_unlike, He.glo_ok X G (c.fact 32 rfl), F_l_unlike.kp, (F_l_unlike.bindsN fun _ _ _ _ _ _ us hl => match us, hl with | [_, _], _ => rfl), ok_l_unlike F_l_unlike BT⟩⟩
  obtain ⟨fd_l_table, F_l_table⟩ := c.def_ 43 (d := mkD ("_law_table", none) "_law_table" "_law_table" s_l_table) rfl
  have C_l_table : Cal Pg w K mg base "_law_table" 3 P_l_table (SpS K p_l_table) := ⟨⟨_, fd_l_table, He.glo_ok X G (c.fact 33 rfl), F_l_table.kp, (F_l_table.bindsN fun _ _ _ _ _ _ us hl => match us, hl with | [_, _, _], _ => rfl), ok_l_table F_l_table BT C_l_draw C_l_put C_l_behind⟩⟩
  obtain ⟨fd_l_mixed, F_l_mixed⟩ := c.def_ 44 (d := mkD ("_law_mixed", none) "_law_mixed" "_law_mixed" s_l_mixed) rfl
  have C_l_mixed : Cal Pg w K mg base "_law_mixed" 2 P_l_mixed (SpS K p_l_mixed) := ⟨⟨_, fd_l_mixed, He.glo_ok X G (c.fact 34 rfl), F_l_mixed.kp, (F_l_mixed.bindsN fun _ _ _ _ _ _ us hl => match us, hl with | [_, _], _ => rfl), ok_l_mixed F_l_mixed BT C_l_draw C_l_both⟩⟩
  obtain ⟨fd_l_code, F_l_code⟩ := c.def_ 45 (d := mkD ("_law_code", none) "_law_code" "_law_code" s_l_code) rfl
  have C_l_code : Cal Pg w K mg base "_law_code" 4 P_l_code (SpS K p_l_code) := ⟨⟨_, fd_l_code, He.glo_ok X G (c.fact 35 rfl), F_l_code.kp, (F_l_code.bindsN fun _ _ _ _ _ _ us hl => match us, hl with | [_], _ => rfl), ok_l_code F_l_code BT C_l_draw C_l_table C_l_mixed⟩⟩
  obtain ⟨fd_l_bits, F_l_bits⟩ := c.def_ 46 (d := mkD ("_law_bits", none) "_law_bits" "_law_bits" s_l_bits) rfl
  have C_l_bits : Cal Pg w K mg base "_law_bits" 1 P_l_bits (SpD K p_l_bits) := ⟨⟨_, fd_l_bits, He.glo_ok X G (c.fact 36 rfl), F_l_bits.kp, (F_l_bits.bindsN fun _ _ _ _ _ _ us hl => match us, hl with | [_], _ => rfl), ok_l_bits F_l_bits BT⟩⟩
  obtain ⟨fd_l_size, F_l_size⟩ := c.def_ 47 (d := mkD ("_law_size", none) "_law_size" "_law_size" s_l_size) rfl
  have C_l_size : Cal Pg w K mg base "_law_size" 1 P_l_size (SpD K p_l_size) := ⟨⟨_, fd_l_size, He.glo_ok X G (c.fact 37 rfl), F_l_size.kp, (F_l_size.bindsN fun _ _ _ _ _ _ us hl => match us, hl with | [_], _ => rfl), ok_l_size F_l_size BT⟩⟩
  obtain ⟨fd_l_all_errors, F_l_all_errors⟩ := c.def_ 48 (d := mkD ("_law_all_errors", none) "_law_all_errors" "_law_all_errors" s_l_all_errors) rfl
  have C_l_all_errors : Cal Pg w K mg base "_law_all_errors" 2 P_l_all_errors (SpD K p_all_errors) := ⟨⟨_, fd_l_all_errors, He.glo_ok X G (c.fact 38 rfl), F_l_all_errors.kp, (F_l_all_errors.bindsN fun _ _ _ _ _ _ us hl => match us, hl with | [_], _ => rfl), ok_l_all_errors F_l_all_errors BT C_l_bits C_l_size⟩⟩
  obtain ⟨fd_l_product_bits, F_l_product_bits⟩ := c.def_ 49 (d := mkD ("_law_product_bits", none) "_law_product_bits" "_law_product_bits" s_l_product_bits) rfl
  have C_l_product_bits : Cal Pg w K mg base "_law_product_bits" 1 P_l_product_bits (SpD K p_l_product_bits) := ⟨⟨_, fd_l_product_bits, He.glo_ok X G (c.fact 39 rfl), F_l_product_bits.kp, (F_l_product_bits.bindsN fun _ _ _ _ _ _ us hl => match us, hl with | [_, _], _ => rfl), ok_l_product_bits F_l_product_bits BT⟩⟩
  obtain ⟨fd_l_signs, F_l_signs⟩ := c.def_ 50 (d := mkD ("_law_signs", none) "_law_signs" "_law_signs" s_l_signs) rfl
  have C_l_signs : Cal Pg w K mg base "_law_signs" 2 P_l_signs (SpD K (p_l_signs (K := K))) := ⟨⟨_, fd_l_signs, He.glo_ok X G (c.fact 40 rfl), F_l_signs.kp, (F_l_signs.bindsN fun _ _ _ _ _ _ us hl => match us, hl with | [_, _], _ => rfl), ok_l_signs F_l_signs BT C_l_unlike⟩⟩
  obtain ⟨fd_l_code_numbers, F_l_code_numbers⟩ := c.def_ 51 (d := mkD ("_law_code_numbers", none) "_law_code_numbers" "_law_code_numbers" s_l_code_numbers) rfl
  have C_l_code_numbers : Cal Pg w K mg base "_law_code_numbers" 3 P_l_code_numbers (SpD K p_l_code_numbers) := ⟨⟨_, fd_l_code_numbers, He.glo_ok X G (c.fact 41 rfl), F_l_code_numbers.kp, (F_l_code_numbers.bindsN fun _ _ _ _ _ _ us hl => match us, hl with | [_, _], _ => rfl), ok_l_code_numbers F_l_code_numbers BT C_l_done C_l_sum⟩⟩
  obtain ⟨fd_l_pairs, F_l_pairs⟩ := c.def_ 52 (d := mkD ("_law_pairs", none) "_law_pairs" "_law_pairs" s_l_pairs) rfl
  have C_l_pairs : Cal Pg w K mg base "_law_pairs" 3 P_l_pairs (SpD K (p_l_pairs Pg w K)) := ⟨⟨_, fd_l_pairs, He.glo_ok X G (c.fact 42 rfl), F_l_pairs.kp, (F_l_pairs.bindsN fun _ _ _ _ _ _ us hl => match us, hl with | [_, _, _], _ => rfl), ok_l_pairs F_l_pairs BT C_l_all_errors C_l_size C_l_signs C_l_product_bits⟩⟩
  obtain ⟨fd_l_back, F_l_back⟩ := c.def_ 53 (d := mkD ("_law_back", none) "_law_back" "_law_back" s_l_back) rfl
  have C_l_back : Cal Pg w K mg base "_law_back" 8 P_l_back (SpD K (p_l_back (K := K) (CC := (He.ga K "Code")))) := ⟨⟨_, fd_l_back, He.glo_ok X G (c.fact 43 rfl), F_l_back.kp, (F_l_back.bindsN fun _ _ _ _ _ _ us hl => match us, hl with | [_, _, _, _], _ => rfl), ok_l_back F_l_back BT GK C_l_done C_l_turned C_State C_mended M_State_eighths⟩⟩
  obtain ⟨fd_l_all_back, F_l_all_back⟩ := c.def_ 54 (d := mkD ("_law_all_back", none) "_law_all_back" "_law_all_back" s_l_all_back) rfl
  have C_l_all_back : Cal Pg w K mg base "_law_all_back" 9 P_l_all_back (SpS K (p_l_all_back (K := K) (CC := (He.ga K "Code")))) := ⟨⟨_, fd_l_all_back, He.glo_ok X G (c.fact 44 rfl), F_l_all_back.kp, (F_l_all_back.bindsN fun _ _ _ _ _ _ us hl => match us, hl with | [_, _, _, _, _], _ => rfl), ok_l_all_back F_l_all_back BT C_l_draw C_l_code_numbers C_l_all_errors C_l_size C_l_sum C_l_turned C_l_back⟩⟩
  obtain ⟨fd_l_right, F_l_right⟩ := c.def_ 55 (d := mkD ("_law_right", none) "_law_right" "_law_right" s_l_right) rfl
  have C_l_right : Cal Pg w K mg base "_law_right" 11 P_l_right (SpG K p_l_right selN) := ⟨⟨_, fd_l_right, He.glo_ok X G (c.fact 45 rfl), F_l_right.kp, (F_l_right.bindsN fun _ _ _ _ _ _ us hl => match us, hl with | [_], _ => rfl), ok_l_right F_l_right BT GK C_l_state C_l_code C_l_draw C_Code M_Code_rows M_Code_far C_mends C_l_pairs C_l_group C_l_all_back⟩⟩
  exact ok_law F_law BT C_l_right
end Bw
/-! Hd3: the law holds. -/
namespace Bw
open PySem PySem.Spec PyProof.Rows L2
theorem law_at {w : World} {mg : Str → Option Value} {ad : Addr} {h : Heap} {K : PySem.W.Frag} (KX : K.In h) (c : He.SaysX fa fn [] tf ex w h K) (G : h.Ns mainGlobals mg) (hmg : mg ("law" : Str) = some (.ref ad)) : LamX.LawAtS PySem.Challenge.rw_bothwire_k95_whole_errors_mended w K CX0 12 63 "_law_script" mg ad h := by
  obtain ⟨fd, F⟩ := c.t.d.def_ 56 (d := mkD ("law", none) "law" "law" s_law) rfl
  have e := hmg.symm.trans (He.glo_ok KX G (c.t.d.fact 46 (f := .glo "law") rfl))
  cases e
  have mt : ∀ p ∈ [He.cT K ("all_errors", none)], ∃ q ∈ tf, p = He.cT K q := fun p hp => ⟨("all_errors", none), List.mem_singleton.mpr rfl, List.mem_singleton.mp hp⟩
  obtain ⟨_, e0⟩ := He.ba c.more
  obtain ⟨_, e0⟩ := He.ba e0
  obtain ⟨e1, _⟩ := He.ba e0
  refine ⟨fd, [He.cT K ("all_errors", none)], SpD K (p_law K), fun p hp => ?_, fun p hp => ?_, fun p hp => ?_, fun s u => F.bindsA (ps := ["_law_script"]) (fun _ _ _ _ _ _ us hl => match us, hl with | [_], _ => rfl) s [u] rfl, fun H a ns hl _ hH hS => ?_, fun base X G' TB => ?_⟩
  · obtain ⟨q, hq, rfl⟩ := mt p hp
    exact c.empty q hq
  · obtain ⟨q, hq, rfl⟩ := mt p hp
    exact c.out q hq
  · obtain ⟨q, hq, rfl⟩ := mt p hp
    exact PySem.W.codeHd_of_K KX (c.hd q hq)
  · refine ⟨fun _ => False, [FrzI K ns], B true, fun a z => z.elim, tbI_of e1 (hH _ (List.mem_singleton.mpr rfl)), .cons (frz_of hS) .nil, ⟨ns, rfl, rfl, by omega⟩, fun v H' _ _ r => ?_⟩
    cases r
    rfl
  · exact facts X G' c.t.d c.more (TB _ (List.mem_singleton.mpr rfl)) F
end Bw
open PySem PySem.W PySem.Calls PyProof.Rows
theorem PySem.Challenge.cw_bothwire_k95_whole_errors_mended_holds : PySem.Challenge.rw_bothwire_k95_whole_errors_mended.Holds := by
  w_on; o_law
  refine HandSHeadRun.head_any (r := OpenLaw.row PySem.Challenge.rw_bothwire_k95_whole_errors_mended) (q := view (OpenLaw.row PySem.Challenge.rw_bothwire_k95_whole_errors_mended).prog [67]) (H := Bw.hk) (ob := Bw.ob) (M := 6000) (loose := Bw.loose) (d := HandSHeadRun.topDef (OpenLaw.row PySem.Challenge.rw_bothwire_k95_whole_errors_mended).prog 67) (kwd := []) Bw.ob_eq
    (by kernel_rfl) (fun s => by kernel_rfl) Bw.run (by kernel_rfl) (by kernel_rfl) (by kernel_rfl) (by rfl) (by first | assumption | decide +kernel) (by decide +kernel) ⟨rfl, rfl, rfl, rfl, rfl, by decide +kernel⟩ ?hw ?hc
  case hw => w_witness2
  case hc =>
    refine LamX.walk_ofTsE (l := PySem.Challenge.rw_bothwire_k95_whole_errors_mended) (n := 63) (k := 12) (x := "_law_script") (CX := fun _ => L2.CX0) rfl (by decide) (by kernel_rfl) ⟨rfl, by decide, by decide⟩ ?F (fun _ _ _ _ _ z => z)
    intro w mg fa h Y G hmg0
    obtain ⟨K, KX, c⟩ := Y
    have hmg : mg ("law" : PySem.Str) = some (.ref fa) := by
      have e : (HandSHeadRun.topDef (OpenLaw.row PySem.Challenge.rw_bothwire_k95_whole_errors_mended).prog 67).name = ("law" : PySem.Str) := by kernel_rfl
      rw [← e]
      exact hmg0
    exact ⟨K, KX, Bw.law_at KX c G hmg⟩
