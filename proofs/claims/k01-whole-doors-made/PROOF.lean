import PyProof.Rows.All
import Wide.All
import OpenK.AllK
import Wide.FinOn
import HandS.ForMost
import HandS.Deep
import KE.KeyNested
import PyProof.Rows.SetFrom
import PyProof.ListNew
import HandS.SetKeys
import KE.GoesNew
import HandS.Walk
import PyProof.DictCompW
import HandS.DictComp
import HandS.TupAny
import HandS.IsInst
import HandS.IterVal
import HandS.TupLe
import HandS.Zip
import PySem.Challenge.RW_doorhouses_k01_whole_doors_made
import PyProof.SumAny
import PyProof.Rows.SumAny
import PyProof.InstEq
import HandS.OwnEq
import HandS.ReSub
import HandS.SortInts
import HandS.More
import HandS.Style
import HandS.EndBits
set_option linter.all false
set_option Elab.async false
set_option maxRecDepth 100000
set_option maxHeartbeats 4000000
/-! data of texts, numbers and tuples; dicts whose keys are such data -/
namespace Dr
open PySem L2
abbrev D := NestedKey

mutual
inductive Dd (H : Hp) : V → D → Prop
  | text (x : Str) : PyData.strOk x = true → Dd H (.str x) (.text x)
  | num (i : Int) : Dd H (.int i) (.num i)
  | tup {a : Addr} {xs : List V} {l : List D} : H a = some (.tup xs) → Dds H xs l → Dd H (.ref a) (.tup l)
inductive Dds (H : Hp) : List V → List D → Prop
  | nil : Dds H [] []
  | cons {v : V} {vs : List V} {d : D} {l : List D} : Dd H v d → Dds H vs l → Dds H (v :: vs) (d :: l)
end
/-- tuples stay -/
def Ts (H H' : Hp) : Prop := ∀ b xs, H b = some (.tup xs) → H' b = some (.tup xs)
theorem Ts.refl (H : Hp) : Ts H H := fun _ _ e => e
theorem Ts.trans {A B C : Hp} (x : Ts A B) (y : Ts B C) : Ts A C := fun b xs e => y b xs (x b xs e)
theorem Ts.new {H : Hp} {a : Addr} {o : HO} (h : H a = none) : Ts H (upd H a o) := fun b xs e => by rw [upd_ne (ne_of_none e h)]; exact e
theorem Ts.at {H : Hp} {a : Addr} {o u : HO} (h : H a = some u) (n : ∀ xs, u ≠ .tup xs) : Ts H (upd H a o) := fun b xs e => by rw [upd_ne (ne_of e h (fun z => n xs z.symm))]; exact e
theorem Ts.of {H H' : Hp} (h : Same H H') : Ts H H' := fun b xs e => h b _ e
mutual
theorem Dd.mono {H H' : Hp} (s : Ts H H') : ∀ {v : V} {d : D}, Dd H v d → Dd H' v d
  | _, _, .text x h => .text x h
  | _, _, .num i => .num i
  | _, _, .tup e h => .tup (s _ _ e) (Dds.mono s h)
theorem Dds.mono {H H' : Hp} (s : Ts H H') : ∀ {vs : List V} {ds : List D}, Dds H vs ds → Dds H' vs ds
  | _, _, .nil => .nil
  | _, _, .cons h1 h2 => .cons (Dd.mono s h1) (Dds.mono s h2)
end
theorem Dds.length {H : Hp} : ∀ {vs : List V} {ds : List D}, Dds H vs ds → vs.length = ds.length
  | _, _, .nil => rfl
  | _, _, .cons _ h2 => by rw [List.length_cons, List.length_cons, Dds.length h2]
theorem Dds.get {H : Hp} : ∀ {vs : List V} {ds : List D} {i : Nat} {v : V}, Dds H vs ds → vs[i]? = some v → ∃ d, ds[i]? = some d ∧ Dd H v d
  | _, _, i, v, .nil, h => by simp at h
  | _, _, 0, v, .cons h1 h2, h => by
    simp only [List.getElem?_cons_zero, Option.some.injEq] at h
    subst h
    exact ⟨_, rfl, h1⟩
  | _, _, i + 1, v, .cons h1 h2, h => by
    simp only [List.getElem?_cons_succ] at h ⊢
    exact Dds.get h2 h
theorem Dds.snoc {H : Hp} : ∀ {vs : List V} {ds : List D} {v : V} {d : D}, Dds H vs ds → Dd H v d → Dds H (vs ++ [v]) (ds ++ [d])
  | _, _, _, _, .nil, h => .cons h .nil
  | _, _, _, _, .cons h1 h2, h => .cons h1 (Dds.snoc h2 h)
theorem Dds.append {H : Hp} : ∀ {vs ws : List V} {ds es : List D}, Dds H vs ds → Dds H ws es → Dds H (vs ++ ws) (ds ++ es)
  | _, _, _, _, .nil, h => h
  | _, _, _, _, .cons h1 h2, h => .cons h1 (Dds.append h2 h)
theorem Dds.drop {H : Hp} : ∀ {vs : List V} {ds : List D} (n : Nat), Dds H vs ds → Dds H (vs.drop n) (ds.drop n)
  | _, _, 0, h => h
  | _, _, n + 1, .nil => .nil
  | _, _, n + 1, .cons h1 h2 => Dds.drop n h2
theorem Dds.take {H : Hp} : ∀ {vs : List V} {ds : List D} (n : Nat), Dds H vs ds → Dds H (vs.take n) (ds.take n)
  | _, _, 0, h => .nil
  | _, _, n + 1, .nil => .nil
  | _, _, n + 1, .cons h1 h2 => .cons h1 (Dds.take n h2)
theorem Dds.rev {H : Hp} : ∀ {vs : List V} {ds : List D}, Dds H vs ds → Dds H vs.reverse ds.reverse
  | _, _, .nil => .nil
  | _, _, .cons h1 h2 => by
    rw [List.reverse_cons, List.reverse_cons]
    exact (Dds.rev h2).snoc h1
theorem Dd.tup_inv {H : Hp} {v : V} {l : List D} (h : Dd H v (.tup l)) : ∃ a xs, v = .ref a ∧ H a = some (.tup xs) ∧ Dds H xs l := by
  cases h with
  | tup e h => exact ⟨_, _, rfl, e, h⟩
theorem Dd.text_inv {H : Hp} {v : V} {x : Str} (h : Dd H v (.text x)) : v = .str x ∧ PyData.strOk x = true := by
  cases h with
  | text _ h => exact ⟨rfl, h⟩
theorem Dd.num_inv {H : Hp} {v : V} {i : Int} (h : Dd H v (.num i)) : v = .int i := by
  cases h with
  | num _ => rfl
theorem Dds.cons_inv {H : Hp} {vs : List V} {d : D} {ds : List D} (h : Dds H vs (d :: ds)) : ∃ v ws, vs = v :: ws ∧ Dd H v d ∧ Dds H ws ds := by
  cases h with
  | cons h1 h2 => exact ⟨_, _, rfl, h1, h2⟩
theorem Dds.nil_inv {H : Hp} {vs : List V} (h : Dds H vs []) : vs = [] := by
  cases h with
  | nil => rfl
mutual
theorem Dd.dp {K : PySem.W.Frag} {H : Hp} : ∀ {v : V} {d : D}, Dd H v d → Dp K H v d.data
  | _, _, .text x h => .str x
  | _, _, .num i => .int i
  | _, _, .tup e h => .tup (SqT.of e) (Dds.dp h)
theorem Dds.dp {K : PySem.W.Frag} {H : Hp} : ∀ {vs : List V} {ds : List D}, Dds H vs ds → DpAll K H vs (NestedKey.datas ds)
  | _, _, .nil => .nil
  | _, _, .cons h1 h2 => .cons (Dd.dp h1) (Dds.dp h2)
end
mutual
theorem Dd.lay {H : Hp} : ∀ {v : V} {d : D}, Dd H v d → d.data.canLay0 = true
  | _, _, .text x h => by simpa only [NestedKey.data, PyData.canLay0] using h
  | _, _, .num i => by simp only [NestedKey.data, PyData.canLay0]
  | _, _, .tup e h => by simpa only [NestedKey.data, PyData.canLay0] using Dds.lay h
theorem Dds.lay {H : Hp} : ∀ {vs : List V} {ds : List D}, Dds H vs ds → PyData.canLayAll0 (NestedKey.datas ds) = true
  | _, _, .nil => by simp only [NestedKey.datas, PyData.canLayAll0]
  | _, _, .cons h1 h2 => by simp only [NestedKey.datas, PyData.canLayAll0, Dd.lay h1, Dds.lay h2, Bool.and_self]
end
mutual
theorem data_depth : ∀ d : D, d.data.depth = d.depth
  | .none => by simp only [NestedKey.data, PyData.depth, NestedKey.depth]
  | .num i => by simp only [NestedKey.data, PyData.depth, NestedKey.depth]
  | .text x => by simp only [NestedKey.data, PyData.depth, NestedKey.depth]
  | .tup l => by simp only [NestedKey.data, PyData.depth, NestedKey.depth, datas_depth l]
theorem datas_depth : ∀ l : List D, PyData.depthAll (NestedKey.datas l) = NestedKey.depthAll l
  | [] => by simp only [NestedKey.datas, PyData.depthAll, NestedKey.depthAll]
  | d :: l => by simp only [NestedKey.datas, PyData.depthAll, NestedKey.depthAll, data_depth d, datas_depth l]
end
theorem Dd.shaped {H : Hp} {v : V} {d : D} (h : Dd H v d) (k : d.depth ≤ 60) : SeqAt.shaped d.data = true := by
  unfold SeqAt.shaped
  rw [h.lay, data_depth]
  simp only [Bool.true_and, decide_eq_true_eq]
  omega
mutual
theorem eqv_data : ∀ a b : D, PyData.eqv a.data b.data = NestedKey.beq a b
  | .none, b => by cases b <;> simp only [NestedKey.data, PyData.eqv, NestedKey.beq]
  | .num i, b => by cases b <;> simp only [NestedKey.data, PyData.eqv, NestedKey.beq] <;> rfl
  | .text i, b => by cases b <;> simp only [NestedKey.data, PyData.eqv, NestedKey.beq] <;> rfl
  | .tup l, b => by
    cases b with
    | tup m => simp only [NestedKey.data, PyData.eqv, NestedKey.beq]; exact eqv_datas l m
    | _ => simp only [NestedKey.data, PyData.eqv, NestedKey.beq]
theorem eqv_datas : ∀ a b : List D, PyData.eqvAll (NestedKey.datas a) (NestedKey.datas b) = NestedKey.beqAll a b
  | [], b => by cases b <;> simp only [NestedKey.datas, PyData.eqvAll, NestedKey.beqAll]
  | x :: a, b => by
    cases b with
    | nil => simp only [NestedKey.datas, PyData.eqvAll, NestedKey.beqAll]
    | cons y b => simp only [NestedKey.datas, PyData.eqvAll, NestedKey.beqAll, eqv_data x y, eqv_datas a b]
end
theorem eqv_dec (a b : D) : PyData.eqv a.data b.data = decide (a = b) := (eqv_data a b).trans (NestedKey.decide_eq a b).symm
theorem datas_map : ∀ l : List D, NestedKey.datas l = l.map NestedKey.data
  | [] => by simp only [NestedKey.datas, List.map_nil]
  | d :: l => by simp only [NestedKey.datas, List.map_cons, datas_map l]
/-! ### ==, !=, in -/
def rEqN : R2 := fun x y H Q => ∃ d e, Dd H x d ∧ Dd H y e ∧ d.depth ≤ 60 ∧ e.depth ≤ 60 ∧ Q (.bl (decide (d = e))) H
def rNeN : R2 := fun x y H Q => ∃ d e, Dd H x d ∧ Dd H y e ∧ d.depth ≤ 60 ∧ e.depth ≤ 60 ∧ Q (.bl (!decide (d = e))) H
def rInN : R2 := fun x y H Q => ∃ d l xs ds, Dd H x d ∧ y = .ref l ∧ H l = some (.lst xs) ∧ Dds H xs ds ∧ d.depth ≤ 60 ∧ NestedKey.depthAll ds ≤ 60 ∧ Q (.bl (ds.any fun z => decide (z = d))) H
section
variable {X : Cx}
theorem op_eqN (hu : X.A.units + 64 < cLine) : OpR X (compareOp .Eq) rEqN := fun pps s σ H x y v u Q I rx ry ⟨d, e, hd, he, kd, ke, q⟩ =>
  op_eqD hu pps s σ H x y v u Q I rx ry ⟨d.data, e.data, hd.dp, he.dp, hd.shaped kd, he.shaped ke, by rw [eqv_dec]; exact q⟩
theorem op_neN (hu : X.A.units + 64 < cLine) : OpR X (compareOp .NotEq) rNeN := fun pps s σ H x y v u Q I rx ry ⟨d, e, hd, he, kd, ke, q⟩ =>
  op_neD hu pps s σ H x y v u Q I rx ry ⟨d.data, e.data, hd.dp, he.dp, hd.shaped kd, he.shaped ke, by rw [eqv_dec]; exact q⟩
theorem op_inN (hu : X.A.units + 65 < cLine) : OpR X (compareOp .In) rInN := fun pps s σ H x y v u Q I rx ry ⟨d, l, xs, ds, hd, hy, hl, hs, kd, ks, q⟩ => by
  subst hy
  refine op_inD hu pps s σ H x _ v u Q I rx ry ⟨d.data, NestedKey.datas ds, hd.dp, .lst (SqL.of hl) hs.dp, hd.shaped kd, ?_, ?_⟩
  · unfold SeqAt.shaped
    simp only [PyData.canLay0, PyData.depth, hs.lay, datas_depth, Bool.true_and, decide_eq_true_eq]
    omega
  · rw [datas_map, List.any_map]
    have e : ((fun z => PyData.eqv z d.data) ∘ NestedKey.data) = fun z : D => decide (z = d) := funext fun z => eqv_dec z d
    rw [e]
    exact q
end
/-! ### dicts with such keys -/
mutual
theorem Dd.key {P : Program} {w : World} {H : Hp} {h : Heap} (ok : HOk P w H h) : ∀ {v : V} {d : D} {u : Value}, Dd H v d → RelV v u → NestedIs h d u
  | _, _, _, .text x _, r => by
    obtain ⟨t, rfl⟩ := r
    exact .text _ _
  | _, _, _, .num i, r => by
    obtain ⟨t, rfl⟩ := r
    exact .int _ _
  | _, _, _, .tup (a := a) e hs, r => by
    cases r
    obtain ⟨_, its, rv, o, h1, h2, n, h3⟩ := (show ObjOk P w H h a (.tup _) from ok a _ e)
    exact .tup h1 h2 h3 (Dds.key ok hs (by simpa using rv))
theorem Dds.key {P : Program} {w : World} {H : Hp} {h : Heap} (ok : HOk P w H h) : ∀ {vs : List V} {ds : List D} {us : List Value}, Dds H vs ds → Vals vs us → NestedAll h ds us
  | _, _, _, .nil, r => by
    cases r
    exact .nil
  | _, _, _, .cons h1 h2, r => by
    cases r with
    | cons r1 r2 => exact .cons (Dd.key ok h1 r1) (Dds.key ok h2 r2)
end
abbrev Ent := D × Addr × Value
def memFact (P : Program) (w : World) (a : Addr) (es : List Ent) (h : Heap) : Prop :=
  (a == sysModules) = false ∧ ∃ o tb ep, h.get? a = some o ∧ o.ExactDict ∧ o.data = .dict tb ep ∧ tb.toList = es.map (entryOfKey (nestedKind P w)) ∧ (es.map (·.1)).Nodup
def memO (P : Program) (w : World) (a : Addr) (es : List Ent) : HO := .ext (memFact P w a es)
structure MemAt (P : Program) (w : World) (H : Hp) (a : Addr) (es : List Ent) : Prop where
  here : H a = some (memO P w a es)
  keys : ∀ x ∈ es, Dd H (.ref x.2.1) x.1 ∧ x.1.depth ≤ 8
  few : es.length < sizeLine
theorem memO_ok {P : Program} {w : World} {H : Hp} {h : Heap} {a : Addr} {es : List Ent} (x : memFact P w a es h) : ObjOk P w H h a (memO P w a es) := by
  refine ⟨x, ?_, fun h1 h2 y k => ?_⟩
  · obtain ⟨_, o, _, _, e, _⟩ := x
    exact ⟨o, e⟩
  · obtain ⟨n, o, tb, ep, e, more⟩ := y
    exact ⟨n, o, tb, ep, k _ e, more⟩
section
variable {X : Cx} {pps : List (Addr × PySem.Obj)} {σ : St} {H : Hp} {s : Shared} {a b : Addr} {es : List Ent} {k : D}
theorem MemAt.dict (I : Inv X pps σ H s) (m : MemAt X.prog X.w H a es) : (a == sysModules) = false ∧ s.heap.DictOfH (nestedKind X.prog X.w) a es := by
  obtain ⟨⟨n, o, tb, ep, e, h1, h2, h3, h4⟩, _⟩ := I.hok a _ m.here
  refine ⟨n, o, tb, ep, e, h1, h2, h3, fun x hx => ?_, h4⟩
  obtain ⟨y, hy⟩ := m.keys x hx
  exact ⟨y.key I.hok rfl, hy⟩
def rNotInM (P : Program) (w : World) : R2 := fun x y H Q => ∃ a b es k, x = .ref b ∧ y = .ref a ∧ MemAt P w H a es ∧ Dd H (.ref b) k ∧ k.depth ≤ 8 ∧ Q (.bl (!(atKey es k).isSome)) H
theorem op_notInM (hu : X.A.units + 64 < cLine) : OpR X (compareOp .NotIn) (rNotInM X.prog X.w) := by
  rintro pps s σ H x y v u Q I rx ry ⟨a, b, es, k, rfl, rfl, m, hk, dk, q⟩
  cases rx
  cases ry
  obtain ⟨n, dd⟩ := m.dict I
  exact PyProof.Rows.wpAny_notIn_heap (knd := nestedKind X.prog X.w) (by show X.A.in1.units + 8 < cLine; rw [Around.in1_units]; omega) ⟨hk.key I.hok rfl, dk⟩ n dd ⟨.bl _, H, I.tok _, (show RelV (V.bl (!(atKey es k).isSome)) (Value.bool _) from rfl), q⟩
def tMGet (P : Program) (w : World) (td ty : TE) : TE := fun σ H Q => td σ H fun x H1 => ty σ H1 fun y H2 => ∃ a b es k r c, x = .ref a ∧ y = .ref b ∧ MemAt P w H2 a es ∧ Dd H2 (.ref b) k ∧ k.depth ≤ 8 ∧ atKey es k = some (c, .bool r) ∧ Q (.bl r) H2
theorem pe_mget {o i : Expr} {pos : Pos} {td ty : TE} (hu : X.A.units + 64 < cLine) (ho : PE X o td) (hi : PE X i ty) (hs : NoSl i) : PE X (.Subscript o i pos) (tMGet X.prog X.w td ty) := by
  have deep : X.A.in1.units + 8 < cLine := by rw [Around.in1_units]; omega
  constructor
  intro _ _ _ _ _ I go
  apply subD_of PySem.F.slot_dict_getitem.lookup hs
  apply thn (ho.run _ _ _ _ _ I go)
  rintro _ _ ⟨_, _, I1, ro, go⟩
  apply thn (hi.run _ _ _ _ _ I1 go)
  rintro _ _ ⟨_, H2, I2, rk, a, b, es, k, r, c, rfl, rfl, memo, key, dk, found, fin⟩
  cases ro; cases rk
  obtain ⟨_, table⟩ := memo.dict I2
  constructor
  · exact table.typeIs
  apply wpAny_getItem_heap (knd := nestedKind X.prog X.w) deep ⟨key.key I2.hok rfl, dk⟩ table found
  exact ⟨.bl r, H2, I2.tok _, (show RelV (V.bl r) (.bool r) from rfl), fin⟩
def sMPut (P : Program) (w : World) (td ty tv : TE) : L2.TS := fun D σ H => tv σ H fun v H1 => td σ H1 fun x H2 => ty σ H2 fun y H3 => ∃ a b es k r, v = .bl r ∧ x = .ref a ∧ y = .ref b ∧ MemAt P w H3 a es ∧ Dd H3 (.ref b) k ∧ k.depth ≤ 8 ∧ D.nx σ (upd H3 a (memO P w a (storedH es k b (.bool r))))
theorem ps_mput {o i value : Expr} {p1 p2 : Pos} {td ty tv : TE} (hu : X.A.units + 64 < cLine) (ho : PE X o td) (hi : PE X i ty) (hv : PE X value tv) (hs : swapsWith value (some (.Subscript o i p1)) p2.line X.env = pure false) : PS X (.Assign [.Subscript o i p1] value p2) (sMPut X.prog X.w td ty tv) := by
  have deep : X.A.in1.units + 8 < cLine := by rw [Around.in1_units]; omega
  constructor
  intro _ _ σ _ _ I go
  apply wpAny_Assign_Subscript _ hs
  apply thn (hv.run _ _ _ _ _ I go)
  rintro _ _ ⟨_, _, I1, rv, go⟩
  apply thn (ho.run _ _ _ _ _ I1 go)
  rintro _ _ ⟨_, _, I2, ro, go⟩
  apply thn (hi.run _ _ _ _ _ I2 go)
  rintro _ _ ⟨_, H3, I3, rk, a, b, es, k, r, rfl, rfl, rfl, memo, key, dk, fin⟩
  cases ro; cases rk; cases rv
  obtain ⟨n, table⟩ := memo.dict I3
  apply wpAny_setItem_heap (hsz := Nat.le_of_lt memo.few) (knd := nestedKind X.prog X.w) deep ⟨key.key I3.hok rfl, dk⟩ table
  rintro _ ⟨o, tb, ep, get, exact_, data, rows, _, unlike⟩ same
  exact ⟨σ, _, d_write I3 (by rw [memo.here]; exact True.intro) same ⟨o, get⟩ (memO_ok ⟨n, o, tb, ep, get, exact_, data, rows, unlike⟩), fin⟩
def tMNew (P : Program) (w : World) : TE := fun _ H Q => ∀ p, H p = none → Q (.ref p) (upd H p (memO P w p []))
theorem pe_mnew {pos : Pos} : PE X (.Dict [] [] pos) (tMNew X.prog X.w) := ⟨fun pps s σ H Q I h =>
  wpAny_Dict_empty ⟨.ref s.heap.objs.size, _, I.laid (a := s.heap.objs.size) (o := memO X.prog X.w s.heap.objs.size []) (t' := s.toks) (fun _ _ q => Heap.get?_push_of_some _ q) (Nat.le_refl _)
    (memO_ok ⟨beq_eq_false_iff_ne.mpr (Ne.symm (Nat.ne_of_lt I.big)), _, #[], 0, Heap.get?_push_size _ rfl, ⟨rfl, rfl, rfl⟩, rfl, rfl, List.nodup_nil⟩), rfl, h _ (I.hok.fresh (Nat.le_refl _))⟩⟩
end
end Dr
/-! terms, apart from any program -/
namespace Dr
open PySem
abbrev Hd := { x : Str // x ≠ ("?" : Str) }
inductive Tm where
  | w (x : Str)
  | u (n : Fin 1000)
  | c (h : Hd) (ts : List Tm)
namespace Tm
mutual
def enc : Tm → D
  | .w x => .text x
  | .u n => .tup [.text "?", .num n.1]
  | .c h ts => .tup (.text h.1 :: encs ts)
def encs : List Tm → List D
  | [] => []
  | t :: ts => enc t :: encs ts
end
theorem encs_map : ∀ ts : List Tm, encs ts = ts.map enc
  | [] => by simp only [encs, List.map_nil]
  | t :: ts => by simp only [encs, List.map_cons, encs_map ts]
mutual
theorem enc_inj : ∀ {a b : Tm}, a.enc = b.enc → a = b
  | .w x, b, e => by
    cases b with
    | w y => simp only [enc, NestedKey.text.injEq] at e; rw [e]
    | u n => simp only [enc] at e; exact nomatch e
    | c h ts => simp only [enc] at e; exact nomatch e
  | .u n, b, e => by
    cases b with
    | w y => simp only [enc] at e; exact nomatch e
    | u m =>
      simp only [enc, NestedKey.tup.injEq, List.cons.injEq, NestedKey.num.injEq, and_true, true_and] at e
      exact congrArg Tm.u (Fin.ext (by omega))
    | c h ts =>
      simp only [enc, NestedKey.tup.injEq, List.cons.injEq, NestedKey.text.injEq] at e
      exact absurd e.1.symm h.2
  | .c h ts, b, e => by
    cases b with
    | w y => simp only [enc] at e; exact nomatch e
    | u m =>
      simp only [enc, NestedKey.tup.injEq, List.cons.injEq, NestedKey.text.injEq] at e
      exact absurd e.1 h.2
    | c g us =>
      simp only [enc, NestedKey.tup.injEq, List.cons.injEq, NestedKey.text.injEq] at e
      rw [Subtype.ext e.1, encs_inj e.2]
theorem encs_inj : ∀ {a b : List Tm}, encs a = encs b → a = b
  | [], [], _ => rfl
  | [], _ :: _, e => by simp [encs] at e
  | _ :: _, [], e => by simp [encs] at e
  | x :: a, y :: b, e => by
    simp only [encs, List.cons.injEq] at e
    rw [enc_inj e.1, encs_inj e.2]
end
instance : DecidableEq Tm := fun a b => decidable_of_iff (a.enc = b.enc) ⟨enc_inj, congrArg _⟩
theorem enc_dec (a b : Tm) : decide (a.enc = b.enc) = decide (a = b) := decide_eq_decide.mpr ⟨enc_inj, congrArg _⟩
mutual
def size : Tm → Nat
  | .w _ => 1
  | .u _ => 1
  | .c _ ts => 1 + sizes ts
def sizes : List Tm → Nat
  | [] => 0
  | t :: ts => size t + sizes ts
end
theorem sizes_sum : ∀ ts : List Tm, sizes ts = (ts.map size).sum
  | [] => by simp only [sizes, List.map_nil, List.sum_nil]
  | t :: ts => by simp only [sizes, List.map_cons, List.sum_cons, sizes_sum ts]
mutual
def dep : Tm → Nat
  | .w _ => 0
  | .u _ => 1
  | .c _ ts => 1 + deps ts
def deps : List Tm → Nat
  | [] => 0
  | t :: ts => max (dep t) (deps ts)
end
mutual
def unk : Tm → List (Fin 1000)
  | .w _ => []
  | .u n => [n]
  | .c _ ts => unks ts
def unks : List Tm → List (Fin 1000)
  | [] => []
  | t :: ts => unk t ++ unks ts
end
mutual
def parts : Tm → List Tm
  | .w x => [.w x]
  | .u n => [.u n]
  | .c h ts => .c h ts :: partss ts
def partss : List Tm → List Tm
  | [] => []
  | t :: ts => parts t ++ partss ts
end
theorem size_pos (t : Tm) : 0 < t.size := by cases t <;> simp only [size] <;> omega
mutual
theorem depth_enc : ∀ t : Tm, t.enc.depth ≤ t.dep
  | .w x => by simp only [enc, NestedKey.depth, dep]; omega
  | .u n => by simp only [enc, NestedKey.depth, NestedKey.depthAll, dep]; omega
  | .c h ts => by
    have := depth_encs ts
    simp only [enc, NestedKey.depth, NestedKey.depthAll, dep]
    omega
theorem depth_encs : ∀ ts : List Tm, NestedKey.depthAll (encs ts) ≤ deps ts
  | [] => by simp only [encs, NestedKey.depthAll, deps]; omega
  | t :: ts => by
    have := depth_enc t
    have := depth_encs ts
    simp only [encs, NestedKey.depthAll, deps]
    omega
end
theorem dep_mem : ∀ {ts : List Tm} {t : Tm}, t ∈ ts → t.dep ≤ deps ts
  | s :: ts, t, h => by
    rcases List.mem_cons.mp h with rfl | h
    · simp only [deps]; omega
    · have := dep_mem h
      simp only [deps]; omega
theorem size_mem : ∀ {ts : List Tm} {t : Tm}, t ∈ ts → t.size ≤ sizes ts
  | s :: ts, t, h => by
    rcases List.mem_cons.mp h with rfl | h
    · simp only [sizes]; omega
    · have := size_mem h
      simp only [sizes]; omega
theorem self_parts (t : Tm) : t ∈ t.parts := by cases t <;> simp [parts]
theorem mem_partss : ∀ {ts : List Tm} {s : Tm}, s ∈ partss ts ↔ ∃ t ∈ ts, s ∈ t.parts
  | [], s => by simp [partss]
  | t :: ts, s => by simp [partss, mem_partss]
theorem mem_unks : ∀ {ts : List Tm} {n : Fin 1000}, n ∈ unks ts ↔ ∃ t ∈ ts, n ∈ t.unk
  | [], s => by simp [unks]
  | t :: ts, s => by simp [unks, mem_unks]
mutual
theorem parts_trans : ∀ {r t s : Tm}, s ∈ parts t → r ∈ parts s → r ∈ parts t
  | r, .w x, s, h, k => by
    simp only [parts, List.mem_singleton] at h
    subst h
    exact k
  | r, .u n, s, h, k => by
    simp only [parts, List.mem_singleton] at h
    subst h
    exact k
  | r, .c g ts, s, h, k => by
    simp only [parts, List.mem_cons] at h ⊢
    rcases h with rfl | h
    · simpa only [parts, List.mem_cons] using k
    · exact .inr (partss_trans h k)
theorem partss_trans : ∀ {r : Tm} {ts : List Tm} {s : Tm}, s ∈ partss ts → r ∈ parts s → r ∈ partss ts
  | r, [], s, h, k => by simp [partss] at h
  | r, t :: ts, s, h, k => by
    simp only [partss, List.mem_append] at h ⊢
    rcases h with h | h
    · exact .inl (parts_trans h k)
    · exact .inr (partss_trans h k)
end
mutual
theorem size_parts : ∀ {t s : Tm}, s ∈ parts t → s.size ≤ t.size
  | .w x, s, h => by simp only [parts, List.mem_singleton] at h; rw [h]; exact Nat.le_refl _
  | .u n, s, h => by simp only [parts, List.mem_singleton] at h; rw [h]; exact Nat.le_refl _
  | .c g ts, s, h => by
    simp only [parts, List.mem_cons] at h
    rcases h with rfl | h
    · exact Nat.le_refl _
    · have := size_partss h
      simp only [size]; omega
theorem size_partss : ∀ {ts : List Tm} {s : Tm}, s ∈ partss ts → s.size ≤ sizes ts
  | [], s, h => by simp [partss] at h
  | t :: ts, s, h => by
    simp only [partss, List.mem_append] at h
    simp only [sizes]
    rcases h with h | h
    · have := size_parts h; omega
    · have := size_partss h; omega
end
mutual
theorem dep_parts : ∀ {t s : Tm}, s ∈ parts t → s.dep ≤ t.dep
  | .w x, s, h => by simp only [parts, List.mem_singleton] at h; rw [h]; exact Nat.le_refl _
  | .u n, s, h => by simp only [parts, List.mem_singleton] at h; rw [h]; exact Nat.le_refl _
  | .c g ts, s, h => by
    simp only [parts, List.mem_cons] at h
    rcases h with rfl | h
    · exact Nat.le_refl _
    · have := dep_partss h
      simp only [dep]; omega
theorem dep_partss : ∀ {ts : List Tm} {s : Tm}, s ∈ partss ts → s.dep ≤ deps ts
  | [], s, h => by simp [partss] at h
  | t :: ts, s, h => by
    simp only [partss, List.mem_append] at h
    simp only [deps]
    rcases h with h | h
    · have := dep_parts h; omega
    · have := dep_partss h; omega
end
mutual
theorem length_parts : ∀ t : Tm, t.parts.length = t.size
  | .w x => rfl
  | .u n => rfl
  | .c h ts => by simp only [parts, size, List.length_cons, length_partss ts]; omega
theorem length_partss : ∀ ts : List Tm, (partss ts).length = sizes ts
  | [] => rfl
  | t :: ts => by simp only [partss, sizes, List.length_append, length_parts t, length_partss ts]
end
mutual
theorem length_unk : ∀ t : Tm, t.unk.length ≤ t.size
  | .w x => by simp [unk, size]
  | .u n => by simp [unk, size]
  | .c h ts => by
    have := length_unks ts
    simp only [unk, size]; omega
theorem length_unks : ∀ ts : List Tm, (unks ts).length ≤ sizes ts
  | [] => by simp [unks, sizes]
  | t :: ts => by
    have := length_unk t
    have := length_unks ts
    simp only [unks, sizes, List.length_append]; omega
end
mutual
/-- an unknown stands in a term just if it is one of its parts -/
theorem unk_parts : ∀ {t : Tm} {n : Fin 1000}, n ∈ t.unk ↔ Tm.u n ∈ t.parts
  | .w x, n => by simp [unk, parts]
  | .u m, n => by simp [unk, parts]
  | .c h ts, n => by simp only [unk, parts, List.mem_cons, reduceCtorEq, false_or]; exact unks_partss
theorem unks_partss : ∀ {ts : List Tm} {n : Fin 1000}, n ∈ unks ts ↔ Tm.u n ∈ partss ts
  | [], n => by simp [unks, partss]
  | t :: ts, n => by simp only [unks, partss, List.mem_append, unk_parts, unks_partss]
end
/-! ### the order -/
def abv (rk : Str → Nat) : Nat → Tm → Tm → Bool
  | 0, _, _ => false
  | _ + 1, .w _, _ => false
  | _ + 1, .u _, _ => false
  | _ + 1, .c _ _, .w _ => true
  | _ + 1, .c h ss, .u m => decide (m ∈ unks ss)
  | n + 1, .c h ss, .c g ts => (ss.any fun p => decide (p = .c g ts) || abv rk n p (.c g ts)) || ((ts.all fun q => abv rk n (.c h ss) q) &&
      (if h = g then (match (ss.zip ts).find? (fun p => decide (p.1 ≠ p.2)) with | none => false | some p => abv rk n p.1 p.2) else decide (rk g.1 < rk h.1)))
theorem any_ext {α : Type} {f g : α → Bool} : ∀ {l : List α}, (∀ x ∈ l, f x = g x) → l.any f = l.any g
  | [], _ => rfl
  | a :: l, h => by rw [List.any_cons, List.any_cons, h a List.mem_cons_self, any_ext fun x hx => h x (List.mem_cons_of_mem _ hx)]
theorem all_ext {α : Type} {f g : α → Bool} : ∀ {l : List α}, (∀ x ∈ l, f x = g x) → l.all f = l.all g
  | [], _ => rfl
  | a :: l, h => by rw [List.all_cons, List.all_cons, h a List.mem_cons_self, all_ext fun x hx => h x (List.mem_cons_of_mem _ hx)]
theorem abv_same (rk : Str → Nat) : ∀ (n m : Nat) (s t : Tm), s.size + t.size ≤ n → s.size + t.size ≤ m → abv rk n s t = abv rk m s t := by
  intro n
  induction n with
  | zero =>
    intro m s t h
    have := size_pos s
    omega
  | succ n ih =>
    intro m s t h1 h2
    cases m with
    | zero =>
      have := size_pos s
      omega
    | succ m =>
      cases s with
      | w x => rfl
      | u k => rfl
      | c h ss =>
        cases t with
        | w x => rfl
        | u k => rfl
        | c g ts =>
          have hs : ∀ p ∈ ss, abv rk n p (.c g ts) = abv rk m p (.c g ts) := fun p hp => ih m _ _ (by have := size_mem hp; simp only [size] at h1 ⊢; omega) (by have := size_mem hp; simp only [size] at h2 ⊢; omega)
          have ht : ∀ q ∈ ts, abv rk n (.c h ss) q = abv rk m (.c h ss) q := fun q hq => ih m _ _ (by have := size_mem hq; simp only [size] at h1 ⊢; omega) (by have := size_mem hq; simp only [size] at h2 ⊢; omega)
          unfold abv
          rw [any_ext (g := fun p => decide (p = .c g ts) || abv rk m p (.c g ts)) fun p hp => by rw [hs p hp], all_ext ht]
          cases f : (ss.zip ts).find? (fun p => decide (p.1 ≠ p.2)) with
          | none => rfl
          | some p =>
            have hp := List.of_mem_zip (List.mem_of_find?_eq_some f)
            have := size_mem hp.1
            have := size_mem hp.2
            have e : abv rk n p.1 p.2 = abv rk m p.1 p.2 := ih m _ _ (by simp only [size] at h1; omega) (by simp only [size] at h2; omega)
            dsimp only
            rw [e]
def above (rk : Str → Nat) (s t : Tm) : Bool := abv rk (s.size + t.size) s t
section
variable {rk : Str → Nat}
theorem above_of (s t : Tm) {n : Nat} (h : s.size + t.size ≤ n) : abv rk n s t = above rk s t := abv_same rk _ _ s t h (Nat.le_refl _)
theorem above_w (x : Str) (t : Tm) : above rk (.w x) t = false := by
  rw [← above_of (.w x) t (n := (Tm.w x).size + t.size + 1) (by omega)]
  rfl
theorem above_u (x : Fin 1000) (t : Tm) : above rk (.u x) t = false := by
  rw [← above_of (.u x) t (n := (Tm.u x).size + t.size + 1) (by omega)]
  rfl
theorem above_cw (h : Hd) (ss : List Tm) (x : Str) : above rk (.c h ss) (.w x) = true := by
  rw [← above_of (.c h ss) (.w x) (n := (Tm.c h ss).size + (Tm.w x).size + 1) (by omega)]
  rfl
theorem above_cu (h : Hd) (ss : List Tm) (x : Fin 1000) : above rk (.c h ss) (.u x) = decide (x ∈ unks ss) := by
  rw [← above_of (.c h ss) (.u x) (n := (Tm.c h ss).size + (Tm.u x).size + 1) (by omega)]
  rfl
/-- where heads are alike or not -/
def ahead (rk : Str → Nat) (h g : Hd) (ss ts : List Tm) : Bool := if h = g then (match (ss.zip ts).find? (fun p => decide (p.1 ≠ p.2)) with | none => false | some p => above rk p.1 p.2) else decide (rk g.1 < rk h.1)
theorem above_cc (h g : Hd) (ss ts : List Tm) : above rk (.c h ss) (.c g ts) = ((ss.any fun p => decide (p = .c g ts) || above rk p (.c g ts)) || ((ts.all fun q => above rk (.c h ss) q) && ahead rk h g ss ts)) := by
  rw [← above_of (.c h ss) (.c g ts) (n := (Tm.c h ss).size + (Tm.c g ts).size + 1) (by omega)]
  have hs : ∀ p ∈ ss, abv rk ((Tm.c h ss).size + (Tm.c g ts).size) p (.c g ts) = above rk p (.c g ts) := fun p hp => above_of _ _ (by have := size_mem hp; simp only [size]; omega)
  have ht : ∀ q ∈ ts, abv rk ((Tm.c h ss).size + (Tm.c g ts).size) (.c h ss) q = above rk (.c h ss) q := fun q hq => above_of _ _ (by have := size_mem hq; simp only [size]; omega)
  conv => lhs; unfold abv
  rw [any_ext (g := fun p => decide (p = .c g ts) || above rk p (.c g ts)) fun p hp => by rw [hs p hp], all_ext ht]
  unfold ahead
  cases f : (ss.zip ts).find? (fun p => decide (p.1 ≠ p.2)) with
  | none => rfl
  | some p =>
    have hp := List.of_mem_zip (List.mem_of_find?_eq_some f)
    have := size_mem hp.1
    have := size_mem hp.2
    dsimp only
    rw [above_of p.1 p.2 (by simp only [size]; omega)]
theorem zip_self : ∀ ss : List Tm, (ss.zip ss).find? (fun p => decide (p.1 ≠ p.2)) = none
  | [] => rfl
  | s :: ss => by
    rw [List.zip_cons_cons, List.find?_cons, show decide ((s, s).1 ≠ (s, s).2) = false by simp]
    exact zip_self ss
theorem no_part : ∀ (n : Nat) (s t : Tm), s.size + t.size ≤ n → above rk s t = true → s ∉ t.parts := by
  intro n
  induction n with
  | zero =>
    intro s t h
    have := size_pos s
    omega
  | succ n ih =>
    intro s t hn ha hs
    cases s with
    | w x => rw [above_w] at ha; cases ha
    | u x => rw [above_u] at ha; cases ha
    | c h ss =>
      cases t with
      | w x => simp [parts] at hs
      | u x => simp [parts] at hs
      | c g ts =>
        rw [above_cc, Bool.or_eq_true, Bool.and_eq_true] at ha
        rcases ha with ha | ⟨ha, hb⟩
        · obtain ⟨p, hp, hq⟩ := List.any_eq_true.mp ha
          have hsz := size_mem hp
          have hle := size_parts hs
          have pp : p ∈ (Tm.c g ts).parts := parts_trans hs (by simp only [parts, List.mem_cons]; exact .inr (mem_partss.mpr ⟨p, hp, self_parts p⟩))
          rw [Bool.or_eq_true] at hq
          rcases hq with hq | hq
          · have e : p = .c g ts := of_decide_eq_true hq
            rw [e] at hsz
            simp only [size] at hsz hle
            omega
          · exact ih p _ (by simp only [size] at hn ⊢; omega) hq pp
        · simp only [parts, List.mem_cons] at hs
          rcases hs with hs | hs
          · obtain ⟨rfl, rfl⟩ := Tm.c.inj hs
            unfold ahead at hb
            rw [if_pos rfl, zip_self] at hb
            cases hb
          · obtain ⟨q, hq, hs⟩ := mem_partss.mp hs
            have := size_mem hq
            exact ih _ q (by simp only [size] at hn ⊢; omega) (List.all_eq_true.mp ha q hq) hs
theorem above_self (t : Tm) : above rk t t = false := by
  cases e : above rk t t with
  | false => rfl
  | true => exact absurd (self_parts t) (no_part _ t t (Nat.le_refl _) e)
end
/-! ### kinds -/
abbrev Row := Str × List Str × Str
def fnd (hs : List Row) (h : Str) : Option Row := hs.find? fun e => decide (e.1 = h)
mutual
def kd (wk : Str → Option Str) (hs : List Row) (T : Fin 1000 → Option Str) : Tm → Str → Bool
  | .w x, k => decide (wk x = some k)
  | .u n, k => decide (T n = some k)
  | .c h ts, k => match fnd hs h.1 with
    | none => false
    | some e => decide (e.2.2 = k) && kds wk hs T ts e.2.1
def kds (wk : Str → Option Str) (hs : List Row) (T : Fin 1000 → Option Str) : List Tm → List Str → Bool
  | [], [] => true
  | t :: ts, k :: ks => kd wk hs T t k && kds wk hs T ts ks
  | [], _ :: _ => false
  | _ :: _, [] => false
end
mutual
/-- heads are known, with as many parts as they have -/
def ok (hs : List Row) : Tm → Bool
  | .w _ => true
  | .u _ => true
  | .c h ts => (match fnd hs h.1 with
    | none => false
    | some e => decide (ts.length = e.2.1.length)) && oks hs ts
def oks (hs : List Row) : List Tm → Bool
  | [] => true
  | t :: ts => ok hs t && oks hs ts
end
section
variable {wk : Str → Option Str} {hs : List Row} {T : Fin 1000 → Option Str}
mutual
theorem ok_of_kd : ∀ {t : Tm} {k : Str}, kd wk hs T t k = true → ok hs t = true
  | .w _, _, _ => by simp only [ok]
  | .u _, _, _ => by simp only [ok]
  | .c h ts, k, e => by
    simp only [kd] at e
    simp only [ok]
    cases f : fnd hs h.1 with
    | none => rw [f] at e; cases e
    | some r =>
      rw [f] at e
      simp only [Bool.and_eq_true, decide_eq_true_eq] at e ⊢
      exact oks_of_kds e.2
theorem oks_of_kds : ∀ {ts : List Tm} {ks : List Str}, kds wk hs T ts ks = true → ts.length = ks.length ∧ oks hs ts = true
  | [], [], _ => by simp [oks]
  | t :: ts, k :: ks, e => by
    simp only [kds, Bool.and_eq_true] at e
    have h1 := ok_of_kd e.1
    have h2 := oks_of_kds e.2
    simp only [List.length_cons, oks, h1, h2, and_self, Bool.and_self]
  | [], _ :: _, e => by simp [kds] at e
  | _ :: _, [], e => by simp [kds] at e
end
theorem oks_mem : ∀ {ts : List Tm} {t : Tm}, oks hs ts = true → t ∈ ts → ok hs t = true
  | s :: ts, t, e, h => by
    simp only [oks, Bool.and_eq_true] at e
    rcases List.mem_cons.mp h with rfl | h
    · exact e.1
    · exact oks_mem e.2 h
mutual
theorem ok_parts : ∀ {t s : Tm}, ok hs t = true → s ∈ parts t → ok hs s = true
  | .w x, s, e, h => by simp only [parts, List.mem_singleton] at h; rw [h]; exact e
  | .u n, s, e, h => by simp only [parts, List.mem_singleton] at h; rw [h]; exact e
  | .c g ts, s, e, h => by
    simp only [parts, List.mem_cons] at h
    rcases h with rfl | h
    · exact e
    · simp only [ok, Bool.and_eq_true] at e
      exact ok_partss e.2 h
theorem ok_partss : ∀ {ts : List Tm} {s : Tm}, oks hs ts = true → s ∈ partss ts → ok hs s = true
  | [], s, e, h => by simp [partss] at h
  | t :: ts, s, e, h => by
    simp only [oks, Bool.and_eq_true] at e
    simp only [partss, List.mem_append] at h
    rcases h with h | h
    · exact ok_parts e.1 h
    · exact ok_partss e.2 h
end
end
end Tm
end Dr
/-! set(xs) of a list or a tuple of keys no two of which are alike -/
namespace Dr
open PySem PySem.Spec PyProof.Rows L2
/-- k is among the first i -/
def early (ks : List L2.Key) (i : Nat) (k : L2.Key) : Bool := (ks.take i).any fun j => decide (k = j)
/-- the set at a: the first i of ks, and nothing else -/
def Upto (P : Program) (w : World) (ks : List L2.Key) (a : Addr) (i : Nat) (h : Heap) : Prop := h.SetOf (mixKind P w) a (early ks i) i
section
variable {P : Program} {w : World} {ks : List L2.Key} {a : Addr}
theorem Upto.moved {i : Nat} {h h' : Heap} (u : Upto P w ks a i h) (k : ∀ o, h.get? a = some o → h'.get? a = some o) : Upto P w ks a i h' := setOf_at u k
theorem fresh_key (nd : ks.Nodup) {i : Nat} {k : L2.Key} (e : ks[i]? = some k) : k ∉ ks.take i := by
  obtain ⟨hi, rfl⟩ := List.getElem?_eq_some_iff.mp e
  have := (List.nodup_append.mp (by rw [List.take_append_drop]; exact nd : (ks.take i ++ ks.drop i).Nodup)).2.2
  intro m
  exact this _ m _ (by rw [List.drop_eq_getElem_cons hi]; exact List.mem_cons_self) rfl
theorem early_next {i : Nat} {k : L2.Key} (e : ks[i]? = some k) : (fun j => early ks i j || decide (j = k)) = early ks (i + 1) := by
  funext j
  unfold early
  rw [List.take_add_one, e, List.any_append]
  simp
theorem not_early (nd : ks.Nodup) {i : Nat} {k : L2.Key} (e : ks[i]? = some k) : early ks i k = false := by
  refine List.any_eq_false.mpr fun j m z => fresh_key nd e ?_
  rw [of_decide_eq_true z]
  exact m
/-- one more is put in -/
theorem put_next {A : Around} {E : Value → Shared → Prop} {s : Shared} {Q : Bool → Shared → Prop} {i : Nat} {k : L2.Key} {v : Value} (nd : ks.Nodup) (e : ks[i]? = some k) (kv : (mixKind P w).is k v = true) (sc : v.scannable = true) (room : i + 1 < scanBound) (u : Upto P w ks a i s.heap)
    (q : ∀ h', Heap.SameBut a s.heap h' → Upto P w ks a (i + 1) h' → ∀ b, Q b { s with heap := h' }) : wpAny (model P w) A (setAddHashed a v ((mixKind P w).hash k)) Q E s := by
  refine wpAny_setAddHashed_of kv sc u room fun h' same set' => q h' same ?_ _
  rw [not_early nd e, if_neg Bool.false_ne_true, early_next e] at set'
  exact set'
/-- all that are left are put in, one by one -/
theorem put_all {A : Around} {R : Result → Shared → Prop} {I : Addr} {fp wr : List Addr} {G : Array GenState → Array GenState → Prop} {n : Nat} {Pv : Nat → Value → Prop} {St : Nat → Shared → Prop} (W : WalksS P w A.in1 I fp wr G n Pv St)
    (nd : ks.Nodup) (out : a ∉ fp) (len : ks.length = n) (room : n + 1 < scanBound) (key : ∀ i v, Pv i v → ∃ k, ks[i]? = some k ∧ (mixKind P w).is k v = true ∧ v.scannable = true) :
    ∀ (left i : Nat), i + left = n → ∀ s, St i s → Upto P w ks a i s.heap → (∀ t, Moved (a :: wr) G s t → Upto P w ks a n t.heap → R (.ok (.ret .none)) t) → codeAny (model P w) A (.builtin "set.update.loop" ⟨[.ref a, .ref I], []⟩) R s
  | left, i, il, s, st, u, q => by
    have aw : a ∉ wr := fun z => out (W.sub a z)
    refine codeAny_builtin PyProof.Rows.F.entry_set_update_loop ?_
    rw [Around.under_plainId PyProof.Rows.F.plain_set_update_loop]
    refine wpAny_bind (m := pyNext (.ref I)) ?_
    match left with
    | 0 =>
      cases il
      refine W.done s _ _ st fun t mv => wpAny_pure (q t (mv.mono fun b m => List.mem_cons_of_mem a m) (u.moved fun o ho => mv.heap a o aw ho))
    | left + 1 =>
      refine W.item i s _ _ (by omega) st fun v t hv st1 mv => ?_
      obtain ⟨k, hk, kv, sc⟩ := key i v hv
      refine wpAny_bind (wpAny_holding (wpAny_holding (wpAny_bind ((mixKind P w).pyHash kv ?_))))
      refine put_next (s := { t with toks := t.toks + 1 }) nd hk kv sc (by omega) (u.moved fun o ho => mv.heap a o aw ho) fun h' same u1 _ => ?_
      have st2 := W.frame (i + 1) t h' (t.toks + 1) st1 (Nat.le_succ _) fun b m o ho => by rw [same.2 b (fun z => out (z ▸ m))]; exact ho
      refine wpAny_pure ⟨plainId_quiet PyProof.Rows.F.plain_set_update_loop _, put_all W nd out len room key left (i + 1) (by omega) _ st2 u1 fun t2 mv2 u2 => q t2 ?_ u2⟩
      have m1 : Moved (a :: wr) G s { t with heap := h', toks := t.toks + 1 } := (mv.mono fun b m => List.mem_cons_of_mem a m).then_heap (Nat.le_succ _) fun b o nb ho => by
        rw [same.2 b (fun z => nb (z ▸ List.mem_cons_self))]
        exact ho
      exact m1.trans W.gtrans mv2
/-- set.__init__ of what is neither a set nor a dict: what its iterator gives is put in -/
theorem init_of {B : Around} {T : String} {E : Value → Shared → Prop} {q : Addr} {st : Shared} {led : Bool} {Qf : Fin → Shared → Prop} (new : st.heap.get? a = some { cls := .type "set", dict := none, data := .set #[] 0 (.fresh 0 0 led) })
    (src : st.TypeIs (.ref q) T) (n1 : isSubtype (.type T) (.type "set") = pure false) (n2 : isSubtype (.type T) (.type "frozenset") = pure false) (n3 : (Value.type T == Value.type "dict") = false)
    (go : wpAny (model P w) B (pyIter (.ref q)) (fun it s1 => wpAny (model P w) B (runValue (.builtin "set.update.loop" ⟨[.ref a, it], []⟩)) (fun _ s2 => Qf (.done (.ret .none)) s2) E s1) E st) :
    wpAny (model P w) B (Builtin.«set.__init__» ⟨[.ref a, .ref q], []⟩) Qf E st := by
  have me : st.TypeIs (.ref a) "set" := ⟨_, new, rfl⟩
  obtain ⟨h, g, d, tk, os⟩ := st
  unfold Builtin.«set.__init__» noKeywords Builtin.Frozenset.updateFrom
  revert go
  generalize pyIter = it
  intro go
  wp_walk
  exact wpAny_mono go (fun v s2 k => wpAny_bind (wpAny_mono k (fun _ s3 r => wpAny_pure (wpAny_pure r)) fun _ _ z => z)) fun _ _ z => z
/-- what a set may be made of: an object at q of the items us that can be walked -/
structure Source (P : Program) (w : World) (T : String) (q : Addr) (us : Array Value) (at_ : Heap → Prop) : Prop where
  n1 : isSubtype (.type T) (.type "set") = pure false
  n2 : isSubtype (.type T) (.type "frozenset") = pure false
  n3 : (Value.type T == Value.type "dict") = false
  ty : ∀ s : Shared, at_ s.heap → s.TypeIs (.ref q) T
  keep : ∀ h o, at_ h → at_ (h.push o)
  walk : ∀ {A B : Around} {s : Shared} {E : Value → Shared → Prop} {Q : Value → Shared → Prop}, B.handled = none → at_ s.heap → q ≠ s.heap.objs.size →
    (∀ o St, Walks P w B s.heap.objs.size [s.heap.objs.size, q] [s.heap.objs.size] us.size (fun i v => us[i]? = some v) St → St 0 (s.heap.push o) → Q (.ref s.heap.objs.size) { s with heap := s.heap.push o }) → wpAny (model P w) A (pyIter (.ref q)) Q E s
theorem source_list {q : Addr} {us : Array Value} : Source P w "list" q us (fun h => h.IsList q us) where
  n1 := PySem.F.sub_list_set
  n2 := PySem.F.sub_list_frozenset
  n3 := by decide
  ty := fun s h => h.typeIs
  keep := fun h o k => k.push o
  walk := fun hh k ne q => wpAny_pyIter_list k (q _ _ (Walks.list hh _ _ ne us) ⟨⟨_, Heap.get?_push_size _ rfl, rfl, rfl⟩, k.push _⟩)
theorem source_tuple {q : Addr} {us : Array Value} : Source P w "tuple" q us (fun h => h.IsTuple q us) where
  n1 := PySem.F.sub_tuple_set
  n2 := PySem.F.sub_tuple_frozenset
  n3 := by decide
  ty := fun s h => h.typeIs
  keep := fun h o k => k.push o
  walk := fun hh k ne q => wpAny_pyIter_tuple k (q _ _ (Walks.tuple hh _ _ ne us) ⟨⟨_, Heap.get?_push_size _ rfl, rfl, rfl⟩, k.push _⟩)
/-- the class set, called with one thing: a new empty set, then its __init__ -/
theorem set_call {A : Around} {E : Value → Shared → Prop} {s : Shared} {x : Value} {Q : Value → Shared → Prop}
    (init : ∀ led, codeAny (model P w) A.in1 (.call (.builtin "set.__init__") ⟨[.ref s.heap.objs.size, x], []⟩) (wants (fun r t => r = .none ∧ Q (.ref s.heap.objs.size) t) E) { s with heap := s.heap.push { cls := .type "set", dict := none, data := .set #[] 0 (.fresh 0 0 led) } }) :
    wpAny (model P w) A (call (.type "set") [x]) Q E s := by
  have fs := PySem.F.called_set
  obtain ⟨_, _, mro⟩ := fs.mro
  have made := fs.made
  have sub := fs.sub
  have notType := fs.notType
  have create := fs.canCreate
  have chk := PySem.F.typeCall_set_1 x
  refine wpAny_call (codeAny_of_tree ?_)
  show wpAny _ _ (callAny (.type "set") _) _ _ _
  refine wpAny_pure ⟨Code.quiet_builtin _ (by decide +kernel), codeAny_builtin PySem.F.entry_type_call ?_⟩
  rw [Around.under_plain (weight_type_call_type "set" [x] []) rfl]
  repeat (any_goals (first | assumption | wp_step))
  refine codeAny_mono (code_set_new_1 x (E := E) (Q₁ := fun o t => ∃ led, o = .ref s.heap.objs.size ∧ t = { s with heap := s.heap.push { cls := .type "set", dict := none, data := .set #[] 0 (.fresh 0 0 led) } }) fun led => ⟨led, rfl, rfl⟩) ?_
  rintro (e | fl) t ans
  · exact ans
  · cases fl with
    | ret o =>
      obtain ⟨led, rfl, rfl⟩ := ans
      have new : ({ s with heap := s.heap.push { cls := .type "set", dict := none, data := .set #[] 0 (.fresh 0 0 led) } } : Shared).TypeIs (.ref s.heap.objs.size) "set" := ⟨_, Heap.get?_push_size _ rfl, rfl⟩
      have look := fs.init.lookup
      have bind := fs.init.bind (.ref s.heap.objs.size)
      repeat (any_goals (first | assumption | wp_step))
      refine codeAny_mono (init led) ?_
      rintro (e2 | fl2) t2 ans2
      · exact ans2
      · cases fl2 with
        | ret r =>
          obtain ⟨rfl, k⟩ := ans2
          repeat (any_goals (first | assumption | wp_step))
        | _ => exact ans2.elim
    | _ => exact ans.elim
theorem set_of {A : Around} {E : Value → Shared → Prop} {s : Shared} {T : String} {q : Addr} {us : Array Value} {at_ : Heap → Prop} {Q : Value → Shared → Prop} (src : Source P w T q us at_) (here : at_ s.heap) (old : q < s.heap.objs.size) (calm : A.handled = none)
    (nd : ks.Nodup) (len : ks.length = us.size) (room : us.size + 1 < scanBound) (key : ∀ (i : Nat) (v : Value), us[i]? = some v → ∃ k, ks[i]? = some k ∧ (mixKind P w).is k v = true ∧ v.scannable = true)
    (done : ∀ h tk, (∀ b o, s.heap.get? b = some o → h.get? b = some o) → Upto P w ks s.heap.objs.size us.size h → Q (.ref s.heap.objs.size) { s with heap := h, toks := tk }) :
    wpAny (model P w) A (call (.type "set") [.ref q]) Q E s := by
  refine set_call fun led => ?_
  generalize hO : ({ cls := .type "set", dict := none, data := .set #[] 0 (.fresh 0 0 led) } : Obj) = O
  have hS : (s.heap.push O).get? s.heap.objs.size = some O := Heap.get?_push_size _ (by rw [← hO]; rfl)
  have sz : (s.heap.push O).objs.size = s.heap.objs.size + 1 := Heap.size_push ..
  have here1 := src.keep _ O here
  have start : ∀ o, Upto P w ks s.heap.objs.size 0 ((s.heap.push O).push o) := fun o =>
    ⟨_, #[], 0, _, Heap.get?_push_of_some _ hS, (by rw [← hO]; exact ⟨rfl, rfl, rfl⟩), (by rw [← hO]), fun e he => by simp at he, fun k => by simp [early], by decide, by rfl, rfl⟩
  refine codeAny_call_builtin PySem.F.called_set.init.plain PySem.F.entry_set_init (check_set_init_1 ⟨_, hS, by rw [← hO]⟩ ?_)
  refine init_of (led := led) (by rw [hO]; exact hS) (src.ty _ here1) src.n1 src.n2 src.n3 ?_
  refine src.walk (B := A.in1.in1.in1) calm here1 (by show q ≠ (s.heap.push O).objs.size; rw [sz]; exact Nat.ne_of_lt (Nat.lt_succ_of_lt old)) fun o St W st0 => ?_
  have W' : Walks P w A.in1.in1.in1 (s.heap.objs.size + 1) [s.heap.objs.size + 1, q] [s.heap.objs.size + 1] us.size (fun i v => us[i]? = some v) St := sz ▸ W
  refine wpAny_runValue ?_
  show codeAny _ _ (.builtin _ ⟨[_, .ref (s.heap.push O).objs.size], []⟩) _ _
  rw [sz]
  refine put_all W'.toS nd (by simp only [List.mem_cons, List.not_mem_nil, or_false, not_or]; exact ⟨Nat.ne_of_lt (Nat.lt_succ_self _), Nat.ne_of_gt old⟩) len room key us.size 0 (by omega) _ st0 (start o) fun t mv u => ?_
  obtain ⟨h, g, d, tk, os⟩ := t
  have e1 : g = s.gens := mv.gens
  have e2 : d = s.drawn := mv.drawn
  have e3 : os = s.os := mv.os
  subst e1 e2 e3
  refine ⟨rfl, done h tk (fun b o' e => ?_) u⟩
  have lt := Heap.lt_size e
  exact mv.heap b o' (by simp only [List.mem_cons, List.not_mem_nil, or_false, not_or]; exact ⟨Nat.ne_of_lt lt, Nat.ne_of_lt (Nat.lt_succ_of_lt lt)⟩) (Heap.get?_push_of_some _ (Heap.get?_push_of_some _ e))
end
/-! ### over the layer -/
/-- set(xs) -/
def rSetU (K : PySem.W.Frag) (P : Program) (w : World) : List V → Hp → VK → Prop := fun xs H Q => ∃ (l : Addr) (ks : List L2.Key), xs = [.ref l] ∧ (SqL K H l (ks.map kV) ∨ SqT K H l (ks.map kV)) ∧ ks.Nodup ∧ ks.length ≤ 4000 ∧ ∀ p, H p = none → Q (.ref p) (upd H p (SetK P w p (early ks ks.length) ks.length))
def rLenU (P : Program) (w : World) : List V → Hp → VK → Prop := fun xs H Q => ∃ a S n, xs = [.ref a] ∧ H a = some (SetK P w a S n) ∧ n ≤ 4000 ∧ Q (.int (n : Nat)) H
section
variable {X : Cx}
theorem keys_of {P : Program} {w : World} {ks : List L2.Key} {us : List Value} (r : Vals (ks.map kV) us) : ks.length = us.toArray.size ∧ ∀ (i : Nat) (v : Value), us.toArray[i]? = some v → ∃ k, ks[i]? = some k ∧ (mixKind P w).is k v = true ∧ v.scannable = true := by
  have len := r.length
  rw [List.length_map] at len
  refine ⟨by simpa using len, fun i v e => ?_⟩
  rw [List.getElem?_toArray] at e
  have hi : i < ks.length := by rw [len]; exact (List.getElem?_eq_some_iff.mp e).1
  obtain ⟨u, hu, ru⟩ := r.get (i := i) (x := kV ks[i]) (by simp [hi])
  cases e.symm.trans hu
  exact ⟨_, List.getElem?_eq_getElem hi, kV_is ru, key_scan ru⟩
theorem cr_setU (hc : X.calm = true) : CallR X (.type "set") (rSetU X.K X.prog X.w) := by
  rintro pps s σ H xs us Q I r ⟨l, ks, rfl, hl, nd, few, q⟩
  rw [Vals.ref1 r]
  have bound : 4000 + 1 < scanBound := by decide
  have fin : ∀ h tk (n : Nat), n = ks.length → (∀ b o, s.heap.get? b = some o → h.get? b = some o) → Upto X.prog X.w ks s.heap.objs.size n h → EP X pps σ Q (.ref s.heap.objs.size) { s with heap := h, toks := tk } := by
    rintro h tk n rfl old u
    exact ⟨.ref _, _, I.laid old (Nat.le_refl _) (setK_new u), rfl, q _ (I.hok.fresh (Nat.le_refl _))⟩
  rcases hl with hl | hl
  · obtain ⟨its, rv, pl, _⟩ := I.list hl
    obtain ⟨len, key⟩ := keys_of (P := X.prog) (w := X.w) rv
    exact set_of source_list pl.isList (Heap.lt_size pl.isList.choose_spec.1) (I.ok.hd hc) nd len (by omega) key fun h tk old u => fin h tk _ len.symm old u
  · obtain ⟨its, rv, pl, _⟩ := I.tuple hl
    obtain ⟨len, key⟩ := keys_of (P := X.prog) (w := X.w) rv
    exact set_of source_tuple pl (Heap.lt_size pl.choose_spec.1) (I.ok.hd hc) nd len (by omega) key fun h tk old u => fin h tk _ len.symm old u
theorem cr_lenU : CallR X (.builtin "len") (rLenU X.prog X.w) := by
  rintro pps s σ H xs us Q I r ⟨a, S, n, rfl, ha, few, q⟩
  rw [Vals.ref1 r]
  obtain ⟨o, es, ep, t, ho, ex, d, _, _, _, f, rfl⟩ := setK_get I ha
  exact call_len_set ho ex d f (by omega) ⟨.int (es.size : Nat), H, I.tok _, ⟨_, rfl⟩, q⟩
end
end Dr
/-! enumerate over a tuple -/
namespace Dr
open PySem PySem.Spec PyProof.Rows L2
section
variable {P : Program} {w : World} {A : Around} {E : Value → Shared → Prop}
set_option maxHeartbeats 1000000 in
/-- enumerate(v) of anything that an iterator comes of -/
theorem enum_call {s : Shared} {v : Value} {o : Obj} {Hc : Heap → Prop} {Q : Value → Shared → Prop} (B : Begins v o Hc) (here : Hc s.heap)
    (q : ∀ h, IsEnum h (s.heap.objs.size + 1) s.heap.objs.size (0 + ((0 : Nat) : Int)) .none → h.get? s.heap.objs.size = some o → (∀ b u, s.heap.get? b = some u → h.get? b = some u) → Q (.ref (s.heap.objs.size + 1)) { s with heap := h }) :
    wpAny (model P w) A (call (.type "enumerate") [v]) Q E s := by
  have sz : (s.heap.push o).objs.size = s.heap.objs.size + 1 := Heap.size_push ..
  have made : Meets (Builtin.«enumerate.__new__» ⟨[.type "enumerate", v], []⟩) (fun _ R t => Hc t.heap ∧ R (.ok (.ret (.ref (t.heap.push o).objs.size))) { t with heap := (t.heap.push o).push { cls := .type "enumerate", data := .fields #[.none, .bool false, .ref t.heap.objs.size, rawInt 0, .none, .none] } }) :=
    .of_wp fun P' w' A' R t ⟨ht, r⟩ => by
      obtain ⟨h, g, d, tk, os⟩ := t
      have sub := sub_enumerate
      have iter : ∀ {A2 : Around} {E2 : Value → Shared → Prop} {Q2 : Value → Shared → Prop}, Q2 (.ref h.objs.size) ⟨h.push o, g, d, tk, os⟩ → wpAny (model P' w') A2 (pyIter v) Q2 E2 ⟨h, g, d, tk, os⟩ := fun k => B.iter P' w' _ _ ⟨h, g, d, tk, os⟩ _ ht k
      wp_walk using iter
      refine wpAny_stack_any fun st => wpAny_pure ?_
      split
      · rename_i c _ _ _ _ _
        cases e : (c == Value.type "enumerate") <;> wp_walk using iter <;> exact ⟨_, rfl, r⟩
      · wp_walk using iter
        exact ⟨_, rfl, r⟩
  refine callType_new PySem.F.called_enumerate (by decide) (PySem.F.typeCall_enumerate_1 _) (PySem.F.newCall_enumerate_1 _) (fun obj => PySem.F.args_object_init_2 obj _) PySem.F.entry_enumerate_new made ⟨here, ?_⟩
  generalize ho2 : ({ cls := .type "enumerate", data := .fields #[.none, .bool false, .ref s.heap.objs.size, rawInt 0, .none, .none] } : Obj) = o2
  have at2 : ((s.heap.push o).push o2).get? (s.heap.push o).objs.size = some o2 := Heap.get?_push_size _ (by rw [← ho2]; rfl)
  show _ ∧ _
  rw [sz] at at2 ⊢
  refine ⟨⟨_, at2, by rw [← ho2]⟩, q _ ?_ (Heap.get?_push_of_some _ (Heap.get?_push_size _ B.free)) fun b u e => Heap.get?_push_of_some _ (Heap.get?_push_of_some _ e)⟩
  show _ = _
  rw [at2, ← ho2]
  rfl
end
/-- a tuple's items with their numbers, one by one -/
def IteT (K : PySem.W.Frag) (a : Addr) : It where
  go i H := ∃ xs x, SqT K H a xs ∧ xs[i]? = some x
  yld i H v H' := ∃ T x, v = .ref T ∧ H T = none ∧ H' = upd H T (.tup [.int (i : Nat), x]) ∧ ∀ xs, SqT K H a xs → xs[i]? = some x
  stop i H := ∃ xs, SqT K H a xs ∧ xs.length ≤ i
section
variable {P : Program} {w : World} {K : PySem.W.Frag} {elts : List Expr} {kk : Nat} {tpos : Pos} {a e it : Addr}
/-- how far the enumeration e, over the tuple's iterator it, has come -/
def Far (a e it : Addr) (i : Nat) (h : Heap) : Prop := (∃ old, IsEnum h e it (0 + (i : Int)) old) ∧ h.IsTupleIter it a i
theorem Far.eo {i : Nat} {h : Heap} (f : Far a e it i h) : e ≠ it := fun z => by
  obtain ⟨⟨old, h1⟩, o, h2, c, _⟩ := f
  rw [← z, h1] at h2
  cases h2
  exact absurd (show Value.type "enumerate" = Value.type "tuple_iterator" from c) (by decide)
theorem Far.ao {i : Nat} {h : Heap} {its : Array Value} (f : Far a e it i h) (p : h.IsTuple a its) : a ≠ e ∧ a ≠ it := by
  obtain ⟨⟨old, h1⟩, o, h2, c, _⟩ := f
  obtain ⟨o', h3, c', _⟩ := p
  refine ⟨fun z => ?_, fun z => ?_⟩
  · rw [z, h1] at h3
    cases h3
    exact absurd (show Value.type "enumerate" = Value.type "tuple" from c') (by decide)
  · rw [z, h2] at h3
    cases h3
    exact absurd (c.symm.trans c') (by decide)
theorem turn_enumT : Turn P w K (.Tuple elts kk tpos) (IteT K a) [e, it] e (Far a e it) where
  mem := List.mem_cons_self
  obj i h f b m := by
    obtain ⟨⟨old, h1⟩, o, h2, _, h3⟩ := f
    rcases List.mem_cons.mp m with rfl | m
    · exact ⟨_, h1, fun _ z => nomatch z⟩
    · cases List.mem_singleton.mp m
      exact ⟨o, h2, fun _ z => nomatch h3.symm.trans z⟩
  keep i h h' f k := ⟨f.1.imp fun old h1 => k e List.mem_cons_self _ h1, f.2.at fun o ho => k it (List.mem_cons_of_mem _ List.mem_cons_self) o ho⟩
  item := by
    rintro X rfl rfl rfl hc i pins s σ H Er I free f ⟨xs, x, hq, hx⟩
    obtain ⟨its, rv, p, _⟩ := I.tuple hq
    obtain ⟨u, hu, ru⟩ := rv.get hx
    have far := f.ao p
    have W := GoesN.enumFrom (elts := elts) (x1 := kk) (pos := tpos) 0 (Draws.tuple (prog := X.prog) (w := X.w) (A := X.A.in1) (I.ok.hd hc) it a far.2 its.toArray) e f.eo (by simpa using ⟨f.eo, far.1.symm⟩) (by simp)
    refine W.goes i s (fun v t => ∃ x H', Inv X pins σ H' t ∧ RelV x v ∧ (IteT X.K a).yld i H x H' ∧ Far a e it (i + 1) t.heap ∧ ∀ b ∈ [e, it], H' b = none) Er ?_ ⟨f.1, f.2, p⟩ ?_
    · have := (List.getElem?_eq_some_iff.mp hu).1
      simpa using this
    · rintro v h' tk ⟨T, t, y, rfl, newT, hy, hT⟩ ⟨e1, e2, _⟩ same _
      have ey : y = u := by
        rw [List.getElem?_toArray, hu] at hy
        exact (Option.some.inj hy).symm
      subst ey
      rw [Int.zero_add] at hT
      have lay : ObjOk X.prog X.w (upd H T (.tup [.int (i : Nat), x])) h' T (.tup [.int (i : Nat), x]) := ⟨by show 2 ≤ sizeLine; decide, [.int i t, y], .cons ⟨_, rfl⟩ (.cons ru .nil), hT⟩
      refine ⟨.ref T, _, I.turnedNew same free newT lay, rfl, ⟨T, x, rfl, I.hok.fresh newT, rfl, fun ys hys => by rw [I.tuple_inj hys hq]; exact hx⟩, ⟨e1, e2⟩, fun b m => ?_⟩
      have hb := (free b m).1
      rw [upd_ne ?_]
      · exact hb
      · rintro rfl
        have old : b < s.heap.objs.size := by
          obtain ⟨⟨_, h1⟩, o, h2, _⟩ := f
          rcases List.mem_cons.mp m with rfl | m
          · exact Heap.lt_size h1
          · cases List.mem_singleton.mp m
            exact Heap.lt_size h2
        exact absurd newT (Nat.not_le_of_gt old)
  done := by
    rintro X rfl rfl rfl hc i pins s σ H Er I free f ⟨xs, hq, hx⟩
    obtain ⟨its, rv, p, _⟩ := I.tuple hq
    have len := rv.length
    have far := f.ao p
    have past : its.toArray[i]? = none := by
      rw [List.getElem?_toArray]
      exact List.getElem?_eq_none (by omega)
    have D : Draws X.prog X.w X.A.in1 it [it, a] i (fun _ _ => True) (fun j h => j = i ∧ h.IsTupleIter it a i ∧ h.IsTuple a its.toArray) := {
      live := fun j h st => let ⟨o, ho, _⟩ := st.2.1; ⟨o, ho⟩
      frame := fun j h h' st k => ⟨st.1, st.2.1.at fun o e => k it (by simp) o e, st.2.2.at fun o e => k a (by simp) o e⟩
      item := fun j s Q E lt st _ => absurd lt (by rw [st.1]; exact Nat.lt_irrefl i)
      done := fun s Q E st k => wpAny_nextOf_tuple_end (A := X.A.in1) (I.ok.hd hc) st.2.1 st.2.2 past k }
    obtain ⟨⟨old, h1⟩, h2⟩ := f
    refine wpAny_pyNext_enum_endD D h1 ⟨rfl, h2, p⟩ fun h' eb => ⟨rfl, I.turnedL (t' := s.toks) (ch := [it]) (fun b o m k => eb b o (by simpa using m) k) fun b m => ?_⟩
    exact free b (List.mem_cons_of_mem _ m)
  self A i s Q Er f q := wpAny_pyIter_enum f.1.choose_spec q
/-- enumerate(t) as what a for goes over -/
def iEnumT (K : PySem.W.Frag) (ta : TA) : TI := fun σ H R => ta σ H fun vs H1 => ∃ a xs, vs = [.ref a] ∧ SqT K H1 a xs ∧ R (IteT K a) H1
theorem pi_enumT {X : Cx} {v : Expr} {ta : TA} {p pos : Pos} (hg : Gl X "enumerate") (hm : X.mg "enumerate" = none) (ha : PA X [v] ta) (hs : starEach [v] X.env = [(false, eval v X.env)] := by rfl) :
    PI X (.Tuple elts kk tpos) (.Call (.Name "enumerate" p) [v] [] pos) (iEnumT X.K ta) := by
  constructor
  intro pins s σ H R I h
  refine Call_ (ld_blt I hg hm boot_enumerate (PyProof.Rows.callWith_type1 (thn (ha.run pos pins s σ H _ I h) ?_) hs rfl))
  rintro us t ⟨vs, H1, I1, r, b, xs, rfl, hq, q⟩
  obtain ⟨z, rfl, rz⟩ := vals1 r
  cases rz
  obtain ⟨its, rv, pt, _⟩ := I1.tuple hq
  refine enum_call (begins_tuple b its.toArray) pt fun h e1 e2 old => ?_
  refine wpAny_pyIter_enum e1 ⟨_, [t.heap.objs.size + 1, t.heap.objs.size], Far b _ _, IteT X.K b, H1, rfl, I1.kept old, turn_enumT, ⟨⟨_, e1⟩, _, e2, rfl, rfl⟩, fun c m => ?_, q⟩
  have up : t.heap.objs.size ≤ c := by
    rcases List.mem_cons.mp m with rfl | m
    · exact Nat.le_succ _
    · rw [List.mem_singleton.mp m]
      exact Nat.le_refl _
  exact I1.fpOk up (I1.hok.fresh up)
/-- the walk of it -/
theorem walk_enumT {xs : List V} : Walk (IteT K a) xs.length (fun H => SqT K H a xs) (YPair (fun i => some (.int (i : Nat))) (fun i => xs[i]?)) where
  goes i H hi q := ⟨xs, xs[i], q, List.getElem?_eq_getElem hi⟩
  stops H q := ⟨xs, q, Nat.le_refl _⟩
  yields := fun i H v H' _ q ⟨T, x, h1, h2, h3, h4⟩ => ⟨T, _, x, h1, h2, h3, rfl, h4 xs q⟩
end
end Dr
/-! dict comprehensions of several clauses: one loop at any depth, told by what its body does -/
namespace Dr
open PySem PySem.Spec PyProof.Rows L2
/-- what a loop's body asks: the slots and the heap behind it -/
abbrev TB := L2.St → Hp → (L2.St → Hp → Prop) → Prop
/-- one loop over J: the slots vs are its own, forgotten at each turn -/
def tLp (J : It) (g : TG) (tt : TT) (b : TB) (vs : List Nat) (σ : L2.St) (H : Hp) (Qd : Hp → Prop) : Prop :=
  ∃ W : Nat → Nat → Hp → Prop, (∃ m, W 0 m H) ∧ ∀ i m H, W i m H → (J.stop i H ∧ Qd H) ∨ (J.go i H ∧ ∃ Nx : Hp → Prop, (∀ H', Nx H' → ∃ m', m' < m ∧ W (i + 1) m' H') ∧
    ∀ x H', J.yld i H x H' → g x (wipe σ vs) H' fun σ2 H2 => tt σ2 H2 fun k H3 => if k = true then b σ2 H3 (fun σ4 H4 => wipe σ4 vs = wipe σ vs ∧ Nx H4) else wipe σ2 vs = wipe σ vs ∧ Nx H3)
/-- the innermost body: a key, its value, put into the dict at D -/
def tPut (tk tv : TE) (D : Addr) : TB := fun σ H Q => tk σ H fun y H1 => tv σ H1 fun z H2 => ∃ kvs k, y = kV k ∧ H2 D = some (.dK kvs) ∧ kvs.length < sizeLine ∧ Q σ (upd H2 D (.dK (putK kvs k z)))
/-- a body that is a loop of its own -/
def tIn (wi : TI) (g : TG) (tt : TT) (b : TB) (vs : List Nat) : TB := fun σ H Q => wi σ H fun J H1 => tLp J g tt b vs (wipe σ vs) H1 fun H2 => Q (wipe σ vs) H2
section
variable {kx vx tg iter tg' iter' : Expr} {ifs ifs' : List Expr} {gens : List Comprehension} {scope : Scope} {pos : Pos} {d : Nat} {it : Value} {D : Addr} {env : Env}
/-- a turn's tests, and what follows where they hold -/
def tests (ifs : List Expr) (env : Env) (rest other : Sem Fin) : Sem Fin := do
  let ok ← forIn ifs true fun c r => if r = true then do let ok ← isTrue c env (eval c env); pure (ForInStep.yield ok) else pure (ForInStep.yield r)
  if ok = true then rest else other
def turnOf (tg iter : Expr) (ifs : List Expr) (it : Value) (env : Env) (rest other : Sem Fin) : Sem Fin := do
  standAt iter.pos
  match ← pyNext it with
  | none => pure (.done .next)
  | some v =>
    letOwnedTupleGo tg it v
    assign tg env v
    tests ifs env rest other
/-! ### over the layer -/
variable {Y : Cx} {J : It} {fp : List Addr} {ia : Addr} {tn : Nat → Heap → Prop} {g : TG} {tt : TT} {b : TB} {vs : List Nat} {pins : List (Addr × Obj)} {σ : L2.St} {H : Hp} {s : Shared}
/-- what a turn does behind its tests is what b asks; then the loop's code c again -/
def Body (Y : Cx) (rest : Sem Fin) (c : Code) (b : TB) : Prop := ∀ (pins : List (Addr × Obj)) (s : Shared) (σ : L2.St) (H : Hp) (Q : L2.St → Hp → Prop), Inv Y pins σ H s → b σ H Q →
  wpAny (model Y.prog Y.w) Y.A rest (fun fin s' => fin = .again c ∧ ∃ σ' H', Inv Y pins σ' H' s' ∧ Q σ' H') (fun _ _ => False) s
/-- the turn at depth d of the comprehension e: its target, its tests, then what b asks -/
def Does (Y : Cx) (tg iter : Expr) (ifs : List Expr) (e : Expr) (d : Nat) (it acc : Value) (b : TB) : Prop :=
  ∃ rest, compTurn e d it acc Y.env = turnOf tg iter ifs it Y.env rest (again (.compLoop e d it acc Y.env)) ∧ Body Y rest (.compLoop e d it acc Y.env) b
theorem fp_at {X : Cx} {p : List (Addr × Obj)} {H H' : Hp} {a : Addr} (f : FpOk X p H a) (h : H' a = none) : FpOk X p H' a := ⟨h, f.2⟩
/-- the slots of a state whose own names are forgotten -/
theorem inv_wipe {σ' : L2.St} (I : Inv Y pins σ' H s) (e : wipe σ' vs = wipe σ vs) : Inv Y pins (wipe σ vs) H s :=
  I.weak (by rw [← e, wipe_length]) fun i v h => (wipe_some (vs := vs) (by rw [e]; exact h)).1
/-- a loop of a comprehension, at whatever depth, runs as tLp says -/
theorem loop_run {R : Result → Shared → Prop} {Qd : Hp → Prop} {e : Expr} {rest : Sem Fin} {acc : Value} (calm : Y.calm = true) (never : Y.xe = fun _ _ => False) (T : Turn Y.prog Y.w Y.K tg J fp ia tn) (pg : PG Y tg g) (pt : PTs Y ifs tt)
    (code : compTurn e d (.ref ia) acc Y.env = turnOf tg iter ifs (.ref ia) Y.env rest (again (.compLoop e d (.ref ia) acc Y.env))) (quiet : (Code.compLoop e d (.ref ia) acc Y.env).quiet = true)
    (den : (model Y.prog Y.w).den (.compLoop e d (.ref ia) acc Y.env) = (compTurn e d (.ref ia) acc Y.env).onRaise (fun x => do noteFrame x Y.env; theTreesLotGoes x)) (under : Y.A.under (.compLoop e d (.ref ia) acc Y.env) = Y.A)
    (body : Body Y rest (.compLoop e d (.ref ia) acc Y.env) b) (I : Inv Y pins (wipe σ vs) H s) (st : tn 0 s.heap) (free : ∀ c ∈ fp, FpOk Y pins H c) (h : tLp J g tt b vs σ H Qd)
    (fin : ∀ s' H', Inv Y pins (wipe σ vs) H' s' → Qd H' → R (.ok .next) s') : codeAny (model Y.prog Y.w) Y.A (.compLoop e d (.ref ia) acc Y.env) R s := by
  obtain ⟨W, ⟨m0, w0⟩, turn⟩ := h
  refine codeAny_loop quiet (fun n t => ∃ i H', Inv Y pins (wipe σ vs) H' t ∧ tn i t.heap ∧ (∀ c ∈ fp, H' c = none) ∧ W i n H') ?_ m0 ⟨0, H, I, st, fun c m => (free c m).1, w0⟩
  rintro n t ⟨i, H1, I1, st1, none1, w1⟩
  have free1 : ∀ {H' : Hp}, (∀ c ∈ fp, H' c = none) → ∀ c ∈ fp, FpOk Y pins H' c := fun z c m => fp_at (free c m) (z c m)
  rw [under, den, code]
  refine wpAny_noted (wpAny_bind (wpAny_standAt (wpAny_bind ?_)))
  rcases turn i n H1 w1 with ⟨stop, q⟩ | ⟨go, Nx, next, step⟩
  · refine thnF (T.done Y rfl rfl rfl calm i pins t _ H1 (fun _ _ => False) I1 (free1 none1) st1 stop) ?_
    rintro r t2 ⟨rfl, I2⟩
    exact wpAny_pure (fin t2 H1 I2 q)
  · refine thnF (T.item Y rfl rfl rfl calm i pins t _ H1 (fun _ _ => False) I1 (free1 none1) st1 go) ?_
    rintro r t2 ⟨u, rfl, own⟩
    refine wpAny_bind (thnF own ?_)
    rintro _ t3 ⟨x, H3, I3, rx, y3, st3, none3⟩
    have I3' := I3.pinned (free1 none3) (T.obj _ _ st3)
    -- whatever comes, the iterator stands as it was
    have back : ∀ {t' : Shared} {σ' : L2.St} {H' : Hp}, Inv Y (pins ++ pinsAt fp t3.heap) σ' H' t' → wipe σ' vs = wipe σ vs → Nx H' → ∃ m, m < n ∧ ∃ i H'', Inv Y pins (wipe σ vs) H'' t' ∧ tn i t'.heap ∧ (∀ c ∈ fp, H'' c = none) ∧ W i m H'' := fun {t' σ' H'} J' ew nx => by
      obtain ⟨m, lt, w'⟩ := next H' nx
      have stays : ∀ c ∈ fp, ∀ o, t3.heap.get? c = some o → t'.heap.get? c = some o ∧ H' c = none := fun c mc o ho =>
        (J'.pin (c, o) (List.mem_append_right _ (List.mem_append_right _ (mem_pinsAt mc ho)))).imp id And.left
      refine ⟨m, lt, i + 1, H', inv_wipe J'.unpinned ew, T.keep _ _ _ st3 fun c mc o ho => (stays c mc o ho).1, fun c mc => ?_, w'⟩
      obtain ⟨o, ho, _⟩ := T.obj _ _ st3 c mc
      exact (stays c mc o ho).2
    have pgr := pg.run _ t3 _ H3 x u _ I3' rx (step x H3 y3)
    rw [never] at pgr
    refine wpAny_bind (thnF pgr ?_)
    rintro _ t4 ⟨σ4, H4, I4, q4⟩
    have ptr := pt.run _ t4 σ4 H4 _ I4 q4
    rw [never] at ptr
    refine wpAny_bind (thnF ptr ?_)
    rintro ok t5 ⟨H5, I5, q5⟩
    cases ok with
    | false =>
      rw [if_neg Bool.false_ne_true] at q5 ⊢
      exact wpAny_pure ⟨rfl, back I5 q5.1 q5.2⟩
    | true =>
      rw [if_pos rfl] at q5 ⊢
      refine thnF (body _ t5 σ4 H5 _ I5 q5) ?_
      rintro f t6 ⟨rfl, σ6, H6, I6, e6, nx⟩
      exact ⟨rfl, back I6 e6 nx⟩
/-- the innermost turn -/
theorem leaf {tk tv : TE} (never : Y.xe = fun _ _ => False) (h : gens[d]? = some ⟨tg, iter, ifs, 0⟩) (hn : gens[d + 1]? = none) (pk : PE Y kx tk) (pv : PE Y vx tv) :
    Does Y tg iter ifs (.DictComp kx vx gens scope pos) d it (.ref D) (tPut tk tv D) := by
  refine ⟨_, by unfold compTurn turnOf tests; simp only [h, hn]; rfl, ?_⟩
  intro pins s σ H Q I q
  have r1 := pk.run pins s σ H _ I q
  rw [never] at r1
  refine wpAny_bind (wpAny_bind (thn r1 ?_))
  rintro u t ⟨y, H1, I1, ry, q1⟩
  have r2 := pv.run pins t σ H1 _ I1 q1
  rw [never] at r2
  refine wpAny_bind (wpAny_holding (thn r2 ?_))
  rintro z t2 ⟨v, H2, I2, rv, kvs, k, rfl, hD, few, q2⟩
  exact wpAny_bind (wpAny_standAt (wpAny_holding (d_dictSet I2 hD few ry rv fun t3 I3 => wpAny_pure ⟨rfl, σ, _, I3, q2⟩)))
/-- a comprehension's first step: its iterator is asked for itself, then the loop -/
theorem start_run {P : Program} {w : World} {A : Around} {R : Result → Shared → Prop} {t : Shared} {acc : Value} (h : gens[d]? = some ⟨tg, iter, ifs, 0⟩) (loop : codeAny (model P w) A (.compLoop (.DictComp kx vx gens scope pos) d it acc env) R t)
    (self : ∀ {E : Value → Shared → Prop} {Q : Value → Shared → Prop}, Q it t → wpAny (model P w) A (pyIter it) Q E t) : codeAny (model P w) A (.compStart (.DictComp kx vx gens scope pos) d it acc env) R t := by
  refine codeAny_of_tree ?_
  show wpAny _ A ((compStart (.DictComp kx vx gens scope pos) d it acc env).onRaise _) _ _ t
  refine wpAny_notedAt ?_
  have cl : clausesOf (.DictComp kx vx gens scope pos) = gens := rfl
  unfold compStart
  simp only [cl, h, Option.elim]
  refine wpAny_bind (wpAny_askSetting (wpAny_ite ?_))
  split
  · exact wpAny_bind (wpAny_pure (wpAny_pure ⟨rfl, loop⟩))
  · exact wpAny_bind (wpAny_rule (wpAny_bind (wpAny_standAt (wpAny_bind (self (wpAny_pure ⟨rfl, loop⟩))))))
/-- a turn whose body is one more loop -/
theorem nest {wi : TI} {g' : TG} {tt' : TT} {b' : TB} {vs' : List Nat} (calm : Y.calm = true) (never : Y.xe = fun _ _ => False) (h : gens[d]? = some ⟨tg, iter, ifs, 0⟩) (hn : gens[d + 1]? = some ⟨tg', iter', ifs', 0⟩) (fold : ∀ x, foldedSetIterable iter' Y.env x = pure x)
    (pi : PI Y tg' iter' wi) (pg : PG Y tg' g') (pt : PTs Y ifs' tt')
    (inner : ∀ ia : Addr, Does Y tg' iter' ifs' (.DictComp kx vx gens scope pos) (d + 1) (.ref ia) (.ref D) b') :
    Does Y tg iter ifs (.DictComp kx vx gens scope pos) d it (.ref D) (tIn wi g' tt' b' vs') := by
  refine ⟨_, by unfold compTurn turnOf tests; simp only [h, hn, bne_self_eq_false, Bool.false_eq_true, if_false]; rfl, ?_⟩
  intro pins s σ H Q I q
  have r1 := pi.run pins s σ H _ I q
  rw [never] at r1
  refine wpAny_bind (thn r1 fun x t r2 => ?_)
  refine wpAny_bind (wpAny_standAt (wpAny_bind (wpAny_of_eq (fold x) (wpAny_bind (wpAny_holding (thn r2 ?_))))))
  rintro v t2 ⟨ia, fp, tn, J, H2, rfl, I2, T, st2, f2, q2⟩
  obtain ⟨rest, code, body⟩ := inner ia
  refine wpAny_bind (wpAny_runOwn ?_)
  show codeAny _ Y.A _ _ t2
  refine start_run hn ?_ (fun k => T.self _ 0 t2 _ _ st2 k)
  have I2' : Inv Y pins (wipe (wipe σ vs') vs') H2 t2 := I2.weak (by rw [wipe_length, wipe_length]) fun i v h => (wipe_some (wipe_some h).1).1
  refine loop_run calm never T pg pt code rfl rfl rfl body I2' st2 f2 q2 fun t3 H3 I3 q3 => wpAny_pure ⟨rfl, _, H3, I3.weak (by rw [wipe_length, wipe_length, wipe_length]) fun i v h => by rw [wipe_out (wipe_some h).2]; exact h, q3⟩
/-- the whole: what the first clause's iterator is asked, then a new dict, then its loop -/
def tDcN (wi : TI) (g : TG) (tt : TT) (b : Addr → TB) (vs : List Nat) : TE := fun σ H Q => wi σ H fun J H1 => ∀ D, H1 D = none → tLp J g tt (b D) vs σ (upd H1 D (.dK [])) fun H2 => Q (.ref D) H2
theorem pe_dcN {X : Cx} {more : List Comprehension} {own : List (Str × Nat)} {wi : TI} {b : Addr → TB} (calm : X.calm = true) (nd : X.N.Nodup) (pi : PI X tg iter wi) (ok : BlkOk X.N X.env.scope scope own)
    (pg : ∀ (s : Shared) (H : Hp) (C : Addr) (cl : List (Str × Addr)) (fp : List Addr), PG (X.blk s H scope (compEnvC scope cl C X.env) fp) tg g) (pt : ∀ (s : Shared) (H : Hp) (C : Addr) (cl : List (Str × Addr)) (fp : List Addr), PTs (X.blk s H scope (compEnvC scope cl C X.env) fp) ifs tt)
    (pb : ∀ (s : Shared) (H : Hp) (C : Addr) (cl : List (Str × Addr)) (fp : List Addr) (D ia : Addr), Does (X.blk s H scope (compEnvC scope cl C X.env) fp) tg iter ifs (.DictComp kx vx (⟨tg, iter, ifs, 0⟩ :: more) scope pos) 0 (.ref ia) (.ref D) (b D))
    (fold : ∀ x, foldedSetIterable iter X.env x = pure x := by intro _; rfl) : PE X (.DictComp kx vx (⟨tg, iter, ifs, 0⟩ :: more) scope pos) (tDcN wi g tt b (own.map (·.2))) := by
  constructor
  intro pins s σ H Q I h
  rw [arm_eval_DictComp]
  have cells : ∀ y ∈ scope.names, y.2 = .free → ∃ c, X.env.cells.lookup y.1 = some c := fun y m e => I.ok.has _ (ok.free y m e)
  refine wpAny_comprehension_free rfl fold (closure_ok cells) ok.kind (fun y m e => by rw [ok.uniq y m, e]) (thn (pi.run pins s σ H _ I h) fun x s1 r1 => thn r1 ?_)
  rintro v s2 ⟨ia, fp, tn, J, H2, rfl, I2, T, st2, f2, q⟩
  refine wpAny_newObj_type (newEnv_comp ?_)
  -- the dict
  obtain ⟨D, hD⟩ : ∃ D, D = s2.heap.objs.size := ⟨_, rfl⟩
  rw [← hD]
  have new := I2.hok.fresh (Nat.le_of_eq hD.symm)
  obtain ⟨s3, hs3⟩ : ∃ s3 : Shared, s3 = { s2 with heap := s2.heap.push { cls := .type "dict", data := .dict #[] } } := ⟨_, rfl⟩
  have keep23 : ∀ c o, s2.heap.get? c = some o → s3.heap.get? c = some o := fun c o e => by rw [hs3]; exact Heap.get?_push_of_some _ e
  have I3 : Inv X pins σ (upd H2 D (.dK [])) s3 := by
    rw [hs3]
    refine I2.laid (t' := s2.toks) (fun c o e => Heap.get?_push_of_some _ e) (Nat.le_of_eq hD.symm) ?_
    rw [hD]
    exact dk_empty s2.heap I2.big
  have below : ∀ c ∈ fp, c < s2.heap.objs.size := fun c m => let ⟨_, e, _⟩ := T.obj _ _ st2 c m; Heap.lt_size e
  have f3 : ∀ c ∈ fp, FpOk X pins (upd H2 D (.dK [])) c ∧ c < s3.heap.objs.size := fun c m => by
    refine ⟨fp_at (f2 c m) ?_, ?_⟩
    · rw [upd_ne (by rw [hD]; exact Nat.ne_of_lt (below c m))]
      exact (f2 c m).1
    · obtain ⟨o, e, _⟩ := T.obj _ _ st2 c m
      exact Heap.lt_size (keep23 c o e)
  -- the block's own context
  have I4 := block_start I3 ok nd f3
  have body := pb s3 (upd H2 D (.dK [])) s3.heap.objs.size (cellsFrom (s3.heap.objs.size + 1) scope.names (cloFrom X.env.cells scope.names [])) fp D ia
  have target := pg s3 (upd H2 D (.dK [])) s3.heap.objs.size (cellsFrom (s3.heap.objs.size + 1) scope.names (cloFrom X.env.cells scope.names [])) fp
  have filter := pt s3 (upd H2 D (.dK [])) s3.heap.objs.size (cellsFrom (s3.heap.objs.size + 1) scope.names (cloFrom X.env.cells scope.names [])) fp
  have here : (compEnvC scope (cellsFrom (s3.heap.objs.size + 1) scope.names (cloFrom X.env.cells scope.names [])) s3.heap.objs.size X.env).locals = s3.heap.objs.size := rfl
  have goal : codeAny (model X.prog X.w) X.A (.compStart (.DictComp kx vx (⟨tg, iter, ifs, 0⟩ :: more) scope pos) 0 (.ref ia) (.ref D) (compEnvC scope (cellsFrom (s3.heap.objs.size + 1) scope.names (cloFrom X.env.cells scope.names [])) s3.heap.objs.size X.env))
      (compPost (model X.prog X.w) X.A X.xe Option.none (EP X pins σ Q) (.ref D) s3.heap.objs.size) { s3 with heap := pushCells (s3.heap.push { cls := .type "dict", data := .dict #[] }) scope.names } := by
    generalize compEnvC scope (cellsFrom (s3.heap.objs.size + 1) scope.names (cloFrom X.env.cells scope.names [])) s3.heap.objs.size X.env = ce at *
    obtain ⟨s4, hs4⟩ : ∃ s4 : Shared, s4 = { s3 with heap := pushCells (s3.heap.push { cls := .type "dict", data := .dict #[] }) scope.names } := ⟨_, rfl⟩
    rw [← hs4] at I4 ⊢
    have st4 : tn 0 s4.heap := T.keep _ _ _ st2 fun c _ o e => by
      rw [hs4]
      exact pushCells_keeps _ _ _ _ (Heap.get?_push_of_some _ (keep23 c o e))
    have f4 : ∀ c ∈ fp, FpOk (X.blk s3 (upd H2 D (.dK [])) scope ce fp) [] (upd H2 D (.dK [])) c := fun c m => ⟨(f3 c m).1.1, (I4.ok.exf c m).1, I4.ok.exfs c m, .inl m, (I4.ok.exf c m).2, fun p mp => absurd mp List.not_mem_nil⟩
    obtain ⟨rest, code, run⟩ := body
    refine start_run rfl (loop_run (Y := X.blk s3 (upd H2 D (.dK [])) scope ce fp) calm rfl T target filter code rfl rfl rfl run I4 st4 f4 (q D new) fun s' H' I' q' => ?_) fun k => T.self _ 0 s4 _ _ st4 k
    -- behind the block
    have I5 : Inv X pins σ H' s' := I3.call' (ch := fp) I'.os I'.base I'.hok I'.bare fun c m => let f := (f3 c m).1.2; ⟨f.2.2.1, f.1, f.2.2.2.1, f.2.2.2.2⟩
    have away : H' s3.heap.objs.size = Option.none := here ▸ I'.free
    obtain ⟨ns, hns, _⟩ := I'.loc
    obtain ⟨g0, g1, g2, g3, g4, g5⟩ := I3.fpOk (H' := H') (Nat.le_refl _) away
    exact ⟨ns, here ▸ hns, fun h' same => ⟨.ref D, H', I5.turned (t' := s'.toks) (fun c o ne e => (same.2 c ne).trans e) g0 g1 g3 g4 g5, rfl, q'⟩⟩
  rw [hs3] at goal
  exact goal
end
end Dr
/-! the text of the program, and what its top has written -/
namespace Dr
open PySem L2
def top (i : Nat) : Stmt := PySem.Challenge.pw_doorhouses_k01_whole_doors_made.main.body.getD i (.Pass ⟨0, 0, 0, 0⟩)
abbrev s_is_integer : Stmt := top 4
abbrev s_is_within : Stmt := top 5
abbrev s_is_name : Stmt := top 6
abbrev s_is_tuple : Stmt := top 7
abbrev s_are_unlike : Stmt := top 8
abbrev s_is_unknown : Stmt := top 15
abbrev s_is_word : Stmt := top 16
abbrev s_is_called : Stmt := top 17
abbrev s_size_of : Stmt := top 18
abbrev s_parts_of : Stmt := top 19
abbrev s_numbers_in : Stmt := top 20
abbrev s_Order_init : Stmt := (inClass (top 22) 0)
abbrev s_Order_is_greater : Stmt := (inClass (top 22) 1)
abbrev s_Order_looked : Stmt := (inClass (top 22) 2)
abbrev s_Order_goes_ahead : Stmt := (inClass (top 22) 3)
abbrev s_are_words : Stmt := top 30
abbrev s_are_sealed : Stmt := top 31
abbrev s_are_heads : Stmt := top 32
abbrev s_Shape_init : Stmt := (inClass (top 33) 0)
abbrev s_Shape_kind_of : Stmt := (inClass (top 33) 2)
abbrev s_Shape_is_asker : Stmt := (inClass (top 33) 3)
abbrev s_Shape_told : Stmt := (inClass (top 33) 4)
abbrev s_Shape_told_together : Stmt := (inClass (top 33) 5)
abbrev s_Shape_told_beside : Stmt := (inClass (top 33) 6)
abbrev s_Shape_kind_by : Stmt := (inClass (top 33) 7)
abbrev s_is_law : Stmt := top 34
abbrev s_Door_init : Stmt := (inClass (top 35) 0)
abbrev s_Door_eq : Stmt := (inClass (top 35) 1)
abbrev s_law_hand : Stmt := top 37
abbrev s_law_draw : Stmt := top 38
abbrev s_law_some : Stmt := top 39
abbrev s_law_is : Stmt := top 40
abbrev s_law_words : Stmt := top 41
abbrev s_law_heads : Stmt := top 42
abbrev s_law_drawn_term : Stmt := top 43
abbrev s_law_size : Stmt := top 44
abbrev s_law_unknowns : Stmt := top 45
abbrev s_law_is_above : Stmt := top 46
abbrev s_law_drawn_law : Stmt := top 47
abbrev s_law_parts : Stmt := top 48
abbrev s_law_made : Stmt := top 49
abbrev s_law_stands : Stmt := top 50
abbrev s_law_others : Stmt := top 51
abbrev s_law_is_known_right : Stmt := top 52
abbrev s_law : Stmt := top 53
/-- a def of the top: where it stands -/
structure Dfn (K : PySem.W.Frag) (mg : Str → Option Value) (x : Str) (st : Stmt) (ps : List Str) where
  f : Addr
  fd : FuncData
  F : Fun K x x st f fd
  g : mg x = some (.ref f)
  b : Binds K fd ps []
/-- a method -/
structure Mth (K : PySem.W.Frag) (C : Addr) (x q : Str) (st : Stmt) (ps : List Str) where
  f : Addr
  fd : FuncData
  F : Fun K x q st f fd
  M : Meth K C x f
  b : Binds K fd ps []
/-- a class of the top -/
structure Kls (K : PySem.W.Frag) (mg : Str → Option Value) (x : Str) where
  C : Addr
  g : mg x = some (.ref C)
  cl : Cls K C
  makes : PySem.W.makesIn K C = true
  kp : PySem.W.keepIn K (.ref C) = true
def Glo (mg : Str → Option Value) (x : Str) (v : V) : Prop := ∃ u, mg x = some u ∧ RelV v u
theorem pe_glo {X : Cx} {x : Str} {v : V} {pos : Pos} (hg : Gl X x) (h : Glo X.mg x v) (hd : (x == ("__debug__" : Str)) = false := by decide) : PE X (.Name x pos) (tC v) := let ⟨_, a, b⟩ := h; pe_glob hg a b hd
theorem Mth.mk' {K : PySem.W.Frag} {C : Addr} {st : Stmt} {ps : List Str} {x q : Str} (m : Mth K C x q st ps) (h1 : PySem.W.makesIn K C = true) (h2 : PySem.W.keepIn K (.ref C) = true) (e : x = "__init__") : Mk K C m.f := ⟨h1, by rw [← e]; exact m.M.at_, m.M.fn, h2⟩
structure Tx (K : PySem.W.Frag) (mg : Str → Option Value) where
  cOrder : Kls K mg "Order"
  cShape : Kls K mg "Shape"
  cDoor : Kls K mg "Door"
  f_is_integer : Dfn K mg "is_integer" s_is_integer ["thing"]
  f_is_within : Dfn K mg "is_within" s_is_within ["thing", "least", "most"]
  f_is_name : Dfn K mg "is_name" s_is_name ["thing"]
  f_is_tuple : Dfn K mg "is_tuple" s_is_tuple ["thing", "least", "most"]
  f_are_unlike : Dfn K mg "are_unlike" s_are_unlike ["items"]
  f_is_unknown : Dfn K mg "is_unknown" s_is_unknown ["thing"]
  f_is_word : Dfn K mg "is_word" s_is_word ["term"]
  f_is_called : Dfn K mg "is_called" s_is_called ["term"]
  f_size_of : Dfn K mg "size_of" s_size_of ["term"]
  f_parts_of : Dfn K mg "parts_of" s_parts_of ["term"]
  f_numbers_in : Dfn K mg "numbers_in" s_numbers_in ["term"]
  f_Order_init : Mth K cOrder.C "__init__" "Order.__init__" s_Order_init ["self", "rank"]
  f_Order_is_greater : Mth K cOrder.C "is_greater" "Order.is_greater" s_Order_is_greater ["self", "one", "other"]
  f_Order_looked : Mth K cOrder.C "looked" "Order.looked" s_Order_looked ["self", "one", "other"]
  f_Order_goes_ahead : Mth K cOrder.C "goes_ahead" "Order.goes_ahead" s_Order_goes_ahead ["self", "one", "other"]
  f_are_words : Dfn K mg "are_words" s_are_words ["thing"]
  f_are_sealed : Dfn K mg "are_sealed" s_are_sealed ["thing", "words"]
  f_are_heads : Dfn K mg "are_heads" s_are_heads ["thing", "kinds", "words"]
  f_Shape_init : Mth K cShape.C "__init__" "Shape.__init__" s_Shape_init ["self", "words", "sealed", "heads"]
  f_Shape_kind_of : Mth K cShape.C "kind_of" "Shape.kind_of" s_Shape_kind_of ["self", "term"]
  f_Shape_is_asker : Mth K cShape.C "is_asker" "Shape.is_asker" s_Shape_is_asker ["self", "term"]
  f_Shape_told : Mth K cShape.C "told" "Shape.told" s_Shape_told ["self", "thing", "kind", "found"]
  f_Shape_told_together : Mth K cShape.C "told_together" "Shape.told_together" s_Shape_told_together ["self", "pairs"]
  f_Shape_told_beside : Mth K cShape.C "told_beside" "Shape.told_beside" s_Shape_told_beside ["self", "one", "other"]
  f_Shape_kind_by : Mth K cShape.C "kind_by" "Shape.kind_by" s_Shape_kind_by ["self", "found", "term"]
  f_is_law : Dfn K mg "is_law" s_is_law ["shape", "thing"]
  f_Door_init : Mth K cDoor.C "__init__" "Door.__init__" s_Door_init ["self", "words", "sealed", "heads", "laws"]
  f_Door_eq : Mth K cDoor.C "__eq__" "Door.__eq__" s_Door_eq ["self", "other"]
  f_law_hand : Dfn K mg "_law_hand" s_law_hand ["script"]
  f_law_draw : Dfn K mg "_law_draw" s_law_draw ["hand", "many"]
  f_law_some : Dfn K mg "_law_some" s_law_some ["hand", "things"]
  f_law_is : Dfn K mg "_law_is" s_law_is ["told", "due"]
  f_law_words : Dfn K mg "_law_words" s_law_words ["hand"]
  f_law_heads : Dfn K mg "_law_heads" s_law_heads ["hand", "words", "sealed"]
  f_law_drawn_term : Dfn K mg "_law_drawn_term" s_law_drawn_term ["hand", "parts", "kind", "deep", "told", "heads"]
  f_law_size : Dfn K mg "_law_size" s_law_size ["term"]
  f_law_unknowns : Dfn K mg "_law_unknowns" s_law_unknowns ["term"]
  f_law_is_above : Dfn K mg "_law_is_above" s_law_is_above ["parts", "one", "other"]
  f_law_drawn_law : Dfn K mg "_law_drawn_law" s_law_drawn_law ["hand", "parts"]
  f_law_parts : Dfn K mg "_law_parts" s_law_parts ["hand"]
  f_law_made : Dfn K mg "_law_made" s_law_made ["parts"]
  f_law_stands : Dfn K mg "_law_stands" s_law_stands ["door", "parts"]
  f_law_others : Dfn K mg "_law_others" s_law_others ["hand", "parts"]
  f_law_is_known_right : Dfn K mg "_law_is_known_right" s_law_is_known_right []
  f_law : Dfn K mg "law" s_law ["script"]
  gLETTERS : Glo mg "LETTERS" (.str "abcdefghijklmnopqrstuvwxyz")
  gMOST_LETTERS : Glo mg "MOST_LETTERS" (.int 8)
  gMOST_NUMBER : Glo mg "MOST_NUMBER" (.int 999)
  gUNKNOWN : Glo mg "UNKNOWN" (.str "?")
  gMOST_KINDS : Glo mg "MOST_KINDS" (.int 4)
  gMOST_WORDS : Glo mg "MOST_WORDS" (.int 4)
  gMOST_HEADS : Glo mg "MOST_HEADS" (.int 12)
  gMOST_LAWS : Glo mg "MOST_LAWS" (.int 16)
  gMOST_LAW_PARTS : Glo mg "MOST_LAW_PARTS" (.int 30)
  gMOST_SHAPE : Glo mg "MOST_SHAPE" (.int 3)
  z_len : mg "len" = none
  z_int : mg "int" = none
  z_abs : mg "abs" = none
  z_range : mg "range" = none
  z_isinstance : mg "isinstance" = none
  z_all : mg "all" = none
  z_any : mg "any" = none
  z_sum : mg "sum" = none
  z_list : mg "list" = none
  z_set : mg "set" = none
  z_enumerate : mg "enumerate" = none
  z_zip : mg "zip" = none
  z_tuple : mg "tuple" = none
  z_dict : mg "dict" = none
  z_sorted : mg "sorted" = none
  z_str : mg "str" = none
  z_bool : mg "bool" = none
  n_Order_rank : NoAttr K cOrder.C "rank"
  n_Order_found : NoAttr K cOrder.C "found"
  n_Shape_sealed : NoAttr K cShape.C "sealed"
  n_Shape_word_kinds : NoAttr K cShape.C "word_kinds"
  n_Shape_lots : NoAttr K cShape.C "lots"
  n_Shape_heads : NoAttr K cShape.C "heads"
  n_Shape_rank : NoAttr K cShape.C "rank"
  n_Door_shape : NoAttr K cDoor.C "shape"
  n_Door_words : NoAttr K cDoor.C "words"
  n_Door_sealed : NoAttr K cDoor.C "sealed"
  n_Door_heads : NoAttr K cDoor.C "heads"
  n_Door_laws : NoAttr K cDoor.C "laws"
  n_Door_meeting : NoAttr K cDoor.C "meeting"
theorem not_none : ∀ {α : Type} {x : α}, some x ≠ none := fun h => nomatch h
/-- what stands, stays, but for the objects at S -/
def Gr (S : List Addr) (H H' : Hp) : Prop := (∀ b o, H b = some o → b ∉ S → H' b = some o) ∧ Ts H H'
theorem Gr.refl (S : List Addr) (H : Hp) : Gr S H H := ⟨fun _ _ e _ => e, Ts.refl H⟩
theorem Gr.trans {S : List Addr} {A B C : Hp} (x : Gr S A B) (y : Gr S B C) : Gr S A C := ⟨fun b o e n => y.1 b o (x.1 b o e n) n, x.2.trans y.2⟩
theorem Gr.new {S : List Addr} {H : Hp} {a : Addr} {o : HO} (h : H a = none) : Gr S H (upd H a o) := ⟨fun b u e _ => by rw [upd_ne (ne_of_none e h)]; exact e, Ts.new h⟩
theorem Gr.of {S : List Addr} {H H' : Hp} (h : Same H H') : Gr S H H' := ⟨fun b o e _ => h b o e, Ts.of h⟩
theorem Gr.same {H H' : Hp} (h : Gr [] H H') : Same H H' := fun b o e => h.1 b o e (by simp)
theorem Gr.wide {S T : List Addr} {H H' : Hp} (h : Gr S H H') (k : ∀ b ∈ S, b ∈ T) : Gr T H H' := ⟨fun b o e n => h.1 b o e fun z => n (k b z), h.2⟩
theorem Gr.less {S : List Addr} {H H' : Hp} (h : Gr [] H H') : Gr S H H' := h.wide fun b z => nomatch z
theorem Gr.at {S : List Addr} {H : Hp} {a : Addr} {o u : HO} (h : H a = some u) (n : ∀ xs, u ≠ .tup xs) (m : a ∈ S) : Gr S H (upd H a o) := ⟨fun b v e k => by rw [upd_ne (fun z => k (by rw [z]; exact m))]; exact e, Ts.at h n⟩
/-- a new object was changed since -/
theorem Gr.since {S : List Addr} {H H' : Hp} {a : Addr} (h : Gr (a :: S) H H') (n : H a = Option.none) : Gr S H H' := ⟨fun b o e k => h.1 b o e (by
  rw [List.mem_cons, not_or]
  exact ⟨ne_of_none e n, k⟩), h.2⟩
theorem Gr.upd2 {S : List Addr} {H H' : Hp} {a : Addr} {o : HO} (h : Gr S H H') (n : H a = Option.none) : Gr S H (upd H' a o) := ⟨fun b u e k => by rw [upd_ne (ne_of_none e n)]; exact h.1 b u e k, fun b xs e => by rw [upd_ne (ne_of_none e n)]; exact h.2 b xs e⟩
/-! ### rules with the written part named -/
section
variable {X : Cx}
theorem ixT (K : PySem.W.Frag) (h : X.K = K := by rfl) : IxR X (rIxT K) := h ▸ ix_tup
theorem ixL (K : PySem.W.Frag) (h : X.K = K := by rfl) : IxR X (rIxL K) := h ▸ ix_list
theorem isiK (K : PySem.W.Frag) (h : X.K = K := by rfl) : CallR X (.builtin "isinstance") (rIsi K) := h ▸ call_isi
theorem allK (K : PySem.W.Frag) (h : X.K = K := by rfl) (hc : X.calm = true := by rfl) : CallR X (.builtin "all") (rAll K) := h ▸ cr_all hc
theorem anyK (K : PySem.W.Frag) (h : X.K = K := by rfl) (hc : X.calm = true := by rfl) : CallR X (.builtin "any") (rAny K) := h ▸ cr_any hc
theorem sumK (K : PySem.W.Frag) (h : X.K = K := by rfl) (hc : X.calm = true := by rfl) : CallR X (.builtin "sum") (rSum K) := h ▸ cr_sum hc
def rLenK (K : PySem.W.Frag) : List V → Hp → VK → Prop := fun xs H Q => ∃ p ys, xs = [.ref p] ∧ (SqL K H p ys ∨ SqT K H p ys) ∧ Q (.int ys.length) H
theorem lenK (K : PySem.W.Frag) (h : X.K = K := by rfl) : CallR X (.builtin "len") (rLenK K) := h ▸ call_len_seq
theorem piT {tg l : Expr} {tl : TE} (K : PySem.W.Frag) (hl : PE X l tl) (h : X.K = K := by rfl) : PI X tg l (iTup K tl) := h ▸ pi_tup hl
theorem piL {tg l : Expr} {tl : TE} (K : PySem.W.Frag) (hl : PE X l tl) (h : X.K = K := by rfl) : PI X tg l (iList K tl) := h ▸ pi_list hl
theorem pgT {es : List Expr} {kk : Nat} {t : TGs} {pos : Pos} (K : PySem.W.Frag) (n : Nat) (h : PGs X es t) (hc : X.calm = true := by rfl) (e : X.K = K := by rfl) (hn : (assignEach es X.env).length = n := by rfl) (hst : (assignEach es X.env).findIdx? (·.1) = none := by rfl) : PG X (.Tuple es kk pos) (gTup K n t) := e ▸ pg_tup hc h hn hst
theorem fldK {e : Expr} {f : Str} {pos : Pos} {ta : TE} (K : PySem.W.Frag) (he : PE X e ta) (hb : attributeBase e f X.env (eval e X.env) = eval e X.env := by rfl) (h : X.K = K := by rfl) : PE X (.Attribute e f pos) (tFld K ta f) := h ▸ pe_fld he hb
end
/-! ### slices and sums of tuples, in short -/
def rSlN : V → Option Int → Option Int → Hp → VK → Prop := fun x lo hi H Q => ∃ a xs, x = .ref a ∧ H a = some (.tup xs) ∧ ∀ p H', Gr [] H H' → H' p = some (.tup (cutV xs lo hi)) → Q (.ref p) H'
def rCatN : R2 := fun x y H Q => ∃ a b xs ys, x = .ref a ∧ y = .ref b ∧ H a = some (.tup xs) ∧ H b = some (.tup ys) ∧ xs.length + ys.length ≤ sizeLine ∧ ∀ p H', Gr [] H H' → H' p = some (.tup (xs ++ ys)) → Q (.ref p) H'
section
variable {X : Cx}
theorem cut_whole {xs : List V} {lo hi : Option Int} (h : HT.sIx xs.length 0 lo = 0 ∧ HT.sIx xs.length xs.length hi = xs.length) : cutV xs lo hi = xs := by
  unfold cutV
  rw [h.1, h.2]
  simp
theorem sl_tupN : SlR X rSlN := fun pps s σ H x v vl vu lo hi sl Q I rx hs pl pu ⟨a, xs, ex, ha, q⟩ =>
  sl_tupA pps s σ H x v vl vu lo hi sl Q I rx hs pl pu ⟨a, xs, ex, SqT.of ha, fun hw => q a H (Gr.refl _ H) (by rw [cut_whole hw]; exact ha), fun _ p hp => q p _ (Gr.new hp) upd_same⟩
theorem op_catN : OpR X (binaryOp .Add) rCatN := fun pps s σ H x y v u Q I rx ry ⟨a, b, xs, ys, ex, ey, ha, hb, hz, q⟩ =>
  op_catA pps s σ H x y v u Q I rx ry ⟨a, b, xs, ys, ex, ey, SqT.of ha, SqT.of hb, hz, fun e => q b H (Gr.refl _ H) (by rw [e]; exact hb), fun _ e => q a H (Gr.refl _ H) (by rw [e, List.append_nil]; exact ha), fun _ _ p hp => q p _ (Gr.new hp) upd_same⟩
end
theorem cut1 (xs : List V) : cutV xs (some 1) none = xs.drop 1 := by
  unfold cutV
  cases xs with
  | nil => rfl
  | cons a l =>
    have e : HT.sIx (a :: l).length 0 (some 1) = 1 := by
      unfold HT.sIx
      simp
    rw [e]
    show ((a :: l).drop 1).take ((a :: l).length - 1) = _
    rw [List.take_of_length_le (by simp)]
theorem at0 {x : V} {xs : List V} : atI (x :: xs) 0 = some x := atI_nat (j := 0) rfl
theorem at1 {x y : V} {xs : List V} : atI (x :: y :: xs) 1 = some y := atI_nat (j := 1) rfl
theorem at2 {x y z : V} {xs : List V} : atI (x :: y :: z :: xs) 2 = some z := atI_nat (j := 2) rfl
theorem ne_same {v : V} : V.bl (!decide (v = v)) = V.bl false := by rw [decide_eq_true rfl]; rfl
theorem ne_unlike {v u : V} (h : v ≠ u) : V.bl (!decide (v = u)) = V.bl true := by rw [decide_eq_false h]; rfl
theorem eq_same {v : V} : V.bl (decide (v = v)) = V.bl true := by rw [decide_eq_true rfl]
theorem eq_unlike {v u : V} (h : v ≠ u) : V.bl (decide (v = u)) = V.bl false := by rw [decide_eq_false h]
theorem bind1 {K : PySem.W.Frag} {x q : Str} {st : Stmt} {f : Addr} {fd : FuncData} {a : Str} (F : Fun K x q st f fd) (h : ∀ (kV doc pm : Value) (an : Option Addr) (cdv ct : Value) (u : Value), bindArgs (PySem.W.fnOf x q (defArgs st) (defBody st) (defScope st) .none kV doc pm an cdv ct) ⟨[u], []⟩ = pure ([a].zip [u])) : Binds K fd [a] [] :=
  F.binds (ps := [a]) fun kV doc pm an cdv ct us hl => match us, hl with | [u], _ => h kV doc pm an cdv ct u
end Dr
/-! looks at data and at terms -/
namespace Dr
open PySem L2
def Tm.isU : Tm → Bool | .u _ => true | _ => false
def Tm.isW : Tm → Bool | .w _ => true | _ => false
def Tm.isC : Tm → Bool | .c _ _ => true | _ => false
def letters : Str := "abcdefghijklmnopqrstuvwxyz"
def nameOk (x : Str) : Bool := decide (1 ≤ x.length) && decide (x.length ≤ 8) && x.cps.toList.all fun c => decide (c ∈ letters.cps.toList)
@[irreducible] def spInteger : Sp := fun vs H Q _ => ∃ i : Int, vs = [.int i] ∧ Q (.bl true) H
theorem spInteger_of {vs : List V} {H : Hp} {Q : VK} {E : XK} (h : ∃ i : Int, vs = [.int i] ∧ Q (.bl true) H) : spInteger vs H Q E := by unfold spInteger; exact h
@[irreducible] def spWithin : Sp := fun vs H Q _ => ∃ i a b : Int, vs = [.int i, .int a, .int b] ∧ Q (.bl (decide (a ≤ i) && decide (i ≤ b))) H
theorem spWithin_of {vs : List V} {H : Hp} {Q : VK} {E : XK} (h : ∃ i a b : Int, vs = [.int i, .int a, .int b] ∧ Q (.bl (decide (a ≤ i) && decide (i ≤ b))) H) : spWithin vs H Q E := by unfold spWithin; exact h
@[irreducible] def spName : Sp := fun vs H Q _ => ∃ x : Str, vs = [.str x] ∧ nameOk x = true ∧ ∀ H', Gr [] H H' → Q (.bl true) H'
theorem spName_of {vs : List V} {H : Hp} {Q : VK} {E : XK} (h : ∃ x : Str, vs = [.str x] ∧ nameOk x = true ∧ ∀ H', Gr [] H H' → Q (.bl true) H') : spName vs H Q E := by unfold spName; exact h
@[irreducible] def spTuple : Sp := fun vs H Q _ => ∃ (v : V) (a b : Int), vs = [v, .int a, .int b] ∧ ((∃ x, v = .str x ∧ Q (.bl false) H) ∨ ∃ p xs, v = .ref p ∧ H p = some (.tup xs) ∧ Q (.bl (decide (a ≤ (xs.length : Int)) && decide ((xs.length : Int) ≤ b))) H)
theorem spTuple_of {vs : List V} {H : Hp} {Q : VK} {E : XK} (h : ∃ (v : V) (a b : Int), vs = [v, .int a, .int b] ∧ ((∃ x, v = .str x ∧ Q (.bl false) H) ∨ ∃ p xs, v = .ref p ∧ H p = some (.tup xs) ∧ Q (.bl (decide (a ≤ (xs.length : Int)) && decide ((xs.length : Int) ≤ b))) H)) : spTuple vs H Q E := by unfold spTuple; exact h
@[irreducible] def spUnlike : Sp := fun vs H Q _ => ∃ (l : Addr) (ks : List Str), vs = [.ref l] ∧ (H l = some (.lst (ks.map V.str)) ∨ H l = some (.tup (ks.map V.str))) ∧ ks.Nodup ∧ ks.length ≤ 4000 ∧ ∀ H', Gr [] H H' → Q (.bl true) H'
theorem spUnlike_of {vs : List V} {H : Hp} {Q : VK} {E : XK} (h : ∃ (l : Addr) (ks : List Str), vs = [.ref l] ∧ (H l = some (.lst (ks.map V.str)) ∨ H l = some (.tup (ks.map V.str))) ∧ ks.Nodup ∧ ks.length ≤ 4000 ∧ ∀ H', Gr [] H H' → Q (.bl true) H') : spUnlike vs H Q E := by unfold spUnlike; exact h
@[irreducible] def spUnknown : Sp := fun vs H Q _ => ∃ (v : V) (t : Tm), vs = [v] ∧ Dd H v t.enc ∧ Q (.bl t.isU) H
theorem spUnknown_of {vs : List V} {H : Hp} {Q : VK} {E : XK} (h : ∃ (v : V) (t : Tm), vs = [v] ∧ Dd H v t.enc ∧ Q (.bl t.isU) H) : spUnknown vs H Q E := by unfold spUnknown; exact h
@[irreducible] def spWord : Sp := fun vs H Q _ => ∃ (v : V) (t : Tm), vs = [v] ∧ Dd H v t.enc ∧ Q (.bl t.isW) H
theorem spWord_of {vs : List V} {H : Hp} {Q : VK} {E : XK} (h : ∃ (v : V) (t : Tm), vs = [v] ∧ Dd H v t.enc ∧ Q (.bl t.isW) H) : spWord vs H Q E := by unfold spWord; exact h
@[irreducible] def spCalled : Sp := fun vs H Q _ => ∃ (v : V) (t : Tm), vs = [v] ∧ Dd H v t.enc ∧ Q (.bl t.isC) H
theorem spCalled_of {vs : List V} {H : Hp} {Q : VK} {E : XK} (h : ∃ (v : V) (t : Tm), vs = [v] ∧ Dd H v t.enc ∧ Q (.bl t.isC) H) : spCalled vs H Q E := by unfold spCalled; exact h
section
variable {P : Program} {w : World} {K : PySem.W.Frag} {mg : Str → Option Value} {base : Heap}
theorem sc_is_integer : FnScope ["thing"] ["thing"] (defScope s_is_integer) := ⟨rfl, rfl, rfl, by decide +kernel, rfl, by decide +kernel, by decide +kernel⟩
theorem ok_is_integer (T : Tx K mg) : FnOk P w K mg base CX0 1 T.f_is_integer.f T.f_is_integer.fd ["thing"] spInteger := by
  refine T.f_is_integer.F.ok sc_is_integer (fun vs H Q E h => ?_) (fun cdv A outer s H vs Q E hr h => ?_)
  · unfold spInteger at h
    obtain ⟨i, rfl, _⟩ := h
    rfl
  · have nd := sc_is_integer.nd
    refine ⟨_, (pss_one (ps_ret (pe_and (pe_callB (isiK K) (by rfl) T.z_isinstance (by decide +kernel) (pa_cons (pv 0) (pa_cons (pe_bltn (v := .ty "int") (u := .type "int") (by rfl) T.z_int (by decide +kernel) rfl) pa_nil))) (pe_one (pe_not (pe_callB (isiK K) (by rfl) T.z_isinstance (by decide +kernel) (pa_cons (pv 0) (pa_cons (pe_bltn (v := .ty "bool") (u := .type "bool") (by rfl) T.z_bool (by decide +kernel) rfl) pa_nil)))))))), ?_⟩
    unfold spInteger at h
    obtain ⟨i, rfl, k⟩ := h
    exact ⟨_, rfl, ⟨_, _, _, _, true, rfl, .ty _, .base (.int _), kit_ty (by decide +kernel), ⟨true, rfl, iteT ⟨_, rfl, ⟨_, _, _, _, false, rfl, .ty _, .base (.int _), kit_ty (by decide +kernel), ⟨false, rfl, k⟩⟩⟩⟩⟩⟩
theorem sc_is_within : FnScope ["thing", "least", "most"] ["thing", "least", "most"] (defScope s_is_within) := ⟨rfl, rfl, rfl, by decide +kernel, rfl, by decide +kernel, by decide +kernel⟩
theorem ok_is_within (T : Tx K mg) : FnOk P w K mg base CX0 2 T.f_is_within.f T.f_is_within.fd ["thing", "least", "most"] spWithin := by
  refine T.f_is_within.F.ok sc_is_within (fun vs H Q E h => ?_) (fun cdv A outer s H vs Q E hr h => ?_)
  · unfold spWithin at h
    obtain ⟨i, a, b, rfl, _⟩ := h
    rfl
  · have nd := sc_is_within.nd
    refine ⟨_, (pss_one (ps_ret (pe_and (pe_call (ok_is_integer T) (hr.mono (by omega)) rfl T.f_is_integer.g T.f_is_integer.F.kp T.f_is_integer.b .nil pass0 (pa_cons (pv 0) pa_nil)) (pe_one (pe_chain op_le op_le (pv 1) (pv 0) (pv 2)))))), ?_⟩
    unfold spWithin at h
    obtain ⟨i, a, b, rfl, k⟩ := h
    refine ⟨_, rfl, ?_⟩
    show spInteger [.int i] H _ _
    unfold spInteger
    refine ⟨i, rfl, true, rfl, iteT ?_⟩
    refine ⟨_, rfl, _, rfl, _, _, rfl, rfl, _, rfl, ite2 (fun e => ?_) (fun e => ?_)⟩
    · refine ⟨_, rfl, _, _, rfl, rfl, ?_⟩
      rw [e, Bool.true_and] at k
      exact k
    · have e' : decide (a ≤ i) = false := by simpa using e
      rw [e', Bool.false_and] at k
      exact k
theorem sc_is_name : FnScope ["thing", "sign"] ["thing"] (defScope s_is_name) := ⟨rfl, rfl, rfl, by decide +kernel, rfl, by decide +kernel, by decide +kernel⟩
theorem ok_is_name (T : Tx K mg) : FnOk P w K mg base CX0 1 T.f_is_name.f T.f_is_name.fd ["thing"] spName := by
  refine T.f_is_name.F.ok sc_is_name (fun vs H Q E h => ?_) (fun cdv A outer s H vs Q E hr h => ?_)
  · unfold spName at h
    obtain ⟨i, rfl, _⟩ := h
    rfl
  · have nd := sc_is_name.nd
    refine ⟨_, (pss_one (ps_ret (pe_and (pe_callB (isiK K) (by rfl) T.z_isinstance (by decide +kernel) (pa_cons (pv 0) (pa_cons (pe_bltn (v := .ty "str") (u := .type "str") (by rfl) T.z_str (by decide +kernel) rfl) pa_nil))) (pe_and (pe_chain op_le op_le pe_int (pe_callB call_len_str (by rfl) T.z_len (by decide +kernel) (pa_cons (pv 0) pa_nil)) (pe_glo (by rfl) T.gMOST_LETTERS)) (pe_one (pe_callB (allK K) (by rfl) T.z_all (by decide +kernel) (pa_cons (pe_lc (own := [("sign", 1)]) rfl nd (pi_str (pv 0)) (blkOk_by (own := [("sign", 1)]) (N := ["thing", "sign"]) (sc := defScope s_is_name) (by decide +kernel)) (fun _ _ _ _ _ => (pg_name (i := 1) nd rfl (Or.inl rfl) (Or.inr rfl))) (fun _ _ _ _ _ => pts_nil) (fun _ _ _ _ _ => (pe_cmpR op_in_sign (pv 1) (pe_glo (by rfl) T.gLETTERS) (by rfl)))) pa_nil))))))), ?_⟩
    unfold spName at h
    obtain ⟨x, rfl, hx, k⟩ := h
    unfold nameOk at hx
    rw [Bool.and_eq_true, Bool.and_eq_true, decide_eq_true_eq, decide_eq_true_eq] at hx
    obtain ⟨⟨h1, h2⟩, h3⟩ := hx
    have hz : x.length ≤ sizeLine := Nat.le_trans h2 (by decide)
    refine ⟨_, rfl, ⟨_, _, _, _, true, rfl, .ty _, .base (.str _), kit_ty (by decide +kernel), ⟨true, rfl, iteT ?_⟩⟩⟩
    refine ⟨_, rfl, _, rfl, hz, _, _, rfl, rfl, true, (by show V.bl (decide ((1 : Int) ≤ (x.length : Int))) = _; rw [decide_eq_true (by omega)]), iteT ⟨_, _, rfl, rfl, true, (by show V.bl (decide ((x.length : Int) ≤ (8 : Int))) = _; rw [decide_eq_true (by omega)]), iteT ?_⟩⟩
    refine ⟨_, rfl, x, rfl, fun D hD => ?_⟩
    refine lc_it walk_str (fun i H' => Gr [] H H' ∧ H' D = some (.lst (List.replicate i (V.bl true)))) ⟨Gr.new hD, upd_same⟩ (fun _ _ _ _ => trivial) ?_ ?_
    · rintro i y H1 H2 hi ⟨g1, g2⟩ ⟨rfl, c, hc, rfl⟩
      have hi8 : i < x.length := hi
      have hm : c ∈ letters.cps.toList := by
        have hc' : c ∈ x.cps.toList := by
          have := Array.mem_of_getElem? hc
          exact Array.mem_toList_iff.mpr this
        exact of_decide_eq_true (List.all_eq_true.mp h3 c hc')
      refine ⟨rfl, ?_⟩
      unfold tYes
      refine iteT ?_
      refine ⟨_, rfl, c, letters, rfl, rfl, ?_⟩
      rw [decide_eq_true hm]
      refine ⟨_, g2, by rw [List.length_replicate, sizeLine_eq]; omega, g1.upd2 hD, ?_⟩
      rw [upd_same, List.replicate_succ']
    · rintro H1 ⟨g1, g2⟩
      refine ⟨D, List.replicate x.cps.size true, rfl, SqL.of (by rw [g2, List.map_replicate]), ?_⟩
      rw [show (List.replicate x.cps.size true).all id = true by simp]
      exact k _ g1
theorem sc_is_tuple : FnScope ["thing", "least", "most"] ["thing", "least", "most"] (defScope s_is_tuple) := ⟨rfl, rfl, rfl, by decide +kernel, rfl, by decide +kernel, by decide +kernel⟩
theorem ok_is_tuple (T : Tx K mg) : FnOk P w K mg base CX0 1 T.f_is_tuple.f T.f_is_tuple.fd ["thing", "least", "most"] spTuple := by
  refine T.f_is_tuple.F.ok sc_is_tuple (fun vs H Q E h => ?_) (fun cdv A outer s H vs Q E hr h => ?_)
  · unfold spTuple at h
    obtain ⟨v, a, b, rfl, _⟩ := h
    rfl
  · have nd := sc_is_tuple.nd
    refine ⟨_, (pss_one (ps_ret (pe_and (pe_callB (isiK K) (by rfl) T.z_isinstance (by decide +kernel) (pa_cons (pv 0) (pa_cons (pe_bltn (v := .ty "tuple") (u := .type "tuple") (by rfl) T.z_tuple (by decide +kernel) rfl) pa_nil))) (pe_one (pe_chain op_le op_le (pv 1) (pe_callB (lenK K) (by rfl) T.z_len (by decide +kernel) (pa_cons (pv 0) pa_nil)) (pv 2)))))), ?_⟩
    unfold spTuple at h
    obtain ⟨v, a, b, rfl, ⟨x, rfl, k⟩ | ⟨p, xs, rfl, hp, k⟩⟩ := h
    · exact ⟨_, rfl, ⟨_, _, _, _, false, rfl, .ty _, .base (.str _), kit_ty (by decide +kernel), ⟨false, rfl, iteF k⟩⟩⟩
    · refine ⟨_, rfl, ⟨_, _, _, _, true, rfl, .ty _, .base (.tup hp), kit_ty (by decide +kernel), ⟨true, rfl, iteT ?_⟩⟩⟩
      refine ⟨_, rfl, _, rfl, _, _, rfl, .inr (SqT.of hp), _, _, rfl, rfl, _, rfl, ite2 (fun e => ?_) (fun e => ?_)⟩
      · refine ⟨_, rfl, _, _, rfl, rfl, ?_⟩
        rw [e, Bool.true_and] at k
        exact k
      · have e' : decide (a ≤ (xs.length : Int)) = false := by simpa using e
        rw [e', Bool.false_and] at k
        exact k
theorem sc_are_unlike : FnScope ["items"] ["items"] (defScope s_are_unlike) := ⟨rfl, rfl, rfl, by decide +kernel, rfl, by decide +kernel, by decide +kernel⟩
theorem ok_are_unlike (T : Tx K mg) : FnOk P w K mg base CX0 1 T.f_are_unlike.f T.f_are_unlike.fd ["items"] spUnlike := by
  refine T.f_are_unlike.F.ok sc_are_unlike (fun vs H Q E h => ?_) (fun cdv A outer s H vs Q E hr h => ?_)
  · unfold spUnlike at h
    obtain ⟨l, ks, rfl, _⟩ := h
    rfl
  · have nd := sc_are_unlike.nd
    refine ⟨_, (pss_one (ps_ret (pe_cmpR op_eq (pe_callB cr_lenU (by rfl) T.z_len (by decide +kernel) (pa_cons (pe_callTy (cr_setU rfl) (by rfl) T.z_set (by decide +kernel) (pa_cons (pv 0) pa_nil)) pa_nil)) (pe_callB (lenK K) (by rfl) T.z_len (by decide +kernel) (pa_cons (pv 0) pa_nil)) (nomark _)))), ?_⟩
    unfold spUnlike at h
    obtain ⟨l, ks, rfl, hl, hn, hk, k⟩ := h
    have e1 : (ks.map (Sum.inr : Str → Key)).map kV = ks.map V.str := by rw [List.map_map]; rfl
    have n1 : (ks.map (Sum.inr : Str → Key)).Nodup := List.Pairwise.map _ (fun a b h z => h (Sum.inr.inj z)) hn
    refine ⟨_, rfl, l, ks.map Sum.inr, rfl, ?_, n1, (by rw [List.length_map]; exact hk), fun p hp => ?_⟩
    · rw [e1]
      exact hl.imp SqL.of SqT.of
    have gp : Gr [] H (upd H p (SetK P w p (early (ks.map Sum.inr) (ks.map (Sum.inr : Str → Key)).length) (ks.map (Sum.inr : Str → Key)).length)) := Gr.new hp
    refine ⟨p, _, _, rfl, upd_same, (by rw [List.length_map]; exact hk), _, rfl, l, ks.map V.str, rfl, hl.imp (fun e => SqL.of (gp.same _ _ e)) (fun e => SqT.of (gp.same _ _ e)), ?_⟩
    refine ⟨rfl, ?_⟩
    show Q (.bl (decide (V.int (((ks.map (Sum.inr : Str → Key)).length : Nat) : Int) = V.int ((ks.map V.str).length : Nat)))) _
    rw [List.length_map, List.length_map, decide_eq_true rfl]
    exact k _ (Gr.new hp)
theorem sc_is_unknown : FnScope ["thing"] ["thing"] (defScope s_is_unknown) := ⟨rfl, rfl, rfl, by decide +kernel, rfl, by decide +kernel, by decide +kernel⟩
theorem ok_is_unknown (T : Tx K mg) : FnOk P w K mg base CX0 3 T.f_is_unknown.f T.f_is_unknown.fd ["thing"] spUnknown := by
  refine T.f_is_unknown.F.ok sc_is_unknown (fun vs H Q E h => ?_) (fun cdv A outer s H vs Q E hr h => ?_)
  · unfold spUnknown at h
    obtain ⟨v, t, rfl, _⟩ := h
    rfl
  · have nd := sc_is_unknown.nd
    refine ⟨_, (pss_cons (ps_if (PW.pt (pw_or (pt_not (pt_val (pe_call (ok_is_tuple T) (hr.mono (by omega)) rfl T.f_is_tuple.g T.f_is_tuple.F.kp T.f_is_tuple.b .nil pass0 (pa_cons (pv 0) (pa_cons pe_int (pa_cons pe_int pa_nil)))))) (pw_or (pt_not (pt_val (pe_callB (isiK K) (by rfl) T.z_isinstance (by decide +kernel) (pa_cons (pe_ix (ixT K) (pv 0) pe_int (fun _ _ => rfl)) (pa_cons (pe_bltn (v := .ty "str") (u := .type "str") (by rfl) T.z_str (by decide +kernel) rfl) pa_nil))))) (pw_or1 (pt_cmpR op_ne (pe_ix (ixT K) (pv 0) pe_int (fun _ _ => rfl)) (pe_glo (by rfl) T.gUNKNOWN) (nomark _)))))) (pss_one (ps_ret pe_bl)) pss_nil) (pss_one (ps_ret (pe_call (ok_is_within T) (hr.mono (by omega)) rfl T.f_is_within.g T.f_is_within.F.kp T.f_is_within.b .nil pass0 (pa_cons (pe_ix (ixT K) (pv 0) pe_int (fun _ _ => rfl)) (pa_cons pe_int (pa_cons (pe_glo (by rfl) T.gMOST_NUMBER) pa_nil))))))), ?_⟩
    unfold spUnknown at h
    obtain ⟨v, t, rfl, hd, k⟩ := h
    refine ⟨_, rfl, ?_⟩
    show spTuple [v, .int 2, .int 2] H _ _
    unfold spTuple
    cases t with
    | w x =>
      simp only [Tm.enc] at hd
      obtain ⟨rfl, _⟩ := hd.text_inv
      exact ⟨_, _, _, rfl, .inl ⟨_, rfl, _, rfl, iteT (iteT k)⟩⟩
    | u n =>
      simp only [Tm.enc] at hd
      obtain ⟨a, xs, rfl, ha, hs⟩ := hd.tup_inv
      obtain ⟨v1, ws, rfl, h1, hs⟩ := hs.cons_inv
      obtain ⟨v2, ws2, rfl, h2, hs⟩ := hs.cons_inv
      cases hs.nil_inv
      obtain ⟨rfl, _⟩ := h1.text_inv
      cases h2.num_inv
      refine ⟨_, _, _, rfl, .inr ⟨a, _, rfl, ha, true, rfl, iteF ?_⟩⟩
      refine ⟨_, rfl, a, _, _, _, rfl, rfl, SqT.of ha, rfl, ⟨_, _, _, _, true, rfl, .ty _, .base (.str _), kit_ty (by decide +kernel), ⟨true, rfl, iteF ?_⟩⟩⟩
      refine ⟨_, rfl, a, _, _, _, rfl, rfl, SqT.of ha, rfl, rfl, false, ne_same, iteF ?_⟩
      refine ⟨_, rfl, a, _, _, _, rfl, rfl, SqT.of ha, rfl, ?_⟩
      show spWithin [.int (n.1 : Int), .int 0, .int 999] H _ _
      unfold spWithin
      refine ⟨_, _, _, rfl, ?_⟩
      have := n.2
      rw [decide_eq_true (by omega), decide_eq_true (by omega)]
      exact k
    | c g ts =>
      simp only [Tm.enc] at hd
      obtain ⟨a, xs, rfl, ha, hs⟩ := hd.tup_inv
      obtain ⟨v1, ws, rfl, h1, hs⟩ := hs.cons_inv
      obtain ⟨rfl, _⟩ := h1.text_inv
      refine ⟨_, _, _, rfl, .inr ⟨a, _, rfl, ha, _, rfl, ite2 (fun _ => iteT k) (fun _ => ?_)⟩⟩
      refine ⟨_, rfl, a, _, _, _, rfl, rfl, SqT.of ha, at0, ⟨_, _, _, _, true, rfl, .ty _, .base (.str _), kit_ty (by decide +kernel), ⟨true, rfl, iteF ?_⟩⟩⟩
      exact ⟨_, rfl, a, _, _, _, rfl, rfl, SqT.of ha, at0, rfl, true, ne_unlike (fun z => g.2 (by injection z)), iteT k⟩
theorem sc_is_word : FnScope ["term"] ["term"] (defScope s_is_word) := ⟨rfl, rfl, rfl, by decide +kernel, rfl, by decide +kernel, by decide +kernel⟩
theorem ok_is_word (T : Tx K mg) : FnOk P w K mg base CX0 1 T.f_is_word.f T.f_is_word.fd ["term"] spWord := by
  refine T.f_is_word.F.ok sc_is_word (fun vs H Q E h => ?_) (fun cdv A outer s H vs Q E hr h => ?_)
  · unfold spWord at h
    obtain ⟨v, t, rfl, _⟩ := h
    rfl
  · have nd := sc_is_word.nd
    refine ⟨_, (pss_one (ps_ret (pe_callB (isiK K) (by rfl) T.z_isinstance (by decide +kernel) (pa_cons (pv 0) (pa_cons (pe_bltn (v := .ty "str") (u := .type "str") (by rfl) T.z_str (by decide +kernel) rfl) pa_nil))))), ?_⟩
    unfold spWord at h
    obtain ⟨v, t, rfl, hd, k⟩ := h
    cases t with
    | w x =>
      simp only [Tm.enc] at hd
      obtain ⟨rfl, _⟩ := hd.text_inv
      exact ⟨_, rfl, ⟨_, _, _, _, true, rfl, .ty _, .base (.str _), kit_ty (by decide +kernel), k⟩⟩
    | u n =>
      simp only [Tm.enc] at hd
      obtain ⟨a, xs, rfl, ha, hs⟩ := hd.tup_inv
      exact ⟨_, rfl, ⟨_, _, _, _, false, rfl, .ty _, .base (.tup ha), kit_ty (by decide +kernel), k⟩⟩
    | c g ts =>
      simp only [Tm.enc] at hd
      obtain ⟨a, xs, rfl, ha, hs⟩ := hd.tup_inv
      exact ⟨_, rfl, ⟨_, _, _, _, false, rfl, .ty _, .base (.tup ha), kit_ty (by decide +kernel), k⟩⟩
theorem sc_is_called : FnScope ["term"] ["term"] (defScope s_is_called) := ⟨rfl, rfl, rfl, by decide +kernel, rfl, by decide +kernel, by decide +kernel⟩
theorem ok_is_called (T : Tx K mg) : FnOk P w K mg base CX0 2 T.f_is_called.f T.f_is_called.fd ["term"] spCalled := by
  refine T.f_is_called.F.ok sc_is_called (fun vs H Q E h => ?_) (fun cdv A outer s H vs Q E hr h => ?_)
  · unfold spCalled at h
    obtain ⟨v, t, rfl, _⟩ := h
    rfl
  · have nd := sc_is_called.nd
    refine ⟨_, (pss_one (ps_ret (pe_and (pe_not (pe_call (ok_is_word T) (hr.mono (by omega)) rfl T.f_is_word.g T.f_is_word.F.kp T.f_is_word.b .nil pass0 (pa_cons (pv 0) pa_nil))) (pe_one (pe_cmpR op_ne (pe_ix (ixT K) (pv 0) pe_int (fun _ _ => rfl)) (pe_glo (by rfl) T.gUNKNOWN) (nomark _)))))), ?_⟩
    unfold spCalled at h
    obtain ⟨v, t, rfl, hd, k⟩ := h
    refine ⟨_, rfl, ?_⟩
    show spWord [v] H _ _
    unfold spWord
    refine ⟨v, t, rfl, hd, _, rfl, ?_⟩
    cases t with
    | w x => exact ⟨_, rfl, iteF k⟩
    | u n =>
      simp only [Tm.enc] at hd
      obtain ⟨a, xs, rfl, ha, hs⟩ := hd.tup_inv
      obtain ⟨v1, ws, rfl, h1, hs⟩ := hs.cons_inv
      obtain ⟨rfl, _⟩ := h1.text_inv
      exact ⟨_, rfl, iteT ⟨_, rfl, a, _, _, _, rfl, rfl, SqT.of ha, at0, rfl, k⟩⟩
    | c g ts =>
      simp only [Tm.enc] at hd
      obtain ⟨a, xs, rfl, ha, hs⟩ := hd.tup_inv
      obtain ⟨v1, ws, rfl, h1, hs⟩ := hs.cons_inv
      obtain ⟨rfl, _⟩ := h1.text_inv
      refine ⟨_, rfl, iteT ⟨_, rfl, a, _, _, _, rfl, rfl, SqT.of ha, at0, rfl, ?_⟩⟩
      show Q (V.bl (!decide (V.str g.1 = V.str "?"))) H
      rw [decide_eq_false (fun z => g.2 (by injection z))]
      exact k
end
end Dr
/-! sizes, parts, numbers of terms -/
namespace Dr
open PySem L2
theorem cut {t1 t2 : TS} {D : Ends} {σ : St} {H : Hp} (I : St → Hp → Prop) (h2 : ∀ σ' H', I σ' H' → t2 D σ' H') (h1 : (∀ σ' H', I σ' H' → t2 D σ' H') → tSeq t1 t2 D σ H) : tSeq t1 t2 D σ H := h1 h2
theorem Dds.tm {H : Hp} {vs : List V} {ts : List Tm} {i : Nat} {x : V} (h : Dds H vs (Tm.encs ts)) (e : vs[i]? = some x) : ∃ t, ts[i]? = some t ∧ Dd H x t.enc := by
  obtain ⟨d, hd, h⟩ := h.get e
  rw [Tm.encs_map, List.getElem?_map] at hd
  obtain ⟨t, ht, rfl⟩ := Option.map_eq_some_iff.mp hd
  exact ⟨t, ht, h⟩
theorem Dds.tms {H : Hp} {vs : List V} {ts : List Tm} (h : Dds H vs (Tm.encs ts)) : vs.length = ts.length := by
  rw [h.length, Tm.encs_map, List.length_map]
theorem called_inv {H : Hp} {v : V} {g : Hd} {ts : List Tm} (h : Dd H v (Tm.c g ts).enc) : ∃ a vs, v = .ref a ∧ H a = some (.tup (.str g.1 :: vs)) ∧ Dds H vs (Tm.encs ts) := by
  simp only [Tm.enc] at h
  obtain ⟨a, xs, rfl, ha, hs⟩ := h.tup_inv
  obtain ⟨v1, ws, rfl, h1, hw⟩ := hs.cons_inv
  obtain ⟨rfl, _⟩ := h1.text_inv
  exact ⟨a, ws, rfl, ha, hw⟩
theorem Gr.fresh {S : List Addr} {H H' : Hp} {D : Addr} (g : Gr S H H') (h : H' D = none) (n : D ∉ S) : H D = none := by
  cases e : H D with
  | none => rfl
  | some o => rw [g.1 _ _ e n] at h; cases h
theorem map_of {α : Type} {F : α → V} {ys : List V} {ts : List α} (len : ys.length = ts.length) (at_ : ∀ (i : Nat) (y : V), ys[i]? = some y → ∃ t, ts[i]? = some t ∧ y = F t) : ys = ts.map F := by
  apply List.ext_getElem?
  intro i
  rw [List.getElem?_map]
  by_cases few : i < ys.length
  · obtain ⟨t, e, w⟩ := at_ i ys[i] (List.getElem?_eq_getElem few)
    rw [e, List.getElem?_eq_getElem few, w]
    rfl
  · rw [List.getElem?_eq_none (by omega), List.getElem?_eq_none (by omega)]
    rfl
/-- a comprehension without a test, over what stands still: each item is told by Rel -/
theorem lc_map {J0 : It} {xs : List V} {G : Hp → Prop} (w : Walk J0 xs.length G (YAt xs)) {g : TG} {te : TE} {vs : List Nat} {σ : St} {H1 : Hp} {D : Addr} {Qd : Hp → Prop} (S : List Addr) (J : Nat → Hp → Prop) (Rel : Nat → V → Hp → Prop) (hD : H1 D = none) (hS : D ∉ S) (few : xs.length ≤ 100000)
    (hG : ∀ H, Gr (D :: S) (upd H1 D (.lst [])) H → G H) (mono : ∀ i y H H', Gr (D :: S) H H' → Rel i y H → Rel i y H') (j0 : J 0 (upd H1 D (.lst []))) (jD : ∀ i H zs ys, H D = some (.lst zs) → J i H → J i (upd H D (.lst ys)))
    (turn : ∀ i x H (R : VK), xs[i]? = some x → Gr (D :: S) (upd H1 D (.lst [])) H → J i H → (∀ y H4, Gr S H H4 → J (i + 1) H4 → Rel i y H4 → R y H4) → g x (wipe σ vs) H fun σ2 H2 => wipe σ2 vs = wipe σ vs ∧ te σ2 H2 R)
    (fin : ∀ ys H, Gr S H1 H → J xs.length H → H D = some (.lst ys) → ys.length = xs.length → (∀ (i : Nat) (y : V), ys[i]? = some y → Rel i y H) → Qd H) :
    ∃ W : Nat → Nat → Hp → Prop, (∃ m, W 0 m (upd H1 D (.lst []))) ∧ ∀ i m H, W i m H →
      (J0.stop i H ∧ Qd H) ∨ (J0.go i H ∧ ∃ Nx : Hp → Prop, (∀ H', Nx H' → ∃ m', m' < m ∧ W (i + 1) m' H') ∧ ∀ x H', J0.yld i H x H' → g x (wipe σ vs) H' fun σ2 H2 => wipe σ2 vs = wipe σ vs ∧ tYes σ2 H2 fun b H3 =>
        if b = true then te σ2 H3 fun y H4 => ∃ acc, H4 D = some (.lst acc) ∧ acc.length < sizeLine ∧ Nx (upd H4 D (.lst (acc ++ [y]))) else Nx H3) := by
  refine lc_it w (fun i H => Gr (D :: S) (upd H1 D (.lst [])) H ∧ J i H ∧ ∃ ys, H D = some (.lst ys) ∧ ys.length = i ∧ ∀ j y, ys[j]? = some y → Rel j y H) ⟨Gr.refl _ _, j0, [], upd_same, rfl, fun j y h => by simp at h⟩ (fun i H _ h => hG H h.1) ?_ ?_
  · rintro i x H H' hi ⟨g1, j1, ys, h1, h2, h3⟩ ⟨rfl, hx⟩
    unfold tYes
    simp only [if_true]
    refine turn i x H' _ hx g1 j1 fun y H4 g4 j4 r4 => ⟨ys, g4.1 _ _ h1 hS, by rw [h2, sizeLine_eq]; omega, ?_, jD _ _ _ _ (g4.1 _ _ h1 hS) j4, ys ++ [y], upd_same, by rw [List.length_append, h2]; rfl, ?_⟩
    · refine g1.trans ((g4.wide fun b hb => List.mem_cons_of_mem _ hb).trans ?_)
      exact Gr.at (g4.1 _ _ h1 hS) (fun _ z => nomatch z) List.mem_cons_self
    · have g5 : Gr (D :: S) H4 (upd H4 D (.lst (ys ++ [y]))) := Gr.at (g4.1 _ _ h1 hS) (fun _ z => nomatch z) List.mem_cons_self
      intro j z hz
      by_cases hj : j < ys.length
      · rw [List.getElem?_append_left hj] at hz
        exact mono _ _ _ _ g5 (mono _ _ _ _ (g4.wide fun b hb => List.mem_cons_of_mem _ hb) (h3 j z hz))
      · have hj2 : j = i := by
          have := (List.getElem?_eq_some_iff.mp hz).1
          rw [List.length_append, List.length_singleton] at this
          omega
        subst hj2
        rw [List.getElem?_append_right (by omega), h2, Nat.sub_self] at hz
        simp only [List.getElem?_cons_zero, Option.some.injEq] at hz
        subst hz
        exact mono _ _ _ _ g5 r4
  · rintro H ⟨g1, j1, ys, h1, h2, h3⟩
    exact fin ys H (((Gr.new hD).trans g1).since hD) j1 h1 h2 h3
theorem unk_inv {H : Hp} {v : V} {n : Fin 1000} (h : Dd H v (Tm.u n).enc) : ∃ a, v = .ref a ∧ H a = some (.tup [.str "?", .int (n.1 : Int)]) := by
  simp only [Tm.enc] at h
  obtain ⟨a, xs, rfl, ha, hs⟩ := h.tup_inv
  obtain ⟨v1, ws, rfl, h1, hs⟩ := hs.cons_inv
  obtain ⟨v2, ws2, rfl, h2, hs⟩ := hs.cons_inv
  cases hs.nil_inv
  obtain ⟨rfl, _⟩ := h1.text_inv
  cases h2.num_inv
  exact ⟨a, rfl, ha⟩
theorem word_inv {H : Hp} {v : V} {x : Str} (h : Dd H v (Tm.w x).enc) : v = .str x := by
  simp only [Tm.enc] at h
  exact h.text_inv.1
theorem Tm.length_sizes : ∀ ts : List Tm, ts.length ≤ Tm.sizes ts
  | [] => by simp
  | a :: l => by
    have := Tm.size_pos a
    have := Tm.length_sizes l
    simp only [List.length_cons, Tm.sizes]
    omega
theorem Tm.sum_sizes : ∀ ts : List Tm, (ts.map fun t => ((t.size : Nat) : Int)).sum = ((Tm.sizes ts : Nat) : Int)
  | [] => rfl
  | a :: l => by
    have := Tm.sum_sizes l
    simp only [List.map_cons, List.sum_cons, Tm.sizes] at this ⊢
    omega
theorem take_one {α : Type} {l : List α} {i : Nat} {x : α} (h : l[i]? = some x) : l.take (i + 1) = l.take i ++ [x] := by
  rw [List.take_add_one, h]
  rfl
section
variable {α β : Type} {F : α → β → Prop}
theorem paired_app {as cs : List α} {bs ds : List β} (one : Paired F as bs) (two : Paired F cs ds) : Paired F (as ++ cs) (bs ++ ds) := by
  induction one with
  | nil => exact two
  | cons e _ ih => exact .cons e ih
theorem paired_get {as : List α} {bs : List β} {i : Nat} {x : α} (h : Paired F as bs) (e : as[i]? = some x) : ∃ y, bs[i]? = some y ∧ F x y := by
  induction h generalizing i with
  | nil => cases e
  | cons here _ ih =>
    rcases i with _ | i
    · cases e
      exact ⟨_, rfl, here⟩
    · exact ih e
theorem paired_of {as : List α} {bs : List β} (len : as.length = bs.length) (at_ : ∀ (i : Nat) (x : α), as[i]? = some x → ∃ y, bs[i]? = some y ∧ F x y) : Paired F as bs := by
  induction as generalizing bs with
  | nil =>
    cases List.eq_nil_of_length_eq_zero len.symm
    exact .nil
  | cons x as ih =>
    obtain ⟨y, first, here⟩ := at_ 0 x rfl
    rcases bs with _ | ⟨b, bs⟩
    · cases first
    · cases first
      exact .cons here (ih (Nat.succ.inj len) fun i z e => at_ (i + 1) z e)
end
theorem Tm.partss_app : ∀ a b : List Tm, Tm.partss (a ++ b) = Tm.partss a ++ Tm.partss b
  | [], b => by simp [Tm.partss]
  | t :: a, b => by simp [Tm.partss, Tm.partss_app a b]
theorem Tm.sizes_app : ∀ a b : List Tm, Tm.sizes (a ++ b) = Tm.sizes a + Tm.sizes b
  | [], b => by simp [Tm.sizes]
  | t :: a, b => by simp [Tm.sizes, Tm.sizes_app a b]; omega
theorem Tm.sizes_one (t : Tm) : Tm.sizes [t] = t.size := by simp [Tm.sizes]
theorem Tm.sizes_take (ts : List Tm) (i : Nat) : Tm.sizes (ts.take i) ≤ Tm.sizes ts := by
  have := Tm.sizes_app (ts.take i) (ts.drop i)
  rw [List.take_append_drop] at this
  omega
/-- the keys of a dict are the numbers of the unknowns among the parts -/
structure NK (kvs : List (Key × V)) (ps : List Tm) : Prop where
  keys : ∀ kv ∈ kvs, ∃ m : Fin 1000, kv.1 = .inl (m.1 : Int) ∧ Tm.u m ∈ ps
  has : ∀ m : Fin 1000, Tm.u m ∈ ps → ∃ kv ∈ kvs, kv.1 = .inl (m.1 : Int)
  few : kvs.length ≤ ps.length
def numOf : Key → Int | .inl i => i | .inr _ => 0
theorem NK.nil : NK [] [] := ⟨fun _ h => (nomatch h), fun _ h => (nomatch h), Nat.le_refl _⟩
theorem NK.other {kvs : List (Key × V)} {ps : List Tm} {t : Tm} (h : NK kvs ps) (n : ∀ m, Tm.u m ≠ t) : NK kvs (ps ++ [t]) := by
  refine ⟨fun kv hk => ?_, fun m hm => ?_, by have := h.few; rw [List.length_append]; omega⟩
  · obtain ⟨m, h1, h2⟩ := h.keys kv hk
    exact ⟨m, h1, List.mem_append_left _ h2⟩
  · rcases List.mem_append.mp hm with hm | hm
    · exact h.has m hm
    · exact absurd (List.mem_singleton.mp hm) (n m)
theorem NK.put {kvs : List (Key × V)} {ps : List Tm} {m : Fin 1000} {v : V} (h : NK kvs ps) : NK (putK kvs (.inl (m.1 : Int)) v) (ps ++ [.u m]) := by
  have len := length_putK kvs (Sum.inl (m.1 : Int)) v
  refine ⟨fun kv hk => ?_, fun j hj => ?_, by have := h.few; rw [List.length_append, List.length_singleton]; omega⟩
  · unfold putK at hk
    split at hk
    · obtain ⟨kv0, h0, rfl⟩ := List.mem_map.mp hk
      obtain ⟨j, h1, h2⟩ := h.keys kv0 h0
      refine ⟨j, ?_, List.mem_append_left _ h2⟩
      split
      · exact h1
      · exact h1
    · rcases List.mem_append.mp hk with hk | hk
      · obtain ⟨j, h1, h2⟩ := h.keys kv hk
        exact ⟨j, h1, List.mem_append_left _ h2⟩
      · rw [List.mem_singleton.mp hk]
        exact ⟨m, rfl, List.mem_append_right _ (List.mem_singleton.mpr rfl)⟩
  · by_cases e : j = m
    · subst e
      unfold putK
      split
      · rename_i ha
        obtain ⟨kv0, h0, h1⟩ := List.any_eq_true.mp ha
        exact ⟨_, List.mem_map.mpr ⟨kv0, h0, rfl⟩, by rw [if_pos (of_decide_eq_true h1)]; exact of_decide_eq_true h1⟩
      · exact ⟨_, List.mem_append_right _ (List.mem_singleton.mpr rfl), rfl⟩
    · have hj' : Tm.u j ∈ ps := by
        rcases List.mem_append.mp hj with hj | hj
        · exact hj
        · exact absurd (Tm.u.inj (List.mem_singleton.mp hj)) e
      obtain ⟨kv, h1, h2⟩ := h.has j hj'
      unfold putK
      split
      · refine ⟨_, List.mem_map.mpr ⟨kv, h1, rfl⟩, ?_⟩
        split
        · exact h2
        · exact h2
      · exact ⟨kv, List.mem_append_left _ h1, h2⟩
theorem NK.vals {kvs : List (Key × V)} {ps : List Tm} (h : NK kvs ps) : (kvs.map fun kv => kV kv.1) = (kvs.map fun kv => numOf kv.1).map V.int := by
  rw [List.map_map]
  refine List.map_congr_left fun kv hk => ?_
  obtain ⟨m, h1, _⟩ := h.keys kv hk
  show kV kv.1 = V.int (numOf kv.1)
  rw [h1]
  rfl
theorem NK.sound {kvs : List (Key × V)} {ps : List Tm} (h : NK kvs ps) (i : Int) (hi : i ∈ kvs.map fun kv => numOf kv.1) : ∃ m : Fin 1000, Tm.u m ∈ ps ∧ i = (m.1 : Int) := by
  obtain ⟨kv, hk, rfl⟩ := List.mem_map.mp hi
  obtain ⟨m, h1, h2⟩ := h.keys kv hk
  exact ⟨m, h2, by rw [h1]; rfl⟩
theorem NK.full {kvs : List (Key × V)} {ps : List Tm} (h : NK kvs ps) (m : Fin 1000) (hm : Tm.u m ∈ ps) : (m.1 : Int) ∈ kvs.map fun kv => numOf kv.1 := by
  obtain ⟨kv, hk, h1⟩ := h.has m hm
  exact List.mem_map.mpr ⟨kv, hk, by rw [h1]; rfl⟩
/-- a place and the part that stands there -/
def Pt (H : Hp) (k : Nat) (x : V) (t : Tm) : Prop := ∃ p a ys inner, x = .ref p ∧ H p = some (.tup [.ref a, inner]) ∧ H a = some (.tup ys) ∧ ys.length ≤ k ∧ Dd H inner t.enc
theorem Pt.mono {H H' : Hp} {k m : Nat} {x : V} {t : Tm} (s : Ts H H') (h : Pt H k x t) (le : k ≤ m) : Pt H' m x t := by
  obtain ⟨p, a, ys, inner, h1, h2, h3, h4, h5⟩ := h
  exact ⟨p, a, ys, inner, h1, s _ _ h2, s _ _ h3, Nat.le_trans h4 le, h5.mono s⟩
def spSize (n : Nat) : Sp := fun vs H Q _ => ∃ (v : V) (t : Tm), vs = [v] ∧ Dd H v t.enc ∧ t.dep < n ∧ t.size ≤ 100000 ∧ ∀ H', Gr [] H H' → Q (.int (t.size : Nat)) H'
def spParts (n : Nat) : Sp := fun vs H Q _ => ∃ (v : V) (t : Tm), vs = [v] ∧ Dd H v t.enc ∧ t.dep < n ∧ n ≤ 1000 ∧ t.size ≤ 100000 ∧ ∀ l ps H', Gr [] H H' → H l = none → H' l = some (.lst ps) → Paired (Pt H' n) ps t.parts → Q (.ref l) H'
@[irreducible] def spNumbers : Sp := fun vs H Q _ => ∃ (v : V) (t : Tm), vs = [v] ∧ Dd H v t.enc ∧ t.dep < 8 ∧ t.size ≤ 1000 ∧
  ∀ l (ns : List Int) H', Gr [] H H' → H' l = some (.lst (ns.map V.int)) → (∀ i ∈ ns, ∃ m ∈ t.unk, i = (m.1 : Int)) → (∀ m ∈ t.unk, (m.1 : Int) ∈ ns) → ns.length ≤ t.size → Q (.ref l) H'
theorem spNumbers_of {vs : List V} {H : Hp} {Q : VK} {E : XK} (h : ∃ (v : V) (t : Tm), vs = [v] ∧ Dd H v t.enc ∧ t.dep < 8 ∧ t.size ≤ 1000 ∧   ∀ l (ns : List Int) H', Gr [] H H' → H' l = some (.lst (ns.map V.int)) → (∀ i ∈ ns, ∃ m ∈ t.unk, i = (m.1 : Int)) → (∀ m ∈ t.unk, (m.1 : Int) ∈ ns) → ns.length ≤ t.size → Q (.ref l) H') : spNumbers vs H Q E := by unfold spNumbers; exact h
section
variable {P : Program} {w : World} {K : PySem.W.Frag} {mg : Str → Option Value} {base : Heap}
theorem sc_size_of : FnScope ["term", "part"] ["term"] (defScope s_size_of) := ⟨rfl, rfl, rfl, by decide +kernel, rfl, by decide +kernel, by decide +kernel⟩
theorem ok_size_of (T : Tx K mg) : ∀ n, FnOk P w K mg base CX0 (n + 3) T.f_size_of.f T.f_size_of.fd ["term"] (spSize n)
  | 0 => T.f_size_of.F.ok sc_size_of (fun vs H Q E ⟨_, _, _, _, h, _⟩ => absurd h (Nat.not_lt_zero _)) (fun cdv A outer s H vs Q E hr ⟨_, _, _, _, h, _⟩ => absurd h (Nat.not_lt_zero _))
  | n + 1 => by
    have ih := ok_size_of T n
    refine T.f_size_of.F.ok sc_size_of (fun vs H Q E h => ?_) (fun cdv A outer s H vs Q E hr h => ?_)
    · obtain ⟨i, t, rfl, _⟩ := h
      rfl
    · have nd := sc_size_of.nd
      refine ⟨_, (pss_cons (ps_if (pt_not (pt_val (pe_call (ok_is_called T) (hr.mono (by omega)) rfl T.f_is_called.g T.f_is_called.F.kp T.f_is_called.b .nil pass0 (pa_cons (pv 0) pa_nil)))) (pss_one (ps_ret pe_int)) pss_nil) (pss_one (ps_ret (pe_op op_add pe_int (pe_callB (sumK K) (by rfl) T.z_sum (by decide +kernel) (pa_cons (pe_lc (own := [("part", 1)]) rfl nd (piT K (pe_slice sl_tupN (pv 0) (po_some pe_int) po_none)) (blkOk_by (own := [("part", 1)]) (N := ["term", "part"]) (sc := defScope s_size_of) (by decide +kernel)) (fun _ _ _ _ _ => (pg_name (i := 1) nd rfl (Or.inl rfl) (Or.inr rfl))) (fun _ _ _ _ _ => pts_nil) (fun _ _ _ _ _ => (pe_call ih hr rfl T.f_size_of.g T.f_size_of.F.kp T.f_size_of.b .nil pass0 (pa_cons (pv 1) pa_nil)))) pa_nil)))))), ?_⟩
      obtain ⟨v, t, rfl, hd, hn, hz, k⟩ := h
      refine ⟨_, rfl, ?_⟩
      show spCalled [v] H _ _
      unfold spCalled
      refine ⟨v, t, rfl, hd, _, rfl, ?_⟩
      cases t with
      | w x => exact iteT (k H (Gr.refl _ H))
      | u m => exact iteT (k H (Gr.refl _ H))
      | c g ts =>
        refine iteF ?_
        obtain ⟨a, vs, rfl, ha, hs⟩ := called_inv hd
        refine ⟨_, rfl, _, rfl, a, _, rfl, ha, fun p H1 g1 hp => ?_⟩
        rw [cut1] at hp
        refine ⟨p, rfl, ⟨_, SqT.of hp⟩, fun D hD => ?_⟩
        have hlen := hs.tms
        simp only [Tm.dep, Tm.size] at hn hz
        have hsz := Tm.length_sizes ts
        refine lc_map (xs := vs) walk_tup [] (fun _ _ => True) (fun i y _ => ∃ t, ts[i]? = some t ∧ y = .int (t.size : Nat)) hD (by simp) (by omega) (fun H' g => SqT.of (g.1 _ _ (by rw [upd_ne (ne_of_none hp hD)]; exact hp) (by simpa using ne_of_none hp hD))) (fun _ _ _ _ _ h => h) trivial (fun _ _ _ _ _ _ => trivial) ?_ ?_
        · intro i x H2 R hx g2 _ kR
          obtain ⟨t, ht, hdt⟩ := hs.tm hx
          have mem := List.mem_of_getElem? ht
          have h1 := Tm.dep_mem mem
          have h2 := Tm.size_mem mem
          exact ⟨rfl, _, rfl, x, t, rfl, ((hdt.mono g1.2).mono (Ts.new hD)).mono g2.2, by omega, by omega, fun H4 g4 => kR _ _ g4 trivial ⟨t, ht, rfl⟩⟩
        · intro ys H2 g2 _ hl hn2 hy
          have e1 := map_of (hn2.trans hlen) hy
          refine ⟨D, ts.map fun t => ((t.size : Nat) : Int), rfl, SqL.of (by rw [hl, e1, List.map_map]; rfl), _, _, rfl, rfl, ?_⟩
          show Q (.int ((1 : Int) + (ts.map fun t => ((t.size : Nat) : Int)).sum)) H2
          rw [Tm.sum_sizes ts, show (1 : Int) + ((Tm.sizes ts : Nat) : Int) = ((Tm.size (.c g ts) : Nat) : Int) by simp only [Tm.size]; omega]
          exact k _ (g1.trans g2)
theorem sc_parts_of : FnScope ["term", "found", "number", "part", "place", "inner"] ["term"] (defScope s_parts_of) := ⟨rfl, rfl, rfl, by decide +kernel, rfl, by decide +kernel, by decide +kernel⟩
theorem ok_parts_of (T : Tx K mg) : ∀ n, FnOk P w K mg base CX0 (n + 3) T.f_parts_of.f T.f_parts_of.fd ["term"] (spParts n)
  | 0 => T.f_parts_of.F.ok sc_parts_of (fun vs H Q E ⟨_, _, _, _, h, _⟩ => absurd h (Nat.not_lt_zero _)) (fun cdv A outer s H vs Q E hr ⟨_, _, _, _, h, _⟩ => absurd h (Nat.not_lt_zero _))
  | n + 1 => by
    have ih := ok_parts_of T n
    refine T.f_parts_of.F.ok sc_parts_of (fun vs H Q E h => ?_) (fun cdv A outer s H vs Q E hr h => ?_)
    · obtain ⟨i, t, rfl, _⟩ := h
      rfl
    · have nd := sc_parts_of.nd
      refine ⟨_, (pss_cons (ps_set (i := 1) nd rfl (Or.inl rfl) (pe_lst (pa_cons (pe_tup (pa_cons (pe_tup pa_nil) (pa_cons (pv 0) pa_nil))) pa_nil))) (pss_cons (ps_if (pt_val (pe_call (ok_is_called T) (hr.mono (by omega)) rfl T.f_is_called.g T.f_is_called.F.kp T.f_is_called.b .nil pass0 (pa_cons (pv 0) pa_nil))) (pss_one (ps_for PassesOwn.never rfl (pi_enumT (by rfl) T.z_enumerate (pa_cons (pe_slice sl_tupN (pv 0) (po_some pe_int) po_none) pa_nil)) (pgT K 2 (pgs_cons (pg_name (i := 2) nd rfl (Or.inr rfl) (Or.inl rfl)) (pgs_cons (pg_name (i := 3) nd rfl (Or.inl rfl) (Or.inr rfl)) pgs_nil))) (pss_one (ps_expr (pe_bm PySem.F.plainAttrs_list PySem.F.slot_list_extend PySem.F.type_list_extend mt_extend (pv 1) (pa_cons (pe_lc (own := [("place", 4), ("inner", 5)]) rfl nd (piL K (pe_call ih hr rfl T.f_parts_of.g T.f_parts_of.F.kp T.f_parts_of.b .nil pass0 (pa_cons (pv 3) pa_nil))) (blkOk_by (own := [("place", 4), ("inner", 5)]) (N := ["term", "found", "number", "part", "place", "inner"]) (sc := defScope s_parts_of) (by decide +kernel)) (fun _ _ _ _ _ => (pgT K 2 (pgs_cons (pg_name (i := 4) nd rfl (Or.inl rfl) (Or.inr rfl)) (pgs_cons (pg_name (i := 5) nd rfl (Or.inl rfl) (Or.inr rfl)) pgs_nil)))) (fun _ _ _ _ _ => pts_nil) (fun _ _ _ _ _ => (pe_tup (pa_cons (pe_op op_catN (pe_tup (pa_cons (pe_op op_add (pv 2) pe_int) pa_nil)) (pv 4)) (pa_cons (pv 5) pa_nil))))) pa_nil)))))) pss_nil) (pss_one (ps_ret (pv 1))))), ?_⟩
      obtain ⟨v, t, rfl, hd, hn, hn2, hz, k⟩ := h
      refine cut (fun σ' H' => ∃ l q, σ' = [some v, some (.ref l), none, none, none, none] ∧ Gr [] H H' ∧ H l = none ∧ H' l = some (.lst [q]) ∧ Pt H' 0 q t) ?_ (fun rest => ?_)
      · rintro σ' H1 ⟨l, q, rfl, g1, hl0, hl, hq⟩
        refine cut (fun σ' H' => ∃ n1 n2 n3 n4 ps, σ' = [some v, some (.ref l), n1, n2, n3, n4] ∧ Gr [] H H' ∧ H' l = some (.lst ps) ∧ Paired (Pt H' (n + 1)) ps t.parts) ?_ (fun rest => ?_)
        · rintro σ' H2 ⟨n1, n2, n3, n4, ps, rfl, g2, hp, hps⟩
          exact ⟨_, rfl, k l ps H2 g2 hl0 hp hps⟩
        · refine ⟨_, rfl, ?_⟩
          show spCalled [v] H1 _ _
          unfold spCalled
          refine ⟨v, t, rfl, hd.mono g1.2, _, rfl, ?_⟩
          have one : Paired (Pt H1 (n + 1)) [q] [t] := .cons (hq.mono (Ts.refl _) (Nat.zero_le _)) .nil
          cases t with
          | w x => exact iteF (rest _ _ ⟨_, _, _, _, _, rfl, g1, hl, one⟩)
          | u m => exact iteF (rest _ _ ⟨_, _, _, _, _, rfl, g1, hl, one⟩)
          | c g ts =>
            refine iteT ?_
            obtain ⟨a, vs, rfl, ha, hs⟩ := called_inv (hd.mono g1.2)
            have hlen := hs.tms
            have hsz := Tm.length_sizes ts
            simp only [Tm.dep, Tm.size] at hn hz
            refine ⟨_, rfl, _, rfl, a, _, rfl, ha, fun p H2 g2 hp => ?_⟩
            rw [cut1] at hp
            refine ⟨p, _, rfl, SqT.of hp, ?_⟩
            have hlp : l ≠ p := ne_of (g2.same _ _ hl) hp (fun z => nomatch z)
            refine for_it (n := vs.length) walk_enumT (fun i σ H' => ∃ n1 n2 n3 n4 ps, σ = [some (.ref a), some (.ref l), n1, n2, n3, n4] ∧ Gr [l] H2 H' ∧ H' l = some (.lst ps) ∧ Paired (Pt H' (n + 1)) ps (Tm.c g ts :: Tm.partss (ts.take i))) ?_ (fun i σ H' _ h => ?_) ?_ ?_
            · refine ⟨_, _, _, _, [q], rfl, Gr.refl _ _, g2.same _ _ hl, ?_⟩
              exact .cons (hq.mono g2.2 (Nat.zero_le _)) .nil
            · obtain ⟨_, _, _, _, _, _, h, _⟩ := h
              exact SqT.of (h.2 _ _ hp)
            · rintro i x σ H3 H4 hi ⟨n1, n2, n3, n4, ps, rfl, g3, hps, hP⟩ ⟨U, y1, y2, rfl, hU, rfl, e1, e2⟩
              cases Option.some.inj e1
              obtain ⟨t, ht, hdt⟩ := hs.tm (show vs[i]? = some y2 from e2)
              have mem := List.mem_of_getElem? ht
              have d1 := Tm.dep_mem mem
              have d2 := Tm.size_mem mem
              refine ⟨U, _, rfl, SqT.of upd_same, rfl, _, _, rfl, _, _, rfl, rfl, ?_⟩
              have gU : Gr [] H3 (upd H3 U (.tup [.int (i : Nat), y2])) := Gr.new hU
              refine ⟨_, rfl, .inl ⟨rfl, _, SqL.of (gU.same _ _ hps)⟩, ?_⟩
              refine ⟨_, rfl, y2, t, rfl, ((hdt.mono g2.2).mono g3.2).mono gU.2, by omega, by omega, by omega, fun m qs H5 g5 hm0 hm hqs => ?_⟩
              have hlm : m ≠ l := ne_of_none (gU.same _ _ hps) hm0 |>.symm
              refine ⟨m, rfl, ⟨_, SqL.of hm⟩, fun D hD => ?_⟩
              have hmD : m ≠ D := ne_of_none hm hD
              refine lc_map (xs := qs) walk_list [] (fun _ _ => True) (fun j y H' => ∃ t', t.parts[j]? = some t' ∧ Pt H' (n + 1) y t') hD (by simp) ?_ (fun H' g => SqL.of (g.1 _ _ (by rw [upd_ne hmD]; exact hm) (by simpa using hmD))) (fun _ _ _ _ g ⟨t', h1, h2⟩ => ⟨t', h1, h2.mono g.2 (Nat.le_refl _)⟩) trivial (fun _ _ _ _ _ _ => trivial) ?_ ?_
              · rw [Paired.length hqs, Tm.length_parts]
                omega
              · intro j x H6 R hx g6 _ kR
                obtain ⟨t', ht', ⟨p', a', ys', inner', rfl, hp', ha', hy', hin⟩⟩ := paired_get hqs hx
                have gg : Ts H5 H6 := (Ts.new hD).trans g6.2
                refine ⟨p', _, rfl, SqT.of (gg _ _ hp'), rfl, _, _, rfl, _, _, rfl, rfl, ?_⟩
                refine ⟨rfl, ?_⟩
                refine ⟨_, rfl, _, _, rfl, rfl, (by show 1 ≤ sizeLine; decide), fun b hb => ?_⟩
                have gb : Gr [] H6 (upd H6 b (.tup [.int ((i : Nat) + 1)])) := Gr.new hb
                refine ⟨_, rfl, b, a', _, _, rfl, rfl, upd_same, gb.2 _ _ (gg _ _ ha'), (by rw [sizeLine_eq]; simp only [List.length_singleton]; omega), fun c H7 g7 hc => ?_⟩
                refine ⟨_, rfl, (by show 2 ≤ sizeLine; decide), fun e he => ?_⟩
                have ge : Gr [] H7 (upd H7 e (.tup [.ref c, inner'])) := Gr.new he
                refine kR _ _ ((gb.trans g7).trans ge) trivial ⟨t', ht', e, c, _, inner', rfl, upd_same, ge.2 _ _ hc, by simp only [List.length_append, List.length_singleton]; omega, (hin.mono gg).mono ((gb.trans g7).trans ge).2⟩
              · intro ys H6 g6 _ hys hyl hyr
                have g56 : Gr [] (upd H3 U (.tup [.int (i : Nat), y2])) H6 := g5.trans g6
                have e1 := g56.same _ _ (gU.same _ _ hps)
                have hPr : Paired (Pt H6 (n + 1)) ys t.parts := paired_of (by rw [hyl, Paired.length hqs]) hyr
                have hDl : D ≠ l := (ne_of_none (g5.same _ _ (gU.same _ _ hps)) hD).symm
                have hP6 : Paired (Pt H6 (n + 1)) ps (Tm.c g ts :: Tm.partss (ts.take i)) := Paired.mapP hP fun _ _ h => h.mono (gU.trans g56).2 (Nat.le_refl _)
                have hap := paired_app hP6 hPr
                have l1 := Paired.length hap
                have l2 : (Tm.partss (ts.take i)).length + t.parts.length ≤ Tm.sizes ts := by
                  have := Tm.sizes_take ts (i + 1)
                  rw [take_one ht, Tm.sizes_app, Tm.sizes_one] at this
                  rw [Tm.length_partss, Tm.length_parts]
                  exact this
                rw [List.length_append, List.length_append, List.length_cons] at l1
                refine ⟨l, D, _, _, rfl, rfl, e1, hys, by rw [sizeLine_eq]; omega, ?_⟩
                have gl : Gr [l] H6 (upd H6 l (.lst (ps ++ ys))) := Gr.at e1 (fun _ z => nomatch z) List.mem_cons_self
                refine ⟨_, _, _, _, ps ++ ys, rfl, g3.trans ((gU.trans g56).less.trans gl), upd_same, ?_⟩
                rw [take_one ht, Tm.partss_app]
                have e3 : Tm.partss [t] = t.parts := by simp [Tm.partss]
                rw [e3]
                exact Paired.mapP hap fun _ _ h => h.mono gl.2 (Nat.le_refl _)
            · rintro σ H3 ⟨n1, n2, n3, n4, ps, rfl, g3, hps, hP⟩
              rw [hlen, List.take_length] at hP
              exact rest _ _ ⟨_, _, _, _, ps, rfl, ((g1.trans g2).less.trans g3).since hl0, hps, by simpa only [Tm.parts] using hP⟩
      · refine ⟨Nat.zero_le _, fun t1 h1 => ⟨_, rfl, (by show 2 ≤ sizeLine; decide), fun t2 h2 => ⟨(by show 1 ≤ sizeLine; decide), fun l hl => ?_⟩⟩⟩
        have s1 : Gr [] H (upd H t1 (.tup [])) := Gr.new h1
        have s2 := s1.trans (Gr.new (o := .tup [.ref t1, v]) h2)
        have s3 := s2.trans (Gr.new (o := .lst [.ref t2]) hl)
        exact rest _ _ ⟨l, .ref t2, rfl, s3, s2.fresh hl (by simp), upd_same, t2, t1, [], v, rfl, by rw [upd_ne (ne_of_none upd_same hl)]; exact upd_same, (Gr.new (S := []) hl).2 _ _ ((Gr.new (S := []) h2).2 _ _ upd_same), Nat.zero_le _, hd.mono s3.2⟩
theorem sc_numbers_in : FnScope ["term", "found", "place", "part"] ["term"] (defScope s_numbers_in) := ⟨rfl, rfl, rfl, by decide +kernel, rfl, by decide +kernel, by decide +kernel⟩
theorem ok_numbers_in (T : Tx K mg) : FnOk P w K mg base CX0 12 T.f_numbers_in.f T.f_numbers_in.fd ["term"] spNumbers := by
  refine T.f_numbers_in.F.ok sc_numbers_in (fun vs H Q E h => ?_) (fun cdv A outer s H vs Q E hr h => ?_)
  · unfold spNumbers at h
    obtain ⟨v, t, rfl, _⟩ := h
    rfl
  · have nd := sc_numbers_in.nd
    refine ⟨_, (pss_cons (ps_set (i := 1) nd rfl (Or.inl rfl) pe_dnewK) (pss_cons (ps_for PassesOwn.never rfl (piL K (pe_call (ok_parts_of T 8) hr rfl T.f_parts_of.g T.f_parts_of.F.kp T.f_parts_of.b .nil pass0 (pa_cons (pv 0) pa_nil))) (pgT K 2 (pgs_cons (pg_name (i := 2) nd rfl (Or.inl rfl) (Or.inr rfl)) (pgs_cons (pg_name (i := 3) nd rfl (Or.inl rfl) (Or.inr rfl)) pgs_nil))) (pss_one (ps_if (pt_val (pe_call (ok_is_unknown T) (hr.mono (by omega)) rfl T.f_is_unknown.g T.f_is_unknown.F.kp T.f_is_unknown.b .nil pass0 (pa_cons (pv 3) pa_nil))) (pss_one (ps_dput (hu_of hr) (pv 1) (pe_ix (ixT K) (pv 3) pe_int (fun _ _ => rfl)) pe_bl rfl)) pss_nil))) (pss_one (ps_ret (pe_callTy (call_listD rfl) (by rfl) T.z_list (by decide +kernel) (pa_cons (pv 1) pa_nil)))))), ?_⟩
    unfold spNumbers at h
    obtain ⟨v, t, rfl, hd, hn, hz, k⟩ := h
    refine cut (fun σ' H' => ∃ f, σ' = [some v, some (.ref f), none, none] ∧ Gr [] H H' ∧ H f = none ∧ H' f = some (.dK [])) ?_ (fun rest0 f hf => rest0 _ _ ⟨f, rfl, Gr.new hf, hf, upd_same⟩)
    rintro σ0 H0 ⟨f, rfl, g0, hf, hf0⟩
    refine cut (fun σ' H' => ∃ n1 n2 kvs, σ' = [some v, some (.ref f), n1, n2] ∧ Gr [] H H' ∧ H' f = some (.dK kvs) ∧ NK kvs t.parts) ?_ (fun rest => ?_)
    · rintro σ' H1 ⟨n1, n2, kvs, rfl, g1, hk, hN⟩
      refine ⟨_, rfl, f, kvs, rfl, .inl hk, fun p hp => ?_⟩
      have e1 := hN.vals
      rw [e1]
      refine k p _ _ (g1.trans (Gr.new hp)) upd_same ?_ ?_ ?_
      · intro i hi
        obtain ⟨m, h1, h2⟩ := hN.sound i hi
        exact ⟨m, Tm.unk_parts.mpr h1, h2⟩
      · exact fun m hm => hN.full m (Tm.unk_parts.mp hm)
      · have := hN.few
        rw [Tm.length_parts] at this
        rw [List.length_map]
        exact this
    · refine ⟨_, rfl, v, t, rfl, hd.mono g0.2, hn, by omega, by omega, fun l ps H1 g1 hl0 hl hps => ⟨l, rfl, ⟨_, SqL.of hl⟩, ?_⟩⟩
      have hfl : l ≠ f := (ne_of_none hf0 hl0).symm
      refine for_it (n := ps.length) walk_list (fun i σ H' => ∃ n1 n2 kvs, σ = [some v, some (.ref f), n1, n2] ∧ Gr [f] H1 H' ∧ H' f = some (.dK kvs) ∧ NK kvs (t.parts.take i)) ⟨_, _, [], rfl, Gr.refl _ _, g1.same _ _ hf0, NK.nil⟩ (fun i σ H' _ ⟨_, _, _, _, g, _⟩ => SqL.of (g.1 _ _ hl (by simpa using hfl))) ?_ ?_
      · rintro i x σ H2 H3 hi ⟨n1, n2, kvs, rfl, g2, hk, hN⟩ ⟨rfl, hx⟩
        obtain ⟨t', ht', ⟨p', a', ys', inner', rfl, hp', ha', hy', hin⟩⟩ := paired_get hps hx
        have hi' : i < t.size := by
          have := (List.getElem?_eq_some_iff.mp ht').1
          rw [Tm.length_parts] at this
          exact this
        refine ⟨p', _, rfl, SqT.of (g2.2 _ _ hp'), rfl, _, _, rfl, _, _, rfl, rfl, ?_⟩
        refine ⟨_, rfl, ?_⟩
        show spUnknown [inner'] H3 _ _
        unfold spUnknown
        refine ⟨inner', t', rfl, hin.mono g2.2, _, rfl, ?_⟩
        cases t' with
        | w x => exact iteF ⟨_, _, kvs, rfl, g2, hk, by rw [take_one ht']; exact hN.other (by simp)⟩
        | c g ts => exact iteF ⟨_, _, kvs, rfl, g2, hk, by rw [take_one ht']; exact hN.other (by simp)⟩
        | u m =>
          refine iteT ?_
          obtain ⟨a, rfl, ha⟩ := unk_inv (hin.mono g2.2)
          have hfew := hN.few
          rw [List.length_take] at hfew
          have hfew2 : kvs.length < sizeLine := by rw [sizeLine_eq]; omega
          refine ⟨_, rfl, _, rfl, a, _, _, _, rfl, rfl, SqT.of ha, rfl, f, _, rfl, DPut.k (k := Sum.inl (m.1 : Int)) hk hfew2, ?_⟩
          exact ⟨_, _, _, rfl, g2.trans (Gr.at hk (fun _ z => nomatch z) List.mem_cons_self), upd_same, by rw [take_one ht']; exact hN.put⟩
      · rintro σ H2 ⟨n1, n2, kvs, rfl, g2, hk, hN⟩
        rw [Paired.length hps, List.take_length] at hN
        exact rest _ _ ⟨_, _, kvs, rfl, ((g0.trans g1).less.trans g2).since hf, hk, hN⟩
end
end Dr
/-! sum of a list of tuples, from a tuple on -/
namespace PySem
namespace DrS
open PySem PySem.Spec PyProof.Rows HT
theorem args_sumB (a b : Value) : argsOk "sum" ⟨[a, b], []⟩ := by unfold argsOk; kernel_rfl
theorem sub_tup_str : isSubtype (.type "tuple") (.type "str") = pure false := by rw [isSubtype_type]; kernel_rfl
theorem sub_tup_bytes : isSubtype (.type "tuple") (.type "bytes") = pure false := by rw [isSubtype_type]; kernel_rfl
theorem sub_tup_bytearray : isSubtype (.type "tuple") (.type "bytearray") = pure false := by rw [isSubtype_type]; kernel_rfl
def flatTo (val : Nat → List Value) : Nat → List Value
  | 0 => []
  | i + 1 => flatTo val i ++ val i
section
variable {prog : Program} {w : World} {A : Around} {E : Value → Shared → Prop} {s : Shared}
theorem catAny {t b : Addr} {vs ws : List Value} {Q : Value → Shared → Prop} (ht : IsTup s.heap t vs.toArray) (hb : IsTup s.heap b ws.toArray) (few : vs.length + ws.length ≤ sizeLine)
    (h : ∀ p h', (∀ c o, s.heap.get? c = some o → h'.get? c = some o) → IsTup h' p (vs ++ ws).toArray → (p = s.heap.objs.size ∨ (p = t ∧ ws = []) ∨ (p = b ∧ vs = [])) → Q (.ref p) { s with heap := h' }) : wpAny (model prog w) A (binaryOp .Add (.ref t) (.ref b)) Q E s := by
  by_cases hv : vs = []
  · subst hv
    exact L2.cat_tup0 ht hb (h b s.heap (fun _ _ e => e) hb (.inr (.inr ⟨rfl, rfl⟩)))
  · refine cat_tup ht hb hv (fun z => ?_) (fun z => ?_) few
    · subst z
      exact h t s.heap (fun _ _ e => e) (by rw [List.append_nil]; exact ht) (.inr (.inl ⟨rfl, rfl⟩))
    · exact h _ _ (fun c o e => Heap.get?_push_of_some _ e) (IsTup.new _ _) (.inl rfl)
end
theorem tup_ne {h : Heap} {a b : Addr} {us : Array Value} {o : Obj} (x : IsTup h a us) (e : h.get? b = some o) (n : o.cls ≠ .type "tuple") : a ≠ b := fun z => by
  obtain ⟨o', e', c, _⟩ := x
  rw [z, e] at e'
  cases e'
  exact n c
section
variable {prog : Program} {w : World} {A : Around} {R : Result → Shared → Prop} {it l : Addr} {us : Array Value}
theorem tupLoop {h0 : Heap} (calm : A.handled = none) (neI : l ≠ it) (val : Nat → List Value) (Kn : Addr → List Value → Prop) (items : ∀ i v, us[i]? = some v → ∃ b, v = .ref b ∧ IsTup h0 b (val i).toArray ∧ Kn b (val i)) (S : Addr) (out : S ∉ [it, l])
    (new : h0.objs.size ≤ S) (wnew : h0.objs.size ≤ it) (few : ∀ i, i ≤ us.size → (flatTo val i).length ≤ sizeLine) :
    ∀ (m i : Nat) (s : Shared) (T : Addr) (c : Nat), us.size - i = m → i ≤ us.size → (s.heap.IsListIter it l i ∧ s.heap.IsList l us) → (∀ b o, h0.get? b = some o → s.heap.get? b = some o) → h0.objs.size ≤ s.heap.objs.size → IsTup s.heap T (flatTo val i).toArray → (h0.objs.size ≤ T ∨ Kn T (flatTo val i)) →
      s.heap.get? S = some { cls := .type "list", dict := none, data := .seq #[.ref T] c, slots := #[] } →
      (∀ h' tk T', (∀ b o, h0.get? b = some o → h'.get? b = some o) → IsTup h' T' (flatTo val us.size).toArray → (h0.objs.size ≤ T' ∨ Kn T' (flatTo val us.size)) → R (.ok (.ret (.ref T'))) { s with heap := h', toks := tk }) →
      codeAny (model prog w) A (.builtin "sum.loop" ⟨[.ref it, .ref S, rawInt 2, rawInt 0], []⟩) R s := by
  have W := (Walks.list (prog := prog) (w := w) (A := A.in1) (by exact calm) it l neI us)
  intro m
  induction m with
  | zero =>
    intro i s T c hm hi stand kept grown isT good atS fin
    obtain rfl : i = us.size := by omega
    refine codeAny_builtin PySem.F.entry_sum_loop ?_
    rw [Around.under_plainId PySem.F.plain_sum_loop _]
    show wpAny _ A.in1 (seqItems? (.ref S) >>= _) _ _ s
    refine wpAny_bind (wpAny_seqItems atS rfl ?_)
    show wpAny _ A.in1 (tryCatch (pyNext (.ref it)) _ >>= _) _ _ s
    obtain ⟨oi, ei, ci, _⟩ := id stand.1
    refine wpAny_bind (wpAny_tryCatch (W.done s _ _ stand fun h' tk hk => ?_))
    have nT : T ∉ [it] := by simpa using tup_ne isT ei (by rw [ci]; decide)
    refine wpAny_pure (fin h' tk T (fun b o e => hk b o ?_ (kept b o e)) ?_ good)
    · simpa using Nat.ne_of_lt (Nat.lt_of_lt_of_le (Heap.lt_size e) wnew)
    · obtain ⟨o, e, r⟩ := isT
      exact ⟨o, hk _ _ nT e, r⟩
  | succ m again =>
    intro i s T c hm hi stand kept grown isT good atS fin
    have lt : i < us.size := by omega
    refine codeAny_builtin PySem.F.entry_sum_loop ?_
    rw [Around.under_plainId PySem.F.plain_sum_loop _]
    show wpAny _ A.in1 (seqItems? (.ref S) >>= _) _ _ s
    refine wpAny_bind (wpAny_seqItems atS rfl ?_)
    show wpAny _ A.in1 (tryCatch (pyNext (.ref it)) _ >>= _) _ _ s
    obtain ⟨oi, ei, ci, _⟩ := id stand.1
    have nT : T ∉ [it] := by simpa using tup_ne isT ei (by rw [ci]; decide)
    have nS : S ∉ [it] := fun z => out (by simp at z ⊢; exact .inl z)
    refine wpAny_bind (wpAny_tryCatch (W.item i s _ _ lt stand fun v h1 tk hv stand1 hk => ?_))
    obtain ⟨b, rfl, isb, kb⟩ := items i v hv
    have kept1 : ∀ b o, h0.get? b = some o → h1.get? b = some o := fun b o e => hk b o (by simpa using Nat.ne_of_lt (Nat.lt_of_lt_of_le (Heap.lt_size e) wnew)) (kept b o e)
    have atS1 := hk _ _ nS atS
    have isT1 : IsTup h1 T (flatTo val i).toArray := by
      obtain ⟨o, e, r⟩ := isT
      exact ⟨o, hk _ _ nT e, r⟩
    have isb1 : IsTup h1 b (val i).toArray := by
      obtain ⟨o, e, r⟩ := isb
      exact ⟨o, kept1 _ _ e, r⟩
    show wpAny _ A.in1 ((holding [Value.ref b] (binaryOp .Add (.ref T) (.ref b))).attempt >>= _) _ _ { s with heap := h1, toks := tk }
    have fw : (flatTo val i).length + (val i).length ≤ sizeLine := by
      have := few (i + 1) (by omega)
      rw [flatTo, List.length_append] at this
      exact this
    refine wpAny_bind (wpAny_attempt (wpAny_holding (catAny (s := { s with heap := h1, toks := tk }) isT1 isb1 fw fun p h2 k2 isp from_ => ?_)))
    have atS2 := k2 _ _ atS1
    show wpAny _ A.in1 (updateSeq S (fun _ => #[.ref p]) >>= _) _ _ { s with heap := h2, toks := tk }
    refine wpAny_bind (wpAny_updateSeq atS2 rfl ?_)
    have atS3 := Heap.get?_update_self (Obj.mapSeq fun _ => #[Value.ref p]) atS2 rfl
    refine wpAny_bind (wpAny_letGo ?_)
    refine wpAny_bind (wpAny_updateSeq atS3 rfl (wpAny_pure ⟨plainId_quiet PySem.F.plain_sum_loop _, ?_⟩))
    have ne2 : ∀ {b : Addr} {o : Obj}, h2.get? b = some o → S ≠ b → ((h2.update S (Obj.mapSeq fun _ => #[Value.ref p])).update S (Obj.mapSeq fun _ => #[Value.ref p])).get? b = some o := fun e n => (Heap.get?_update_other _ _ n).trans ((Heap.get?_update_other _ _ n).trans e)
    have old : ∀ b o, h0.get? b = some o → S ≠ b := fun b o e => (Nat.ne_of_lt (Nat.lt_of_lt_of_le (Heap.lt_size e) new)).symm
    refine again (i + 1) { s with heap := ((h2.update S (Obj.mapSeq fun _ => #[Value.ref p])).update S (Obj.mapSeq fun _ => #[Value.ref p])), toks := tk } p _ (by omega) lt ?_ (fun b o e => ne2 (k2 _ _ (kept1 _ _ e)) (old b o e)) ?_ ?_ ?_ (Heap.get?_update_self _ atS3 rfl) fin
    · obtain ⟨s1, s2⟩ := stand1
      exact ⟨s1.at fun o e => ne2 (k2 _ _ e) (fun z => out (by simp [z])), s2.at fun o e => ne2 (k2 _ _ e) (fun z => out (by simp [z]))⟩
    · have e1 : ∃ o, ((h2.update S (Obj.mapSeq fun _ => #[Value.ref p])).update S (Obj.mapSeq fun _ => #[Value.ref p])).get? S = some o := ⟨_, Heap.get?_update_self _ atS3 rfl⟩
      obtain ⟨o, e⟩ := e1
      exact Nat.le_of_lt (Nat.lt_of_le_of_lt new (Heap.lt_size e))
    · obtain ⟨o, e, r⟩ := isp
      exact ⟨o, ne2 e (fun z => by rw [← z, atS2] at e; cases e; exact absurd r.1 (by simp)), r⟩
    · rcases from_ with e | ⟨e, e2⟩ | ⟨e, e2⟩
      · refine .inl ?_
        rw [e]
        show h0.objs.size ≤ h1.objs.size
        exact Nat.le_of_lt (Nat.lt_of_le_of_lt new (Heap.lt_size atS1))
      · rw [e]
        show _ ∨ Kn T (flatTo val i ++ val i)
        rw [e2, List.append_nil]
        exact good
      · rw [e]
        show _ ∨ Kn b (flatTo val i ++ val i)
        rw [e2, List.nil_append]
        exact .inr kb
end
section
variable {prog : Program} {w : World} {A : Around} {E : Value → Shared → Prop} {s : Shared}
theorem sumTup {l e : Addr} {us : Array Value} {Q : Value → Shared → Prop} (calm : A.handled = none) (hl : s.heap.IsList l us) (he : IsTup s.heap e ([] : List Value).toArray) (val : Nat → List Value) (Kn : Addr → List Value → Prop) (ke : Kn e []) (items : ∀ i v, us[i]? = some v → ∃ b, v = .ref b ∧ IsTup s.heap b (val i).toArray ∧ Kn b (val i))
    (few : ∀ i, i ≤ us.size → (flatTo val i).length ≤ sizeLine)
    (h : ∀ h' tk T', (∀ b o, s.heap.get? b = some o → h'.get? b = some o) → IsTup h' T' (flatTo val us.size).toArray → (s.heap.objs.size ≤ T' ∨ Kn T' (flatTo val us.size)) → Q (.ref T') { s with heap := h', toks := tk }) :
    wpAny (model prog w) A (call (.builtin "sum") [.ref l, .ref e]) Q E s := by
  refine call_function_tree PySem.F.kind_sum PySem.F.plain_sum PySem.F.entry_sum (args_sumB _ _) ?_
  unfold Builtin.«sum»
  simp only [List.length_cons, List.length_nil]
  rw [if_neg (by decide)]
  refine wpAny_bind (wpAny_of_eq (show Builtin.Builtins.bindParams "sum" ["start"] 0 ⟨[.ref e], []⟩ = pure [some (.ref e)] from rfl) ?_)
  refine wpAny_bind (wpAny_pyIter_list hl ?_)
  have tyE : ∀ {h' : Heap}, (∀ b o, s.heap.get? b = some o → h'.get? b = some o) → Shared.TypeIs { s with heap := h' } (.ref e) "tuple" := fun k => by
    obtain ⟨o, e1, c, _⟩ := he
    exact ⟨o, k _ _ e1, c⟩
  have k1 : ∀ b o, s.heap.get? b = some o → (s.heap.push { cls := .type "list_iterator", data := .fields #[.ref l, .int 0 0] }).get? b = some o := fun b o e => Heap.get?_push_of_some _ e
  refine wpAny_bind (wpAny_pure ?_)
  simp only [List.forIn_cons, List.forIn_nil]
  refine wpAny_bind (wpAny_bind (wpAny_bind (wpAny_isInstance (T := "tuple") (b := false) (tyE k1) sub_tup_str ?_)))
  simp only [Bool.false_eq_true, if_false]
  refine wpAny_pure (wpAny_bind (wpAny_bind (wpAny_isInstance (T := "tuple") (b := false) (tyE k1) sub_tup_bytes ?_)))
  simp only [Bool.false_eq_true, if_false]
  refine wpAny_pure (wpAny_bind (wpAny_bind (wpAny_isInstance (T := "tuple") (b := false) (tyE k1) sub_tup_bytearray ?_)))
  simp only [Bool.false_eq_true, if_false]
  refine wpAny_pure (wpAny_pure ?_)
  refine wpAny_bind (wpAny_newObj_type ?_)
  have ltl : l < s.heap.objs.size := by obtain ⟨_, e1, _⟩ := hl; exact Heap.lt_size e1
  have sz1 : (s.heap.push { cls := .type "list_iterator", data := .fields #[.ref l, .int 0 0] }).objs.size = s.heap.objs.size + 1 := Heap.size_push ..
  refine wpAny_pure ⟨plainId_quiet PySem.F.plain_sum_loop _, tupLoop (h0 := s.heap) (us := us) (by exact calm) (l := l) (it := s.heap.objs.size) (Nat.ne_of_lt ltl) val Kn items _ ?_ ?_ (Nat.le_refl _) few us.size 0 _ e _ (by omega) (Nat.zero_le _) ⟨⟨_, Heap.get?_push_of_some _ (Heap.get?_push_size _ rfl), rfl, rfl⟩, (hl.push _).push _⟩ (fun b o x => Heap.get?_push_of_some _ (k1 _ _ x)) ?_ ?_ (.inr ke) (Heap.get?_push_size _ rfl) fun h' tk T' kk isT good => h h' tk T' kk isT good⟩
  · show (s.heap.push _).objs.size ∉ _
    rw [sz1]
    simp only [List.mem_cons, List.not_mem_nil, or_false, not_or]
    exact ⟨Nat.succ_ne_self _, (Nat.ne_of_lt (Nat.lt_succ_of_lt ltl)).symm⟩
  · show _ ≤ (s.heap.push _).objs.size
    rw [sz1]
    exact Nat.le_succ _
  · show _ ≤ ((s.heap.push _).push _).objs.size
    rw [Heap.size_push, sz1]
    omega
  · obtain ⟨o, e1, r⟩ := he
    exact ⟨o, Heap.get?_push_of_some _ (k1 _ _ e1), r⟩
end
end DrS
end PySem
namespace Dr
open PySem L2 PySem.Spec PyProof.Rows HT
/-- sum(xs, ()) of a list of tuples -/
def rSumT : List V → Hp → VK → Prop := fun vs H Q => ∃ (l e : Addr) (xs : List V) (yss : List (List V)), vs = [.ref l, .ref e] ∧ H l = some (.lst xs) ∧ H e = some (.tup []) ∧ Paired (fun x ys => ∃ a, x = .ref a ∧ H a = some (.tup ys)) xs yss ∧ yss.flatten.length ≤ sizeLine ∧
  ∀ p H', Gr [] H H' → H' p = some (.tup yss.flatten) → Q (.ref p) H'
theorem flat_take {yss : List (List V)} {val : Nat → List Value} (h : ∀ (i : Nat) (ys : List V), yss[i]? = some ys → Vals ys (val i)) : ∀ i, i ≤ yss.length → Vals (yss.take i).flatten (DrS.flatTo val i)
  | 0, _ => .nil
  | i + 1, hi => by
    have lt : i < yss.length := by omega
    have e : yss.take (i + 1) = yss.take i ++ [yss[i]] := by rw [List.take_add_one, List.getElem?_eq_getElem lt]; rfl
    rw [e, List.flatten_append, List.flatten_singleton]
    exact (flat_take h i (by omega)).append (h i _ (List.getElem?_eq_getElem lt))
theorem cr_sumT {X : Cx} (hc : X.calm = true) : CallR X (.builtin "sum") rSumT := by
  classical
  rintro pps s σ H vs us Q I r ⟨l, e, xs, yss, rfl, hl, he, hp, few, q⟩
  obtain ⟨u1, u2, rfl, r1, r2⟩ := vals2 r
  cases r1
  cases r2
  obtain ⟨its, rv, pl, hz⟩ := I.list (SqL.of hl)
  obtain ⟨es, re, te, _⟩ := I.tuple (SqT.of he)
  cases re
  have getT : ∀ (i : Nat) (v : Value), its.toArray[i]? = some v → ∃ (b : Addr) (ys : List V) (ws : List Value), v = .ref b ∧ yss[i]? = some ys ∧ H b = some (.tup ys) ∧ Vals ys ws ∧ IsTup s.heap b ws.toArray := fun i v hv => by
    have hv' : its[i]? = some v := by simpa using hv
    have li := (List.getElem?_eq_some_iff.mp hv').1
    have lx : i < xs.length := by rw [rv.length]; exact li
    obtain ⟨u, hu, ru⟩ := rv.get (List.getElem?_eq_getElem lx)
    rw [hv'] at hu
    cases hu
    obtain ⟨ys, hys, a, ea, ha⟩ := paired_get hp (List.getElem?_eq_getElem lx)
    rw [ea] at ru
    cases ru
    obtain ⟨ws, rw', tw, _⟩ := I.tuple (SqT.of ha)
    exact ⟨a, ys, ws, rfl, hys, ha, rw', tw⟩
  let val : Nat → List Value := fun i => if h : ∃ ws, ∃ ys b, yss[i]? = some ys ∧ its[i]? = some (.ref b) ∧ Vals ys ws ∧ IsTup s.heap b ws.toArray then h.choose else []
  have hval : ∀ (i : Nat) (v : Value), its.toArray[i]? = some v → ∃ (b : Addr) (ys : List V), v = .ref b ∧ yss[i]? = some ys ∧ H b = some (.tup ys) ∧ Vals ys (val i) ∧ IsTup s.heap b (val i).toArray := fun i v hv => by
    obtain ⟨b, ys, ws, rfl, h1, h2, h3, h4⟩ := getT i v hv
    have hv' : its[i]? = some (.ref b) := by simpa using hv
    have ex : ∃ ws, ∃ ys b, yss[i]? = some ys ∧ its[i]? = some (.ref b) ∧ Vals ys ws ∧ IsTup s.heap b ws.toArray := ⟨ws, ys, b, h1, hv', h3, h4⟩
    have ev : val i = ex.choose := dif_pos ex
    obtain ⟨ys', b', g1, g2, g3, g4⟩ := ex.choose_spec
    rw [h1] at g1
    cases g1
    rw [hv'] at g2
    cases g2
    rw [ev]
    exact ⟨b, ys, rfl, h1, h2, g3, g4⟩
  have lxy := Paired.length hp
  have lits : its.length = yss.length := by rw [← lxy, rv.length]
  have all : ∀ (i : Nat) (ys : List V), yss[i]? = some ys → Vals ys (val i) := fun i ys hy => by
    have li : i < its.length := by rw [lits]; exact (List.getElem?_eq_some_iff.mp hy).1
    obtain ⟨b, ys', _, h1, _, h3, _⟩ := hval i _ (show its.toArray[i]? = some its[i] by simp [li])
    rw [hy] at h1
    cases h1
    exact h3
  have whole := flat_take all yss.length (Nat.le_refl _)
  rw [List.take_length] at whole
  have szs : its.toArray.size = yss.length := by rw [List.size_toArray, lits]
  refine DrS.sumTup (I.ok.hd hc) pl.isList te val (fun b ws => ∃ ys, H b = some (.tup ys) ∧ Vals ys ws) ⟨[], he, .nil⟩ (fun i v hv => ?_) (fun i hi => ?_) fun h' tk T kept isT good => ?_
  · obtain ⟨b, ys, rfl, _, h2, h3, h4⟩ := hval i v hv
    exact ⟨b, rfl, h4, ys, h2, h3⟩
  · rw [szs] at hi
    have e1 := (flat_take all i hi).length
    rw [← e1]
    have e2 : yss.flatten = (yss.take i).flatten ++ (yss.drop i).flatten := by rw [← List.flatten_append, List.take_append_drop]
    rw [e2, List.length_append] at few
    omega
  · rw [szs] at isT good
    rcases good with good | ⟨ys, hT, rT⟩
    · have hn : H T = none := I.hok.fresh good
      exact ⟨.ref T, upd H T (.tup yss.flatten), I.laid (t' := tk) kept good ⟨few, _, whole, isT⟩, rfl, q T _ (Gr.new hn) upd_same⟩
    · have e1 : ys = yss.flatten := by
        obtain ⟨ws, rw', tw, _⟩ := I.tuple (SqT.of hT)
        obtain ⟨o, e1, c1, n1, d1⟩ := tw
        obtain ⟨o', e2, c2, n2, d2⟩ := isT
        rw [kept _ _ e1] at e2
        cases e2
        rw [d1] at d2
        injection d2 with d3 _
        have : ws = DrS.flatTo val yss.length := by simpa using congrArg Array.toList d3
        subst this
        exact rw'.inj whole
      exact ⟨.ref T, H, I.kept (t' := tk) kept, rfl, q T H (Gr.refl _ _) (by rw [← e1]; exact hT)⟩
end Dr
/-! the order of terms, with what was found kept -/
namespace Dr
open PySem L2
theorem hu65 {k : Nat} {A : Around} (hr : Room k A) : A.units + 65 < cLine := by have := hr.un; omega
theorem nodup_len {α : Type} [DecidableEq α] : ∀ {xs ys : List α}, xs.Nodup → (∀ x ∈ xs, x ∈ ys) → xs.length ≤ ys.length
  | [], ys, _, _ => Nat.zero_le _
  | x :: xs, ys, h, k => by
    rw [List.nodup_cons] at h
    have hx := k x List.mem_cons_self
    have := nodup_len (xs := xs) (ys := ys.erase x) h.2 fun z hz => (List.mem_erase_of_ne (fun e => h.1 (by rw [← e]; exact hz))).mpr (k z (List.mem_cons_of_mem _ hz))
    rw [List.length_erase_of_mem hx] at this
    have : 0 < ys.length := List.length_pos_of_mem hx
    rw [List.length_cons]
    omega
def oF (rd m : Addr) : List (Str × V) := putF "found" (.ref m) (putF "rank" (.ref rd) [])
theorem oF_rank (rd m : Addr) : (oF rd m).lookup ("rank" : Str) = some (.ref rd) := by
  unfold oF
  rw [lookup_putF, if_neg (by decide +kernel), lookup_putF, if_pos rfl]
theorem oF_found (rd m : Addr) : (oF rd m).lookup ("found" : Str) = some (.ref m) := by
  unfold oF
  rw [lookup_putF, if_pos rfl]
theorem oF_no (rd m : Addr) {f : Str} (h1 : ¬ f = "found") (h2 : ¬ f = "rank") : (oF rd m).lookup f = none := by
  unfold oF
  rw [lookup_putF, if_neg h1, lookup_putF, if_neg h2]
  rfl
/-- what is kept is right, of parts of L and R -/
structure OI (rk : Str → Nat) (L R : Tm) (es : List Ent) : Prop where
  right : ∀ x ∈ es, ∃ s t, s ∈ L.parts ∧ t ∈ R.parts ∧ x.1 = .tup [s.enc, t.enc] ∧ x.2.2 = .bool (Tm.above rk s t)
  unlike : (es.map (·.1)).Nodup
theorem sum_rep (k : Nat) : ∀ n, (List.replicate n k).sum = n * k
  | 0 => by simp
  | n + 1 => by rw [List.replicate_succ, List.sum_cons, sum_rep k n, Nat.succ_mul]; omega
def prs (L R : Tm) : List D := L.parts.flatMap fun s => R.parts.map fun t => .tup [s.enc, t.enc]
theorem prs_len (L R : Tm) : (prs L R).length = L.size * R.size := by
  unfold prs
  rw [List.length_flatMap]
  simp only [List.length_map, Tm.length_parts]
  rw [List.map_const', sum_rep, Tm.length_parts]
theorem OI.few {rk : Str → Nat} {L R : Tm} {es : List Ent} (h : OI rk L R es) : es.length ≤ L.size * R.size := by
  have := nodup_len (ys := prs L R) h.unlike fun d hd => by
    obtain ⟨x, hx, rfl⟩ := List.mem_map.mp hd
    obtain ⟨s, t, h1, h2, h3, _⟩ := h.right x hx
    rw [h3]
    exact List.mem_flatMap.mpr ⟨s, h1, List.mem_map.mpr ⟨t, h2, rfl⟩⟩
  rw [List.length_map, prs_len] at this
  exact this
theorem OI.at {rk : Str → Nat} {L R s t : Tm} {es : List Ent} (h : OI rk L R es) {p : Addr × Value} (e : atKey es (.tup [s.enc, t.enc]) = some p) : p.2 = .bool (Tm.above rk s t) := by
  unfold atKey at e
  obtain ⟨x, hx, rfl⟩ := Option.map_eq_some_iff.mp e
  have h1 := List.mem_of_find?_eq_some hx
  have h2 : x.1 = NestedKey.tup [s.enc, t.enc] := by simpa using List.find?_some hx
  obtain ⟨s', t', _, _, h3, h4⟩ := h.right x h1
  rw [h2] at h3
  simp only [NestedKey.tup.injEq, List.cons.injEq, and_true] at h3
  rw [h4, Tm.enc_inj h3.1, Tm.enc_inj h3.2]
theorem OI.put {rk : Str → Nat} {L R s t : Tm} {es : List Ent} (h : OI rk L R es) (hs : s ∈ L.parts) (ht : t ∈ R.parts) (b : Addr) : OI rk L R (storedH es (.tup [s.enc, t.enc]) b (.bool (Tm.above rk s t))) := by
  cases e : atKey es (.tup [s.enc, t.enc]) with
  | none =>
    rw [storedH_new e]
    refine ⟨fun x hx => ?_, ?_⟩
    · rcases List.mem_append.mp hx with hx | hx
      · exact h.right x hx
      · rw [List.mem_singleton.mp hx]
        exact ⟨s, t, hs, ht, rfl, rfl⟩
    · rw [List.map_append, List.nodup_append]
      refine ⟨h.unlike, by simp, fun a ha c hc => ?_⟩
      rw [List.map_singleton, List.mem_singleton] at hc
      subst hc
      intro z
      obtain ⟨x, hx, hz⟩ := List.mem_map.mp ha
      have : (es.find? fun y => decide (y.1 = NestedKey.tup [s.enc, t.enc])) = none := by
        unfold atKey at e
        exact Option.map_eq_none_iff.mp e
      have := List.find?_eq_none.mp this x hx
      exact this (decide_eq_true (hz.trans z))
  | some p =>
    rw [storedH_old e]
    refine ⟨fun x hx => ?_, by rw [keys_map_putAt]; exact h.unlike⟩
    obtain ⟨y, hy, rfl⟩ := List.mem_map.mp hx
    unfold putAt
    split
    · rename_i e2
      exact ⟨s, t, hs, ht, e2, rfl⟩
    · exact h.right y hy
theorem atKey_stored {es : List Ent} {k : D} {b : Addr} {v : Value} (n : (es.map (·.1)).Nodup) : ∃ c, atKey (storedH es k b v) k = some (c, v) := by
  cases e : atKey es k with
  | none =>
    rw [storedH_new e]
    refine ⟨b, ?_⟩
    have n2 : (es.find? fun y => decide (y.1 = k)) = none := by
      unfold atKey at e
      exact Option.map_eq_none_iff.mp e
    unfold atKey
    rw [List.find?_append, n2]
    simp
  | some p =>
    rw [storedH_old e]
    unfold atKey at e
    obtain ⟨x, hx, h2⟩ := Option.map_eq_some_iff.mp e
    have h3 : x.1 = k := by simpa using List.find?_some hx
    have h4 := List.mem_of_find?_eq_some hx
    have n3 : ((es.map (putAt k v)).map (·.1)).Nodup := by rw [keys_map_putAt]; exact n
    obtain ⟨i, hi⟩ := List.mem_iff_getElem?.mp h4
    refine ⟨x.2.1, atKey_of_get n3 (i := i) ?_⟩
    rw [List.getElem?_map, hi, Option.map_some]
    unfold putAt
    rw [if_pos h3, h3]
theorem dds_paired {H : Hp} {ys : List V} {ds : List D} (h : Paired (Dd H) ys ds) : Dds H ys ds := by
  induction h with
  | nil => exact .nil
  | cons e _ ih => exact .cons e ih
theorem dds_of {H : Hp} {ys : List V} {ds : List D} (len : ys.length = ds.length) (at_ : ∀ (i : Nat) (y : V), ys[i]? = some y → ∃ d, ds[i]? = some d ∧ Dd H y d) : Dds H ys ds := dds_paired (paired_of len at_)
theorem depthAll_le {n : Nat} : ∀ {ds : List D}, (∀ d ∈ ds, d.depth ≤ n) → NestedKey.depthAll ds ≤ n
  | [], _ => by simp [NestedKey.depthAll]
  | d :: ds, h => by
    have h1 := h d List.mem_cons_self
    have h2 := depthAll_le (ds := ds) fun z hz => h z (List.mem_cons_of_mem _ hz)
    simp only [NestedKey.depthAll]
    omega
/-- the order at o, what was found at m -/
structure OC (P : Program) (w : World) (C : Addr) (rk : Str → Nat) (hs : List Tm.Row) (L R : Tm) (o m : Addr) (H : Hp) (es : List Ent) : Prop where
  ins : ∃ dx rd rks, H o = some (.ins C dx (oF rd m)) ∧ H rd = some (.dK rks) ∧ ∀ r ∈ hs, valV rks (.inr r.1) = some (.int (rk r.1 : Nat))
  mem : MemAt P w H m es
  inv : OI rk L R es
  okL : Tm.ok hs L = true
  okR : Tm.ok hs R = true
  sml : L.size ≤ 1000 ∧ R.size ≤ 1000 ∧ L.dep ≤ 7 ∧ R.dep ≤ 7
theorem MemAt.ts {P : Program} {w : World} {H H' : Hp} {a : Addr} {es : List Ent} (m : MemAt P w H a es) (t : Ts H H') (h : H' a = H a) : MemAt P w H' a es := ⟨h.trans m.here, fun x hx => ⟨(m.keys x hx).1.mono t, (m.keys x hx).2⟩, m.few⟩
section
variable {P : Program} {w : World} {C o m : Addr} {rk : Str → Nat} {hs : List Tm.Row} {L R : Tm} {H H' : Hp} {es es' : List Ent}
theorem OC.keep (c : OC P w C rk hs L R o m H es) (t : Ts H H') (k : ∀ b u, H b = some u → (∀ xs, u ≠ .lst xs) → H' b = some u) : OC P w C rk hs L R o m H' es := by
  obtain ⟨dx, rd, rks, h1, h2, h3⟩ := c.ins
  exact ⟨⟨dx, rd, rks, k _ _ h1 (fun _ z => nomatch z), k _ _ h2 (fun _ z => nomatch z), h3⟩, c.mem.ts t ((k _ _ c.mem.here (fun _ z => nomatch z)).trans c.mem.here.symm), c.inv, c.okL, c.okR, c.sml⟩
theorem OC.gr (c : OC P w C rk hs L R o m H es) (g : Gr [] H H') : OC P w C rk hs L R o m H' es := c.keep g.2 fun b u e _ => g.same _ _ e
theorem OC.lst (c : OC P w C rk hs L R o m H es) {D : Addr} {zs ys : List V} (h : H D = some (.lst zs)) : OC P w C rk hs L R o m (upd H D (.lst ys)) es :=
  c.keep (Ts.at h fun _ z => nomatch z) fun b u e n => by rw [upd_ne (ne_of e h (n zs))]; exact e
theorem OC.step (c : OC P w C rk hs L R o m H es) (g : Gr [m] H H') (x : MemAt P w H' m es') (i : OI rk L R es') : OC P w C rk hs L R o m H' es' := by
  obtain ⟨dx, rd, rks, h1, h2, h3⟩ := c.ins
  exact ⟨⟨dx, rd, rks, g.1 _ _ h1 (by simpa using ne_of h1 c.mem.here (fun z => nomatch z)), g.1 _ _ h2 (by simpa using ne_of h2 c.mem.here (fun z => nomatch z)), h3⟩, x, i, c.okL, c.okR, c.sml⟩
end
def spGr (P : Program) (w : World) (C : Addr) (n : Nat) : Sp := fun vs H Q _ => ∃ (o m : Addr) (v1 v2 : V) (rk : Str → Nat) (hs : List Tm.Row) (L R s t : Tm) (es : List Ent), vs = [.ref o, v1, v2] ∧ OC P w C rk hs L R o m H es ∧ s ∈ L.parts ∧ t ∈ R.parts ∧ Dd H v1 s.enc ∧ Dd H v2 t.enc ∧
  s.dep + t.dep < n ∧ ∀ H' es', Gr [m] H H' → OC P w C rk hs L R o m H' es' → Q (.bl (Tm.above rk s t)) H'
def spGa (P : Program) (w : World) (C : Addr) (n : Nat) : Sp := fun vs H Q _ => ∃ (o m : Addr) (v1 v2 : V) (rk : Str → Nat) (hs : List Tm.Row) (L R : Tm) (h g : Hd) (ss ts : List Tm) (es : List Ent), vs = [.ref o, v1, v2] ∧ OC P w C rk hs L R o m H es ∧ Tm.c h ss ∈ L.parts ∧ Tm.c g ts ∈ R.parts ∧ Dd H v1 (Tm.c h ss).enc ∧ Dd H v2 (Tm.c g ts).enc ∧
  (Tm.c h ss).dep + (Tm.c g ts).dep < n ∧ ∀ H' es', Gr [m] H H' → OC P w C rk hs L R o m H' es' → Q (.bl (Tm.ahead rk h g ss ts)) H'
@[irreducible] def spOI (P : Program) (w : World) (C : Addr) : Sp := fun vs H Q _ => ∃ (o rd dx : Addr), vs = [.ref o, .ref rd] ∧ H o = some (.ins C dx []) ∧ ∀ H' m, Gr [o] H H' → H m = none → H' o = some (.ins C dx (oF rd m)) → MemAt P w H' m [] → Q .non H'
theorem spOI_of {P : Program} {w : World} {C : Addr} {vs : List V} {H : Hp} {Q : VK} {E : XK} (h : ∃ (o rd dx : Addr), vs = [.ref o, .ref rd] ∧ H o = some (.ins C dx []) ∧ ∀ H' m, Gr [o] H H' → H m = none → H' o = some (.ins C dx (oF rd m)) → MemAt P w H' m [] → Q .non H') : spOI P w C vs H Q E := by unfold spOI; exact h
theorem Tm.ok_known {hs : List Tm.Row} {h : Hd} {ts : List Tm} (e : Tm.ok hs (.c h ts) = true) : ∃ r ∈ hs, r.1 = h.1 ∧ Tm.fnd hs h.1 = some r ∧ ts.length = r.2.1.length := by
  simp only [Tm.ok, Bool.and_eq_true] at e
  cases f : Tm.fnd hs h.1 with
  | none => rw [f] at e; exact absurd e.1 (by simp)
  | some r =>
    rw [f] at e
    refine ⟨r, List.mem_of_find?_eq_some f, by simpa using List.find?_some f, rfl, of_decide_eq_true e.1⟩
section
variable {P : Program} {w : World} {K : PySem.W.Frag} {mg : Str → Option Value} {base : Heap}
theorem sc_Order_init : FnScope ["self", "rank"] ["self", "rank"] (defScope s_Order_init) := ⟨rfl, rfl, rfl, by decide +kernel, rfl, by decide +kernel, by decide +kernel⟩
theorem ok_Order_init (T : Tx K mg) : FnOk P w K mg base CX0 1 T.f_Order_init.f T.f_Order_init.fd ["self", "rank"] (spOI P w T.cOrder.C) := by
  refine T.f_Order_init.F.ok sc_Order_init (fun vs H Q E h => ?_) (fun cdv A outer s H vs Q E hr h => ?_)
  · unfold spOI at h
    obtain ⟨o, rd, dx, rfl, _⟩ := h
    rfl
  · have nd := sc_Order_init.nd
    refine ⟨_, (pss_cons (ps_fld (pv 0) (pv 1) rfl) (pss_one (ps_fld (pv 0) pe_mnew rfl))), ?_⟩
    unfold spOI at h
    obtain ⟨o, rd, dx, rfl, ho, k⟩ := h
    refine ⟨_, rfl, _, rfl, o, _, dx, _, rfl, ho, T.cOrder.cl, T.n_Order_rank, (by show 0 < 1000; decide), ?_⟩
    intro m hm
    have hom : o ≠ m := ne_of_none upd_same hm
    have g1 : Gr [o] H (upd H o (.ins T.cOrder.C dx (putF "rank" (.ref rd) []))) := Gr.at ho (fun _ z => nomatch z) List.mem_cons_self
    have hm0 : H m = none := by rw [upd_ne (Ne.symm hom)] at hm; exact hm
    refine ⟨_, rfl, o, _, dx, _, rfl, (by rw [upd_ne hom]; exact upd_same), T.cOrder.cl, T.n_Order_found, (by show 1 < 1000; decide), ?_⟩
    refine k _ m ((g1.trans (Gr.new hm)).trans (Gr.at (u := .ins T.cOrder.C dx (putF "rank" (.ref rd) [])) (by rw [upd_ne hom]; exact upd_same) (fun _ z => nomatch z) List.mem_cons_self)) hm0 upd_same ⟨?_, (fun x hx => by simp at hx), (by show 0 < sizeLine; decide)⟩
    rw [upd_ne (Ne.symm hom)]
    exact upd_same
theorem sc_Order_goes_ahead : FnScope ["self", "one", "other", "part", "its"] ["self", "one", "other"] (defScope s_Order_goes_ahead) := ⟨rfl, rfl, rfl, by decide +kernel, rfl, by decide +kernel, by decide +kernel⟩
theorem ok_Order_goes_ahead (T : Tx K mg) (n : Nat) (G : FnOk P w K mg base CX0 (3 * n + 15) T.f_Order_is_greater.f T.f_Order_is_greater.fd ["self", "one", "other"] (spGr P w T.cOrder.C n)) :
    FnOk P w K mg base CX0 (3 * n + 16) T.f_Order_goes_ahead.f T.f_Order_goes_ahead.fd ["self", "one", "other"] (spGa P w T.cOrder.C (n + 1)) := by
  refine T.f_Order_goes_ahead.F.ok sc_Order_goes_ahead (fun vs H Q E h => ?_) (fun cdv A outer s H vs Q E hr h => ?_)
  · obtain ⟨o, m, v1, v2, _, _, _, _, _, _, _, _, _, rfl, _⟩ := h
    rfl
  · have nd := sc_Order_goes_ahead.nd
    refine ⟨_, (pss_cons (ps_if (pt_cmpR op_ne (pe_ix (ixT K) (pv 1) pe_int (fun _ _ => rfl)) (pe_ix (ixT K) (pv 2) pe_int (fun _ _ => rfl)) (nomark _)) (pss_one (ps_ret (pe_cmpR op_lt (pe_dget (hu_of hr) (fldK K (pv 0)) (pe_ix (ixT K) (pv 2) pe_int (fun _ _ => rfl)) (fun _ _ => rfl)) (pe_dget (hu_of hr) (fldK K (pv 0)) (pe_ix (ixT K) (pv 1) pe_int (fun _ _ => rfl)) (fun _ _ => rfl)) (nomark _)))) pss_nil) (pss_cons (ps_for PassesOwn.never rfl (RZ.pi_zipA (by rfl) T.z_zip (pa_cons (pe_slice sl_tupN (pv 1) (po_some pe_int) po_none) (pa_cons (pe_slice sl_tupN (pv 2) (po_some pe_int) po_none) pa_nil))) (pgT K 2 (pgs_cons (pg_name (i := 3) nd rfl (Or.inl rfl) (Or.inr rfl)) (pgs_cons (pg_name (i := 4) nd rfl (Or.inl rfl) (Or.inr rfl)) pgs_nil))) (pss_one (ps_if (pt_cmpR (op_neN hr.units) (pv 3) (pv 4) (nomark _)) (pss_one (ps_ret (pe_meth (pv 0) T.cOrder.cl T.f_Order_is_greater.M G hr T.f_Order_is_greater.b .nil pass0 (pa_cons (pv 3) (pa_cons (pv 4) pa_nil))))) pss_nil))) (pss_one (ps_ret pe_bl)))), ?_⟩
    obtain ⟨o, m, v1, v2, rk, hs, L, R, h, g, ss, ts, es, rfl, oc, hL, hR, d1, d2, hn, k⟩ := h
    obtain ⟨a, vs, rfl, ha, hv⟩ := called_inv d1
    obtain ⟨b, us, rfl, hb, hu⟩ := called_inv d2
    obtain ⟨r1, m1, e1, f1, l1⟩ := Tm.ok_known (Tm.ok_parts oc.okL hL)
    obtain ⟨r2, m2, e2, f2, l2⟩ := Tm.ok_known (Tm.ok_parts oc.okR hR)
    obtain ⟨dx, rd, rks, ho, hrd, hrk⟩ := oc.ins
    refine cut (fun σ' H' => σ' = [some (.ref o), some (.ref a), some (.ref b), none, none] ∧ H' = H ∧ h = g) ?_ (fun rest => ?_)
    · rintro σ' H' ⟨rfl, rfl, rfl⟩
      have hlen : ss.length = ts.length := by
        rw [f1] at f2
        cases Option.some.inj f2
        omega
      refine cut (fun σ' H1 => ∃ p q, σ' = [some (.ref o), some (.ref a), some (.ref b), p, q] ∧ Gr [] H' H1 ∧ (ss.zip ts).find? (fun p => decide (p.1 ≠ p.2)) = none) ?_ (fun rest => ?_)
      · rintro σ' H1 ⟨p, q, rfl, g1, hf⟩
        have e : Tm.ahead rk h h ss ts = false := by
          unfold Tm.ahead
          rw [if_pos rfl, hf]
        rw [e] at k
        exact k H1 es g1.less (oc.gr g1)
      · refine ⟨_, rfl, _, rfl, a, _, rfl, ha, fun p H1 g1 hp => ⟨_, rfl, _, rfl, b, _, rfl, g1.2 _ _ hb, fun q H2 g2 hq => ?_⟩⟩
        rw [cut1] at hp hq
        refine ⟨p, q, _, _, rfl, .inr ⟨SqT.of (g2.2 _ _ hp), SqT.of hq, ?_⟩⟩
        have hp2 := g2.2 _ _ hp
        have g12 := g1.trans g2
        have lv := hv.tms
        have lu := hu.tms
        refine RZ.for_zipT (xs := vs) (ys := us) (by omega) (fun i σ H3 => ∃ p q, σ = [some (.ref o), some (.ref a), some (.ref b), p, q] ∧ Gr [] H2 H3 ∧ (ss.zip ts).find? (fun p => decide (p.1 ≠ p.2)) = ((ss.drop i).zip (ts.drop i)).find? (fun p => decide (p.1 ≠ p.2))) ⟨_, _, rfl, Gr.refl _ _, rfl⟩ (fun i σ H3 ⟨_, _, _, g3, _⟩ => ⟨SqT.of (g3.2 _ _ hp2), SqT.of (g3.2 _ _ hq)⟩) ?_ ?_
        · rintro i x y U σ H3 hx hy ⟨p', q', rfl, g3, hf⟩ hU
          obtain ⟨s', hs', dx'⟩ := hv.tm hx
          obtain ⟨t', ht', dy'⟩ := hu.tm hy
          have g4 := (g12.trans g3).trans (Gr.new (o := .tup [x, y]) hU)
          have ms := List.mem_of_getElem? hs'
          have mt := List.mem_of_getElem? ht'
          have ds := Tm.dep_mem ms
          have dt := Tm.dep_mem mt
          have pL : s' ∈ L.parts := Tm.parts_trans hL (by simp only [Tm.parts, List.mem_cons]; exact .inr (Tm.mem_partss.mpr ⟨s', ms, Tm.self_parts _⟩))
          have pR : t' ∈ R.parts := Tm.parts_trans hR (by simp only [Tm.parts, List.mem_cons]; exact .inr (Tm.mem_partss.mpr ⟨t', mt, Tm.self_parts _⟩))
          have dpL := Tm.dep_parts pL
          have dpR := Tm.dep_parts pR
          have es1 := Tm.depth_enc s'
          have es2 := Tm.depth_enc t'
          have sm := oc.sml
          simp only [Tm.dep] at hn
          have c1 := (List.getElem?_eq_some_iff.mp hs')
          have c2 := (List.getElem?_eq_some_iff.mp ht')
          rw [List.drop_eq_getElem_cons c1.1, List.drop_eq_getElem_cons c2.1, c1.2, c2.2, List.zip_cons_cons, List.find?_cons] at hf
          refine ⟨U, _, rfl, SqT.of upd_same, rfl, _, _, rfl, _, _, rfl, rfl, ?_⟩
          refine ⟨_, rfl, _, rfl, s'.enc, t'.enc, dx'.mono g4.2, dy'.mono g4.2, by omega, by omega, _, rfl, ite2 (fun e => ?_) (fun e => ?_)⟩
          · have ne : s' ≠ t' := fun z => by rw [z, decide_eq_true rfl] at e; cases e
            rw [decide_eq_true (show (s', t').1 ≠ (s', t').2 from ne)] at hf
            have oc4 := oc.gr g4
            obtain ⟨dx4, rd4, rks4, ho4, _⟩ := oc4.ins
            refine ⟨_, rfl, o, dx4, _, rfl, ho4, oF_no _ _ (by decide +kernel) (by decide +kernel), _, rfl, _, rfl, ?_⟩
            refine ⟨o, m, x, y, rk, hs, L, R, s', t', es, rfl, oc4, pL, pR, dx'.mono g4.2, dy'.mono g4.2, by omega, fun H5 es5 g5 oc5 => ?_⟩
            have e2 : Tm.ahead rk h h ss ts = Tm.above rk s' t' := by
              unfold Tm.ahead
              rw [if_pos rfl, hf]
            rw [e2] at k
            exact k _ _ (g4.less.trans g5) oc5
          · have eq : s' = t' := by
              refine Decidable.byContradiction fun z => e ?_
              rw [decide_eq_false (fun q => z (Tm.enc_inj q))]
              rfl
            rw [decide_eq_false (show ¬ (s', t').1 ≠ (s', t').2 from fun z => z eq)] at hf
            exact ⟨_, _, rfl, g3.trans (Gr.new hU), hf⟩
        · rintro σ H3 ⟨p', q', rfl, g3, hf⟩
          rw [lv, List.drop_length, List.zip_nil_left, List.find?_nil] at hf
          exact rest [some (.ref o), some (.ref a), some (.ref b), p', q'] _ ⟨p', q', rfl, g12.trans g3, hf⟩
    · refine ⟨_, rfl, a, _, _, _, rfl, rfl, SqT.of ha, at0, _, rfl, b, _, _, _, rfl, rfl, SqT.of hb, at0, rfl, _, rfl, ite2 (fun e => ?_) (fun e => ?_)⟩
      · have ne : h ≠ g := fun z => by rw [z, decide_eq_true rfl] at e; cases e
        have e3 : Tm.ahead rk h g ss ts = decide (rk g.1 < rk h.1) := by
          unfold Tm.ahead
          rw [if_neg ne]
        rw [e3] at k
        refine ⟨_, rfl, o, _, dx, _, _, rfl, ho, T.cOrder.cl, T.n_Order_rank, oF_rank _ _, _, rfl, b, _, _, _, rfl, rfl, SqT.of hb, at0, rd, .int (rk g.1 : Nat), rfl, (by rw [← e2, ← hrk r2 m2]; exact DGet.k (k := Sum.inr r2.1) hrd), ?_⟩
        refine ⟨_, rfl, o, _, dx, _, _, rfl, ho, T.cOrder.cl, T.n_Order_rank, oF_rank _ _, _, rfl, a, _, _, _, rfl, rfl, SqT.of ha, at0, rd, .int (rk h.1 : Nat), rfl, (by rw [← e1, ← hrk r1 m1]; exact DGet.k (k := Sum.inr r1.1) hrd), _, _, rfl, rfl, ?_⟩
        have e4 : decide (((rk g.1 : Nat) : Int) < ((rk h.1 : Nat) : Int)) = decide (rk g.1 < rk h.1) := decide_eq_decide.mpr (by omega)
        show Q (.bl (decide (((rk g.1 : Nat) : Int) < ((rk h.1 : Nat) : Int)))) H
        rw [e4]
        exact k H es (Gr.refl _ _) oc
      · have eq : h = g := by
          refine Decidable.byContradiction fun z => e ?_
          rw [decide_eq_false (fun q => z (Subtype.ext (by injection q)))]
          rfl
        exact rest _ _ ⟨rfl, rfl, eq⟩
theorem sc_Order_looked : FnScope ["self", "one", "other", "place", "part"] ["self", "one", "other"] (defScope s_Order_looked) := ⟨rfl, rfl, rfl, by decide +kernel, rfl, by decide +kernel, by decide +kernel⟩
theorem ok_Order_looked (T : Tx K mg) (n : Nat) (G : FnOk P w K mg base CX0 (3 * n + 15) T.f_Order_is_greater.f T.f_Order_is_greater.fd ["self", "one", "other"] (spGr P w T.cOrder.C n)) :
    FnOk P w K mg base CX0 (3 * n + 17) T.f_Order_looked.f T.f_Order_looked.fd ["self", "one", "other"] (spGr P w T.cOrder.C (n + 1)) := by
  have GA := ok_Order_goes_ahead T n G
  refine T.f_Order_looked.F.ok sc_Order_looked (fun vs H Q E h => ?_) (fun cdv A outer s H vs Q E hr h => ?_)
  · obtain ⟨o, m, v1, v2, _, _, _, _, _, _, _, rfl, _⟩ := h
    rfl
  · have nd := sc_Order_looked.nd
    refine ⟨_, (pss_cons (ps_if (PW.pt (pw_or (pt_not (pt_val (pe_call (ok_is_called T) (hr.mono (by omega)) rfl T.f_is_called.g T.f_is_called.F.kp T.f_is_called.b .nil pass0 (pa_cons (pv 1) pa_nil)))) (pw_or1 (pt_cmpR (op_eqN hr.units) (pv 1) (pv 2) (nomark _))))) (pss_one (ps_ret pe_bl)) pss_nil) (pss_cons (ps_if (pt_val (pe_call (ok_is_word T) (hr.mono (by omega)) rfl T.f_is_word.g T.f_is_word.F.kp T.f_is_word.b .nil pass0 (pa_cons (pv 2) pa_nil))) (pss_one (ps_ret pe_bl)) pss_nil) (pss_cons (ps_if (pt_not (pt_val (pe_call (ok_is_called T) (hr.mono (by omega)) rfl T.f_is_called.g T.f_is_called.F.kp T.f_is_called.b .nil pass0 (pa_cons (pv 2) pa_nil)))) (pss_one (ps_ret (pe_cmpR (op_inN (hu65 hr)) (pv 2) (pe_lc (own := [("place", 3), ("part", 4)]) rfl nd (piL K (pe_call (ok_parts_of T 8) (hr.mono (by omega)) rfl T.f_parts_of.g T.f_parts_of.F.kp T.f_parts_of.b .nil pass0 (pa_cons (pv 1) pa_nil))) (blkOk_by (own := [("place", 3), ("part", 4)]) (N := ["self", "one", "other", "place", "part"]) (sc := defScope s_Order_looked) (by decide +kernel)) (fun _ _ _ _ _ => (pgT K 2 (pgs_cons (pg_name (i := 3) nd rfl (Or.inl rfl) (Or.inr rfl)) (pgs_cons (pg_name (i := 4) nd rfl (Or.inl rfl) (Or.inr rfl)) pgs_nil)))) (fun _ _ _ _ _ => pts_nil) (fun _ _ _ _ _ => (pv 4))) (by rfl)))) pss_nil) (pss_cons (ps_if (pt_val (pe_callB (anyK K) (by rfl) T.z_any (by decide +kernel) (pa_cons (pe_lc (own := [("part", 4)]) rfl nd (piT K (pe_slice sl_tupN (pv 1) (po_some pe_int) po_none)) (blkOk_by (own := [("part", 4)]) (N := ["self", "one", "other", "place", "part"]) (sc := defScope s_Order_looked) (by decide +kernel)) (fun _ _ _ _ _ => (pg_name (i := 4) nd rfl (Or.inl rfl) (Or.inr rfl))) (fun _ _ _ _ _ => pts_nil) (fun _ _ _ _ _ => (pe_or (pe_cmpR (op_eqN hr.units) (pv 4) (pv 2) (nomark _)) (pe_one (pe_meth (pv 0) T.cOrder.cl T.f_Order_is_greater.M G (hr.mono (by omega)) T.f_Order_is_greater.b .nil pass0 (pa_cons (pv 4) (pa_cons (pv 2) pa_nil))))))) pa_nil))) (pss_one (ps_ret pe_bl)) pss_nil) (pss_cons (ps_if (pt_not (pt_val (pe_callB (allK K) (by rfl) T.z_all (by decide +kernel) (pa_cons (pe_lc (own := [("part", 4)]) rfl nd (piT K (pe_slice sl_tupN (pv 2) (po_some pe_int) po_none)) (blkOk_by (own := [("part", 4)]) (N := ["self", "one", "other", "place", "part"]) (sc := defScope s_Order_looked) (by decide +kernel)) (fun _ _ _ _ _ => (pg_name (i := 4) nd rfl (Or.inl rfl) (Or.inr rfl))) (fun _ _ _ _ _ => pts_nil) (fun _ _ _ _ _ => (pe_meth (pv 0) T.cOrder.cl T.f_Order_is_greater.M G (hr.mono (by omega)) T.f_Order_is_greater.b .nil pass0 (pa_cons (pv 1) (pa_cons (pv 4) pa_nil))))) pa_nil)))) (pss_one (ps_ret pe_bl)) pss_nil) (pss_one (ps_ret (pe_meth (pv 0) T.cOrder.cl T.f_Order_goes_ahead.M GA hr T.f_Order_goes_ahead.b .nil pass0 (pa_cons (pv 1) (pa_cons (pv 2) pa_nil)))))))))), ?_⟩
    obtain ⟨o, m, v1, v2, rk, hs, L, R, s, t, es, rfl, oc, hL, hR, d1, d2, hn, k⟩ := h
    have sm := oc.sml
    have dpL := Tm.dep_parts hL
    have dpR := Tm.dep_parts hR
    have szL := Tm.size_parts hL
    have es1 := Tm.depth_enc s
    have es2 := Tm.depth_enc t
    -- not called, or alike
    refine cut (fun σ' H' => σ' = [some (.ref o), some v1, some v2, none, none] ∧ H = H' ∧ s.isC = true ∧ s ≠ t) ?_ (fun rest => ?_)
    case refine_2 =>
      refine ⟨_, rfl, ?_⟩
      show spCalled [v1] H _ _
      refine spCalled_of ⟨v1, s, rfl, d1, _, rfl, ?_⟩
      cases hc : s.isC with
      | false =>
        have e : Tm.above rk s t = false := by
          cases s with
          | w x => exact Tm.above_w x t
          | u x => exact Tm.above_u x t
          | c h ss => cases hc
        rw [e] at k
        exact iteT (iteT (k H es (Gr.refl _ _) oc))
      | true =>
        refine iteF ⟨_, rfl, _, rfl, s.enc, t.enc, d1, d2, by omega, by omega, _, rfl, ite2 (fun e => ?_) (fun e => ?_)⟩
        · have eq : s = t := Tm.enc_inj (of_decide_eq_true e)
          subst eq
          rw [Tm.above_self] at k
          exact k H es (Gr.refl _ _) oc
        · exact rest _ _ ⟨rfl, rfl, hc, fun z => e (decide_eq_true (congrArg Tm.enc z))⟩
    rintro σ' H' ⟨rfl, rfl, hc, hne⟩
    cases s with
    | w x => cases hc
    | u x => cases hc
    | c h ss =>
      obtain ⟨a, vs, rfl, ha, hv⟩ := called_inv d1
      -- a word
      refine cut (fun σ' H' => σ' = [some (.ref o), some (.ref a), some v2, none, none] ∧ H = H' ∧ t.isW = false) ?_ (fun rest => ?_)
      case refine_2 =>
        refine ⟨_, rfl, ?_⟩
        show spWord [v2] H _ _
        refine spWord_of ⟨v2, t, rfl, d2, _, rfl, ?_⟩
        cases t with
        | w x =>
          rw [Tm.above_cw] at k
          exact iteT (k H es (Gr.refl _ _) oc)
        | u x => exact iteF (rest _ _ ⟨rfl, rfl, rfl⟩)
        | c g ts => exact iteF (rest _ _ ⟨rfl, rfl, rfl⟩)
      rintro σ' H2 ⟨rfl, rfl, hw⟩
      -- an unknown
      refine cut (fun σ' H' => σ' = [some (.ref o), some (.ref a), some v2, none, none] ∧ H = H' ∧ t.isC = true) ?_ (fun rest => ?_)
      case refine_2 =>
        refine ⟨_, rfl, ?_⟩
        show spCalled [v2] H _ _
        refine spCalled_of ⟨v2, t, rfl, d2, _, rfl, ?_⟩
        cases t with
        | w x => cases hw
        | c g ts => exact iteF (rest _ _ ⟨rfl, rfl, rfl⟩)
        | u x =>
          refine iteT ⟨_, rfl, ?_⟩
          refine ⟨_, rfl, .ref a, .c h ss, rfl, d1, by omega, by omega, by omega, fun l ps H3 g3 hl0 hl hps => ⟨l, rfl, ⟨_, SqL.of hl⟩, fun D hD => ?_⟩⟩
          have hlD : l ≠ D := ne_of_none hl hD
          refine lc_map (xs := ps) walk_list [] (fun _ _ => True) (fun j y H' => ∃ t', (Tm.c h ss).parts[j]? = some t' ∧ Dd H' y t'.enc) hD (by simp) ?_ (fun H' g => SqL.of (g.1 _ _ (by rw [upd_ne hlD]; exact hl) (by simpa using hlD))) (fun _ _ _ _ g ⟨t', h1, h2⟩ => ⟨t', h1, h2.mono g.2⟩) trivial (fun _ _ _ _ _ _ => trivial) ?_ ?_
          · rw [Paired.length hps, Tm.length_parts]
            omega
          · intro j x' H6 RR hx g6 _ kR
            obtain ⟨t', ht', ⟨p', a', ys', inner', rfl, hp', ha', hy', hin⟩⟩ := paired_get hps hx
            have gg : Ts H3 H6 := (Ts.new hD).trans g6.2
            refine ⟨p', _, rfl, SqT.of (gg _ _ hp'), rfl, _, _, rfl, _, _, rfl, rfl, rfl, ?_⟩
            exact ⟨_, rfl, kR _ _ (Gr.refl _ _) trivial ⟨t', ht', hin.mono gg⟩⟩
          · intro ys H6 g6 _ hys hyl hyr
            have hds : Dds H6 ys ((Tm.c h ss).parts.map Tm.enc) := dds_of (by rw [hyl, Paired.length hps, List.length_map]) fun i y hy => by
              obtain ⟨t', h1, h2⟩ := hyr i y hy
              exact ⟨_, by rw [List.getElem?_map, h1]; rfl, h2⟩
            have g36 := g3.trans g6
            refine ⟨(Tm.u x).enc, D, ys, _, d2.mono g36.2, rfl, hys, hds, by omega, ?_, ?_⟩
            · refine depthAll_le fun d hd => ?_
              obtain ⟨t', h1, rfl⟩ := List.mem_map.mp hd
              have := Tm.dep_parts h1
              have := Tm.depth_enc t'
              omega
            · rw [Tm.above_cu] at k
              have e : ((Tm.c h ss).parts.map Tm.enc).any (fun z => decide (z = (Tm.u x).enc)) = decide (x ∈ Tm.unks ss) := by
                rw [Bool.eq_iff_iff, List.any_eq_true, decide_eq_true_eq]
                constructor
                · rintro ⟨z, hz, e⟩
                  obtain ⟨t', h1, rfl⟩ := List.mem_map.mp hz
                  have e2 := Tm.enc_inj (of_decide_eq_true e)
                  rw [e2] at h1
                  have := Tm.unk_parts.mpr h1
                  simpa only [Tm.unk] using this
                · intro hx
                  have : x ∈ (Tm.c h ss).unk := by simpa only [Tm.unk] using hx
                  exact ⟨_, List.mem_map.mpr ⟨_, Tm.unk_parts.mp this, rfl⟩, decide_eq_true rfl⟩
              rw [e]
              exact k H6 es g36.less (oc.gr g36)
      rintro σ' H3 ⟨rfl, rfl, hc2⟩
      cases t with
      | w x => cases hc2
      | u x => cases hc2
      | c g ts =>
        obtain ⟨b, us, rfl, hb, hu⟩ := called_inv d2
        have lv := hv.tms
        have lu := hu.tms
        have zv := Tm.length_sizes ss
        have zu := Tm.length_sizes ts
        have szR := Tm.size_parts hR
        rw [Tm.above_cc] at k
        simp only [Tm.dep, Tm.size] at hn szL szR
        -- a part is it, or above it
        refine cut (fun σ' H' => ∃ es', σ' = [some (.ref o), some (.ref a), some (.ref b), none, none] ∧ Gr [m] H H' ∧ OC P w T.cOrder.C rk hs L R o m H' es' ∧ (ss.any fun p => decide (p = .c g ts) || Tm.above rk p (.c g ts)) = false) ?_ (fun rest => ?_)
        case refine_2 =>
          refine ⟨_, rfl, _, rfl, a, _, rfl, ha, fun p H4 g4 hp => ⟨p, rfl, ⟨_, SqT.of hp⟩, fun D hD => ?_⟩⟩
          rw [cut1] at hp
          have hpD : p ≠ D := ne_of_none hp hD
          have oc4 := oc.gr g4
          have hDm : D ≠ m := (ne_of_none oc4.mem.here hD).symm
          refine lc_map (xs := vs) walk_tup [m] (fun _ H' => ∃ es', OC P w T.cOrder.C rk hs L R o m H' es') (fun j y _ => ∃ t', ss[j]? = some t' ∧ y = .bl (decide (t' = .c g ts) || Tm.above rk t' (.c g ts))) hD (by simpa using hDm) (by omega)
            (fun H' g => SqT.of (g.2 _ _ (by rw [upd_ne hpD]; exact hp))) (fun _ _ _ _ _ h => h) ⟨es, oc4.gr (Gr.new hD)⟩ (fun _ _ _ _ e ⟨es', oc'⟩ => ⟨es', oc'.lst e⟩) ?_ ?_
          · rintro j x H5 RR hx g5 ⟨es5, oc5⟩ kR
            obtain ⟨s', hs', ds'⟩ := hv.tm hx
            have gg : Ts H H5 := (g4.2.trans (Ts.new hD)).trans g5.2
            have ms := List.mem_of_getElem? hs'
            have dm := Tm.dep_mem ms
            have pL : s' ∈ L.parts := Tm.parts_trans hL (by simp only [Tm.parts, List.mem_cons]; exact .inr (Tm.mem_partss.mpr ⟨s', ms, Tm.self_parts _⟩))
            have dp2 := Tm.dep_parts pL
            have ee := Tm.depth_enc s'
            refine ⟨rfl, _, rfl, _, rfl, s'.enc, (Tm.c g ts).enc, ds'.mono gg, d2.mono gg, by omega, by omega, _, rfl, ite2 (fun e => ?_) (fun e => ?_)⟩
            · have eq : s' = .c g ts := Tm.enc_inj (of_decide_eq_true e)
              exact kR _ _ (Gr.refl _ _) ⟨es5, oc5⟩ ⟨s', hs', by rw [eq, decide_eq_true rfl]; rfl⟩
            · have ne : s' ≠ .c g ts := fun z => e (decide_eq_true (congrArg Tm.enc z))
              obtain ⟨dx5, rd5, rks5, ho5, _⟩ := oc5.ins
              refine ⟨_, rfl, o, dx5, _, rfl, ho5, oF_no _ _ (by decide +kernel) (by decide +kernel), _, rfl, _, rfl, ?_⟩
              refine ⟨o, m, x, .ref b, rk, hs, L, R, s', .c g ts, es5, rfl, oc5, pL, hR, ds'.mono gg, d2.mono gg, by simp only [Tm.dep]; omega, fun H6 es6 g6 oc6 => ?_⟩
              exact kR _ _ g6 ⟨es6, oc6⟩ ⟨s', hs', by rw [decide_eq_false ne, Bool.false_or]⟩
          · rintro ys H5 g5 ⟨es5, oc5⟩ hys hyl hyr
            have e1 := map_of (by rw [hyl, lv]) hyr
            refine ⟨D, ss.map fun t' => decide (t' = .c g ts) || Tm.above rk t' (.c g ts), rfl, SqL.of (by rw [hys, e1, List.map_map]; rfl), _, rfl, ?_⟩
            rw [List.any_map, Function.id_comp]
            cases hany : ss.any fun p => decide (p = .c g ts) || Tm.above rk p (.c g ts) with
            | true =>
              rw [hany, Bool.true_or] at k
              exact iteT (k H5 es5 (g4.less.trans g5) oc5)
            | false => exact iteF (rest _ _ ⟨es5, rfl, g4.less.trans g5, oc5, hany⟩)
        rintro σ' H4 ⟨es4, rfl, g4, oc4, hany⟩
        rw [hany, Bool.false_or] at k
        -- it is above all parts
        refine cut (fun σ' H' => ∃ es', σ' = [some (.ref o), some (.ref a), some (.ref b), none, none] ∧ Gr [m] H H' ∧ OC P w T.cOrder.C rk hs L R o m H' es' ∧ (ts.all fun q => Tm.above rk (.c h ss) q) = true) ?_ (fun rest => ?_)
        case refine_2 =>
          refine ⟨_, rfl, _, rfl, b, _, rfl, g4.2 _ _ hb, fun p H5 g5 hp => ⟨p, rfl, ⟨_, SqT.of hp⟩, fun D hD => ?_⟩⟩
          rw [cut1] at hp
          have hpD : p ≠ D := ne_of_none hp hD
          have oc5 := oc4.gr g5
          have hDm : D ≠ m := (ne_of_none oc5.mem.here hD).symm
          have g45 := g4.trans g5.less
          refine lc_map (xs := us) walk_tup [m] (fun _ H' => ∃ es', OC P w T.cOrder.C rk hs L R o m H' es') (fun j y _ => ∃ t', ts[j]? = some t' ∧ y = .bl (Tm.above rk (.c h ss) t')) hD (by simpa using hDm) (by omega)
            (fun H' g => SqT.of (g.2 _ _ (by rw [upd_ne hpD]; exact hp))) (fun _ _ _ _ _ h => h) ⟨es4, oc5.gr (Gr.new hD)⟩ (fun _ _ _ _ e ⟨es', oc'⟩ => ⟨es', oc'.lst e⟩) ?_ ?_
          · rintro j x H6 RR hx g6 ⟨es6, oc6⟩ kR
            obtain ⟨t', ht', dt'⟩ := hu.tm hx
            have gg : Ts H H6 := (g45.2.trans (Ts.new hD)).trans g6.2
            have mt := List.mem_of_getElem? ht'
            have dm := Tm.dep_mem mt
            have pR : t' ∈ R.parts := Tm.parts_trans hR (by simp only [Tm.parts, List.mem_cons]; exact .inr (Tm.mem_partss.mpr ⟨t', mt, Tm.self_parts _⟩))
            obtain ⟨dx5, rd5, rks5, ho5, _⟩ := oc6.ins
            refine ⟨rfl, _, rfl, o, dx5, _, rfl, ho5, oF_no _ _ (by decide +kernel) (by decide +kernel), _, rfl, _, rfl, ?_⟩
            refine ⟨o, m, .ref a, x, rk, hs, L, R, .c h ss, t', es6, rfl, oc6, hL, pR, d1.mono gg, dt'.mono gg, by simp only [Tm.dep]; omega, fun H7 es7 g7 oc7 => ?_⟩
            exact kR _ _ g7 ⟨es7, oc7⟩ ⟨t', ht', rfl⟩
          · rintro ys H6 g6 ⟨es6, oc6⟩ hys hyl hyr
            have e1 := map_of (by rw [hyl, lu]) hyr
            refine ⟨D, ts.map fun t' => Tm.above rk (.c h ss) t', rfl, SqL.of (by rw [hys, e1, List.map_map]; rfl), _, rfl, ?_⟩
            rw [List.all_map, Function.id_comp]
            cases hall : ts.all fun q => Tm.above rk (.c h ss) q with
            | false =>
              rw [hall, Bool.false_and] at k
              exact iteT (k H6 es6 (g45.trans g6) oc6)
            | true => exact iteF (rest _ _ ⟨es6, rfl, g45.trans g6, oc6, hall⟩)
        rintro σ' H5 ⟨es5, rfl, g5, oc5, hall⟩
        rw [hall, Bool.true_and] at k
        obtain ⟨dx5, rd5, rks5, ho5, _⟩ := oc5.ins
        refine ⟨_, rfl, o, dx5, _, rfl, ho5, oF_no _ _ (by decide +kernel) (by decide +kernel), _, rfl, _, rfl, ?_⟩
        exact ⟨o, m, .ref a, .ref b, rk, hs, L, R, h, g, ss, ts, es5, rfl, oc5, hL, hR, d1.mono g5.2, d2.mono g5.2, by simp only [Tm.dep]; omega, fun H6 es6 g6 oc6 => k _ _ (g5.trans g6) oc6⟩
theorem sc_Order_is_greater : FnScope ["self", "one", "other"] ["self", "one", "other"] (defScope s_Order_is_greater) := ⟨rfl, rfl, rfl, by decide +kernel, rfl, by decide +kernel, by decide +kernel⟩
theorem ok_Order_is_greater (T : Tx K mg) : ∀ n, FnOk P w K mg base CX0 (3 * n + 15) T.f_Order_is_greater.f T.f_Order_is_greater.fd ["self", "one", "other"] (spGr P w T.cOrder.C n)
  | 0 => T.f_Order_is_greater.F.ok (k := 14) sc_Order_is_greater (fun vs H Q E ⟨_, _, _, _, _, _, _, _, _, _, _, _, _, _, _, _, _, h, _⟩ => absurd h (Nat.not_lt_zero _)) (fun cdv A outer s H vs Q E hr ⟨_, _, _, _, _, _, _, _, _, _, _, _, _, _, _, _, _, h, _⟩ => absurd h (Nat.not_lt_zero _))
  | n + 1 => by
    have GL := ok_Order_looked T n (ok_Order_is_greater T n)
    refine T.f_Order_is_greater.F.ok (k := 3 * n + 17) sc_Order_is_greater (fun vs H Q E h => ?_) (fun cdv A outer s H vs Q E hr h => ?_)
    · obtain ⟨o, m, v1, v2, _, _, _, _, _, _, _, rfl, _⟩ := h
      rfl
    · have nd := sc_Order_is_greater.nd
      refine ⟨_, (pss_cons (ps_if (pt_cmpR (op_notInM hr.units) (pe_tup (pa_cons (pv 1) (pa_cons (pv 2) pa_nil))) (fldK K (pv 0)) (by rfl)) (pss_one (ps_mput hr.units (fldK K (pv 0)) (pe_tup (pa_cons (pv 1) (pa_cons (pv 2) pa_nil))) (pe_meth (pv 0) T.cOrder.cl T.f_Order_looked.M GL hr T.f_Order_looked.b .nil pass0 (pa_cons (pv 1) (pa_cons (pv 2) pa_nil))) rfl)) pss_nil) (pss_one (ps_ret (pe_mget hr.units (fldK K (pv 0)) (pe_tup (pa_cons (pv 1) (pa_cons (pv 2) pa_nil))) (fun _ _ => rfl))))), ?_⟩
      obtain ⟨o, m, v1, v2, rk, hs, L, R, s, t, es, rfl, oc, hL, hR, d1, d2, hn, k⟩ := h
      have sm := oc.sml
      have dpL := Tm.dep_parts hL
      have dpR := Tm.dep_parts hR
      have es1 := Tm.depth_enc s
      have es2 := Tm.depth_enc t
      have kd : ∀ {H' : Hp} {b : Addr}, Ts H H' → H' b = some (.tup [v1, v2]) → Dd H' (.ref b) (.tup [s.enc, t.enc]) := fun g hb => .tup hb (.cons (d1.mono g) (.cons (d2.mono g) .nil))
      have kdep : NestedKey.depth (.tup [s.enc, t.enc]) ≤ 8 := by
        simp only [NestedKey.depth, NestedKey.depthAll]
        omega
      refine cut (fun σ' H' => ∃ es' c, σ' = [some (.ref o), some v1, some v2] ∧ Gr [m] H H' ∧ OC P w T.cOrder.C rk hs L R o m H' es' ∧ atKey es' (.tup [s.enc, t.enc]) = some (c, .bool (Tm.above rk s t))) ?_ (fun rest => ?_)
      · rintro σ' H1 ⟨es1, c, rfl, g1, oc1, hat⟩
        obtain ⟨dx, rd, rks, ho, _⟩ := oc1.ins
        refine ⟨_, rfl, o, _, dx, _, _, rfl, ho, T.cOrder.cl, T.n_Order_found, oF_found _ _, _, rfl, _, rfl, (by show 2 ≤ sizeLine; decide), fun b hb => ?_⟩
        have gb : Gr [] H1 (upd H1 b (.tup [v1, v2])) := Gr.new hb
        exact ⟨m, b, es1, _, _, c, rfl, rfl, (oc1.gr gb).mem, kd (g1.2.trans gb.2) upd_same, kdep, hat, k _ _ (g1.trans gb.less) (oc1.gr gb)⟩
      · obtain ⟨dx, rd, rks, ho, _⟩ := oc.ins
        refine ⟨_, rfl, _, rfl, (by show 2 ≤ sizeLine; decide), fun b hb => ?_⟩
        have gb : Gr [] H (upd H b (.tup [v1, v2])) := Gr.new hb
        have ocb := oc.gr gb
        refine ⟨_, rfl, o, _, dx, _, _, rfl, gb.same _ _ ho, T.cOrder.cl, T.n_Order_found, oF_found _ _, m, b, es, _, rfl, rfl, ocb.mem, kd gb.2 upd_same, kdep, _, rfl, ?_⟩
        cases hat : atKey es (.tup [s.enc, t.enc]) with
        | some p =>
          have e := oc.inv.at hat
          exact iteF (rest _ _ ⟨es, p.1, rfl, gb.less, ocb, by rw [hat, ← e]⟩)
        | none =>
          refine iteT ⟨_, rfl, o, dx, _, rfl, gb.same _ _ ho, oF_no _ _ (by decide +kernel) (by decide +kernel), _, rfl, _, rfl, ?_⟩
          refine ⟨o, m, v1, v2, rk, hs, L, R, s, t, es, rfl, ocb, hL, hR, d1.mono gb.2, d2.mono gb.2, hn, fun H2 es2 g2 oc2 => ?_⟩
          obtain ⟨dx2, rd2, rks2, ho2, _⟩ := oc2.ins
          refine ⟨_, rfl, o, _, dx2, _, _, rfl, ho2, T.cOrder.cl, T.n_Order_found, oF_found _ _, _, rfl, _, rfl, (by show 2 ≤ sizeLine; decide), fun c hc => ?_⟩
          have gc : Gr [] H2 (upd H2 c (.tup [v1, v2])) := Gr.new hc
          have occ := oc2.gr gc
          have gbc := (gb.less.trans g2).trans gc.less
          have gm : Gr [m] (upd H2 c (.tup [v1, v2])) (upd (upd H2 c (.tup [v1, v2])) m (memO P w m (storedH es2 (.tup [s.enc, t.enc]) c (.bool (Tm.above rk s t))))) := Gr.at occ.mem.here (fun _ z => nomatch z) List.mem_cons_self
          have inv2 := oc2.inv.put hL hR c
          have few := inv2.few
          have le : L.size * R.size ≤ 1000 * 1000 := Nat.mul_le_mul sm.1 sm.2.1
          obtain ⟨c2, hc2⟩ := atKey_stored (k := .tup [s.enc, t.enc]) (b := c) (v := .bool (Tm.above rk s t)) oc2.inv.unlike
          refine ⟨m, c, es2, _, _, rfl, rfl, rfl, occ.mem, kd gbc.2 upd_same, kdep, ?_⟩
          refine rest _ _ ⟨_, c2, rfl, gbc.trans gm, occ.step gm ⟨upd_same, fun x hx => ?_, by rw [sizeLine_eq]; omega⟩ inv2, hc2⟩
          have old : ∀ y ∈ es2, Dd (upd (upd H2 c (.tup [v1, v2])) m (memO P w m (storedH es2 (.tup [s.enc, t.enc]) c (.bool (Tm.above rk s t))))) (.ref y.2.1) y.1 ∧ y.1.depth ≤ 8 := fun y hy => ⟨((occ.mem.keys y hy).1).mono gm.2, (occ.mem.keys y hy).2⟩
          cases hat2 : atKey es2 (.tup [s.enc, t.enc]) with
          | none =>
            rw [storedH_new hat2] at hx ⊢
            rcases List.mem_append.mp hx with hx | hx
            · have := old x hx
              rw [storedH_new hat2] at this
              exact this
            · rw [List.mem_singleton.mp hx]
              refine ⟨?_, kdep⟩
              have := (kd gbc.2 upd_same).mono gm.2
              rw [storedH_new hat2] at this
              exact this
          | some p =>
            have hx2 := hx
            rw [storedH_old hat2] at hx2
            obtain ⟨y, hy, rfl⟩ := List.mem_map.mp hx2
            have := old y hy
            unfold putAt
            split
            · exact this
            · exact this
end
end Dr
/-! looks at the parts of a door -/
namespace Dr
open PySem L2
def rInF (neg : Bool) : R2 := fun x y H Q => ∃ p xs, y = .ref p ∧ (H p = some (.lst xs) ∨ H p = some (.tup xs)) ∧ flatV x = true ∧ xs.all flatV = true ∧ Q (.bl (if neg then !inV x xs else inV x xs)) H
section
variable {X : Cx}
theorem op_inF : OpR X (compareOp .In) (rInF false) := fun pps s σ H x y v u Q I rx ry ⟨p, xs, ey, h, fx, fs, q⟩ => op_in_seq pps s σ H x y v u Q I rx ry ⟨p, xs, ey, h.imp SqL.of SqT.of, fx, fs, q⟩
theorem op_notInF : OpR X (compareOp .NotIn) (rInF true) := fun pps s σ H x y v u Q I rx ry ⟨p, xs, ey, h, fx, fs, q⟩ => op_notIn_seq pps s σ H x y v u Q I rx ry ⟨p, xs, ey, h.imp SqL.of SqT.of, fx, fs, q⟩
end
theorem flat_str (xs : List Str) : (xs.map V.str).all flatV = true := by
  rw [List.all_map]
  exact List.all_eq_true.mpr fun _ _ => rfl
theorem flat_int (xs : List Int) : (xs.map V.int).all flatV = true := by
  rw [List.all_map]
  exact List.all_eq_true.mpr fun _ _ => rfl
theorem inV_str (z : Str) (xs : List Str) : inV (.str z) (xs.map V.str) = decide (z ∈ xs) := by
  unfold inV
  rw [List.any_map, Bool.eq_iff_iff, List.any_eq_true, decide_eq_true_eq]
  constructor
  · rintro ⟨y, hy, e⟩
    have e : (y == z) = true := e
    rw [← eq_of_beq e]
    exact hy
  · exact fun h => ⟨z, h, (beq_self_eq_true z : (z == z) = true)⟩
theorem inV_int (z : Int) (xs : List Int) : inV (.int z) (xs.map V.int) = decide (z ∈ xs) := by
  unfold inV
  rw [List.any_map, Bool.eq_iff_iff, List.any_eq_true, decide_eq_true_eq]
  constructor
  · rintro ⟨y, hy, e⟩
    have e : (y == z) = true := e
    rw [← eq_of_beq e]
    exact hy
  · exact fun h => ⟨z, h, (beq_self_eq_true z : (z == z) = true)⟩
theorem bools {ys : List V} (h : ∀ (i : Nat) (y : V), ys[i]? = some y → y = V.bl true) : ys = (List.replicate ys.length true).map V.bl := by
  refine List.ext_getElem? fun i => ?_
  rw [List.getElem?_map, List.getElem?_replicate]
  cases e : ys[i]? with
  | none =>
    rw [if_neg (by simpa using e)]
    rfl
  | some y =>
    rw [if_pos (List.getElem?_eq_some_iff.mp e).1, h i y e]
    rfl
theorem all_rep (n : Nat) : (List.replicate n true).all id = true := by simp
theorem any_rep (n : Nat) : (List.replicate n false).any id = false := by simp
theorem boolsF {ys : List V} (h : ∀ (i : Nat) (y : V), ys[i]? = some y → y = V.bl false) : ys = (List.replicate ys.length false).map V.bl := by
  refine List.ext_getElem? fun i => ?_
  rw [List.getElem?_map, List.getElem?_replicate]
  cases e : ys[i]? with
  | none =>
    rw [if_neg (by simpa using e)]
    rfl
  | some y =>
    rw [if_pos (List.getElem?_eq_some_iff.mp e).1, h i y e]
    rfl
/-! ### parts of doors -/
abbrev Wd := Str × List Str
def txts (xs : List Str) : D := .tup (xs.map .text)
def encWd (w : Wd) : D := .tup [.text w.1, txts w.2]
def encW (ws : List Wd) : D := .tup (ws.map encWd)
def encRow (r : Tm.Row) : D := .tup [.text r.1, txts r.2.1, .text r.2.2]
def encH (hs : List Tm.Row) : D := .tup (hs.map encRow)
structure WOK (ws : List Wd) : Prop where
  len : 1 ≤ ws.length ∧ ws.length ≤ 4
  each : ∀ w ∈ ws, nameOk w.1 = true ∧ 1 ≤ w.2.length ∧ w.2.length ≤ 4 ∧ ∀ x ∈ w.2, nameOk x = true
  kinds : (ws.map (·.1)).Nodup
  words : (ws.flatMap (·.2)).Nodup
structure SOK (ws : List Wd) (sl : List Str) : Prop where
  len : 1 ≤ sl.length ∧ sl.length ≤ 4
  each : ∀ x ∈ sl, nameOk x = true
  unlike : (ws.map (·.1) ++ sl).Nodup
structure HOK (ks ww : List Str) (hs : List Tm.Row) : Prop where
  len : 1 ≤ hs.length ∧ hs.length ≤ 12
  each : ∀ r ∈ hs, nameOk r.1 = true ∧ r.1 ∉ ww ∧ r.2.1.length ≤ 3 ∧ ∀ k ∈ r.2.1 ++ [r.2.2], nameOk k = true ∧ k ∈ ks
  unlike : (hs.map (·.1)).Nodup
theorem texts_inv {H : Hp} : ∀ {xs : List Str} {vs : List V}, Dds H vs (xs.map .text) → vs = xs.map V.str
  | [], vs, h => h.nil_inv
  | x :: xs, vs, h => by
    obtain ⟨v, ws, rfl, h1, h2⟩ := h.cons_inv
    rw [h1.text_inv.1, texts_inv h2]
    rfl
theorem txts_inv {H : Hp} {xs : List Str} {v : V} (h : Dd H v (txts xs)) : ∃ a, v = .ref a ∧ H a = some (.tup (xs.map V.str)) := by
  obtain ⟨a, vs, rfl, ha, hs⟩ := h.tup_inv
  rw [texts_inv hs] at ha
  exact ⟨a, rfl, ha⟩
theorem wd_inv {H : Hp} {w : Wd} {v : V} (h : Dd H v (encWd w)) : ∃ a b, v = .ref a ∧ H a = some (.tup [.str w.1, .ref b]) ∧ H b = some (.tup (w.2.map V.str)) := by
  obtain ⟨a, vs, rfl, ha, hs⟩ := h.tup_inv
  obtain ⟨v1, ws, rfl, h1, hs⟩ := hs.cons_inv
  obtain ⟨v2, ws2, rfl, h2, hs⟩ := hs.cons_inv
  cases hs.nil_inv
  obtain ⟨b, rfl, hb⟩ := txts_inv h2
  rw [h1.text_inv.1] at ha
  exact ⟨a, b, rfl, ha, hb⟩
theorem row_inv {H : Hp} {r : Tm.Row} {v : V} (h : Dd H v (encRow r)) : ∃ a b, v = .ref a ∧ H a = some (.tup [.str r.1, .ref b, .str r.2.2]) ∧ H b = some (.tup (r.2.1.map V.str)) := by
  obtain ⟨a, vs, rfl, ha, hs⟩ := h.tup_inv
  obtain ⟨v1, ws, rfl, h1, hs⟩ := hs.cons_inv
  obtain ⟨v2, ws2, rfl, h2, hs⟩ := hs.cons_inv
  obtain ⟨v3, ws3, rfl, h3, hs⟩ := hs.cons_inv
  cases hs.nil_inv
  obtain ⟨b, rfl, hb⟩ := txts_inv h2
  rw [h1.text_inv.1, h3.text_inv.1] at ha
  exact ⟨a, b, rfl, ha, hb⟩
theorem Dds.map_get {α : Type} {f : α → D} {H : Hp} {vs : List V} {xs : List α} {i : Nat} {v : V} (h : Dds H vs (xs.map f)) (e : vs[i]? = some v) : ∃ x, xs[i]? = some x ∧ Dd H v (f x) := by
  obtain ⟨d, hd, h⟩ := h.get e
  rw [List.getElem?_map] at hd
  obtain ⟨x, hx, rfl⟩ := Option.map_eq_some_iff.mp hd
  exact ⟨x, hx, h⟩
theorem Dds.map_len {α : Type} {f : α → D} {H : Hp} {vs : List V} {xs : List α} (h : Dds H vs (xs.map f)) : vs.length = xs.length := by rw [h.length, List.length_map]
@[irreducible] def spAreWords : Sp := fun vs H Q _ => ∃ (v : V) (ws : List Wd), vs = [v] ∧ Dd H v (encW ws) ∧ WOK ws ∧ ∀ H', Gr [] H H' → Q (.bl true) H'
theorem spAreWords_of {vs : List V} {H : Hp} {Q : VK} {E : XK} (h : ∃ (v : V) (ws : List Wd), vs = [v] ∧ Dd H v (encW ws) ∧ WOK ws ∧ ∀ H', Gr [] H H' → Q (.bl true) H') : spAreWords vs H Q E := by unfold spAreWords; exact h
@[irreducible] def spAreSealed : Sp := fun vs H Q _ => ∃ (v u : V) (ws : List Wd) (sl : List Str), vs = [v, u] ∧ Dd H v (txts sl) ∧ Dd H u (encW ws) ∧ SOK ws sl ∧ ws.length ≤ 4 ∧ ∀ H', Gr [] H H' → Q (.bl true) H'
theorem spAreSealed_of {vs : List V} {H : Hp} {Q : VK} {E : XK} (h : ∃ (v u : V) (ws : List Wd) (sl : List Str), vs = [v, u] ∧ Dd H v (txts sl) ∧ Dd H u (encW ws) ∧ SOK ws sl ∧ ws.length ≤ 4 ∧ ∀ H', Gr [] H H' → Q (.bl true) H') : spAreSealed vs H Q E := by unfold spAreSealed; exact h
@[irreducible] def spAreHeads : Sp := fun vs H Q _ => ∃ (v : V) (l t : Addr) (ks ww : List Str) (hs : List Tm.Row), vs = [v, .ref l, .ref t] ∧ Dd H v (encH hs) ∧ H l = some (.lst (ks.map V.str)) ∧ H t = some (.tup (ww.map V.str)) ∧ HOK ks ww hs ∧ ∀ H', Gr [] H H' → Q (.bl true) H'
theorem spAreHeads_of {vs : List V} {H : Hp} {Q : VK} {E : XK} (h : ∃ (v : V) (l t : Addr) (ks ww : List Str) (hs : List Tm.Row), vs = [v, .ref l, .ref t] ∧ Dd H v (encH hs) ∧ H l = some (.lst (ks.map V.str)) ∧ H t = some (.tup (ww.map V.str)) ∧ HOK ks ww hs ∧ ∀ H', Gr [] H H' → Q (.bl true) H') : spAreHeads vs H Q E := by unfold spAreHeads; exact h
section
variable {P : Program} {w : World} {K : PySem.W.Frag} {mg : Str → Option Value} {base : Heap}
theorem sc_are_words : FnScope ["thing", "item", "name", "some", "word"] ["thing"] (defScope s_are_words) := ⟨rfl, rfl, rfl, by decide +kernel, rfl, by decide +kernel, by decide +kernel⟩
theorem ok_are_words (T : Tx K mg) : FnOk P w K mg base CX0 2 T.f_are_words.f T.f_are_words.fd ["thing"] spAreWords := by
  refine T.f_are_words.F.ok sc_are_words (fun vs H Q E h => ?_) (fun cdv A outer s H vs Q E hr h => ?_)
  · unfold spAreWords at h
    obtain ⟨v, ws, rfl, _⟩ := h
    rfl
  · have nd := sc_are_words.nd
    refine ⟨_, (pss_cons (ps_if (PW.pt (pw_or (pt_not (pt_val (pe_call (ok_is_tuple T) (hr.mono (by omega)) rfl T.f_is_tuple.g T.f_is_tuple.F.kp T.f_is_tuple.b .nil pass0 (pa_cons (pv 0) (pa_cons pe_int (pa_cons (pe_glo (by rfl) T.gMOST_KINDS) pa_nil)))))) (pw_or1 (pt_not (pt_val (pe_callB (allK K) (by rfl) T.z_all (by decide +kernel) (pa_cons (pe_lc (own := [("item", 1)]) rfl nd (piT K (pv 0)) (blkOk_by (own := [("item", 1)]) (N := ["thing", "item", "name", "some", "word"]) (sc := defScope s_are_words) (by decide +kernel)) (fun _ _ _ _ _ => (pg_name (i := 1) nd rfl (Or.inl rfl) (Or.inr rfl))) (fun _ _ _ _ _ => pts_nil) (fun _ _ _ _ _ => (pe_and (pe_call (ok_is_tuple T) (hr.mono (by omega)) rfl T.f_is_tuple.g T.f_is_tuple.F.kp T.f_is_tuple.b .nil pass0 (pa_cons (pv 1) (pa_cons pe_int (pa_cons pe_int pa_nil)))) (pe_one (pe_call (ok_is_name T) (hr.mono (by omega)) rfl T.f_is_name.g T.f_is_name.F.kp T.f_is_name.b .nil pass0 (pa_cons (pe_ix (ixT K) (pv 1) pe_int (fun _ _ => rfl)) pa_nil)))))) pa_nil))))))) (pss_one (ps_ret pe_bl)) pss_nil) (pss_cons (ps_if (pt_not (pt_val (pe_callB (allK K) (by rfl) T.z_all (by decide +kernel) (pa_cons (pe_lc (own := [("name", 2), ("some", 3)]) rfl nd (piT K (pv 0)) (blkOk_by (own := [("name", 2), ("some", 3)]) (N := ["thing", "item", "name", "some", "word"]) (sc := defScope s_are_words) (by decide +kernel)) (fun _ _ _ _ _ => (pgT K 2 (pgs_cons (pg_name (i := 2) nd rfl (Or.inl rfl) (Or.inr rfl)) (pgs_cons (pg_name (i := 3) nd rfl (Or.inl rfl) (Or.inr rfl)) pgs_nil)))) (fun _ _ _ _ _ => pts_nil) (fun _ _ _ _ _ => (pe_and (pe_call (ok_is_tuple T) (hr.mono (by omega)) rfl T.f_is_tuple.g T.f_is_tuple.F.kp T.f_is_tuple.b .nil pass0 (pa_cons (pv 3) (pa_cons pe_int (pa_cons (pe_glo (by rfl) T.gMOST_WORDS) pa_nil)))) (pe_one (pe_callB (allK K) (by rfl) T.z_all (by decide +kernel) (pa_cons (pe_lc (own := [("word", 4)]) rfl nd (piT K (pv 3)) (blkOk_by (own := [("word", 4)]) (N := ["thing", "item", "name", "some", "word"]) (sc := ⟨.function, [(".0", .local), ("name", .local), ("some", .local), ("is_tuple", .globalImplicit), ("MOST_WORDS", .globalImplicit), ("all", .globalImplicit)], false, false, []⟩) (by decide +kernel)) (fun _ _ _ _ _ => (pg_name (i := 4) nd rfl (Or.inl rfl) (Or.inr rfl))) (fun _ _ _ _ _ => pts_nil) (fun _ _ _ _ _ => (pe_call (ok_is_name T) (hr.mono (by omega)) rfl T.f_is_name.g T.f_is_name.F.kp T.f_is_name.b .nil pass0 (pa_cons (pv 4) pa_nil)))) pa_nil)))))) pa_nil)))) (pss_one (ps_ret pe_bl)) pss_nil) (pss_one (ps_ret (pe_and (pe_call (ok_are_unlike T) (hr.mono (by omega)) rfl T.f_are_unlike.g T.f_are_unlike.F.kp T.f_are_unlike.b .nil pass0 (pa_cons (pe_lc (own := [("name", 2), ("some", 3)]) rfl nd (piT K (pv 0)) (blkOk_by (own := [("name", 2), ("some", 3)]) (N := ["thing", "item", "name", "some", "word"]) (sc := defScope s_are_words) (by decide +kernel)) (fun _ _ _ _ _ => (pgT K 2 (pgs_cons (pg_name (i := 2) nd rfl (Or.inl rfl) (Or.inr rfl)) (pgs_cons (pg_name (i := 3) nd rfl (Or.inl rfl) (Or.inr rfl)) pgs_nil)))) (fun _ _ _ _ _ => pts_nil) (fun _ _ _ _ _ => (pv 2))) pa_nil)) (pe_one (pe_call (ok_are_unlike T) (hr.mono (by omega)) rfl T.f_are_unlike.g T.f_are_unlike.F.kp T.f_are_unlike.b .nil pass0 (pa_cons (pe_callB (cr_sumT rfl) (by rfl) T.z_sum (by decide +kernel) (pa_cons (pe_lc (own := [("name", 2), ("some", 3)]) rfl nd (piT K (pv 0)) (blkOk_by (own := [("name", 2), ("some", 3)]) (N := ["thing", "item", "name", "some", "word"]) (sc := defScope s_are_words) (by decide +kernel)) (fun _ _ _ _ _ => (pgT K 2 (pgs_cons (pg_name (i := 2) nd rfl (Or.inl rfl) (Or.inr rfl)) (pgs_cons (pg_name (i := 3) nd rfl (Or.inl rfl) (Or.inr rfl)) pgs_nil)))) (fun _ _ _ _ _ => pts_nil) (fun _ _ _ _ _ => (pv 3))) (pa_cons (pe_tup pa_nil) pa_nil))) pa_nil)))))))), ?_⟩
    unfold spAreWords at h
    obtain ⟨v, ws, rfl, hd, ok, k⟩ := h
    obtain ⟨a, vs, rfl, ha, hs⟩ := hd.tup_inv
    have hlen := hs.map_len
    have l1 := ok.len
    refine cut (fun σ' H' => σ' = [some (.ref a), none, none, none, none] ∧ Gr [] H H') ?_ (fun rest => ?_)
    case refine_2 =>
      refine ⟨_, rfl, ?_⟩
      show spTuple [.ref a, .int 1, .int 4] H _ _
      refine spTuple_of ⟨_, _, _, rfl, .inr ⟨a, vs, rfl, ha, ?_⟩⟩
      rw [decide_eq_true (show (1 : Int) ≤ (vs.length : Int) by omega), decide_eq_true (show (vs.length : Int) ≤ 4 by omega)]
      refine ⟨true, rfl, iteF ?_⟩
      refine ⟨_, rfl, a, rfl, ⟨_, SqT.of ha⟩, fun D hD => ?_⟩
      have haD : a ≠ D := ne_of_none ha hD
      refine lc_map (xs := vs) walk_tup [] (fun _ _ => True) (fun _ y _ => y = .bl true) hD (by simp) (by omega) (fun H' g => SqT.of (g.2 _ _ (by rw [upd_ne haD]; exact ha))) (fun _ _ _ _ _ h => h) trivial (fun _ _ _ _ _ _ => trivial) ?_ ?_
      · intro i x H2 R hx g2 _ kR
        obtain ⟨wd, hwd, dw⟩ := hs.map_get hx
        have gg : Ts H H2 := (Ts.new hD).trans g2.2
        obtain ⟨b, c, rfl, hb, hc⟩ := wd_inv (dw.mono gg)
        refine ⟨rfl, _, rfl, ?_⟩
        show spTuple [.ref b, .int 2, .int 2] H2 _ _
        refine spTuple_of ⟨_, _, _, rfl, .inr ⟨b, _, rfl, hb, true, rfl, iteT ?_⟩⟩
        refine ⟨_, rfl, b, _, _, _, rfl, rfl, SqT.of hb, at0, ?_⟩
        show spName [.str wd.1] H2 _ _
        exact spName_of ⟨_, rfl, (ok.each wd (List.mem_of_getElem? hwd)).1, fun H3 g3 => kR _ _ g3 trivial rfl⟩
      · intro ys H2 g2 _ hl hn hy
        refine ⟨D, _, rfl, SqL.of (by rw [hl, bools hy]), true, ?_, iteF (rest _ _ ⟨rfl, g2⟩)⟩
        rw [all_rep]
    rintro σ' H1 ⟨rfl, g1⟩
    refine cut (fun σ' H' => σ' = [some (.ref a), none, none, none, none] ∧ Gr [] H H') ?_ (fun rest => ?_)
    case refine_2 =>
      have ha1 := g1.2 _ _ ha
      refine ⟨_, rfl, a, rfl, ⟨_, SqT.of ha1⟩, fun D hD => ?_⟩
      have haD : a ≠ D := ne_of_none ha1 hD
      refine lc_map (xs := vs) walk_tup [] (fun _ _ => True) (fun _ y _ => y = .bl true) hD (by simp) (by omega) (fun H' g => SqT.of (g.2 _ _ (by rw [upd_ne haD]; exact ha1))) (fun _ _ _ _ _ h => h) trivial (fun _ _ _ _ _ _ => trivial) ?_ ?_
      · intro i x H2 R hx g2 _ kR
        obtain ⟨wd, hwd, dw⟩ := hs.map_get hx
        have gg : Ts H H2 := (g1.2.trans (Ts.new hD)).trans g2.2
        obtain ⟨b, c, rfl, hb, hc⟩ := wd_inv (dw.mono gg)
        have oke := ok.each wd (List.mem_of_getElem? hwd)
        refine ⟨b, _, rfl, SqT.of hb, rfl, _, _, rfl, _, _, rfl, rfl, rfl, ?_⟩
        refine ⟨_, rfl, ?_⟩
        show spTuple [.ref c, .int 1, .int 4] H2 _ _
        refine spTuple_of ⟨_, _, _, rfl, .inr ⟨c, _, rfl, hc, ?_⟩⟩
        rw [List.length_map, decide_eq_true (show (1 : Int) ≤ (wd.2.length : Int) by omega), decide_eq_true (show (wd.2.length : Int) ≤ 4 by omega)]
        refine ⟨true, rfl, iteT ?_⟩
        refine ⟨_, rfl, c, rfl, ⟨_, SqT.of hc⟩, fun D2 hD2 => ?_⟩
        have hcD : c ≠ D2 := ne_of_none hc hD2
        refine lc_map (xs := wd.2.map V.str) walk_tup [] (fun _ _ => True) (fun _ y _ => y = .bl true) hD2 (by simp) (by rw [List.length_map]; omega) (fun H' g => SqT.of (g.2 _ _ (by rw [upd_ne hcD]; exact hc))) (fun _ _ _ _ _ h => h) trivial (fun _ _ _ _ _ _ => trivial) ?_ ?_
        · intro j y H3 R2 hy g3 _ kR2
          rw [List.getElem?_map] at hy
          obtain ⟨z, hz, rfl⟩ := Option.map_eq_some_iff.mp hy
          refine ⟨rfl, _, rfl, ?_⟩
          show spName [.str z] H3 _ _
          exact spName_of ⟨_, rfl, oke.2.2.2 z (List.mem_of_getElem? hz), fun H4 g4 => kR2 _ _ g4 trivial rfl⟩
        · intro ys H3 g3 _ hl hn hy
          refine ⟨D2, _, rfl, SqL.of (by rw [hl, bools hy]), kR _ _ g3 trivial ?_⟩
          rw [all_rep]
      · intro ys H2 g2 _ hl hn hy
        refine ⟨D, _, rfl, SqL.of (by rw [hl, bools hy]), true, ?_, iteF (rest _ _ ⟨rfl, g1.trans g2⟩)⟩
        rw [all_rep]
    rintro σ' H2 ⟨rfl, g2⟩
    have ha2 := g2.2 _ _ ha
    refine ⟨_, rfl, a, rfl, ⟨_, SqT.of ha2⟩, fun D hD => ?_⟩
    have haD : a ≠ D := ne_of_none ha2 hD
    refine lc_map (xs := vs) walk_tup [] (fun _ _ => True) (fun i y _ => ∃ wd, ws[i]? = some wd ∧ y = .str wd.1) hD (by simp) (by omega) (fun H' g => SqT.of (g.2 _ _ (by rw [upd_ne haD]; exact ha2))) (fun _ _ _ _ _ h => h) trivial (fun _ _ _ _ _ _ => trivial) ?_ ?_
    · intro i x H3 R hx g3 _ kR
      obtain ⟨wd, hwd, dw⟩ := hs.map_get hx
      have gg : Ts H H3 := (g2.2.trans (Ts.new hD)).trans g3.2
      obtain ⟨b, c, rfl, hb, hc⟩ := wd_inv (dw.mono gg)
      refine ⟨b, _, rfl, SqT.of hb, rfl, _, _, rfl, _, _, rfl, rfl, rfl, ?_⟩
      exact ⟨_, rfl, kR _ _ (Gr.refl _ _) trivial ⟨wd, hwd, rfl⟩⟩
    · intro ys H3 g3 _ hl hn hy
      have e1 := map_of (by rw [hn, hlen]) hy
      have g23 := g2.trans g3
      show spUnlike [.ref D] H3 _ _
      refine spUnlike_of ⟨D, ws.map (·.1), rfl, .inl (by rw [hl, e1, List.map_map]; rfl), ok.kinds, by rw [List.length_map]; omega, fun H3b g3b => ⟨true, rfl, iteT ?_⟩⟩
      have g23 := g23.trans g3b
      have ha3 := g23.2 _ _ ha
      refine ⟨_, rfl, a, rfl, ⟨_, SqT.of ha3⟩, fun D2 hD2 => ?_⟩
      have haD2 : a ≠ D2 := ne_of_none ha3 hD2
      refine lc_map (xs := vs) walk_tup [] (fun _ _ => True) (fun i y H' => ∃ wd, ws[i]? = some wd ∧ ∃ b, y = .ref b ∧ H' b = some (.tup (wd.2.map V.str))) hD2 (by simp) (by omega) (fun H' g => SqT.of (g.2 _ _ (by rw [upd_ne haD2]; exact ha3))) (fun _ _ _ _ g ⟨wd, h1, b, h2, h3⟩ => ⟨wd, h1, b, h2, g.2 _ _ h3⟩) trivial (fun _ _ _ _ _ _ => trivial) ?_ ?_
      · intro i x H4 R hx g4 _ kR
        obtain ⟨wd, hwd, dw⟩ := hs.map_get hx
        have gg : Ts H H4 := (g23.2.trans (Ts.new hD2)).trans g4.2
        obtain ⟨b, c, rfl, hb, hc⟩ := wd_inv (dw.mono gg)
        refine ⟨b, _, rfl, SqT.of hb, rfl, _, _, rfl, _, _, rfl, rfl, rfl, ?_⟩
        exact ⟨_, rfl, kR _ _ (Gr.refl _ _) trivial ⟨wd, hwd, c, rfl, hc⟩⟩
      · intro zs H4 g4 _ hl4 hn4 hy4
        refine ⟨(by show 0 ≤ sizeLine; decide), fun t ht => ?_⟩
        have gt : Gr [] H4 (upd H4 t (.tup [])) := Gr.new ht
        have hDt : D2 ≠ t := ne_of_none hl4 ht
        have efl : (ws.map fun wd => wd.2.map V.str).flatten = (ws.flatMap (·.2)).map V.str := by
          rw [List.flatMap, List.map_flatten, List.map_map]
          rfl
        have few : (ws.flatMap (·.2)).length ≤ 16 := by
          have : ∀ l : List Wd, (∀ wd ∈ l, wd.2.length ≤ 4) → (l.flatMap (·.2)).length ≤ 4 * l.length := by
            intro l
            induction l with
            | nil => intro _; simp
            | cons x l ih =>
              intro h
              have h1 := h x List.mem_cons_self
              have h2 := ih fun wd hw => h wd (List.mem_cons_of_mem _ hw)
              rw [List.flatMap_cons, List.length_append, List.length_cons]
              omega
          have := this ws fun wd hw => (ok.each wd hw).2.2.1
          omega
        refine ⟨D2, t, zs, ws.map fun wd => wd.2.map V.str, rfl, gt.same _ _ hl4, upd_same, paired_of (by rw [hn4, List.length_map, hlen]) fun i y hi => ?_, ?_, fun p H5 g5 hp => ?_⟩
        · obtain ⟨wd, h1, b, h2, h3⟩ := hy4 i y hi
          exact ⟨_, by rw [List.getElem?_map, h1]; rfl, b, h2, gt.2 _ _ h3⟩
        · rw [efl, List.length_map, sizeLine_eq]
          omega
        · rw [efl] at hp
          show spUnlike [.ref p] H5 _ _
          exact spUnlike_of ⟨p, _, rfl, .inr hp, ok.words, by omega, fun H6 g6 => k _ ((((g23.trans g4).trans gt).trans g5).trans g6)⟩
theorem sc_are_sealed : FnScope ["thing", "words", "item", "name", "some"] ["thing", "words"] (defScope s_are_sealed) := ⟨rfl, rfl, rfl, by decide +kernel, rfl, by decide +kernel, by decide +kernel⟩
theorem ok_are_sealed (T : Tx K mg) : FnOk P w K mg base CX0 2 T.f_are_sealed.f T.f_are_sealed.fd ["thing", "words"] spAreSealed := by
  refine T.f_are_sealed.F.ok sc_are_sealed (fun vs H Q E h => ?_) (fun cdv A outer s H vs Q E hr h => ?_)
  · unfold spAreSealed at h
    obtain ⟨v, u, ws, sl, rfl, _⟩ := h
    rfl
  · have nd := sc_are_sealed.nd
    refine ⟨_, (pss_cons (ps_if (PW.pt (pw_or (pt_not (pt_val (pe_call (ok_is_tuple T) (hr.mono (by omega)) rfl T.f_is_tuple.g T.f_is_tuple.F.kp T.f_is_tuple.b .nil pass0 (pa_cons (pv 0) (pa_cons pe_int (pa_cons (pe_glo (by rfl) T.gMOST_KINDS) pa_nil)))))) (pw_or1 (pt_not (pt_val (pe_callB (allK K) (by rfl) T.z_all (by decide +kernel) (pa_cons (pe_lc (own := [("item", 2)]) rfl nd (piT K (pv 0)) (blkOk_by (own := [("item", 2)]) (N := ["thing", "words", "item", "name", "some"]) (sc := defScope s_are_sealed) (by decide +kernel)) (fun _ _ _ _ _ => (pg_name (i := 2) nd rfl (Or.inl rfl) (Or.inr rfl))) (fun _ _ _ _ _ => pts_nil) (fun _ _ _ _ _ => (pe_call (ok_is_name T) (hr.mono (by omega)) rfl T.f_is_name.g T.f_is_name.F.kp T.f_is_name.b .nil pass0 (pa_cons (pv 2) pa_nil)))) pa_nil))))))) (pss_one (ps_ret pe_bl)) pss_nil) (pss_one (ps_ret (pe_call (ok_are_unlike T) (hr.mono (by omega)) rfl T.f_are_unlike.g T.f_are_unlike.F.kp T.f_are_unlike.b .nil pass0 (pa_cons (pe_op op_cat (pe_lc (own := [("name", 3), ("some", 4)]) rfl nd (piT K (pv 1)) (blkOk_by (own := [("name", 3), ("some", 4)]) (N := ["thing", "words", "item", "name", "some"]) (sc := defScope s_are_sealed) (by decide +kernel)) (fun _ _ _ _ _ => (pgT K 2 (pgs_cons (pg_name (i := 3) nd rfl (Or.inl rfl) (Or.inr rfl)) (pgs_cons (pg_name (i := 4) nd rfl (Or.inl rfl) (Or.inr rfl)) pgs_nil)))) (fun _ _ _ _ _ => pts_nil) (fun _ _ _ _ _ => (pv 3))) (pe_callTy call_list_of (by rfl) T.z_list (by decide +kernel) (pa_cons (pv 0) pa_nil))) pa_nil))))), ?_⟩
    unfold spAreSealed at h
    obtain ⟨v, u, ws, sl, rfl, hd, hdw, ok, hw4, k⟩ := h
    obtain ⟨a, rfl, ha⟩ := txts_inv hd
    obtain ⟨b, vs, rfl, hb, hs⟩ := hdw.tup_inv
    have hlen := hs.map_len
    have l1 := ok.len
    refine cut (fun σ' H' => ∃ n1 n2 n3, σ' = [some (.ref a), some (.ref b), n1, n2, n3] ∧ Gr [] H H') ?_ (fun rest => ?_)
    case refine_2 =>
      refine ⟨_, rfl, ?_⟩
      show spTuple [.ref a, .int 1, .int 4] H _ _
      refine spTuple_of ⟨_, _, _, rfl, .inr ⟨a, _, rfl, ha, ?_⟩⟩
      rw [List.length_map, decide_eq_true (show (1 : Int) ≤ (sl.length : Int) by omega), decide_eq_true (show (sl.length : Int) ≤ 4 by omega)]
      refine ⟨true, rfl, iteF ?_⟩
      refine ⟨_, rfl, a, rfl, ⟨_, SqT.of ha⟩, fun D hD => ?_⟩
      have haD : a ≠ D := ne_of_none ha hD
      refine lc_map (xs := sl.map V.str) walk_tup [] (fun _ _ => True) (fun _ y _ => y = .bl true) hD (by simp) (by rw [List.length_map]; omega) (fun H' g => SqT.of (g.2 _ _ (by rw [upd_ne haD]; exact ha))) (fun _ _ _ _ _ h => h) trivial (fun _ _ _ _ _ _ => trivial) ?_ ?_
      · intro i x H2 R hx g2 _ kR
        rw [List.getElem?_map] at hx
        obtain ⟨z, hz, rfl⟩ := Option.map_eq_some_iff.mp hx
        refine ⟨rfl, _, rfl, ?_⟩
        show spName [.str z] H2 _ _
        exact spName_of ⟨_, rfl, ok.each z (List.mem_of_getElem? hz), fun H3 g3 => kR _ _ g3 trivial rfl⟩
      · intro ys H2 g2 _ hl hn hy
        refine ⟨D, _, rfl, SqL.of (by rw [hl, bools hy]), true, ?_, iteF (rest _ _ ⟨_, _, _, rfl, g2⟩)⟩
        rw [all_rep]
    rintro σ' H2 ⟨n1, n2, n3, rfl, g2⟩
    have hb2 := g2.2 _ _ hb
    refine ⟨_, rfl, b, rfl, ⟨_, SqT.of hb2⟩, fun D hD => ?_⟩
    have hbD : b ≠ D := ne_of_none hb2 hD
    refine lc_map (xs := vs) walk_tup [] (fun _ _ => True) (fun i y _ => ∃ wd, ws[i]? = some wd ∧ y = .str wd.1) hD (by simp) (by omega) (fun H' g => SqT.of (g.2 _ _ (by rw [upd_ne hbD]; exact hb2))) (fun _ _ _ _ _ h => h) trivial (fun _ _ _ _ _ _ => trivial) ?_ ?_
    · intro i x H3 R hx g3 _ kR
      obtain ⟨wd, hwd, dw⟩ := hs.map_get hx
      have gg : Ts H H3 := (g2.2.trans (Ts.new hD)).trans g3.2
      obtain ⟨b', c, rfl, hb', hc⟩ := wd_inv (dw.mono gg)
      refine ⟨b', _, rfl, SqT.of hb', rfl, _, _, rfl, _, _, rfl, rfl, rfl, ?_⟩
      exact ⟨_, rfl, kR _ _ (Gr.refl _ _) trivial ⟨wd, hwd, rfl⟩⟩
    · intro ys H3 g3 _ hl hn hy
      have e1 := map_of (by rw [hn, hlen]) hy
      have ha3 := (g2.trans g3).2 _ _ ha
      refine ⟨_, rfl, a, _, rfl, .inr (SqT.of ha3), fun l hl3 => ?_⟩
      have hDl : D ≠ l := ne_of_none hl hl3
      refine ⟨D, l, ys, _, rfl, rfl, (by rw [upd_ne hDl]; exact hl), upd_same, (by rw [hn, List.length_map, sizeLine_eq]; omega), fun p hp => ?_⟩
      show spUnlike [.ref p] _ _ _
      refine spUnlike_of ⟨p, ws.map (·.1) ++ sl, rfl, .inl (by rw [upd_same, e1, List.map_append, List.map_map]; rfl), ok.unlike, by rw [List.length_append, List.length_map]; omega, fun H6 g6 => k _ ((((g2.trans g3).trans (Gr.new hl3)).trans (Gr.new hp)).trans g6)⟩
theorem sc_are_heads : FnScope ["thing", "kinds", "words", "item", "kind"] ["thing", "kinds", "words"] (defScope s_are_heads) := ⟨rfl, rfl, rfl, by decide +kernel, rfl, by decide +kernel, by decide +kernel⟩
theorem ok_are_heads (T : Tx K mg) : FnOk P w K mg base CX0 2 T.f_are_heads.f T.f_are_heads.fd ["thing", "kinds", "words"] spAreHeads := by
  refine T.f_are_heads.F.ok sc_are_heads (fun vs H Q E h => ?_) (fun cdv A outer s H vs Q E hr h => ?_)
  · unfold spAreHeads at h
    obtain ⟨v, l, t, ks, ww, hs, rfl, _⟩ := h
    rfl
  · have nd := sc_are_heads.nd
    refine ⟨_, (pss_cons (ps_if (pt_not (pt_val (pe_call (ok_is_tuple T) (hr.mono (by omega)) rfl T.f_is_tuple.g T.f_is_tuple.F.kp T.f_is_tuple.b .nil pass0 (pa_cons (pv 0) (pa_cons pe_int (pa_cons (pe_glo (by rfl) T.gMOST_HEADS) pa_nil)))))) (pss_one (ps_ret pe_bl)) pss_nil) (pss_cons (ps_for PassesOwn.never rfl (piT K (pv 0)) (pg_name (i := 3) nd rfl (Or.inl rfl) (Or.inr rfl)) (pss_cons (ps_if (PW.pt (pw_or (pt_not (pt_val (pe_call (ok_is_tuple T) (hr.mono (by omega)) rfl T.f_is_tuple.g T.f_is_tuple.F.kp T.f_is_tuple.b .nil pass0 (pa_cons (pv 3) (pa_cons pe_int (pa_cons pe_int pa_nil)))))) (pw_or (pt_not (pt_val (pe_call (ok_is_name T) (hr.mono (by omega)) rfl T.f_is_name.g T.f_is_name.F.kp T.f_is_name.b .nil pass0 (pa_cons (pe_ix (ixT K) (pv 3) pe_int (fun _ _ => rfl)) pa_nil)))) (pw_or (pt_cmpR op_inF (pe_ix (ixT K) (pv 3) pe_int (fun _ _ => rfl)) (pv 2) (by rfl)) (pw_or1 (pt_not (pt_val (pe_call (ok_is_tuple T) (hr.mono (by omega)) rfl T.f_is_tuple.g T.f_is_tuple.F.kp T.f_is_tuple.b .nil pass0 (pa_cons (pe_ix (ixT K) (pv 3) pe_int (fun _ _ => rfl)) (pa_cons pe_int (pa_cons (pe_glo (by rfl) T.gMOST_SHAPE) pa_nil))))))))))) (pss_one (ps_ret pe_bl)) pss_nil) (pss_one (ps_if (pt_not (pt_val (pe_callB (allK K) (by rfl) T.z_all (by decide +kernel) (pa_cons (pe_lc (own := [("kind", 4)]) rfl nd (piT K (pe_op op_catN (pe_ix (ixT K) (pv 3) pe_int (fun _ _ => rfl)) (pe_tup (pa_cons (pe_ix (ixT K) (pv 3) pe_int (fun _ _ => rfl)) pa_nil)))) (blkOk_by (own := [("kind", 4)]) (N := ["thing", "kinds", "words", "item", "kind"]) (sc := defScope s_are_heads) (by decide +kernel)) (fun _ _ _ _ _ => (pg_name (i := 4) nd rfl (Or.inl rfl) (Or.inr rfl))) (fun _ _ _ _ _ => pts_nil) (fun _ _ _ _ _ => (pe_and (pe_call (ok_is_name T) (hr.mono (by omega)) rfl T.f_is_name.g T.f_is_name.F.kp T.f_is_name.b .nil pass0 (pa_cons (pv 4) pa_nil)) (pe_one (pe_cmpR op_inF (pv 4) (pv 1) (by rfl)))))) pa_nil)))) (pss_one (ps_ret pe_bl)) pss_nil)))) (pss_one (ps_ret (pe_call (ok_are_unlike T) (hr.mono (by omega)) rfl T.f_are_unlike.g T.f_are_unlike.F.kp T.f_are_unlike.b .nil pass0 (pa_cons (pe_lc (own := [("item", 3)]) rfl nd (piT K (pv 0)) (blkOk_by (own := [("item", 3)]) (N := ["thing", "kinds", "words", "item", "kind"]) (sc := defScope s_are_heads) (by decide +kernel)) (fun _ _ _ _ _ => (pg_name (i := 3) nd rfl (Or.inl rfl) (Or.inr rfl))) (fun _ _ _ _ _ => pts_nil) (fun _ _ _ _ _ => (pe_ix (ixT K) (pv 3) pe_int (fun _ _ => rfl)))) pa_nil)))))), ?_⟩
    unfold spAreHeads at h
    obtain ⟨v, l, t, ks, ww, hs, rfl, hd, hl, ht, ok, k⟩ := h
    obtain ⟨a, vs, rfl, ha, hv⟩ := hd.tup_inv
    have hlen := hv.map_len
    have l1 := ok.len
    refine cut (fun σ' H' => σ' = [some (.ref a), some (.ref l), some (.ref t), none, none] ∧ H = H') ?_ (fun rest => ?_)
    case refine_2 =>
      refine ⟨_, rfl, ?_⟩
      show spTuple [.ref a, .int 1, .int 12] H _ _
      refine spTuple_of ⟨_, _, _, rfl, .inr ⟨a, _, rfl, ha, ?_⟩⟩
      rw [decide_eq_true (show (1 : Int) ≤ (vs.length : Int) by omega), decide_eq_true (show (vs.length : Int) ≤ 12 by omega)]
      exact ⟨true, rfl, iteF (rest _ _ ⟨rfl, rfl⟩)⟩
    rintro σ' H' ⟨rfl, rfl⟩
    refine cut (fun σ' H' => ∃ n1 n2, σ' = [some (.ref a), some (.ref l), some (.ref t), n1, n2] ∧ Gr [] H H') ?_ (fun rest => ?_)
    case refine_2 =>
      refine ⟨_, rfl, a, rfl, ⟨_, SqT.of ha⟩, ?_⟩
      refine for_it (n := vs.length) walk_tup (fun i σ H' => ∃ n1 n2, σ = [some (.ref a), some (.ref l), some (.ref t), n1, n2] ∧ Gr [] H H') ⟨_, _, rfl, Gr.refl _ _⟩ (fun i σ H' _ ⟨_, _, _, g⟩ => SqT.of (g.2 _ _ ha)) ?_ ?_
      · rintro i x σ H2 H3 hi ⟨n1, n2, rfl, g2⟩ ⟨rfl, hx⟩
        obtain ⟨r, hr', dr⟩ := hv.map_get hx
        have oke := ok.each r (List.mem_of_getElem? hr')
        obtain ⟨b, c, rfl, hb, hc⟩ := row_inv (dr.mono g2.2)
        refine cut (fun σ' H' => σ' = [some (.ref a), some (.ref l), some (.ref t), some (.ref b), n2] ∧ Gr [] H3 H') ?_ (fun rest2 => ?_)
        case refine_2 =>
          refine ⟨_, rfl, ?_⟩
          show spTuple [.ref b, .int 3, .int 3] H3 _ _
          refine spTuple_of ⟨_, _, _, rfl, .inr ⟨b, _, rfl, hb, true, rfl, iteF ?_⟩⟩
          refine ⟨_, rfl, b, _, _, _, rfl, rfl, SqT.of hb, at0, ?_⟩
          show spName [.str r.1] H3 _ _
          refine spName_of ⟨_, rfl, oke.1, fun H4 g4 => ⟨true, rfl, iteF ?_⟩⟩
          have hb4 := g4.2 _ _ hb
          refine ⟨_, rfl, b, _, _, _, rfl, rfl, SqT.of hb4, at0, _, rfl, t, _, rfl, .inr ((g2.trans g4).2 _ _ ht), rfl, flat_str ww, false, ?_, iteF ?_⟩
          · show V.bl (inV (.str r.1) (ww.map V.str)) = _
            rw [inV_str, decide_eq_false oke.2.1]
          refine ⟨_, rfl, b, _, _, _, rfl, rfl, SqT.of hb4, at1, ?_⟩
          show spTuple [.ref c, .int 0, .int 3] H4 _ _
          refine spTuple_of ⟨_, _, _, rfl, .inr ⟨c, _, rfl, g4.2 _ _ hc, ?_⟩⟩
          rw [List.length_map, decide_eq_true (show (0 : Int) ≤ (r.2.1.length : Int) by omega), decide_eq_true (show (r.2.1.length : Int) ≤ 3 by omega)]
          exact ⟨true, rfl, iteF (rest2 _ _ ⟨rfl, g4⟩)⟩
        rintro σ' H4 ⟨rfl, g4⟩
        have hb4 := g4.2 _ _ hb
        refine ⟨_, rfl, b, _, _, _, rfl, rfl, SqT.of hb4, at1, _, rfl, b, _, _, _, rfl, rfl, SqT.of hb4, at2, (by show 1 ≤ sizeLine; decide), fun q hq => ?_⟩
        have gq : Gr [] H4 (upd H4 q (.tup [.str r.2.2])) := Gr.new hq
        refine ⟨c, q, _, _, rfl, rfl, (g4.trans gq).2 _ _ hc, upd_same, (by rw [List.length_map, sizeLine_eq]; simp only [List.length_singleton]; omega), fun p H5 g5 hp => ⟨p, rfl, ⟨_, SqT.of hp⟩, fun D hD => ?_⟩⟩
        have ep : r.2.1.map V.str ++ [V.str r.2.2] = (r.2.1 ++ [r.2.2]).map V.str := by rw [List.map_append]; rfl
        rw [ep] at hp
        have hpD : p ≠ D := ne_of_none hp hD
        have g45 := (g4.trans gq).trans g5
        refine lc_map (xs := (r.2.1 ++ [r.2.2]).map V.str) walk_tup [] (fun _ _ => True) (fun _ y _ => y = .bl true) hD (by simp) (by rw [List.length_map, List.length_append, List.length_singleton]; omega) (fun H' g => SqT.of (g.2 _ _ (by rw [upd_ne hpD]; exact hp))) (fun _ _ _ _ _ h => h) trivial (fun _ _ _ _ _ _ => trivial) ?_ ?_
        · intro j y H6 R hy g6 _ kR
          rw [List.getElem?_map] at hy
          obtain ⟨z, hz, rfl⟩ := Option.map_eq_some_iff.mp hy
          have okz := oke.2.2.2 z (List.mem_of_getElem? hz)
          refine ⟨rfl, _, rfl, ?_⟩
          show spName [.str z] H6 _ _
          refine spName_of ⟨_, rfl, okz.1, fun H7 g7 => ⟨true, rfl, iteT ?_⟩⟩
          have hlD : l ≠ D := ne_of_none (((g2.trans g45).same) _ _ hl) hD
          have hl7 : H7 l = some (.lst (ks.map V.str)) := g7.same _ _ (g6.1 _ _ (by rw [upd_ne hlD]; exact (g2.trans g45).same _ _ hl) (by simpa using hlD))
          refine ⟨_, rfl, _, rfl, l, _, rfl, .inl hl7, rfl, flat_str ks, kR _ _ g7 trivial ?_⟩
          show V.bl (inV (.str z) (ks.map V.str)) = _
          rw [inV_str, decide_eq_true okz.2]
        · intro ys H6 g6 _ hys hn hy
          refine ⟨D, _, rfl, SqL.of (by rw [hys, bools hy]), true, ?_, iteF ⟨_, _, rfl, (g2.trans g45).trans g6⟩⟩
          rw [all_rep]
      · rintro σ H2 ⟨n1, n2, rfl, g2⟩
        exact rest _ _ ⟨_, _, rfl, g2⟩
    rintro σ' H2 ⟨n1, n2, rfl, g2⟩
    have ha2 := g2.2 _ _ ha
    refine ⟨_, rfl, a, rfl, ⟨_, SqT.of ha2⟩, fun D hD => ?_⟩
    have haD : a ≠ D := ne_of_none ha2 hD
    refine lc_map (xs := vs) walk_tup [] (fun _ _ => True) (fun i y _ => ∃ r, hs[i]? = some r ∧ y = .str r.1) hD (by simp) (by omega) (fun H' g => SqT.of (g.2 _ _ (by rw [upd_ne haD]; exact ha2))) (fun _ _ _ _ _ h => h) trivial (fun _ _ _ _ _ _ => trivial) ?_ ?_
    · intro i x H3 R hx g3 _ kR
      obtain ⟨r, hr', dr⟩ := hv.map_get hx
      have gg : Ts H H3 := (g2.2.trans (Ts.new hD)).trans g3.2
      obtain ⟨b, c, rfl, hb, hc⟩ := row_inv (dr.mono gg)
      refine ⟨rfl, _, rfl, b, _, _, _, rfl, rfl, SqT.of hb, at0, kR _ _ (Gr.refl _ _) trivial ⟨r, hr', rfl⟩⟩
    · intro ys H3 g3 _ hys hn hy
      have e1 := map_of (by rw [hn, hlen]) hy
      show spUnlike [.ref D] H3 _ _
      exact spUnlike_of ⟨D, hs.map (·.1), rfl, .inl (by rw [hys, e1, List.map_map]; rfl), ok.unlike, by rw [List.length_map]; omega, fun H6 g6 => k _ ((g2.trans g3).trans g6)⟩
end
end Dr
/-! shapes of doors: kinds of terms -/
namespace Dr
open PySem L2
theorem yes {σ : L2.St} {H : Hp} {Q : Bool → Hp → Prop} (h : Q true H) : tYes σ H Q := h
/-! ### tables made of rows -/
/-- a walk of n turns, what a turn is asked told by B: i turns done and m left -/
theorem turns {J0 : It} {n : Nat} {G : Hp → Prop} {Y : Nat → Hp → V → Hp → Prop} (w : Walk J0 n G Y) {H0 : Hp} {Qd : Hp → Prop} {B : (Hp → Prop) → V → Hp → Prop} (Pv : Nat → Hp → Prop) (h0 : Pv 0 H0) (hG : ∀ i H, i ≤ n → Pv i H → G H)
    (hs : ∀ i x H H', i < n → Pv i H → Y i H x H' → B (Pv (i + 1)) x H') (hd : ∀ H, Pv n H → Qd H) :
    ∃ W : Nat → Nat → Hp → Prop, (∃ m, W 0 m H0) ∧ ∀ i m H, W i m H → (J0.stop i H ∧ Qd H) ∨ (J0.go i H ∧ ∃ Nx : Hp → Prop, (∀ H', Nx H' → ∃ m', m' < m ∧ W (i + 1) m' H') ∧ ∀ x H', J0.yld i H x H' → B Nx x H') := by
  refine ⟨fun i m H => i + m = n ∧ Pv i H, ⟨n, Nat.zero_add n, h0⟩, ?_⟩
  rintro i (_ | m) H ⟨e, p⟩
  · cases e
    exact .inl ⟨w.stops H (hG i H (Nat.le_refl i) p), hd H p⟩
  · have lt : i < n := by omega
    have g := hG i H (Nat.le_of_lt lt) p
    exact .inr ⟨w.goes i H lt g, Pv (i + 1), fun H' p' => ⟨m, Nat.lt_succ_self m, by omega, p'⟩, fun x H' y => hs i x H H' lt p (w.yields i H x H' lt g y)⟩
/-- a comprehension without a test, over anything: each item is told by Rel -/
theorem lc_mapY {J0 : It} {n : Nat} {G : Hp → Prop} {Y : Nat → Hp → V → Hp → Prop} (w : Walk J0 n G Y) {g : TG} {te : TE} {vs : List Nat} {σ : St} {H1 : Hp} {D : Addr} {Qd : Hp → Prop} (S : List Addr) (J : Nat → Hp → Prop) (Rel : Nat → V → Hp → Prop) (hD : H1 D = none) (hS : D ∉ S) (few : n ≤ 100000)
    (hG : ∀ H, Gr (D :: S) (upd H1 D (.lst [])) H → G H) (mono : ∀ i y H H', Gr (D :: S) H H' → Rel i y H → Rel i y H') (j0 : J 0 (upd H1 D (.lst []))) (jD : ∀ i H zs ys, H D = some (.lst zs) → J i H → J i (upd H D (.lst ys)))
    (turn : ∀ i x H H' (R : VK), i < n → Gr (D :: S) (upd H1 D (.lst [])) H → J i H → Y i H x H' → (∀ y H4, Gr S H H4 → J (i + 1) H4 → Rel i y H4 → R y H4) → g x (wipe σ vs) H' fun σ2 H2 => wipe σ2 vs = wipe σ vs ∧ te σ2 H2 R)
    (fin : ∀ ys H, Gr S H1 H → J n H → H D = some (.lst ys) → ys.length = n → (∀ (i : Nat) (y : V), ys[i]? = some y → Rel i y H) → Qd H) :
    ∃ W : Nat → Nat → Hp → Prop, (∃ m, W 0 m (upd H1 D (.lst []))) ∧ ∀ i m H, W i m H →
      (J0.stop i H ∧ Qd H) ∨ (J0.go i H ∧ ∃ Nx : Hp → Prop, (∀ H', Nx H' → ∃ m', m' < m ∧ W (i + 1) m' H') ∧ ∀ x H', J0.yld i H x H' → g x (wipe σ vs) H' fun σ2 H2 => wipe σ2 vs = wipe σ vs ∧ tYes σ2 H2 fun b H3 =>
        if b = true then te σ2 H3 fun y H4 => ∃ acc, H4 D = some (.lst acc) ∧ acc.length < sizeLine ∧ Nx (upd H4 D (.lst (acc ++ [y]))) else Nx H3) := by
  refine lc_it w (fun i H => Gr (D :: S) (upd H1 D (.lst [])) H ∧ J i H ∧ ∃ ys, H D = some (.lst ys) ∧ ys.length = i ∧ ∀ (j : Nat) y, ys[j]? = some y → Rel j y H) ⟨Gr.refl _ _, j0, [], upd_same, rfl, fun j y h => by simp at h⟩ (fun i H _ h => hG H h.1) ?_ ?_
  · rintro i x H H' hi ⟨g1, j1, ys, h1, h2, h3⟩ hy
    unfold tYes
    simp only [if_true]
    refine turn i x H H' _ hi g1 j1 hy fun y H4 g4 j4 r4 => ⟨ys, g4.1 _ _ h1 hS, by rw [h2, sizeLine_eq]; omega, ?_, jD _ _ _ _ (g4.1 _ _ h1 hS) j4, ys ++ [y], upd_same, by rw [List.length_append, h2]; rfl, ?_⟩
    · refine g1.trans ((g4.wide fun b hb => List.mem_cons_of_mem _ hb).trans ?_)
      exact Gr.at (g4.1 _ _ h1 hS) (fun _ z => nomatch z) List.mem_cons_self
    · have g5 : Gr (D :: S) H4 (upd H4 D (.lst (ys ++ [y]))) := Gr.at (g4.1 _ _ h1 hS) (fun _ z => nomatch z) List.mem_cons_self
      intro j z hz
      by_cases hj : j < ys.length
      · rw [List.getElem?_append_left hj] at hz
        exact mono _ _ _ _ g5 (mono _ _ _ _ (g4.wide fun b hb => List.mem_cons_of_mem _ hb) (h3 j z hz))
      · have hj2 : j = i := by
          have := (List.getElem?_eq_some_iff.mp hz).1
          rw [List.length_append, List.length_singleton] at this
          omega
        subst hj2
        rw [List.getElem?_append_right (by omega), h2, Nat.sub_self] at hz
        simp only [List.getElem?_cons_zero, Option.some.injEq] at hz
        subst hz
        exact mono _ _ _ _ g5 r4
  · rintro H ⟨g1, j1, ys, h1, h2, h3⟩
    exact fin ys H (((Gr.new hD).trans g1).since hD) j1 h1 h2 h3
theorem walk_zipT {K : PySem.W.Frag} {a b : Addr} {xs ys : List V} {n : Nat} (hn : n = min xs.length ys.length) : Walk (RZ.ItzT K a b) n (fun H => SqT K H a xs ∧ SqT K H b ys) (YPair (fun i => xs[i]?) (fun i => ys[i]?)) where
  goes i H hi q := ⟨xs, ys, xs[i]'(by omega), ys[i]'(by omega), q.1, q.2, List.getElem?_eq_getElem _, List.getElem?_eq_getElem _⟩
  stops H q := ⟨xs, ys, q.1, q.2, by omega⟩
  yields := fun i H v H' _ q ⟨T, x, z, h1, h2, h3, h4, h5⟩ => ⟨T, x, z, h1, h2, h3, h4 xs q.1, h5 ys q.2⟩
/-! ### the shape -/
def wkOf (ws : List Wd) (x : Str) : Option Str := (ws.find? fun w => decide (x ∈ w.2)).map (·.1)
def rkOf (hs : List Tm.Row) (h : Str) : Nat := hs.findIdx fun r => decide (r.1 = h)
def sF (sV : V) (wk lo hd rk : Addr) : List (Str × V) := putF "rank" (.ref rk) (putF "heads" (.ref hd) (putF "lots" (.ref lo) (putF "word_kinds" (.ref wk) (putF "sealed" sV []))))
section
variable {sV : V} {wk lo hd rk : Addr}
theorem sF_wk : (sF sV wk lo hd rk).lookup ("word_kinds" : Str) = some (.ref wk) := by
  unfold sF
  rw [lookup_putF, if_neg (by decide +kernel), lookup_putF, if_neg (by decide +kernel), lookup_putF, if_neg (by decide +kernel), lookup_putF, if_pos rfl]
theorem sF_lo : (sF sV wk lo hd rk).lookup ("lots" : Str) = some (.ref lo) := by
  unfold sF
  rw [lookup_putF, if_neg (by decide +kernel), lookup_putF, if_neg (by decide +kernel), lookup_putF, if_pos rfl]
theorem sF_hd : (sF sV wk lo hd rk).lookup ("heads" : Str) = some (.ref hd) := by
  unfold sF
  rw [lookup_putF, if_neg (by decide +kernel), lookup_putF, if_pos rfl]
theorem sF_rk : (sF sV wk lo hd rk).lookup ("rank" : Str) = some (.ref rk) := by
  unfold sF
  rw [lookup_putF, if_pos rfl]
theorem sF_no {f : Str} (h1 : ¬ f = "rank") (h2 : ¬ f = "heads") (h3 : ¬ f = "lots") (h4 : ¬ f = "word_kinds") (h5 : ¬ f = "sealed") : (sF sV wk lo hd rk).lookup f = none := by
  unfold sF
  rw [lookup_putF, if_neg h1, lookup_putF, if_neg h2, lookup_putF, if_neg h3, lookup_putF, if_neg h4, lookup_putF, if_neg h5]
  rfl
end
structure TW (ws : List Wd) (kvs : List (Key × V)) : Prop where
  at_ : ∀ x, valV kvs (.inr x) = (wkOf ws x).map V.str
def TL (ws : List Wd) (kvs : List (Key × V)) : Prop := ∀ k, (valV kvs (.inr k)).isSome = decide (k ∈ ws.map (·.1))
def HRow (H : Hp) (r : Tm.Row) (v : V) : Prop := ∃ p q, v = .ref p ∧ H p = some (.tup [.ref q, .str r.2.2]) ∧ H q = some (.tup (r.2.1.map V.str))
def TH (H : Hp) (hs : List Tm.Row) (kvs : List (Key × V)) : Prop := ∀ h, match Tm.fnd hs h with
  | none => valV kvs (.inr h) = none
  | some r => ∃ v, valV kvs (.inr h) = some v ∧ HRow H r v
def TR (hs : List Tm.Row) (kvs : List (Key × V)) : Prop := ∀ r ∈ hs, valV kvs (.inr r.1) = some (.int (rkOf hs r.1 : Nat))
/-- the shape at o; its dicts stand at ds -/
structure Sh (C : Addr) (ws : List Wd) (hs : List Tm.Row) (o : Addr) (ds : List Addr) (H : Hp) : Prop where
  it : ∃ dx sV wk lo hd rk kw kl kh kr, H o = some (.ins C dx (sF sV wk lo hd rk)) ∧ ds = [wk, lo, hd, rk] ∧ H wk = some (.dK kw) ∧ H lo = some (.dK kl) ∧ H hd = some (.dK kh) ∧ H rk = some (.dK kr) ∧ TW ws kw ∧ TL ws kl ∧ TH H hs kh ∧ TR hs kr
theorem HRow.mono {H H' : Hp} {r : Tm.Row} {v : V} (t : Ts H H') (h : HRow H r v) : HRow H' r v := by
  obtain ⟨p, q, h1, h2, h3⟩ := h
  exact ⟨p, q, h1, t _ _ h2, t _ _ h3⟩
theorem TH.mono {H H' : Hp} {hs : List Tm.Row} {kvs : List (Key × V)} (t : Ts H H') (h : TH H hs kvs) : TH H' hs kvs := fun x => by
  have := h x
  cases f : Tm.fnd hs x with
  | none => rw [f] at this; exact this
  | some r =>
    rw [f] at this
    obtain ⟨v, h1, h2⟩ := this
    exact ⟨v, h1, h2.mono t⟩
theorem Sh.gr {C : Addr} {ws : List Wd} {hs : List Tm.Row} {o : Addr} {ds S : List Addr} {H H' : Hp} (s : Sh C ws hs o ds H) (g : Gr S H H') (n : ∀ a ∈ ds, a ∉ S) (no : o ∉ S) : Sh C ws hs o ds H' := by
  obtain ⟨dx, sV, wk, lo, hd, rk, kw, kl, kh, kr, h0, rfl, h1, h2, h3, h4, t1, t2, t3, t4⟩ := s.it
  exact ⟨dx, sV, wk, lo, hd, rk, kw, kl, kh, kr, g.1 _ _ h0 no, rfl, g.1 _ _ h1 (n _ (by simp)), g.1 _ _ h2 (n _ (by simp)), g.1 _ _ h3 (n _ (by simp)), g.1 _ _ h4 (n _ (by simp)), t1, t2, t3.mono g.2, t4⟩
theorem Sh.gr0 {C : Addr} {ws : List Wd} {hs : List Tm.Row} {o : Addr} {ds : List Addr} {H H' : Hp} (s : Sh C ws hs o ds H) (g : Gr [] H H') : Sh C ws hs o ds H' := s.gr g (fun _ _ => by simp) (by simp)
theorem Sh.there {C : Addr} {ws : List Wd} {hs : List Tm.Row} {o : Addr} {ds : List Addr} {H : Hp} (s : Sh C ws hs o ds H) : ∀ a ∈ ds, ∃ kvs, H a = some (.dK kvs) := by
  obtain ⟨dx, sV, wk, lo, hd, rk, kw, kl, kh, kr, h0, rfl, h1, h2, h3, h4, _⟩ := s.it
  intro a ha
  simp only [List.mem_cons, List.not_mem_nil, or_false] at ha
  rcases ha with rfl | rfl | rfl | rfl
  · exact ⟨_, h1⟩
  · exact ⟨_, h2⟩
  · exact ⟨_, h3⟩
  · exact ⟨_, h4⟩
theorem valV_snocs {kvs : List (Key × V)} {k : Key} {y : V} (j : Key) : valV (putK kvs k y) j = if j = k then some y else valV kvs j := valV_put kvs k j y
@[irreducible] def spSh (C : Addr) : Sp := fun vs H Q _ => ∃ (o dx : Addr) (v1 v2 v3 : V) (ws : List Wd) (hs : List Tm.Row), vs = [.ref o, v1, v2, v3] ∧ H o = some (.ins C dx []) ∧ Dd H v1 (encW ws) ∧ Dd H v3 (encH hs) ∧ ws.length ≤ 4 ∧ (∀ w ∈ ws, w.2.length ≤ 4) ∧ hs.length ≤ 12 ∧ (ws.flatMap (·.2)).Nodup ∧ (hs.map (·.1)).Nodup ∧
  ∀ H' ds, Gr [o] H H' → Sh C ws hs o ds H' → Q .non H'
theorem spSh_of {C : Addr} {vs : List V} {H : Hp} {Q : VK} {E : XK} (h : ∃ (o dx : Addr) (v1 v2 v3 : V) (ws : List Wd) (hs : List Tm.Row), vs = [.ref o, v1, v2, v3] ∧ H o = some (.ins C dx []) ∧ Dd H v1 (encW ws) ∧ Dd H v3 (encH hs) ∧ ws.length ≤ 4 ∧ (∀ w ∈ ws, w.2.length ≤ 4) ∧ hs.length ≤ 12 ∧ (ws.flatMap (·.2)).Nodup ∧ (hs.map (·.1)).Nodup ∧
  ∀ H' ds, Gr [o] H H' → Sh C ws hs o ds H' → Q .non H') : spSh C vs H Q E := by unfold spSh; exact h
theorem find_none {α : Type} {p : α → Bool} {l : List α} (h : ∀ x ∈ l, p x = false) : l.find? p = none := List.find?_eq_none.mpr fun x hx => by rw [h x hx]; exact Bool.false_ne_true
/-- one word more -/
theorem wk_step {ws : List Wd} (nd : (ws.flatMap (·.2)).Nodup) {i j : Nat} {wd : Wd} {x : Str} (hw : ws[i]? = some wd) (hx : wd.2[j]? = some x) : wkOf ws x = some wd.1 := by
  have mem := List.mem_of_getElem? hw
  have hxm := List.mem_of_getElem? hx
  unfold wkOf
  cases f : ws.find? fun w => decide (x ∈ w.2) with
  | none =>
    have := List.find?_eq_none.mp f wd mem
    exact absurd (decide_eq_true hxm) this
  | some w2 =>
    have m2 := List.mem_of_find?_eq_some f
    have x2 : x ∈ w2.2 := by simpa using List.find?_some f
    have e : w2 = wd := by
      refine Decidable.byContradiction fun ne => ?_
      clear f
      induction ws generalizing i with
      | nil => simp at hw
      | cons w0 ws ih =>
        rw [List.flatMap_cons, List.nodup_append] at nd
        obtain ⟨n1, n2, n3⟩ := nd
        rcases List.mem_cons.mp mem with e1 | e1
        · rcases List.mem_cons.mp m2 with e2 | e2
          · exact ne (e2.trans e1.symm)
          · exact n3 x (by rw [← e1]; exact hxm) x (List.mem_flatMap.mpr ⟨w2, e2, x2⟩) rfl
        · rcases List.mem_cons.mp m2 with e2 | e2
          · exact n3 x (by rw [← e2]; exact x2) x (List.mem_flatMap.mpr ⟨wd, e1, hxm⟩) rfl
          · obtain ⟨i', hi'⟩ := List.mem_iff_getElem?.mp e1
            exact ih n2 hi' e1 e2
    rw [e]
    rfl
theorem wk_none {ws : List Wd} {x : Str} (h : ∀ w ∈ ws, x ∉ w.2) : wkOf ws x = none := by
  unfold wkOf
  rw [find_none fun w hw => decide_eq_false (h w hw)]
  rfl
theorem fnd_snoc {hs : List Tm.Row} {r : Tm.Row} {h : Str} : Tm.fnd (hs ++ [r]) h = (Tm.fnd hs h).or (if r.1 = h then some r else none) := by
  unfold Tm.fnd
  rw [List.find?_append]
  congr 1
  rw [List.find?_cons]
  by_cases e : r.1 = h
  · rw [decide_eq_true e, if_pos e]
  · rw [decide_eq_false e, if_neg e]
    rfl
theorem fnd_fresh {hs : List Tm.Row} {i : Nat} {r : Tm.Row} (nd : (hs.map (·.1)).Nodup) (hr : hs[i]? = some r) : Tm.fnd (hs.take i) r.1 = none := by
  refine find_none fun r2 h2 => decide_eq_false fun e => ?_
  obtain ⟨j, hj⟩ := List.mem_iff_getElem?.mp h2
  have lj := (List.getElem?_eq_some_iff.mp hj).1
  rw [List.length_take] at lj
  rw [List.getElem?_take] at hj
  rw [if_pos (by omega)] at hj
  have li := (List.getElem?_eq_some_iff.mp hr).1
  have e1 : (hs.map (·.1))[j]? = some r.1 := by rw [List.getElem?_map, hj]; exact congrArg some e
  have e2 : (hs.map (·.1))[i]? = some r.1 := by rw [List.getElem?_map, hr]; rfl
  have := (List.getElem?_inj (by rw [List.length_map]; omega) nd).mp (e1.trans e2.symm)
  omega
theorem rk_at {hs : List Tm.Row} {i : Nat} {r : Tm.Row} (nd : (hs.map (·.1)).Nodup) (hr : hs[i]? = some r) : rkOf hs r.1 = i := by
  have li := (List.getElem?_eq_some_iff.mp hr)
  unfold rkOf
  rw [List.findIdx_eq li.1]
  refine ⟨by rw [li.2]; exact decide_eq_true rfl, fun j hj => ?_⟩
  refine decide_eq_false fun e => ?_
  have hj2 : j < hs.length := Nat.lt_trans hj li.1
  have e1 : (hs.map (·.1))[j]? = some r.1 := by rw [List.getElem?_map, List.getElem?_eq_getElem hj2]; exact congrArg some e
  have e2 : (hs.map (·.1))[i]? = some r.1 := by rw [List.getElem?_map, hr]; rfl
  have := (List.getElem?_inj (by rw [List.length_map]; omega) nd).mp (e1.trans e2.symm)
  omega
section
variable {P : Program} {w : World} {K : PySem.W.Frag} {mg : Str → Option Value} {base : Heap}
theorem sc_Shape_init : FnScope ["self", "words", "sealed", "heads", "name", "some", "word", "kinds", "kind", "number", "item"] ["self", "words", "sealed", "heads"] (defScope s_Shape_init) := ⟨rfl, rfl, rfl, by decide +kernel, rfl, by decide +kernel, by decide +kernel⟩
theorem ok_Shape_init (T : Tx K mg) : FnOk P w K mg base CX0 1 T.f_Shape_init.f T.f_Shape_init.fd ["self", "words", "sealed", "heads"] (spSh T.cShape.C) := by
  refine T.f_Shape_init.F.ok sc_Shape_init (fun vs H Q E h => ?_) (fun cdv A outer s H vs Q E hr h => ?_)
  · unfold spSh at h
    obtain ⟨o, dx, v1, v2, v3, ws, hs, rfl, _⟩ := h
    rfl
  · have nd := sc_Shape_init.nd
    refine ⟨_, (pss_cons (ps_fld (pv 0) (pv 2) rfl) (pss_cons (ps_fld (pv 0) (pe_dcN (own := [("name", 4), ("some", 5), ("word", 6)]) (b := fun D => tIn _ _ _ (tPut _ _ D) [6]) rfl nd (piT K (pv 1)) (blkOk_by (own := [("name", 4), ("some", 5), ("word", 6)]) (N := ["self", "words", "sealed", "heads", "name", "some", "word", "kinds", "kind", "number", "item"]) (sc := defScope s_Shape_init) (by decide +kernel)) (fun _ _ _ _ _ => (pgT K 2 (pgs_cons (pg_name (i := 4) nd rfl (Or.inl rfl) (Or.inr rfl)) (pgs_cons (pg_name (i := 5) nd rfl (Or.inl rfl) (Or.inr rfl)) pgs_nil)))) (fun _ _ _ _ _ => pts_nil) (fun _ _ _ _ _ _ _ => nest rfl rfl rfl rfl (fun _ => rfl) (piT K (pv 5)) (pg_name (i := 6) nd rfl (Or.inl rfl) (Or.inr rfl)) pts_nil (fun _ => leaf rfl rfl rfl (pv 6) (pv 4)))) rfl) (pss_cons (ps_fld (pv 0) (pe_dc (own := [("name", 4), ("some", 5)]) rfl nd (piT K (pv 1)) (blkOk_by (own := [("name", 4), ("some", 5)]) (N := ["self", "words", "sealed", "heads", "name", "some", "word", "kinds", "kind", "number", "item"]) (sc := defScope s_Shape_init) (by decide +kernel)) (fun _ _ _ _ _ => (pgT K 2 (pgs_cons (pg_name (i := 4) nd rfl (Or.inl rfl) (Or.inr rfl)) (pgs_cons (pg_name (i := 5) nd rfl (Or.inl rfl) (Or.inr rfl)) pgs_nil)))) (fun _ _ _ _ _ => pts_nil) (fun _ _ _ _ _ => (pv 4)) (fun _ _ _ _ _ => (pv 5))) rfl) (pss_cons (ps_fld (pv 0) (pe_dc (own := [("name", 4), ("kinds", 7), ("kind", 8)]) rfl nd (piT K (pv 3)) (blkOk_by (own := [("name", 4), ("kinds", 7), ("kind", 8)]) (N := ["self", "words", "sealed", "heads", "name", "some", "word", "kinds", "kind", "number", "item"]) (sc := defScope s_Shape_init) (by decide +kernel)) (fun _ _ _ _ _ => (pgT K 3 (pgs_cons (pg_name (i := 4) nd rfl (Or.inl rfl) (Or.inr rfl)) (pgs_cons (pg_name (i := 7) nd rfl (Or.inl rfl) (Or.inr rfl)) (pgs_cons (pg_name (i := 8) nd rfl (Or.inl rfl) (Or.inr rfl)) pgs_nil))))) (fun _ _ _ _ _ => pts_nil) (fun _ _ _ _ _ => (pv 4)) (fun _ _ _ _ _ => (pe_tup (pa_cons (pv 7) (pa_cons (pv 8) pa_nil))))) rfl) (pss_one (ps_fld (pv 0) (pe_dc (own := [("number", 9), ("item", 10)]) rfl nd (pi_enumT (by rfl) T.z_enumerate (pa_cons (pv 3) pa_nil)) (blkOk_by (own := [("number", 9), ("item", 10)]) (N := ["self", "words", "sealed", "heads", "name", "some", "word", "kinds", "kind", "number", "item"]) (sc := defScope s_Shape_init) (by decide +kernel)) (fun _ _ _ _ _ => (pgT K 2 (pgs_cons (pg_name (i := 9) nd rfl (Or.inl rfl) (Or.inr rfl)) (pgs_cons (pg_name (i := 10) nd rfl (Or.inl rfl) (Or.inr rfl)) pgs_nil)))) (fun _ _ _ _ _ => pts_nil) (fun _ _ _ _ _ => (pe_ix (ixT K) (pv 10) pe_int (fun _ _ => rfl))) (fun _ _ _ _ _ => (pv 9))) rfl)))))), ?_⟩
    unfold spSh at h
    obtain ⟨o, dx, v1, v2, v3, ws, hs, rfl, ho, d1, d3, lw, lw2, lh, ndw, ndh, k⟩ := h
    obtain ⟨a, vs, rfl, ha, hws⟩ := d1.tup_inv
    obtain ⟨b, us, rfl, hb, hhs⟩ := d3.tup_inv
    have lvs := hws.map_len
    have lus := hhs.map_len
    have noT : ∀ {u : HO} {fs : List (Str × V)}, u = .ins T.cShape.C dx fs → ∀ xs, u ≠ .tup xs := fun e xs z => by rw [e] at z; cases z
    have ndx : ∀ {H' : Hp} {fs : List (Str × V)} {D : Addr}, H' o = some (.ins T.cShape.C dx fs) → H' D = none → o ≠ D := fun h1 h2 => ne_of_none h1 h2
    have gfin : ∀ {H' : Hp} {fs gs : List (Str × V)}, H' o = some (.ins T.cShape.C dx fs) → Gr [o] H' (upd H' o (.ins T.cShape.C dx gs)) := fun h => Gr.at h (fun _ z => nomatch z) List.mem_cons_self
    let σ0 : L2.St := [some (.ref o), some (.ref a), some v2, some (.ref b), none, none, none, none, none, none, none]
    -- sealed
    refine cut (fun σ' H' => σ' = σ0 ∧ Gr [o] H H' ∧ H' o = some (.ins T.cShape.C dx (putF "sealed" v2 []))) ?_ (fun rest => ?_)
    case refine_2 =>
      exact ⟨_, rfl, _, rfl, o, _, dx, _, rfl, ho, T.cShape.cl, T.n_Shape_sealed, (by show 0 < 1000; decide), rest _ _ ⟨rfl, gfin ho, upd_same⟩⟩
    rintro σ' H1 ⟨rfl, g1, ho1⟩
    -- word_kinds
    refine cut (fun σ' H' => σ' = σ0 ∧ ∃ wk kw, Gr [o] H H' ∧ H' o = some (.ins T.cShape.C dx (putF "word_kinds" (.ref wk) (putF "sealed" v2 []))) ∧ H' wk = some (.dK kw) ∧ TW ws kw) ?_ (fun rest => ?_)
    case refine_2 =>
      have ha1 := g1.2 _ _ ha
      refine ⟨_, rfl, a, rfl, ⟨_, SqT.of ha1⟩, fun D hD => ?_⟩
      have haD := ne_of_none ha1 hD
      have hoD := ndx ho1 hD
      have hd0 : Gr [o] H (upd H1 D (.dK [])) := g1.trans (Gr.new hD)
      refine turns (n := vs.length) walk_tup (fun i H' => Gr [D] (upd H1 D (.dK [])) H' ∧ ∃ kw, H' D = some (.dK kw) ∧ (∀ x, valV kw (.inr x) = if x ∈ (ws.take i).flatMap (·.2) then (wkOf ws x).map V.str else none) ∧ kw.length ≤ 4 * i) ⟨Gr.refl _ _, [], upd_same, fun x => rfl, Nat.le_refl _⟩ (fun i H' _ h => SqT.of (h.1.2 _ _ (by rw [upd_ne haD]; exact ha1))) ?_ ?_
      · rintro i x H2 H3 hi ⟨g2, kw, hk, hv, hl⟩ ⟨rfl, hx⟩
        obtain ⟨wd, hwd, dw⟩ := hws.map_get hx
        have gg : Ts H H3 := hd0.2.trans g2.2
        obtain ⟨p, c, rfl, hp, hc⟩ := wd_inv (dw.mono gg)
        have l4 := lw2 wd (List.mem_of_getElem? hwd)
        refine ⟨p, _, rfl, SqT.of hp, rfl, _, _, rfl, _, _, rfl, rfl, ?_⟩
        refine yes (iteT ⟨_, rfl, c, rfl, ⟨_, SqT.of hc⟩, ?_⟩)
        refine turns (n := (wd.2.map V.str).length) walk_tup (fun j H' => Gr [D] (upd H1 D (.dK [])) H' ∧ ∃ kw, H' D = some (.dK kw) ∧ (∀ x, valV kw (.inr x) = if x ∈ (ws.take i).flatMap (·.2) ++ wd.2.take j then (wkOf ws x).map V.str else none) ∧ kw.length ≤ 4 * i + j) ⟨g2, kw, hk, fun x => by rw [hv x, List.take_zero, List.append_nil], hl⟩ (fun j H' _ h => SqT.of (h.1.2 _ _ ?_)) ?_ ?_
        · exact (show upd H1 D (.dK []) c = some (.tup (wd.2.map V.str)) from by
            have := (wd_inv (dw.mono hd0.2))
            obtain ⟨p', c', e1, h1, h2⟩ := this
            cases e1
            have := g2.2 _ _ h1
            rw [hp] at this
            cases this
            exact h2)
        · rintro j y H4 H5 hj ⟨g4, kw4, hk4, hv4, hl4⟩ ⟨rfl, hy⟩
          rw [List.getElem?_map] at hy
          obtain ⟨z, hz, rfl⟩ := Option.map_eq_some_iff.mp hy
          have ez := wk_step ndw hwd hz
          unfold gName
          refine yes (iteT ⟨_, rfl, _, rfl, kw4, .inr z, rfl, hk4, ?_, rfl, g4.trans (Gr.at hk4 (fun _ q => nomatch q) List.mem_cons_self), _, upd_same, fun x => ?_, ?_⟩)
          · rw [List.length_map] at hj
            have := (List.getElem?_eq_some_iff.mp hwd).1
            rw [sizeLine_eq]; omega
          · rw [valV_snocs, take_one hz, hv4 x]
            by_cases e : x = z
            · subst e
              rw [if_pos rfl, if_pos (by simp), ez]
              rfl
            · rw [if_neg (fun q => e (Sum.inr.inj q))]
              by_cases e2 : x ∈ (ws.take i).flatMap (·.2) ++ wd.2.take j
              · rw [if_pos e2, if_pos (by rw [← List.append_assoc]; exact List.mem_append_left _ e2)]
              · rw [if_neg e2, if_neg (by rw [← List.append_assoc, List.mem_append, List.mem_singleton]; exact fun q => q.elim e2 e)]
          · have := length_putK kw4 (Sum.inr z) (V.str wd.1)
            omega
        · rintro H4 ⟨g4, kw4, hk4, hv4, hl4⟩
          refine ⟨rfl, g4, kw4, hk4, fun x => ?_, ?_⟩
          · rw [hv4 x, List.length_map, List.take_length, take_one hwd, List.flatMap_append, List.flatMap_cons, List.flatMap_nil, List.append_nil]
          · rw [List.length_map] at hl4
            omega
      · rintro H2 ⟨g2, kw, hk, hv, hl⟩
        have ho2 : H2 o = some (.ins T.cShape.C dx (putF "sealed" v2 [])) := g2.1 _ _ (by rw [upd_ne hoD]; exact ho1) (by simpa using hoD)
        have gH2 : Gr [o] H H2 := by
          have := (g1.wide (T := [D, o]) (by simp)).trans ((Gr.new (S := [D, o]) (o := .dK []) hD).trans (g2.wide (by simp)))
          exact this.since (g1.fresh hD (by simpa using Ne.symm hoD))
        refine ⟨_, rfl, o, _, dx, _, rfl, ho2, T.cShape.cl, T.n_Shape_word_kinds, (by show 1 < 1000; decide), rest _ _ ⟨rfl, D, kw, gH2.trans (gfin ho2), upd_same, (by rw [upd_ne (Ne.symm hoD)]; exact hk), ⟨fun x => ?_⟩⟩⟩
        rw [hv x, lvs, List.take_length]
        by_cases e : x ∈ ws.flatMap (·.2)
        · rw [if_pos e]
        · rw [if_neg e, wk_none fun w hw hx => e (List.mem_flatMap.mpr ⟨w, hw, hx⟩)]
          rfl
    rintro σ' H2 ⟨rfl, wk, kw, g2, ho2, hwk, tw⟩
    -- lots
    refine cut (fun σ' H' => σ' = σ0 ∧ ∃ lo kl, Gr [o] H H' ∧ H' o = some (.ins T.cShape.C dx (putF "lots" (.ref lo) (putF "word_kinds" (.ref wk) (putF "sealed" v2 [])))) ∧ H' wk = some (.dK kw) ∧ H' lo = some (.dK kl) ∧ TL ws kl) ?_ (fun rest => ?_)
    case refine_2 =>
      have ha1 := g2.2 _ _ ha
      refine ⟨_, rfl, a, rfl, ⟨_, SqT.of ha1⟩, fun D hD => ?_⟩
      have haD := ne_of_none ha1 hD
      have hoD := ndx ho2 hD
      have hwD := ne_of_none hwk hD
      refine turns (n := vs.length) walk_tup (fun i H' => Gr [D] (upd H2 D (.dK [])) H' ∧ ∃ kw, H' D = some (.dK kw) ∧ TL (ws.take i) kw ∧ kw.length ≤ i) ⟨Gr.refl _ _, [], upd_same, fun x => by simp [valV], Nat.le_refl _⟩ (fun i H' _ h => SqT.of (h.1.2 _ _ (by rw [upd_ne haD]; exact ha1))) ?_ ?_
      · rintro i x H3 H4 hi ⟨g3, kl, hk, hv, hl⟩ ⟨rfl, hx⟩
        obtain ⟨wd, hwd, dw⟩ := hws.map_get hx
        have gg : Ts H H4 := (g2.2.trans (Ts.new hD)).trans g3.2
        obtain ⟨p, c, rfl, hp, hc⟩ := wd_inv (dw.mono gg)
        refine ⟨p, _, rfl, SqT.of hp, rfl, _, _, rfl, _, _, rfl, rfl, rfl, yes (iteT ⟨_, rfl, _, rfl, kl, .inr wd.1, rfl, hk, ?_, g3.trans (Gr.at hk (fun _ q => nomatch q) List.mem_cons_self), _, upd_same, fun x => ?_, ?_⟩)⟩
        · rw [sizeLine_eq]; omega
        · rw [valV_snocs, take_one hwd]
          by_cases e : x = wd.1
          · rw [if_pos (by rw [e]), e]
            simp
          · rw [if_neg (fun q => e (Sum.inr.inj q)), hv x]
            simp [e]
        · have := length_putK kl (Sum.inr wd.1) (V.ref c)
          omega
      · rintro H3 ⟨g3, kl, hk, hv, hl⟩
        have ho3 := g3.1 _ _ (by rw [upd_ne hoD]; exact ho2) (by simpa using hoD)
        have hw3 := g3.1 _ _ (by rw [upd_ne hwD]; exact hwk) (by simpa using hwD)
        have gH3 : Gr [o] H H3 := ((g2.wide (T := [D, o]) (by simp)).trans ((Gr.new (S := [D, o]) (o := .dK []) hD).trans (g3.wide (by simp)))).since (g2.fresh hD (by simpa using Ne.symm hoD))
        rw [lvs, List.take_length] at hv
        have how : o ≠ wk := ne_of ho3 hw3 (fun z => nomatch z)
        exact ⟨_, rfl, o, _, dx, _, rfl, ho3, T.cShape.cl, T.n_Shape_lots, (by show 2 < 1000; decide), rest _ _ ⟨rfl, D, kl, gH3.trans (gfin ho3), upd_same, (by rw [upd_ne (Ne.symm how)]; exact hw3), (by rw [upd_ne (Ne.symm hoD)]; exact hk), hv⟩⟩
    rintro σ' H3 ⟨rfl, lo, kl, g3, ho3, hwk3, hlo, tl⟩
    -- heads
    refine cut (fun σ' H' => σ' = σ0 ∧ ∃ hd kh, Gr [o] H H' ∧ H' o = some (.ins T.cShape.C dx (putF "heads" (.ref hd) (putF "lots" (.ref lo) (putF "word_kinds" (.ref wk) (putF "sealed" v2 []))))) ∧ H' wk = some (.dK kw) ∧ H' lo = some (.dK kl) ∧ H' hd = some (.dK kh) ∧ TH H' hs kh) ?_ (fun rest => ?_)
    case refine_2 =>
      have hb1 := g3.2 _ _ hb
      refine ⟨_, rfl, b, rfl, ⟨_, SqT.of hb1⟩, fun D hD => ?_⟩
      have hbD := ne_of_none hb1 hD
      have hoD := ndx ho3 hD
      have hwD := ne_of_none hwk3 hD
      have hlD := ne_of_none hlo hD
      refine turns (n := us.length) walk_tup (fun i H' => Gr [D] (upd H3 D (.dK [])) H' ∧ ∃ kw, H' D = some (.dK kw) ∧ TH H' (hs.take i) kw ∧ kw.length ≤ i) ⟨Gr.refl _ _, [], upd_same, fun x => rfl, Nat.le_refl _⟩ (fun i H' _ h => SqT.of (h.1.2 _ _ (by rw [upd_ne hbD]; exact hb1))) ?_ ?_
      · rintro i x H4 H5 hi ⟨g4, kh, hk, hv, hl⟩ ⟨rfl, hx⟩
        obtain ⟨r, hr', dr⟩ := hhs.map_get hx
        have gg : Ts H H5 := (g3.2.trans (Ts.new hD)).trans g4.2
        obtain ⟨p, c, rfl, hp, hc⟩ := row_inv (dr.mono gg)
        refine ⟨p, _, rfl, SqT.of hp, rfl, _, _, rfl, _, _, rfl, _, _, rfl, rfl, rfl, yes (iteT ⟨_, rfl, _, rfl, _, rfl, (by show 2 ≤ sizeLine; decide), fun q hq => ?_⟩)⟩
        have gq : Gr [] H5 (upd H5 q (.tup [.ref c, .str r.2.2])) := Gr.new hq
        have hk' := gq.same _ _ hk
        have gD : Gr [D] (upd H5 q (.tup [.ref c, .str r.2.2])) (upd (upd H5 q (.tup [.ref c, .str r.2.2])) D (.dK (putK kh (.inr r.1) (.ref q)))) := Gr.at hk' (fun _ q => nomatch q) List.mem_cons_self
        refine ⟨kh, .inr r.1, rfl, hk', ?_, (g4.trans gq.less).trans gD, _, upd_same, fun x => ?_, ?_⟩
        · rw [sizeLine_eq]; omega
        · have old := hv x
          rw [take_one hr', fnd_snoc]
          by_cases e : x = r.1
          · subst e
            rw [fnd_fresh ndh hr', Option.none_or, if_pos rfl]
            exact ⟨.ref q, by rw [valV_snocs, if_pos rfl], q, c, rfl, gD.2 _ _ upd_same, gD.2 _ _ (gq.2 _ _ hc)⟩
          · rw [if_neg (fun z => e z.symm), Option.or_none]
            cases f : Tm.fnd (hs.take i) x with
            | none =>
              rw [f] at old
              show valV _ _ = none
              rw [valV_snocs, if_neg (fun z => e (Sum.inr.inj z))]
              exact old
            | some r2 =>
              rw [f] at old
              obtain ⟨v, h1, h2⟩ := old
              exact ⟨v, by rw [valV_snocs, if_neg (fun z => e (Sum.inr.inj z))]; exact h1, h2.mono (gq.2.trans gD.2)⟩
        · have := length_putK kh (Sum.inr r.1) (V.ref q)
          omega
      · rintro H4 ⟨g4, kh, hk, hv, hl⟩
        have ho4 := g4.1 _ _ (by rw [upd_ne hoD]; exact ho3) (by simpa using hoD)
        have hw4 := g4.1 _ _ (by rw [upd_ne hwD]; exact hwk3) (by simpa using hwD)
        have hl4 := g4.1 _ _ (by rw [upd_ne hlD]; exact hlo) (by simpa using hlD)
        have gH4 : Gr [o] H H4 := ((g3.wide (T := [D, o]) (by simp)).trans ((Gr.new (S := [D, o]) (o := .dK []) hD).trans (g4.wide (by simp)))).since (g3.fresh hD (by simpa using Ne.symm hoD))
        rw [lus, List.take_length] at hv
        have how : o ≠ wk := ne_of ho4 hw4 (fun z => nomatch z)
        have hol : o ≠ lo := ne_of ho4 hl4 (fun z => nomatch z)
        exact ⟨_, rfl, o, _, dx, _, rfl, ho4, T.cShape.cl, T.n_Shape_heads, (by show 3 < 1000; decide), rest _ _ ⟨rfl, D, kh, gH4.trans (gfin ho4), upd_same, (by rw [upd_ne (Ne.symm how)]; exact hw4), (by rw [upd_ne (Ne.symm hol)]; exact hl4), (by rw [upd_ne (Ne.symm hoD)]; exact hk), hv.mono (gfin ho4).2⟩⟩
    rintro σ' H4 ⟨rfl, hd, kh, g4, ho4, hwk4, hlo4, hhd, th⟩
    -- rank
    have hb1 := g4.2 _ _ hb
    refine ⟨_, rfl, b, _, rfl, SqT.of hb1, fun D hD => ?_⟩
    have hbD := ne_of_none hb1 hD
    have hoD := ndx ho4 hD
    have hwD := ne_of_none hwk4 hD
    have hlD := ne_of_none hlo4 hD
    have hhD := ne_of_none hhd hD
    refine turns (n := us.length) walk_enumT (fun i H' => Gr [D] (upd H4 D (.dK [])) H' ∧ ∃ kr, H' D = some (.dK kr) ∧ (∀ r ∈ hs.take i, valV kr (.inr r.1) = some (.int (rkOf hs r.1 : Nat))) ∧ kr.length ≤ i) ⟨Gr.refl _ _, [], upd_same, fun r hr => by simp at hr, Nat.le_refl _⟩ (fun i H' _ h => SqT.of (h.1.2 _ _ (by rw [upd_ne hbD]; exact hb1))) ?_ ?_
    · rintro i x H5 H6 hi ⟨g5, kr, hk, hv, hl⟩ ⟨U, y1, y2, rfl, hU, rfl, e1, e2⟩
      cases Option.some.inj e1
      obtain ⟨r, hr', dr⟩ := hhs.map_get (show us[i]? = some y2 from e2)
      have gU : Gr [] H5 (upd H5 U (.tup [.int (i : Nat), y2])) := Gr.new hU
      have gg : Ts H (upd H5 U (.tup [.int (i : Nat), y2])) := ((g4.2.trans (Ts.new hD)).trans g5.2).trans gU.2
      obtain ⟨p, c, rfl, hp, hc⟩ := row_inv (dr.mono gg)
      have hk' := gU.same _ _ hk
      refine ⟨U, _, rfl, SqT.of upd_same, rfl, _, _, rfl, _, _, rfl, rfl, rfl, yes (iteT ⟨_, rfl, p, _, _, _, rfl, rfl, SqT.of hp, at0, _, rfl, kr, .inr r.1, rfl, hk', ?_, (g5.trans gU.less).trans (Gr.at hk' (fun _ q => nomatch q) List.mem_cons_self), _, upd_same, fun r2 hr2 => ?_, ?_⟩)⟩
      · rw [sizeLine_eq]; omega
      · rw [take_one hr'] at hr2
        rcases List.mem_append.mp hr2 with hr2 | hr2
        · rw [valV_snocs]
          by_cases e : r2.1 = r.1
          · rw [if_pos (by rw [e]), e, rk_at ndh hr']
          · rw [if_neg (fun z => e (Sum.inr.inj z))]
            exact hv r2 hr2
        · rw [List.mem_singleton.mp hr2, valV_snocs, if_pos rfl, rk_at ndh hr']
      · have := length_putK kr (Sum.inr r.1) (V.int (i : Nat))
        omega
    · rintro H5 ⟨g5, kr, hk, hv, hl⟩
      have ho5 := g5.1 _ _ (by rw [upd_ne hoD]; exact ho4) (by simpa using hoD)
      have hw5 := g5.1 _ _ (by rw [upd_ne hwD]; exact hwk4) (by simpa using hwD)
      have hl5 := g5.1 _ _ (by rw [upd_ne hlD]; exact hlo4) (by simpa using hlD)
      have hh5 := g5.1 _ _ (by rw [upd_ne hhD]; exact hhd) (by simpa using hhD)
      have gH5 : Gr [o] H H5 := ((g4.wide (T := [D, o]) (by simp)).trans ((Gr.new (S := [D, o]) (o := .dK []) hD).trans (g5.wide (by simp)))).since (g4.fresh hD (by simpa using Ne.symm hoD))
      rw [lus, List.take_length] at hv
      have how : o ≠ wk := ne_of ho5 hw5 (fun z => nomatch z)
      have hol : o ≠ lo := ne_of ho5 hl5 (fun z => nomatch z)
      have hoh : o ≠ hd := ne_of ho5 hh5 (fun z => nomatch z)
      refine ⟨_, rfl, o, _, dx, _, rfl, ho5, T.cShape.cl, T.n_Shape_rank, (by show 4 < 1000; decide), ?_⟩
      have g45 : Ts H4 (upd H5 o (.ins T.cShape.C dx (putF "rank" (.ref D) (putF "heads" (.ref hd) (putF "lots" (.ref lo) (putF "word_kinds" (.ref wk) (putF "sealed" v2 []))))))) := ((Ts.new hD).trans g5.2).trans (gfin ho5).2
      exact k _ [wk, lo, hd, D] (gH5.trans (gfin ho5)) ⟨dx, v2, wk, lo, hd, D, kw, kl, kh, kr, upd_same, rfl, (by rw [upd_ne (Ne.symm how)]; exact hw5), (by rw [upd_ne (Ne.symm hol)]; exact hl5), (by rw [upd_ne (Ne.symm hoh)]; exact hh5), (by rw [upd_ne (Ne.symm hoD)]; exact hk), tw, tl, th.mono g45, hv⟩
end
end Dr
/-! terms told by a shape; what is a law -/
namespace Dr
open PySem L2
def kindT (ws : List Wd) (hs : List Tm.Row) : Tm → Option Str
  | .w x => wkOf ws x
  | .u _ => none
  | .c g _ => (Tm.fnd hs g.1).map (·.2.2)
def vO : Option Str → V
  | none => .non
  | some k => .str k
def isAsk (ws : List Wd) (hs : List Tm.Row) : Tm → Bool
  | .c g _ => match Tm.fnd hs g.1 with
    | none => false
    | some r => decide (r.2.2 ∈ ws.map (·.1))
  | _ => false
/-- what is kept of the unknowns' kinds is right -/
def FT (T : Fin 1000 → Option Str) (kvs : List (Key × V)) : Prop := ∀ (m : Fin 1000) x, valV kvs (.inl (m.1 : Int)) = some x → ∃ k, T m = some k ∧ x = .str k
def Has (kvs : List (Key × V)) (m : Fin 1000) : Prop := (valV kvs (.inl (m.1 : Int))).isSome = true
abbrev KdT (ws : List Wd) (hs : List Tm.Row) (T : Fin 1000 → Option Str) (t : Tm) (k : Str) : Prop := Tm.kd (wkOf ws) hs T t k = true
theorem sh_no {sV : V} {wk lo hd rk : Addr} {f : Str} (h : f = "kind_of" ∨ f = "is_asker" ∨ f = "told" ∨ f = "told_together" ∨ f = "told_beside" ∨ f = "kind_by") : (sF sV wk lo hd rk).lookup f = none := by
  rcases h with rfl | rfl | rfl | rfl | rfl | rfl <;> exact sF_no (by decide +kernel) (by decide +kernel) (by decide +kernel) (by decide +kernel) (by decide +kernel)
@[irreducible] def spKindOf (C : Addr) : Sp := fun vs H Q _ => ∃ (o : Addr) (v : V) (ws : List Wd) (hs : List Tm.Row) (ds : List Addr) (t : Tm), vs = [.ref o, v] ∧ Sh C ws hs o ds H ∧ Dd H v t.enc ∧ (t.isU = true ∨ (kindT ws hs t).isSome = true) ∧ Q (vO (kindT ws hs t)) H
theorem spKindOf_of {C : Addr} {vs : List V} {H : Hp} {Q : VK} {E : XK} (h : ∃ (o : Addr) (v : V) (ws : List Wd) (hs : List Tm.Row) (ds : List Addr) (t : Tm), vs = [.ref o, v] ∧ Sh C ws hs o ds H ∧ Dd H v t.enc ∧ (t.isU = true ∨ (kindT ws hs t).isSome = true) ∧ Q (vO (kindT ws hs t)) H) : spKindOf C vs H Q E := by unfold spKindOf; exact h
@[irreducible] def spAsk (C : Addr) : Sp := fun vs H Q _ => ∃ (o : Addr) (v : V) (ws : List Wd) (hs : List Tm.Row) (ds : List Addr) (t : Tm), vs = [.ref o, v] ∧ Sh C ws hs o ds H ∧ Dd H v t.enc ∧ Tm.ok hs t = true ∧ Q (.bl (isAsk ws hs t)) H
theorem spAsk_of {C : Addr} {vs : List V} {H : Hp} {Q : VK} {E : XK} (h : ∃ (o : Addr) (v : V) (ws : List Wd) (hs : List Tm.Row) (ds : List Addr) (t : Tm), vs = [.ref o, v] ∧ Sh C ws hs o ds H ∧ Dd H v t.enc ∧ Tm.ok hs t = true ∧ Q (.bl (isAsk ws hs t)) H) : spAsk C vs H Q E := by unfold spAsk; exact h
def spTold (C : Addr) (n : Nat) : Sp := fun vs H Q _ => ∃ (o f : Addr) (v kv : V) (ws : List Wd) (hs : List Tm.Row) (ds : List Addr) (T : Fin 1000 → Option Str) (t : Tm) (k : Str) (kvs : List (Key × V)), vs = [.ref o, v, kv, .ref f] ∧ Sh C ws hs o ds H ∧ f ∉ ds ∧ Dd H v t.enc ∧ t.dep < n ∧ (∀ r ∈ hs, r.2.1.length ≤ 3) ∧
  KdT ws hs T t k ∧ (kv = .str k ∨ kv = .non) ∧ H f = some (.dK kvs) ∧ FT T kvs ∧ kvs.length + t.size ≤ 100000 ∧
  ∀ H' kvs', Gr [f] H H' → H' f = some (.dK kvs') → FT T kvs' → (∀ m, Has kvs m → Has kvs' m) → ((kv = .non → t.isC = true) → ∀ m ∈ t.unk, Has kvs' m) → kvs'.length ≤ kvs.length + t.size → Q (.bl true) H'
@[irreducible] def spTT (C : Addr) : Sp := fun vs H Q _ => ∃ (o l p1 p2 : Addr) (v1 v2 : V) (ws : List Wd) (hs : List Tm.Row) (ds : List Addr) (T : Fin 1000 → Option Str) (g : Hd) (ts : List Tm) (t2 : Tm) (k1 k2 : Str), vs = [.ref o, .ref l] ∧ Sh C ws hs o ds H ∧ H l = some (.lst [.ref p1, .ref p2]) ∧ H p1 = some (.tup [v1, .non]) ∧ H p2 = some (.tup [v2, .non]) ∧
  Dd H v1 (Tm.c g ts).enc ∧ Dd H v2 t2.enc ∧ (Tm.c g ts).dep < 8 ∧ t2.dep < 8 ∧ (Tm.c g ts).size ≤ 1000 ∧ t2.size ≤ 1000 ∧ (∀ r ∈ hs, r.2.1.length ≤ 3) ∧ KdT ws hs T (.c g ts) k1 ∧ KdT ws hs T t2 k2 ∧ (∀ m ∈ t2.unk, m ∈ (Tm.c g ts).unk) ∧
  ∀ H' f kvs, Gr [] H H' → H' f = some (.dK kvs) → FT T kvs → (∀ m ∈ (Tm.c g ts).unk, Has kvs m) → Q (.ref f) H'
theorem spTT_of {C : Addr} {vs : List V} {H : Hp} {Q : VK} {E : XK} (h : ∃ (o l p1 p2 : Addr) (v1 v2 : V) (ws : List Wd) (hs : List Tm.Row) (ds : List Addr) (T : Fin 1000 → Option Str) (g : Hd) (ts : List Tm) (t2 : Tm) (k1 k2 : Str), vs = [.ref o, .ref l] ∧ Sh C ws hs o ds H ∧ H l = some (.lst [.ref p1, .ref p2]) ∧ H p1 = some (.tup [v1, .non]) ∧ H p2 = some (.tup [v2, .non]) ∧
  Dd H v1 (Tm.c g ts).enc ∧ Dd H v2 t2.enc ∧ (Tm.c g ts).dep < 8 ∧ t2.dep < 8 ∧ (Tm.c g ts).size ≤ 1000 ∧ t2.size ≤ 1000 ∧ (∀ r ∈ hs, r.2.1.length ≤ 3) ∧ KdT ws hs T (.c g ts) k1 ∧ KdT ws hs T t2 k2 ∧ (∀ m ∈ t2.unk, m ∈ (Tm.c g ts).unk) ∧
  ∀ H' f kvs, Gr [] H H' → H' f = some (.dK kvs) → FT T kvs → (∀ m ∈ (Tm.c g ts).unk, Has kvs m) → Q (.ref f) H') : spTT C vs H Q E := by unfold spTT; exact h
@[irreducible] def spKB (C : Addr) : Sp := fun vs H Q _ => ∃ (o f : Addr) (v : V) (ws : List Wd) (hs : List Tm.Row) (ds : List Addr) (T : Fin 1000 → Option Str) (t : Tm) (k : Str) (kvs : List (Key × V)), vs = [.ref o, .ref f, v] ∧ Sh C ws hs o ds H ∧ H f = some (.dK kvs) ∧ FT T kvs ∧ Dd H v t.enc ∧ KdT ws hs T t k ∧ (∀ m ∈ t.unk, Has kvs m) ∧ Q (.str k) H
theorem spKB_of {C : Addr} {vs : List V} {H : Hp} {Q : VK} {E : XK} (h : ∃ (o f : Addr) (v : V) (ws : List Wd) (hs : List Tm.Row) (ds : List Addr) (T : Fin 1000 → Option Str) (t : Tm) (k : Str) (kvs : List (Key × V)), vs = [.ref o, .ref f, v] ∧ Sh C ws hs o ds H ∧ H f = some (.dK kvs) ∧ FT T kvs ∧ Dd H v t.enc ∧ KdT ws hs T t k ∧ (∀ m ∈ t.unk, Has kvs m) ∧ Q (.str k) H) : spKB C vs H Q E := by unfold spKB; exact h
@[irreducible] def spTB (C : Addr) : Sp := fun vs H Q _ => ∃ (o : Addr) (v1 v2 : V) (ws : List Wd) (hs : List Tm.Row) (ds : List Addr) (T : Fin 1000 → Option Str) (g : Hd) (ts : List Tm) (t2 : Tm) (k : Str), vs = [.ref o, v1, v2] ∧ Sh C ws hs o ds H ∧
  Dd H v1 (Tm.c g ts).enc ∧ Dd H v2 t2.enc ∧ (Tm.c g ts).dep < 8 ∧ t2.dep < 8 ∧ (Tm.c g ts).size ≤ 1000 ∧ t2.size ≤ 1000 ∧ (∀ r ∈ hs, r.2.1.length ≤ 3) ∧ KdT ws hs T (.c g ts) k ∧ KdT ws hs T t2 k ∧ (∀ m ∈ t2.unk, m ∈ (Tm.c g ts).unk) ∧ ∀ H' f, Gr [] H H' → Q (.ref f) H'
theorem spTB_of {C : Addr} {vs : List V} {H : Hp} {Q : VK} {E : XK} (h : ∃ (o : Addr) (v1 v2 : V) (ws : List Wd) (hs : List Tm.Row) (ds : List Addr) (T : Fin 1000 → Option Str) (g : Hd) (ts : List Tm) (t2 : Tm) (k : Str), vs = [.ref o, v1, v2] ∧ Sh C ws hs o ds H ∧
  Dd H v1 (Tm.c g ts).enc ∧ Dd H v2 t2.enc ∧ (Tm.c g ts).dep < 8 ∧ t2.dep < 8 ∧ (Tm.c g ts).size ≤ 1000 ∧ t2.size ≤ 1000 ∧ (∀ r ∈ hs, r.2.1.length ≤ 3) ∧ KdT ws hs T (.c g ts) k ∧ KdT ws hs T t2 k ∧ (∀ m ∈ t2.unk, m ∈ (Tm.c g ts).unk) ∧ ∀ H' f, Gr [] H H' → Q (.ref f) H') : spTB C vs H Q E := by unfold spTB; exact h
theorem kds_get {wk : Str → Option Str} {hs : List Tm.Row} {T : Fin 1000 → Option Str} : ∀ {ts : List Tm} {ks : List Str} {i : Nat} {t : Tm} {k : Str}, Tm.kds wk hs T ts ks = true → ts[i]? = some t → ks[i]? = some k → Tm.kd wk hs T t k = true
  | [], _, i, t, k, _, h, _ => by simp at h
  | _ :: _, [], i, t, k, _, _, h => by simp at h
  | t :: ts, k :: ks, 0, t', k', e, h1, h2 => by
    simp only [Tm.kds, Bool.and_eq_true] at e
    simp only [List.getElem?_cons_zero, Option.some.injEq] at h1 h2
    subst h1
    subst h2
    exact e.1
  | t :: ts, k :: ks, i + 1, t', k', e, h1, h2 => by
    simp only [Tm.kds, Bool.and_eq_true] at e
    exact kds_get e.2 (by simpa using h1) (by simpa using h2)
theorem Tm.unks_app : ∀ a b : List Tm, Tm.unks (a ++ b) = Tm.unks a ++ Tm.unks b
  | [], b => by simp [Tm.unks]
  | t :: a, b => by simp [Tm.unks, Tm.unks_app a b]
theorem fnd_mem {hs : List Tm.Row} {h : Str} {r : Tm.Row} (f : Tm.fnd hs h = some r) : r ∈ hs ∧ r.1 = h := ⟨List.mem_of_find?_eq_some f, by simpa using List.find?_some f⟩
theorem ok_fnd {hs : List Tm.Row} {g : Hd} {ts : List Tm} (h : Tm.ok hs (.c g ts) = true) : ∃ r, Tm.fnd hs g.1 = some r := let ⟨r, _, _, f, _⟩ := Tm.ok_known h; ⟨r, f⟩
theorem TH.get {H : Hp} {hs : List Tm.Row} {kvs : List (Key × V)} {h : Str} {r : Tm.Row} (t : TH H hs kvs) (f : Tm.fnd hs h = some r) : ∃ p q, valV kvs (.inr h) = some (.ref p) ∧ H p = some (.tup [.ref q, .str r.2.2]) ∧ H q = some (.tup (r.2.1.map V.str)) := by
  have := t h
  rw [f] at this
  obtain ⟨v, h1, p, q, rfl, h2, h3⟩ := this
  exact ⟨p, q, h1, h2, h3⟩
section
variable {P : Program} {w : World} {K : PySem.W.Frag} {mg : Str → Option Value} {base : Heap}
theorem sc_Shape_kind_of : FnScope ["self", "term"] ["self", "term"] (defScope s_Shape_kind_of) := ⟨rfl, rfl, rfl, by decide +kernel, rfl, by decide +kernel, by decide +kernel⟩
theorem ok_Shape_kind_of (T : Tx K mg) : FnOk P w K mg base CX0 3 T.f_Shape_kind_of.f T.f_Shape_kind_of.fd ["self", "term"] (spKindOf T.cShape.C) := by
  refine T.f_Shape_kind_of.F.ok sc_Shape_kind_of (fun vs H Q E h => ?_) (fun cdv A outer s H vs Q E hr h => ?_)
  · unfold spKindOf at h
    obtain ⟨o, v, ws, hs, ds, t, rfl, _⟩ := h
    rfl
  · have nd := sc_Shape_kind_of.nd
    refine ⟨_, (pss_cons (ps_if (pt_val (pe_call (ok_is_word T) (hr.mono (by omega)) rfl T.f_is_word.g T.f_is_word.F.kp T.f_is_word.b .nil pass0 (pa_cons (pv 1) pa_nil))) (pss_one (ps_ret (pe_dget (hu_of hr) (fldK K (pv 0)) (pv 1) (fun _ _ => rfl)))) pss_nil) (pss_one (ps_ret (pe_ifExp (pt_val (pe_call (ok_is_called T) (hr.mono (by omega)) rfl T.f_is_called.g T.f_is_called.F.kp T.f_is_called.b .nil pass0 (pa_cons (pv 1) pa_nil))) (pe_ix (ixT K) (pe_dget (hu_of hr) (fldK K (pv 0)) (pe_ix (ixT K) (pv 1) pe_int (fun _ _ => rfl)) (fun _ _ => rfl)) pe_int (fun _ _ => rfl)) pe_non)))), ?_⟩
    unfold spKindOf at h
    obtain ⟨o, v, ws, hs, ds, t, rfl, sh, hd, hk, k⟩ := h
    obtain ⟨dx, sV, wk, lo, hdd, rk, kw, kl, kh, kr, ho, rfl, hwk, hlo, hhd, hrk, tw, tl, th, tr⟩ := sh.it
    refine ⟨_, rfl, ?_⟩
    show spWord [v] H _ _
    refine spWord_of ⟨v, t, rfl, hd, _, rfl, ?_⟩
    cases t with
    | w x =>
      refine iteT ?_
      cases word_inv hd
      cases e : wkOf ws x with
      | none => simp [kindT, Tm.isU, e] at hk
      | some kk =>
        have ev : valV kw (.inr x) = some (.str kk) := by rw [tw.at_ x, e]; rfl
        refine ⟨_, rfl, o, _, dx, _, _, rfl, ho, T.cShape.cl, T.n_Shape_word_kinds, sF_wk, _, rfl, wk, .str kk, rfl, (by rw [← ev]; exact DGet.k (k := Sum.inr x) hwk), ?_⟩
        simp only [kindT, e, vO] at k
        exact k
    | u m =>
      refine iteF ⟨_, rfl, ?_⟩
      show spCalled [v] H _ _
      exact spCalled_of ⟨v, _, rfl, hd, _, rfl, iteF k⟩
    | c g ts =>
      refine iteF ⟨_, rfl, ?_⟩
      show spCalled [v] H _ _
      refine spCalled_of ⟨v, _, rfl, hd, _, rfl, iteT ?_⟩
      obtain ⟨a, vs, rfl, ha, hv⟩ := called_inv hd
      cases f : Tm.fnd hs g.1 with
      | none => simp [kindT, Tm.isU, f] at hk
      | some r =>
        obtain ⟨p, q, e1, hp, hq⟩ := th.get f
        simp only [kindT, f, vO, Option.map_some] at k
        exact ⟨_, rfl, o, _, dx, _, _, rfl, ho, T.cShape.cl, T.n_Shape_heads, sF_hd, _, rfl, a, _, _, _, rfl, rfl, SqT.of ha, at0, hdd, .ref p, rfl, (by rw [← e1]; exact DGet.k (k := Sum.inr g.1) hhd), p, _, _, _, rfl, rfl, SqT.of hp, at1, k⟩
theorem sc_Shape_is_asker : FnScope ["self", "term"] ["self", "term"] (defScope s_Shape_is_asker) := ⟨rfl, rfl, rfl, by decide +kernel, rfl, by decide +kernel, by decide +kernel⟩
theorem ok_Shape_is_asker (T : Tx K mg) : FnOk P w K mg base CX0 3 T.f_Shape_is_asker.f T.f_Shape_is_asker.fd ["self", "term"] (spAsk T.cShape.C) := by
  refine T.f_Shape_is_asker.F.ok sc_Shape_is_asker (fun vs H Q E h => ?_) (fun cdv A outer s H vs Q E hr h => ?_)
  · unfold spAsk at h
    obtain ⟨o, v, ws, hs, ds, t, rfl, _⟩ := h
    rfl
  · have nd := sc_Shape_is_asker.nd
    refine ⟨_, (pss_one (ps_ret (pe_and (pe_call (ok_is_called T) (hr.mono (by omega)) rfl T.f_is_called.g T.f_is_called.F.kp T.f_is_called.b .nil pass0 (pa_cons (pv 1) pa_nil)) (pe_one (pe_cmp (pc_din (hu_of hr) (pe_ix (ixT K) (pe_dget (hu_of hr) (fldK K (pv 0)) (pe_ix (ixT K) (pv 1) pe_int (fun _ _ => rfl)) (fun _ _ => rfl)) pe_int (fun _ _ => rfl)) (fldK K (pv 0))) rfl))))), ?_⟩
    unfold spAsk at h
    obtain ⟨o, v, ws, hs, ds, t, rfl, sh, hd, hk, k⟩ := h
    obtain ⟨dx, sV, wk, lo, hdd, rk, kw, kl, kh, kr, ho, rfl, hwk, hlo, hhd, hrk, tw, tl, th, tr⟩ := sh.it
    refine ⟨_, rfl, ?_⟩
    show spCalled [v] H _ _
    refine spCalled_of ⟨v, t, rfl, hd, _, rfl, ?_⟩
    cases t with
    | w x => exact iteF k
    | u m => exact iteF k
    | c g ts =>
      refine iteT ?_
      obtain ⟨a, vs, rfl, ha, hv⟩ := called_inv hd
      obtain ⟨r, f⟩ := ok_fnd hk
      obtain ⟨p, q, e1, hp, hq⟩ := th.get f
      simp only [isAsk, f] at k
      refine ⟨_, rfl, o, _, dx, _, _, rfl, ho, T.cShape.cl, T.n_Shape_heads, sF_hd, _, rfl, a, _, _, _, rfl, rfl, SqT.of ha, at0, hdd, .ref p, rfl, (by rw [← e1]; exact DGet.k (k := Sum.inr g.1) hhd), p, _, _, _, rfl, rfl, SqT.of hp, at1, _, rfl, o, _, dx, _, _, rfl, ho, T.cShape.cl, T.n_Shape_lots, sF_lo, lo, _, rfl, DGet.k (k := Sum.inr r.2.2) hlo, ?_⟩
      rw [tl r.2.2]
      exact k
theorem sc_Shape_told : FnScope ["self", "thing", "kind", "found", "kinds", "own", "part", "its"] ["self", "thing", "kind", "found"] (defScope s_Shape_told) := ⟨rfl, rfl, rfl, by decide +kernel, rfl, by decide +kernel, by decide +kernel⟩
theorem ok_Shape_told (T : Tx K mg) : ∀ n, FnOk P w K mg base CX0 (n + 4) T.f_Shape_told.f T.f_Shape_told.fd ["self", "thing", "kind", "found"] (spTold T.cShape.C n)
  | 0 => T.f_Shape_told.F.ok (k := 3) sc_Shape_told (fun vs H Q E ⟨_, _, _, _, _, _, _, _, _, _, _, _, _, _, _, h, _⟩ => absurd h (Nat.not_lt_zero _)) (fun cdv A outer s H vs Q E hr ⟨_, _, _, _, _, _, _, _, _, _, _, _, _, _, _, h, _⟩ => absurd h (Nat.not_lt_zero _))
  | n + 1 => by
    have ih := ok_Shape_told T n
    refine T.f_Shape_told.F.ok (k := n + 4) sc_Shape_told (fun vs H Q E h => ?_) (fun cdv A outer s H vs Q E hr h => ?_)
    · obtain ⟨o, f, v, kv, ws, hs, ds, T', t, kk, kvs, rfl, _⟩ := h
      rfl
    · have nd := sc_Shape_told.nd
      refine ⟨_, (pss_cons (ps_if (pt_val (pe_callB (isiK K) (by rfl) T.z_isinstance (by decide +kernel) (pa_cons (pv 1) (pa_cons (pe_bltn (v := .ty "str") (u := .type "str") (by rfl) T.z_str (by decide +kernel) rfl) pa_nil)))) (pss_one (ps_ret (pe_and (pe_cmp (pc_din (hu_of hr) (pv 1) (fldK K (pv 0))) rfl) (pe_one (pe_cmpR op_inF (pv 2) (pe_tup (pa_cons pe_non (pa_cons (pe_dget (hu_of hr) (fldK K (pv 0)) (pv 1) (fun _ _ => rfl)) pa_nil))) (by rfl)))))) pss_nil) (pss_cons (ps_if (pt_val (pe_call (ok_is_unknown T) (hr.mono (by omega)) rfl T.f_is_unknown.g T.f_is_unknown.F.kp T.f_is_unknown.b .nil pass0 (pa_cons (pv 1) pa_nil))) (pss_cons (ps_if (PW.pt (pw_and (pt_cmpR op_notN (pv 2) pe_non (nomark _)) (pw_and1 (pt_cmpR op_ne (pe_dsetd (pv 3) (pe_ix (ixT K) (pv 1) pe_int (fun _ _ => rfl)) (pv 2) ⟨by rfl, by rfl, by rfl, by rfl⟩) (pv 2) (nomark _))))) (pss_one (ps_ret pe_bl)) pss_nil) (pss_one (ps_ret pe_bl))) pss_nil) (pss_cons (ps_if (PW.pt (pw_or (pt_not (pt_val (pe_call (ok_is_tuple T) (hr.mono (by omega)) rfl T.f_is_tuple.g T.f_is_tuple.F.kp T.f_is_tuple.b .nil pass0 (pa_cons (pv 1) (pa_cons pe_int (pa_cons (pe_op op_add (pe_glo (by rfl) T.gMOST_SHAPE) pe_int) pa_nil)))))) (pw_or (pt_not (pt_val (pe_callB (isiK K) (by rfl) T.z_isinstance (by decide +kernel) (pa_cons (pe_ix (ixT K) (pv 1) pe_int (fun _ _ => rfl)) (pa_cons (pe_bltn (v := .ty "str") (u := .type "str") (by rfl) T.z_str (by decide +kernel) rfl) pa_nil))))) (pw_or1 (pt_cmp (pc_dnotin (hu_of hr) (pe_ix (ixT K) (pv 1) pe_int (fun _ _ => rfl)) (fldK K (pv 0)))))))) (pss_one (ps_ret pe_bl)) pss_nil) (pss_cons (ps_asg (pe_dget (hu_of hr) (fldK K (pv 0)) (pe_ix (ixT K) (pv 1) pe_int (fun _ _ => rfl)) (fun _ _ => rfl)) (pgT K 2 (pgs_cons (pg_name (i := 4) nd rfl (Or.inl rfl) (Or.inr rfl)) (pgs_cons (pg_name (i := 5) nd rfl (Or.inl rfl) (Or.inr rfl)) pgs_nil)))) (pss_cons (ps_if (PW.pt (pw_or (pt_cmpR op_ne (pe_callB (lenK K) (by rfl) T.z_len (by decide +kernel) (pa_cons (pv 4) pa_nil)) (pe_op op_sub (pe_callB (lenK K) (by rfl) T.z_len (by decide +kernel) (pa_cons (pv 1) pa_nil)) pe_int) (nomark _)) (pw_or1 (pt_cmpR op_notInF (pv 2) (pe_tup (pa_cons pe_non (pa_cons (pv 5) pa_nil))) (by rfl))))) (pss_one (ps_ret pe_bl)) pss_nil) (pss_one (ps_ret (pe_callB (allK K) (by rfl) T.z_all (by decide +kernel) (pa_cons (pe_lc (own := [("part", 6), ("its", 7)]) rfl nd (RZ.pi_zipA (by rfl) T.z_zip (pa_cons (pe_slice sl_tupN (pv 1) (po_some pe_int) po_none) (pa_cons (pv 4) pa_nil))) (blkOk_by (own := [("part", 6), ("its", 7)]) (N := ["self", "thing", "kind", "found", "kinds", "own", "part", "its"]) (sc := defScope s_Shape_told) (by decide +kernel)) (fun _ _ _ _ _ => (pgT K 2 (pgs_cons (pg_name (i := 6) nd rfl (Or.inl rfl) (Or.inr rfl)) (pgs_cons (pg_name (i := 7) nd rfl (Or.inl rfl) (Or.inr rfl)) pgs_nil)))) (fun _ _ _ _ _ => pts_nil) (fun _ _ _ _ _ => (pe_meth (pv 0) T.cShape.cl T.f_Shape_told.M ih hr T.f_Shape_told.b .nil pass0 (pa_cons (pv 6) (pa_cons (pv 7) (pa_cons (pv 3) pa_nil)))))) pa_nil))))))))), ?_⟩
      obtain ⟨o, f, v, kv, ws, hs, ds, TT, t, kk, kvs, rfl, sh, hfd, hd, hn, h3, kd, hkv, hf, ft, hz, k⟩ := h
      obtain ⟨dx, sV, wk, lo, hdd, rk, kw, kl, kh, kr, ho, eds, hwk, hlo, hhd, hrk, tw, tl, th, tr⟩ := sh.it
      have flatk : flatV kv = true := by rcases hkv with rfl | rfl <;> rfl
      have inK : inV kv [.non, .str kk] = true := by
        rcases hkv with rfl | rfl
        · show (false || ((kk == kk) || false)) = true
          rw [beq_self_eq_true]
          rfl
        · rfl
      have nK : ∀ {H' : Hp} {p : Addr}, H' p = some (.tup [.non, .str kk]) → rInF false kv (.ref p) H' (fun z H'' => z = .bl true ∧ H'' = H') := fun hp => ⟨_, _, rfl, .inr hp, flatk, rfl, by
        show V.bl (inV kv [.non, .str kk]) = _ ∧ _
        rw [inK]
        exact ⟨rfl, rfl⟩⟩
      cases t with
      | w x =>
        cases word_inv hd
        have ew : wkOf ws x = some kk := by simpa only [KdT, Tm.kd, decide_eq_true_eq] using kd
        have ev : valV kw (.inr x) = some (.str kk) := by rw [tw.at_ x, ew]; rfl
        refine ⟨_, rfl, ⟨_, _, _, _, true, rfl, .ty _, .base (.str _), kit_ty (by decide +kernel), ⟨true, rfl, iteT ?_⟩⟩⟩
        refine ⟨_, rfl, _, rfl, o, _, dx, _, _, rfl, ho, T.cShape.cl, T.n_Shape_word_kinds, sF_wk, wk, _, rfl, DGet.k (k := Sum.inr x) hwk, true, by rw [ev]; rfl, iteT ?_⟩
        refine ⟨_, rfl, _, rfl, o, _, dx, _, _, rfl, ho, T.cShape.cl, T.n_Shape_word_kinds, sF_wk, _, rfl, wk, .str kk, rfl, (by rw [← ev]; exact DGet.k (k := Sum.inr x) hwk), (by show 2 ≤ sizeLine; decide), fun p hp => ⟨p, _, rfl, .inr upd_same, flatk, rfl, ?_⟩⟩
        show Q (V.bl (inV kv [.non, .str kk])) _
        rw [inK]
        have gp : Gr [] H (upd H p (.tup [.non, .str kk])) := Gr.new hp
        exact k _ kvs gp.less (gp.same _ _ hf) ft (fun _ h => h) (fun _ m hm => by simp [Tm.unk] at hm) (by omega)
      | u m =>
        obtain ⟨a, rfl, ha⟩ := unk_inv hd
        refine ⟨_, rfl, ⟨_, _, _, _, false, rfl, .ty _, .base (.tup ha), kit_ty (by decide +kernel), ⟨false, rfl, iteF ?_⟩⟩⟩
        have eT : TT m = some kk := by simpa only [KdT, Tm.kd, decide_eq_true_eq] using kd
        refine ⟨_, rfl, ?_⟩
        show spUnknown [.ref a] H _ _
        refine spUnknown_of ⟨.ref a, _, rfl, hd, _, rfl, iteT ?_⟩
        rcases hkv with rfl | rfl
        · refine ⟨_, rfl, rfl, _, rfl, iteT ?_⟩
          have few : kvs.length < sizeLine := by rw [sizeLine_eq]; omega
          refine ⟨_, rfl, f, rfl, .inl ⟨_, .inl hf⟩, _, rfl, a, _, _, _, rfl, rfl, SqT.of ha, at1, _, rfl, kvs, .inl (m.1 : Int), hf, rfl, few, fun v hv => ?_, fun hno => ?_⟩
          · obtain ⟨k', hk', rfl⟩ := ft m v hv
            rw [eT] at hk'
            cases hk'
            refine ⟨_, rfl, rfl, _, ne_same, iteF ?_⟩
            exact k H kvs (Gr.refl _ _) hf ft (fun _ h => h) (fun _ j hj => by
              simp only [Tm.unk, List.mem_singleton] at hj
              subst hj
              unfold Has
              rw [hv]
              rfl) (by omega)
          · refine ⟨_, rfl, rfl, _, ne_same, iteF ?_⟩
            have hput : ∀ j : Fin 1000, valV (putK kvs (.inl (m.1 : Int)) (.str kk)) (.inl (j.1 : Int)) = if j = m then some (.str kk) else valV kvs (.inl (j.1 : Int)) := fun j => by
              rw [valV_snocs]
              by_cases e : j = m
              · rw [if_pos e, if_pos (by rw [e])]
              · rw [if_neg e, if_neg (fun z => e (Fin.ext (by have := Sum.inl.inj z; omega)))]
            refine k _ _ (Gr.at hf (fun _ z => nomatch z) List.mem_cons_self) upd_same (fun j x hx => ?_) (fun j hj => ?_) (fun _ j hj => ?_) ?_
            · rw [hput] at hx
              by_cases e : j = m
              · rw [if_pos e] at hx
                exact ⟨kk, by rw [e]; exact eT, (Option.some.inj hx).symm⟩
              · rw [if_neg e] at hx
                exact ft j x hx
            · unfold Has at hj ⊢
              rw [hput]
              by_cases e : j = m
              · rw [if_pos e]; rfl
              · rw [if_neg e]; exact hj
            · simp only [Tm.unk, List.mem_singleton] at hj
              unfold Has
              rw [hput, if_pos hj]
              rfl
            · have := length_putK kvs (Sum.inl (m.1 : Int)) (V.str kk)
              simp only [Tm.size]
              omega
        · refine ⟨_, rfl, rfl, _, rfl, iteF ?_⟩
          exact k H kvs (Gr.refl _ _) hf ft (fun _ h => h) (fun h => absurd (h rfl) (by simp [Tm.isC])) (by omega)
      | c g ts =>
        obtain ⟨a, vs, rfl, ha, hv⟩ := called_inv hd
        have lv := hv.tms
        have zl := Tm.length_sizes ts
        simp only [KdT, Tm.kd] at kd
        cases fd : Tm.fnd hs g.1 with
        | none => rw [fd] at kd; cases kd
        | some r =>
          rw [fd] at kd
          simp only [Bool.and_eq_true, decide_eq_true_eq] at kd
          obtain ⟨ek, kds⟩ := kd
          subst ek
          obtain ⟨rm, rn⟩ := fnd_mem fd
          have l3 := h3 r rm
          have lt := (Tm.oks_of_kds kds).1
          obtain ⟨p, q, e1, hp, hq⟩ := th.get fd
          simp only [Tm.dep, Tm.size] at hn hz
          refine ⟨_, rfl, ⟨_, _, _, _, false, rfl, .ty _, .base (.tup ha), kit_ty (by decide +kernel), ⟨false, rfl, iteF ?_⟩⟩⟩
          refine ⟨_, rfl, ?_⟩
          show spUnknown [.ref a] H _ _
          refine spUnknown_of ⟨.ref a, _, rfl, hd, _, rfl, iteF ?_⟩
          refine ⟨_, rfl, _, _, rfl, rfl, ?_⟩
          show spTuple [.ref a, .int 1, .int (3 + 1)] H _ _
          refine spTuple_of ⟨_, _, _, rfl, .inr ⟨a, _, rfl, ha, ?_⟩⟩
          rw [decide_eq_true (show (1 : Int) ≤ ((V.str g.1 :: vs).length : Int) by rw [List.length_cons]; omega), decide_eq_true (show ((V.str g.1 :: vs).length : Int) ≤ 3 + 1 by rw [List.length_cons]; omega)]
          refine ⟨true, rfl, iteF ?_⟩
          refine ⟨_, rfl, a, _, _, _, rfl, rfl, SqT.of ha, at0, ⟨_, _, _, _, true, rfl, .ty _, .base (.str _), kit_ty (by decide +kernel), ⟨true, rfl, iteF ?_⟩⟩⟩
          refine ⟨_, rfl, a, _, _, _, rfl, rfl, SqT.of ha, at0, _, rfl, o, _, dx, _, _, rfl, ho, T.cShape.cl, T.n_Shape_heads, sF_hd, hdd, _, rfl, DGet.k (k := Sum.inr g.1) hhd, false, by rw [e1]; rfl, iteF ?_⟩
          refine ⟨_, rfl, o, _, dx, _, _, rfl, ho, T.cShape.cl, T.n_Shape_heads, sF_hd, _, rfl, a, _, _, _, rfl, rfl, SqT.of ha, at0, hdd, .ref p, rfl, (by rw [← e1]; exact DGet.k (k := Sum.inr g.1) hhd), p, _, rfl, SqT.of hp, rfl, _, _, rfl, _, _, rfl, rfl, ?_⟩
          refine ⟨_, rfl, q, _, rfl, .inr (SqT.of hq), _, rfl, a, _, rfl, .inr (SqT.of ha), _, _, rfl, rfl, rfl, false, ?_, iteF ?_⟩
          · show V.bl (!decide (V.int ((r.2.1.map V.str).length : Nat) = V.int (((V.str g.1 :: vs).length : Nat) - 1))) = _
            rw [show (((V.str g.1 :: vs).length : Nat) : Int) - 1 = ((r.2.1.map V.str).length : Nat) by rw [List.length_cons, List.length_map]; omega]
            exact ne_same
          refine ⟨_, rfl, _, rfl, (by show 2 ≤ sizeLine; decide), fun b hb => ⟨b, _, rfl, .inr upd_same, flatk, rfl, false, ?_, iteF ?_⟩⟩
          · show V.bl (!inV kv [.non, .str r.2.2]) = _
            rw [inK]
            rfl
          have gb : Gr [] H (upd H b (.tup [.non, .str r.2.2])) := Gr.new hb
          refine ⟨_, rfl, _, rfl, a, _, rfl, gb.2 _ _ ha, fun c H2 g2 hc => ?_⟩
          rw [cut1] at hc
          have g02 := gb.trans g2
          have hq2 := g02.2 _ _ hq
          refine ⟨_, rfl, c, q, _, _, rfl, .inr ⟨SqT.of hc, SqT.of hq2, fun D hD => ?_⟩⟩
          have hcD := ne_of_none hc hD
          have hqD := ne_of_none hq2 hD
          have hfD := ne_of_none (g02.same _ _ hf) hD
          have hoD := ne_of_none (g02.same _ _ ho) hD
          have hof : o ≠ f := ne_of ho hf (fun z => nomatch z)
          have dsD : ∀ b ∈ ds, b ≠ D := fun b hb => by
            obtain ⟨kv0, h0⟩ := sh.there b hb
            exact ne_of_none (g02.same _ _ h0) hD
          refine lc_mapY (n := vs.length) (walk_zipT (xs := vs) (ys := r.2.1.map V.str) (by rw [List.length_map]; omega)) [f] (fun i H' => ∃ kvs', H' f = some (.dK kvs') ∧ FT TT kvs' ∧ (∀ m, Has kvs m → Has kvs' m) ∧ (∀ m ∈ Tm.unks (ts.take i), Has kvs' m) ∧ kvs'.length ≤ kvs.length + Tm.sizes (ts.take i)) (fun _ y _ => y = .bl true) hD (by simpa using Ne.symm hfD) (by omega)
            (fun H' g => ⟨SqT.of (g.2 _ _ (by rw [upd_ne hcD]; exact hc)), SqT.of (g.2 _ _ (by rw [upd_ne hqD]; exact hq2))⟩) (fun _ _ _ _ _ h => h) ⟨kvs, (by rw [upd_ne hfD]; exact g02.same _ _ hf), ft, fun _ h => h, fun m hm => by simp [Tm.unks] at hm, by omega⟩ ?_ ?_ ?_
          · rintro i H' zs ys hz' ⟨kvs', h1, h2⟩
            exact ⟨kvs', by rw [upd_ne (ne_of h1 hz' (fun z => nomatch z))]; exact h1, h2⟩
          · rintro i x H3 H4 R hi g3 ⟨kvs', hf3, ft3, hk3, hu3, hl3⟩ ⟨U, y1, y2, rfl, hU, rfl, e2, e3⟩ kR
            obtain ⟨s', hs', ds'⟩ := hv.tm e2
            have mem := List.mem_of_getElem? hs'
            have dm := Tm.dep_mem mem
            have sm := Tm.size_mem mem
            simp only [List.getElem?_map] at e3
            obtain ⟨kz, hkz, rfl⟩ := Option.map_eq_some_iff.mp e3
            have kd' := kds_get kds hs' hkz
            have gU : Gr [] H3 (upd H3 U (.tup [y1, .str kz])) := Gr.new hU
            have sh3 : Sh T.cShape.C ws hs o ds (upd H3 U (.tup [y1, .str kz])) := ((((sh.gr0 g02).gr0 (Gr.new hD)).gr g3 (fun b hb => by
              simp only [List.mem_cons, List.not_mem_nil, or_false, not_or]
              exact ⟨dsD b hb, fun z => hfd (by rw [← z]; exact hb)⟩) (by simp [hoD, hof]))).gr0 gU
            obtain ⟨dx3, sV3, wk3, lo3, hd3, rk3, kw3, kl3, kh3, kr3, ho3, _⟩ := sh3.it
            have gg : Ts H (upd H3 U (.tup [y1, .str kz])) := ((g02.2.trans (Ts.new hD)).trans g3.2).trans gU.2
            have szt := Tm.sizes_take ts (i + 1)
            rw [take_one hs', Tm.sizes_app, Tm.sizes_one] at szt
            refine ⟨U, _, rfl, SqT.of upd_same, rfl, _, _, rfl, _, _, rfl, rfl, rfl, ?_⟩
            refine ⟨_, rfl, o, dx3, _, rfl, ho3, sh_no (by simp), _, rfl, _, rfl, _, rfl, ?_⟩
            refine ⟨o, f, y1, .str kz, ws, hs, ds, TT, s', kz, kvs', rfl, sh3, hfd, ds'.mono gg, by omega, h3, kd', .inl rfl, gU.same _ _ hf3, ft3, by omega, fun H5 kvs5 g5 hf5 ft5 hk5 hu5 hl5 => ?_⟩
            refine kR _ _ (gU.less.trans g5) ⟨kvs5, hf5, ft5, fun m hm => hk5 m (hk3 m hm), fun m hm => ?_, ?_⟩ rfl
            · rw [take_one hs', Tm.unks_app, List.mem_append] at hm
              rcases hm with hm | hm
              · exact hk5 m (hu3 m hm)
              · exact hu5 (fun z => nomatch z) m (by simpa [Tm.unks] using hm)
            · rw [take_one hs', Tm.sizes_app, Tm.sizes_one]
              omega
          · rintro ys H3 g3 ⟨kvs', hf3, ft3, hk3, hu3, hl3⟩ hys hn' hy
            rw [lv, List.take_length] at hu3 hl3
            refine ⟨D, _, rfl, SqL.of (by rw [hys, bools hy]), ?_⟩
            rw [all_rep]
            exact k _ kvs' (g02.less.trans g3) hf3 ft3 hk3 (fun _ m hm => hu3 m (by simpa only [Tm.unk] using hm)) (by simp only [Tm.size]; omega)
end
end Dr
/-! sides told together; what is a law -/
namespace Dr
open PySem L2
/-- what a right law is -/
structure LawOK (ws : List Wd) (hs : List Tm.Row) (l r : Tm) : Prop where
  ex : ∃ g ts T k, l = .c g ts ∧ KdT ws hs T l k ∧ KdT ws hs T r k
  sizes : l.size ≤ 30 ∧ r.size ≤ 30
  deps : l.dep ≤ 7 ∧ r.dep ≤ 7
  asks : ∀ p ∈ l.parts.tail, isAsk ws hs p = false
  unk : ∀ m ∈ r.unk, m ∈ l.unk
  down : Tm.above (rkOf hs) l r = true
def encLaw (l : Tm × Tm) : D := .tup [l.1.enc, l.2.enc]
def encL (ls : List (Tm × Tm)) : D := .tup (ls.map encLaw)
@[irreducible] def spLaw1 (C : Addr) : Sp := fun vs H Q _ => ∃ (o : Addr) (v : V) (ws : List Wd) (hs : List Tm.Row) (ds : List Addr) (l r : Tm), vs = [.ref o, v] ∧ Sh C ws hs o ds H ∧ Dd H v (encLaw (l, r)) ∧ LawOK ws hs l r ∧ (∀ r ∈ hs, r.2.1.length ≤ 3) ∧ ∀ H', Gr [] H H' → Q (.bl true) H'
theorem spLaw1_of {C : Addr} {vs : List V} {H : Hp} {Q : VK} {E : XK} (h : ∃ (o : Addr) (v : V) (ws : List Wd) (hs : List Tm.Row) (ds : List Addr) (l r : Tm), vs = [.ref o, v] ∧ Sh C ws hs o ds H ∧ Dd H v (encLaw (l, r)) ∧ LawOK ws hs l r ∧ (∀ r ∈ hs, r.2.1.length ≤ 3) ∧ ∀ H', Gr [] H H' → Q (.bl true) H') : spLaw1 C vs H Q E := by unfold spLaw1; exact h
theorem pair_law {H : Hp} {l r : Tm} {v : V} (h : Dd H v (encLaw (l, r))) : ∃ a v1 v2, v = .ref a ∧ H a = some (.tup [v1, v2]) ∧ Dd H v1 l.enc ∧ Dd H v2 r.enc := by
  obtain ⟨a, vs, rfl, ha, hs⟩ := h.tup_inv
  obtain ⟨v1, ws, rfl, h1, hs⟩ := hs.cons_inv
  obtain ⟨v2, ws2, rfl, h2, hs⟩ := hs.cons_inv
  cases hs.nil_inv
  exact ⟨a, v1, v2, rfl, ha, h1, h2⟩
section
variable {P : Program} {w : World} {K : PySem.W.Frag} {mg : Str → Option Value} {base : Heap}
theorem sc_Shape_told_together : FnScope ["self", "pairs", "found", "thing", "kind"] ["self", "pairs"] (defScope s_Shape_told_together) := ⟨rfl, rfl, rfl, by decide +kernel, rfl, by decide +kernel, by decide +kernel⟩
theorem ok_Shape_told_together (T : Tx K mg) : FnOk P w K mg base CX0 13 T.f_Shape_told_together.f T.f_Shape_told_together.fd ["self", "pairs"] (spTT T.cShape.C) := by
  have GT := ok_Shape_told (P := P) (w := w) (base := base) T 8
  refine T.f_Shape_told_together.F.ok sc_Shape_told_together (fun vs H Q E h => ?_) (fun cdv A outer s H vs Q E hr h => ?_)
  · unfold spTT at h
    obtain ⟨o, l, p1, p2, v1, v2, ws, hs, ds, TT, g, ts, t2, k1, k2, rfl, _⟩ := h
    rfl
  · have nd := sc_Shape_told_together.nd
    refine ⟨_, (pss_cons (ps_set (i := 2) nd rfl (Or.inr rfl) pe_dnewK) (pss_cons (ps_if (pt_not (pt_val (pe_callB (allK K) (by rfl) T.z_all (by decide +kernel) (pa_cons (pe_lc (own := [("thing", 3), ("kind", 4)]) rfl nd (piL K (pv 1)) (blkOk_by (own := [("thing", 3), ("kind", 4)]) (N := ["self", "pairs", "found", "thing", "kind"]) (sc := defScope s_Shape_told_together) (by decide +kernel)) (fun _ _ _ _ _ => (pgT K 2 (pgs_cons (pg_name (i := 3) nd rfl (Or.inl rfl) (Or.inr rfl)) (pgs_cons (pg_name (i := 4) nd rfl (Or.inl rfl) (Or.inr rfl)) pgs_nil)))) (fun _ _ _ _ _ => pts_nil) (fun _ _ _ _ _ => (pe_meth (pv 0) T.cShape.cl T.f_Shape_told.M GT (hr.mono (by omega)) T.f_Shape_told.b .nil pass0 (pa_cons (pv 3) (pa_cons (pv 4) (pa_cons (pv 2) pa_nil)))))) pa_nil)))) (pss_one (ps_ret pe_non)) pss_nil) (pss_one (ps_ret (pe_ifExp (pt_val (pe_callB (allK K) (by rfl) T.z_all (by decide +kernel) (pa_cons (pe_lc (own := [("thing", 3), ("kind", 4)]) rfl nd (piL K (pv 1)) (blkOk_by (own := [("thing", 3), ("kind", 4)]) (N := ["self", "pairs", "found", "thing", "kind"]) (sc := defScope s_Shape_told_together) (by decide +kernel)) (fun _ _ _ _ _ => (pgT K 2 (pgs_cons (pg_name (i := 3) nd rfl (Or.inl rfl) (Or.inr rfl)) (pgs_cons (pg_name (i := 4) nd rfl (Or.inl rfl) (Or.inr rfl)) pgs_nil)))) (fun _ _ _ _ _ => pts_nil) (fun _ _ _ _ _ => (pe_or (pe_not (pe_call (ok_is_unknown T) (hr.mono (by omega)) rfl T.f_is_unknown.g T.f_is_unknown.F.kp T.f_is_unknown.b .nil pass0 (pa_cons (pv 3) pa_nil))) (pe_one (pe_cmp (pc_din (hu_of hr) (pe_ix (ixT K) (pv 3) pe_int (fun _ _ => rfl)) (pv 2)) rfl))))) pa_nil))) (pv 2) pe_non))))), ?_⟩
    unfold spTT at h
    obtain ⟨o, l, p1, p2, v1, v2, ws, hs, ds, TT, g, ts, t2, k1, k2, rfl, sh, hl, hp1, hp2, d1, d2, e1, e2, z1, z2, h3, kd1, kd2, sub, k⟩ := h
    let σ0 : Addr → L2.St := fun f => [some (.ref o), some (.ref l), some (.ref f), none, none]
    refine cut (fun σ' H' => ∃ f, σ' = σ0 f ∧ Gr [] H H' ∧ H f = none ∧ H' f = some (.dK [])) ?_ (fun rest f hf => rest _ _ ⟨f, rfl, Gr.new hf, hf, upd_same⟩)
    rintro σ' H1 ⟨f, rfl, g1, hf0, hf1⟩
    have hl1 := g1.same _ _ hl
    have hlf : l ≠ f := ne_of hl1 hf1 (fun z => nomatch z)
    obtain ⟨dx, sV, wk, lo, hdd, rk, kw, kl, kh, kr, ho, eds, hwk, hlo, hhd, hrk, tw, tl, th, tr⟩ := (sh.gr0 g1).it
    have hof : o ≠ f := ne_of ho hf1 (fun z => nomatch z)
    have hfd : f ∉ ds := fun z => by
      obtain ⟨kv0, h0⟩ := sh.there f z
      rw [h0] at hf0
      cases hf0
    refine cut (fun σ' H' => σ' = σ0 f ∧ Gr [] H H' ∧ ∃ kvs, H' f = some (.dK kvs) ∧ FT TT kvs ∧ ∀ m ∈ (Tm.c g ts).unk, Has kvs m) ?_ (fun rest => ?_)
    case refine_2 =>
      refine ⟨_, rfl, l, rfl, ⟨_, SqL.of hl1⟩, fun D hD => ?_⟩
      have hlD := ne_of_none hl1 hD
      have hfD := ne_of_none hf1 hD
      have hoD := ne_of_none ho hD
      have dsD : ∀ b ∈ ds, b ≠ D := fun b hb => by
        obtain ⟨kv0, h0⟩ := sh.there b hb
        exact ne_of_none (g1.same _ _ h0) hD
      refine lc_map (xs := [.ref p1, .ref p2]) walk_list [f] (fun i H' => ∃ kvs', H' f = some (.dK kvs') ∧ FT TT kvs' ∧ (1 ≤ i → ∀ m ∈ (Tm.c g ts).unk, Has kvs' m) ∧ kvs'.length ≤ i * 1000) (fun _ y _ => y = .bl true) hD (by simpa using Ne.symm hfD) (by simp)
        (fun H' g => SqL.of (g.1 _ _ (by rw [upd_ne hlD]; exact hl1) (by simp [hlD, hlf]))) (fun _ _ _ _ _ h => h) ⟨[], (by rw [upd_ne hfD]; exact hf1), fun m x h => by simp [valV] at h, fun h => by omega, Nat.zero_le _⟩ ?_ ?_ ?_
      · rintro i H' zs ys hz' ⟨kvs', h1, h2⟩
        exact ⟨kvs', by rw [upd_ne (ne_of h1 hz' (fun z => nomatch z))]; exact h1, h2⟩
      · rintro i x H3 R hx g3 ⟨kvs', hf3, ft3, hu3, hl3⟩ kR
        have sh3 : Sh T.cShape.C ws hs o ds H3 := ((sh.gr0 g1).gr0 (Gr.new hD)).gr g3 (fun b hb => by
          simp only [List.mem_cons, List.not_mem_nil, or_false, not_or]
          exact ⟨dsD b hb, fun z => hfd (by rw [← z]; exact hb)⟩) (by simp [hoD, hof])
        obtain ⟨dx3, sV3, wk3, lo3, hd3, rk3, kw3, kl3, kh3, kr3, ho3, _⟩ := sh3.it
        have gg : Ts H H3 := (g1.2.trans (Ts.new hD)).trans g3.2
        have hi : i = 0 ∨ i = 1 := by
          have := (List.getElem?_eq_some_iff.mp hx).1
          simp only [List.length_cons, List.length_nil] at this
          omega
        rcases hi with rfl | rfl
        · simp only [List.getElem?_cons_zero, Option.some.injEq] at hx
          subst hx
          refine ⟨p1, _, rfl, SqT.of (gg _ _ hp1), rfl, _, _, rfl, _, _, rfl, rfl, rfl, ?_⟩
          refine ⟨_, rfl, o, dx3, _, rfl, ho3, sh_no (by simp), _, rfl, _, rfl, _, rfl, ?_⟩
          refine ⟨o, f, v1, .non, ws, hs, ds, TT, _, k1, kvs', rfl, sh3, hfd, d1.mono gg, e1, h3, kd1, .inr rfl, hf3, ft3, by omega, fun H5 kvs5 g5 hf5 ft5 hk5 hu5 hl5 => ?_⟩
          exact kR _ _ g5 ⟨kvs5, hf5, ft5, fun _ => hu5 fun _ => rfl, by omega⟩ rfl
        · simp only [List.getElem?_cons_succ, List.getElem?_cons_zero, Option.some.injEq] at hx
          subst hx
          refine ⟨p2, _, rfl, SqT.of (gg _ _ hp2), rfl, _, _, rfl, _, _, rfl, rfl, rfl, ?_⟩
          refine ⟨_, rfl, o, dx3, _, rfl, ho3, sh_no (by simp), _, rfl, _, rfl, _, rfl, ?_⟩
          refine ⟨o, f, v2, .non, ws, hs, ds, TT, _, k2, kvs', rfl, sh3, hfd, d2.mono gg, e2, h3, kd2, .inr rfl, hf3, ft3, by omega, fun H5 kvs5 g5 hf5 ft5 hk5 hu5 hl5 => ?_⟩
          exact kR _ _ g5 ⟨kvs5, hf5, ft5, fun _ m hm => hk5 m (hu3 (Nat.le_refl _) m hm), by omega⟩ rfl
      · rintro ys H3 g3 ⟨kvs', hf3, ft3, hu3, hl3⟩ hys hn' hy
        refine ⟨D, _, rfl, SqL.of (by rw [hys, bools hy]), true, ?_, iteF (rest _ _ ⟨rfl, (g1.less.trans g3).since hf0, kvs', hf3, ft3, hu3 (by simp)⟩)⟩
        rw [all_rep]
    rintro σ' H2 ⟨rfl, g2, kvs, hf2, ft2, hu2⟩
    have hl2 := g2.same _ _ hl
    refine ⟨_, rfl, l, rfl, ⟨_, SqL.of hl2⟩, fun D hD => ?_⟩
    have hlD := ne_of_none hl2 hD
    have hfD := ne_of_none hf2 hD
    refine lc_map (xs := [.ref p1, .ref p2]) walk_list [] (fun _ _ => True) (fun _ y _ => y = .bl true) hD (by simp) (by simp)
      (fun H' g => SqL.of (g.1 _ _ (by rw [upd_ne hlD]; exact hl2) (by simpa using hlD))) (fun _ _ _ _ _ h => h) trivial (fun _ _ _ _ _ _ => trivial) ?_ ?_
    · rintro i x H3 R hx g3 _ kR
      have gg : Ts H H3 := (g2.2.trans (Ts.new hD)).trans g3.2
      have hf3 : H3 f = some (.dK kvs) := g3.1 _ _ (by rw [upd_ne hfD]; exact hf2) (by simpa using hfD)
      have both : ∃ (p : Addr) (v : V) (t : Tm), x = .ref p ∧ H3 p = some (.tup [v, .non]) ∧ Dd H3 v t.enc ∧ ∀ m ∈ t.unk, m ∈ (Tm.c g ts).unk := by
        have hi : i = 0 ∨ i = 1 := by
          have := (List.getElem?_eq_some_iff.mp hx).1
          simp only [List.length_cons, List.length_nil] at this
          omega
        rcases hi with rfl | rfl
        · simp only [List.getElem?_cons_zero, Option.some.injEq] at hx
          exact ⟨p1, v1, _, hx.symm, gg _ _ hp1, d1.mono gg, fun _ h => h⟩
        · simp only [List.getElem?_cons_succ, List.getElem?_cons_zero, Option.some.injEq] at hx
          exact ⟨p2, v2, _, hx.symm, gg _ _ hp2, d2.mono gg, sub⟩
      obtain ⟨p, v, t, rfl, hp, dt, st⟩ := both
      refine ⟨p, _, rfl, SqT.of hp, rfl, _, _, rfl, _, _, rfl, rfl, rfl, ?_⟩
      refine ⟨_, rfl, ?_⟩
      show spUnknown [v] H3 _ _
      refine spUnknown_of ⟨v, t, rfl, dt, _, rfl, ?_⟩
      cases t with
      | w x => exact ⟨_, rfl, iteT (kR _ _ (Gr.refl _ _) trivial rfl)⟩
      | c g' ts' => exact ⟨_, rfl, iteT (kR _ _ (Gr.refl _ _) trivial rfl)⟩
      | u m =>
        obtain ⟨a, rfl, ha⟩ := unk_inv dt
        have hm := hu2 m (st m (by simp [Tm.unk]))
        refine ⟨_, rfl, iteF ⟨_, rfl, a, _, _, _, rfl, rfl, SqT.of ha, at1, _, rfl, f, _, rfl, DGet.k (k := Sum.inl (m.1 : Int)) hf3, kR _ _ (Gr.refl _ _) trivial ?_⟩⟩
        show V.bl (valV kvs (.inl (m.1 : Int))).isSome = _
        rw [show (valV kvs (.inl (m.1 : Int))).isSome = true from hm]
    · rintro ys H3 g3 _ hys hn' hy
      refine ⟨D, _, rfl, SqL.of (by rw [hys, bools hy]), true, ?_, iteT ⟨_, rfl, k H3 f kvs (g2.trans g3) (g3.same _ _ hf2) ft2 hu2⟩⟩
      rw [all_rep]
theorem sc_Shape_kind_by : FnScope ["self", "found", "term"] ["self", "found", "term"] (defScope s_Shape_kind_by) := ⟨rfl, rfl, rfl, by decide +kernel, rfl, by decide +kernel, by decide +kernel⟩
theorem ok_Shape_kind_by (T : Tx K mg) : FnOk P w K mg base CX0 4 T.f_Shape_kind_by.f T.f_Shape_kind_by.fd ["self", "found", "term"] (spKB T.cShape.C) := by
  have GK := ok_Shape_kind_of (P := P) (w := w) (base := base) T
  refine T.f_Shape_kind_by.F.ok sc_Shape_kind_by (fun vs H Q E h => ?_) (fun cdv A outer s H vs Q E hr h => ?_)
  · unfold spKB at h
    obtain ⟨o, f, v, ws, hs, ds, TT, t, kk, kvs, rfl, _⟩ := h
    rfl
  · have nd := sc_Shape_kind_by.nd
    refine ⟨_, (pss_one (ps_ret (pe_ifExp (pt_val (pe_call (ok_is_unknown T) (hr.mono (by omega)) rfl T.f_is_unknown.g T.f_is_unknown.F.kp T.f_is_unknown.b .nil pass0 (pa_cons (pv 2) pa_nil))) (pe_dget2 (hu_of hr) (pv 1) (pe_ix (ixT K) (pv 2) pe_int (fun _ _ => rfl)) pe_non ⟨by rfl, by rfl, by rfl, by rfl⟩) (pe_meth (pv 0) T.cShape.cl T.f_Shape_kind_of.M GK (hr.mono (by omega)) T.f_Shape_kind_of.b .nil pass0 (pa_cons (pv 2) pa_nil))))), ?_⟩
    unfold spKB at h
    obtain ⟨o, f, v, ws, hs, ds, TT, t, kk, kvs, rfl, sh, hf, ft, hd, kd, hu, k⟩ := h
    obtain ⟨dx, sV, wk, lo, hdd, rk, kw, kl, kh, kr, ho, eds, hwk, hlo, hhd, hrk, tw, tl, th, tr⟩ := sh.it
    refine ⟨_, rfl, ?_⟩
    show spUnknown [v] H _ _
    refine spUnknown_of ⟨v, t, rfl, hd, _, rfl, ?_⟩
    cases t with
    | u m =>
      refine iteT ?_
      obtain ⟨a, rfl, ha⟩ := unk_inv hd
      have eT : TT m = some kk := by simpa only [KdT, Tm.kd, decide_eq_true_eq] using kd
      have hm := hu m (by simp [Tm.unk])
      cases e : valV kvs (.inl (m.1 : Int)) with
      | none =>
        unfold Has at hm
        rw [e] at hm
        cases hm
      | some x =>
        obtain ⟨k', h1, rfl⟩ := ft m x e
        rw [eT] at h1
        cases h1
        refine ⟨_, rfl, f, rfl, .inl ⟨_, .inl hf⟩, _, rfl, a, _, _, _, rfl, rfl, SqT.of ha, at1, some (.str kk), ?_, k⟩
        rw [← e]
        exact DGet.k (k := Sum.inl (m.1 : Int)) hf
    | w x =>
      refine iteF ⟨_, rfl, o, dx, _, rfl, ho, sh_no (by simp), _, rfl, ?_⟩
      have ew : wkOf ws x = some kk := by simpa only [KdT, Tm.kd, decide_eq_true_eq] using kd
      show spKindOf T.cShape.C [.ref o, v] H _ _
      refine spKindOf_of ⟨o, v, ws, hs, ds, _, rfl, sh, hd, .inr (by simp [kindT, ew]), ?_⟩
      simp only [kindT, ew, vO]
      exact k
    | c g ts =>
      refine iteF ⟨_, rfl, o, dx, _, rfl, ho, sh_no (by simp), _, rfl, ?_⟩
      simp only [KdT, Tm.kd] at kd
      cases fd : Tm.fnd hs g.1 with
      | none => rw [fd] at kd; cases kd
      | some r =>
        rw [fd] at kd
        simp only [Bool.and_eq_true, decide_eq_true_eq] at kd
        show spKindOf T.cShape.C [.ref o, v] H _ _
        refine spKindOf_of ⟨o, v, ws, hs, ds, _, rfl, sh, hd, .inr (by simp [kindT, fd]), ?_⟩
        simp only [kindT, fd, vO, Option.map_some, kd.1]
        exact k
theorem sc_Shape_told_beside : FnScope ["self", "one", "other", "found", "kinds"] ["self", "one", "other"] (defScope s_Shape_told_beside) := ⟨rfl, rfl, rfl, by decide +kernel, rfl, by decide +kernel, by decide +kernel⟩
theorem ok_Shape_told_beside (T : Tx K mg) : FnOk P w K mg base CX0 14 T.f_Shape_told_beside.f T.f_Shape_told_beside.fd ["self", "one", "other"] (spTB T.cShape.C) := by
  have GB := ok_Shape_kind_by (P := P) (w := w) (base := base) T
  have GG := ok_Shape_told_together (P := P) (w := w) (base := base) T
  refine T.f_Shape_told_beside.F.ok sc_Shape_told_beside (fun vs H Q E h => ?_) (fun cdv A outer s H vs Q E hr h => ?_)
  · unfold spTB at h
    obtain ⟨o, v1, v2, ws, hs, ds, TT, g, ts, t2, kk, rfl, _⟩ := h
    rfl
  · have nd := sc_Shape_told_beside.nd
    refine ⟨_, (pss_cons (ps_set (i := 3) nd rfl (Or.inl rfl) (pe_meth (pv 0) T.cShape.cl T.f_Shape_told_together.M GG (hr.mono (by omega)) T.f_Shape_told_together.b .nil pass0 (pa_cons (pe_lst (pa_cons (pe_tup (pa_cons (pv 1) (pa_cons pe_non pa_nil))) (pa_cons (pe_tup (pa_cons (pv 2) (pa_cons pe_non pa_nil))) pa_nil))) pa_nil))) (pss_cons (ps_set (i := 4) nd rfl (Or.inl rfl) (pe_ifExp (pt_cmpR op_notN (pv 3) pe_non (nomark _)) (pe_lst (pa_cons (pe_meth (pv 0) T.cShape.cl T.f_Shape_kind_by.M GB (hr.mono (by omega)) T.f_Shape_kind_by.b .nil pass0 (pa_cons (pv 3) (pa_cons (pv 1) pa_nil))) (pa_cons (pe_meth (pv 0) T.cShape.cl T.f_Shape_kind_by.M GB (hr.mono (by omega)) T.f_Shape_kind_by.b .nil pass0 (pa_cons (pv 3) (pa_cons (pv 2) pa_nil))) pa_nil))) (pe_lst (pa_cons pe_non (pa_cons pe_non pa_nil))))) (pss_cons (ps_if (pt_cmpR op_isN (pv 3) pe_non (nomark _)) (pss_one ps_never) pss_nil) (pss_one (ps_ret (pe_ifExp (pt_cmpR op_eq (pe_ix (ixL K) (pv 4) pe_int (fun _ _ => rfl)) (pe_ix (ixL K) (pv 4) pe_int (fun _ _ => rfl)) (nomark _)) (pv 3) pe_non)))))), ?_⟩
    unfold spTB at h
    obtain ⟨o, v1, v2, ws, hs, ds, TT, g, ts, t2, kk, rfl, sh, d1, d2, e1, e2, z1, z2, h3, kd1, kd2, sub, k⟩ := h
    obtain ⟨dx, sV, wk, lo, hdd, rk, kw, kl, kh, kr, ho, _⟩ := sh.it
    refine cut (fun σ' H' => ∃ f kvs, σ' = [some (.ref o), some v1, some v2, some (.ref f), none] ∧ Gr [] H H' ∧ H' f = some (.dK kvs) ∧ FT TT kvs ∧ ∀ m ∈ (Tm.c g ts).unk, Has kvs m) ?_ (fun rest => ?_)
    case refine_2 =>
      refine ⟨_, rfl, o, dx, _, rfl, ho, sh_no (by simp), _, rfl, (by show 2 ≤ sizeLine; decide), fun a ha => ⟨_, rfl, (by show 2 ≤ sizeLine; decide), fun b hb => ⟨(by show 2 ≤ sizeLine; decide), fun l hl => ?_⟩⟩⟩
      have ga : Gr [] H (upd H a (.tup [v1, .non])) := Gr.new ha
      have gb : Gr [] _ (upd (upd H a (.tup [v1, .non])) b (.tup [v2, .non])) := Gr.new hb
      have gl : Gr [] _ (upd (upd (upd H a (.tup [v1, .non])) b (.tup [v2, .non])) l (.lst [.ref a, .ref b])) := Gr.new hl
      have gg := (ga.trans gb).trans gl
      show spTT T.cShape.C [.ref o, .ref l] _ _ _
      exact spTT_of ⟨o, l, a, b, v1, v2, ws, hs, ds, TT, g, ts, t2, kk, kk, rfl, sh.gr0 gg, upd_same, gl.2 _ _ (gb.2 _ _ upd_same), gl.2 _ _ upd_same, d1.mono gg.2, d2.mono gg.2, e1, e2, z1, z2, h3, kd1, kd2, sub, fun H1 f kvs g1 hf ft hu => rest _ _ ⟨f, kvs, rfl, gg.trans g1, hf, ft, hu⟩⟩
    rintro σ' H1 ⟨f, kvs, rfl, g1, hf1, ft1, hu1⟩
    have sh1 := sh.gr0 g1
    have ho1 := g1.same _ _ ho
    refine cut (fun σ' H' => ∃ l, σ' = [some (.ref o), some v1, some v2, some (.ref f), some (.ref l)] ∧ Gr [] H H' ∧ H' l = some (.lst [.str kk, .str kk])) ?_ (fun rest => ?_)
    case refine_2 =>
      refine ⟨_, rfl, rfl, true, rfl, iteT ?_⟩
      refine ⟨_, rfl, o, dx, _, rfl, ho1, sh_no (by simp), _, rfl, _, rfl, ?_⟩
      show spKB T.cShape.C [.ref o, .ref f, v1] H1 _ _
      refine spKB_of ⟨o, f, v1, ws, hs, ds, TT, _, kk, kvs, rfl, sh1, hf1, ft1, d1.mono g1.2, kd1, hu1, ?_⟩
      refine ⟨_, rfl, o, dx, _, rfl, ho1, sh_no (by simp), _, rfl, _, rfl, ?_⟩
      show spKB T.cShape.C [.ref o, .ref f, v2] H1 _ _
      refine spKB_of ⟨o, f, v2, ws, hs, ds, TT, _, kk, kvs, rfl, sh1, hf1, ft1, d2.mono g1.2, kd2, fun m hm => hu1 m (sub m hm), ?_⟩
      exact ⟨(by show 2 ≤ sizeLine; decide), fun l hl => rest _ _ ⟨l, rfl, g1.trans (Gr.new hl), upd_same⟩⟩
    rintro σ' H2 ⟨l, rfl, g2, hl2⟩
    refine cut (fun σ' H' => σ' = [some (.ref o), some v1, some v2, some (.ref f), some (.ref l)] ∧ H2 = H') ?_ (fun rest => ?_)
    case refine_2 =>
      exact ⟨_, rfl, rfl, false, rfl, iteF (rest _ _ ⟨rfl, rfl⟩)⟩
    rintro σ' H3 ⟨rfl, rfl⟩
    exact ⟨_, rfl, l, _, _, _, rfl, rfl, SqL.of hl2, at0, _, rfl, l, _, _, _, rfl, rfl, SqL.of hl2, at1, rfl, true, eq_same, iteT ⟨_, rfl, k H2 f g2⟩⟩
theorem sc_is_law : FnScope ["shape", "thing", "left", "right", "place", "part", "number"] ["shape", "thing"] (defScope s_is_law) := ⟨rfl, rfl, rfl, by decide +kernel, rfl, by decide +kernel, by decide +kernel⟩
theorem ok_is_law (T : Tx K mg) : FnOk P w K mg base CX0 64 T.f_is_law.f T.f_is_law.fd ["shape", "thing"] (spLaw1 T.cShape.C) := by
  refine T.f_is_law.F.ok sc_is_law (fun vs H Q E h => ?_) (fun cdv A outer s H vs Q E hr h => ?_)
  · unfold spLaw1 at h
    obtain ⟨o, v, ws, hs, ds, l, r, rfl, _⟩ := h
    rfl
  · have nd := sc_is_law.nd
    have GB := ok_Shape_told_beside (P := P) (w := w) (base := base) T
    have GA := ok_Shape_is_asker (P := P) (w := w) (base := base) T
    have GO := ok_Order_init (P := P) (w := w) (base := base) T
    have GR := ok_Order_is_greater (P := P) (w := w) (base := base) T 15
    have MO : Mk K T.cOrder.C T.f_Order_init.f := T.f_Order_init.mk' T.cOrder.makes T.cOrder.kp rfl
    refine ⟨_, (pss_cons (ps_if (PW.pt (pw_or (pt_not (pt_val (pe_call (ok_is_tuple T) (hr.mono (by omega)) rfl T.f_is_tuple.g T.f_is_tuple.F.kp T.f_is_tuple.b .nil pass0 (pa_cons (pv 1) (pa_cons pe_int (pa_cons pe_int pa_nil)))))) (pw_or1 (pt_val (pe_call (ok_is_unknown T) (hr.mono (by omega)) rfl T.f_is_unknown.g T.f_is_unknown.F.kp T.f_is_unknown.b .nil pass0 (pa_cons (pe_ix (ixT K) (pv 1) pe_int (fun _ _ => rfl)) pa_nil)))))) (pss_one (ps_ret pe_bl)) pss_nil) (pss_cons (ps_asg (pv 1) (pgT K 2 (pgs_cons (pg_name (i := 2) nd rfl (Or.inr rfl) (Or.inl rfl)) (pgs_cons (pg_name (i := 3) nd rfl (Or.inl rfl) (Or.inr rfl)) pgs_nil)))) (pss_cons (ps_if (PW.pt (pw_or (pt_cmpR op_isN (pe_meth (pv 0) T.cShape.cl T.f_Shape_told_beside.M GB (hr.mono (by omega)) T.f_Shape_told_beside.b .nil pass0 (pa_cons (pv 2) (pa_cons (pv 3) pa_nil))) pe_non (nomark _)) (pw_or1 (pt_not (pt_val (pe_call (ok_is_called T) (hr.mono (by omega)) rfl T.f_is_called.g T.f_is_called.F.kp T.f_is_called.b .nil pass0 (pa_cons (pv 2) pa_nil))))))) (pss_one (ps_ret pe_bl)) pss_nil) (pss_cons (ps_if (PW.pt (pw_or (pt_cmpR op_gt (pe_call (ok_size_of T 8) (hr.mono (by omega)) rfl T.f_size_of.g T.f_size_of.F.kp T.f_size_of.b .nil pass0 (pa_cons (pv 2) pa_nil)) (pe_glo (by rfl) T.gMOST_LAW_PARTS) (nomark _)) (pw_or1 (pt_cmpR op_gt (pe_call (ok_size_of T 8) (hr.mono (by omega)) rfl T.f_size_of.g T.f_size_of.F.kp T.f_size_of.b .nil pass0 (pa_cons (pv 3) pa_nil)) (pe_glo (by rfl) T.gMOST_LAW_PARTS) (nomark _))))) (pss_one (ps_ret pe_bl)) pss_nil) (pss_cons (ps_if (pt_val (pe_callB (anyK K) (by rfl) T.z_any (by decide +kernel) (pa_cons (pe_lc (own := [("place", 4), ("part", 5)]) rfl nd (piL K (pe_slice sl_list (pe_call (ok_parts_of T 8) (hr.mono (by omega)) rfl T.f_parts_of.g T.f_parts_of.F.kp T.f_parts_of.b .nil pass0 (pa_cons (pv 2) pa_nil)) (po_some pe_int) po_none)) (blkOk_by (own := [("place", 4), ("part", 5)]) (N := ["shape", "thing", "left", "right", "place", "part", "number"]) (sc := defScope s_is_law) (by decide +kernel)) (fun _ _ _ _ _ => (pgT K 2 (pgs_cons (pg_name (i := 4) nd rfl (Or.inl rfl) (Or.inr rfl)) (pgs_cons (pg_name (i := 5) nd rfl (Or.inl rfl) (Or.inr rfl)) pgs_nil)))) (fun _ _ _ _ _ => pts_nil) (fun _ _ _ _ _ => (pe_meth (pv 0) T.cShape.cl T.f_Shape_is_asker.M GA (hr.mono (by omega)) T.f_Shape_is_asker.b .nil pass0 (pa_cons (pv 5) pa_nil)))) pa_nil))) (pss_one (ps_ret pe_bl)) pss_nil) (pss_cons (ps_if (pt_not (pt_val (pe_callB (allK K) (by rfl) T.z_all (by decide +kernel) (pa_cons (pe_lc (own := [("number", 6)]) rfl nd (piL K (pe_call (ok_numbers_in T) (hr.mono (by omega)) rfl T.f_numbers_in.g T.f_numbers_in.F.kp T.f_numbers_in.b .nil pass0 (pa_cons (pv 3) pa_nil))) (blkOk_by (own := [("number", 6)]) (N := ["shape", "thing", "left", "right", "place", "part", "number"]) (sc := defScope s_is_law) (by decide +kernel)) (fun _ _ _ _ _ => (pg_name (i := 6) nd rfl (Or.inl rfl) (Or.inr rfl))) (fun _ _ _ _ _ => pts_nil) (fun _ _ _ _ _ => (pe_cmpR op_inF (pv 6) (pe_call (ok_numbers_in T) (hr.mono (by omega)) rfl T.f_numbers_in.g T.f_numbers_in.F.kp T.f_numbers_in.b .nil pass0 (pa_cons (pv 2) pa_nil)) (by rfl)))) pa_nil)))) (pss_one (ps_ret pe_bl)) pss_nil) (pss_one (ps_ret (pe_meth (pe_make MO GO (hr.mono (by omega)) rfl T.cOrder.g T.f_Order_init.b .nil pass0 (pa_cons (fldK K (pv 0)) pa_nil)) T.cOrder.cl T.f_Order_is_greater.M GR (hr.mono (by omega)) T.f_Order_is_greater.b .nil pass0 (pa_cons (pv 2) (pa_cons (pv 3) pa_nil))))))))))), ?_⟩
    unfold spLaw1 at h
    obtain ⟨o, v, ws, hs, ds, l, r, rfl, sh, hd, ok, h3, k⟩ := h
    obtain ⟨a, v1, v2, rfl, ha, d1, d2⟩ := pair_law hd
    obtain ⟨g, ts, TT, kk, el, kd1, kd2⟩ := ok.ex
    have okl := Tm.ok_of_kd kd1
    have okr := Tm.ok_of_kd kd2
    have sz := ok.sizes
    have dp := ok.deps
    obtain ⟨dx, sV, wk, lo, hdd, rk, kw, kl, kh, kr, ho, eds, hwk, hlo, hhd, hrk, tw, tl, th, tr⟩ := sh.it
    have notU : l.isU = false := by rw [el]; rfl
    have isC : l.isC = true := by rw [el]; rfl
    refine cut (fun σ' H' => (∃ n1 n2 n3 n4 n5, σ' = [some (.ref o), some (.ref a), n1, n2, n3, n4, n5]) ∧ H = H') ?_ (fun rest => ?_)
    case refine_2 =>
      refine ⟨_, rfl, ?_⟩
      show spTuple [.ref a, .int 2, .int 2] H _ _
      refine spTuple_of ⟨_, _, _, rfl, .inr ⟨a, _, rfl, ha, true, rfl, iteF ?_⟩⟩
      refine ⟨_, rfl, a, _, _, _, rfl, rfl, SqT.of ha, at0, ?_⟩
      show spUnknown [v1] H _ _
      refine spUnknown_of ⟨v1, l, rfl, d1, ?_⟩
      rw [notU]
      exact ⟨false, rfl, iteF (rest _ _ ⟨⟨_, _, _, _, _, rfl⟩, rfl⟩)⟩
    rintro σ' H' ⟨⟨n1, n2, n3, n4, n5, rfl⟩, rfl⟩
    refine cut (fun σ' H' => (∃ n3 n4 n5, σ' = [some (.ref o), some (.ref a), some v1, some v2, n3, n4, n5]) ∧ H = H') ?_ (fun rest => ?_)
    case refine_2 =>
      exact ⟨_, rfl, a, _, rfl, SqT.of ha, rfl, _, _, rfl, _, _, rfl, rfl, rest _ _ ⟨⟨_, _, _, rfl⟩, rfl⟩⟩
    rintro σ' H' ⟨⟨n3, n4, n5, rfl⟩, rfl⟩
    refine cut (fun σ' H' => σ' = [some (.ref o), some (.ref a), some v1, some v2, n3, n4, n5] ∧ Gr [] H H') ?_ (fun rest => ?_)
    case refine_2 =>
      refine ⟨_, rfl, o, dx, _, rfl, ho, sh_no (by simp), _, rfl, _, rfl, ?_⟩
      show spTB T.cShape.C [.ref o, v1, v2] H _ _
      subst el
      refine spTB_of ⟨o, v1, v2, ws, hs, ds, TT, g, ts, r, kk, rfl, sh, d1, d2, by omega, by omega, by omega, by omega, h3, kd1, kd2, ok.unk, fun H1 f g1 => ⟨rfl, false, rfl, iteF ?_⟩⟩
      refine ⟨_, rfl, ?_⟩
      show spCalled [v1] H1 _ _
      exact spCalled_of ⟨v1, _, rfl, d1.mono g1.2, _, rfl, iteF (rest _ _ ⟨rfl, g1⟩)⟩
    rintro σ' H1 ⟨rfl, g1⟩
    refine cut (fun σ' H' => σ' = [some (.ref o), some (.ref a), some v1, some v2, n3, n4, n5] ∧ Gr [] H H') ?_ (fun rest => ?_)
    case refine_2 =>
      refine ⟨_, rfl, v1, l, rfl, d1.mono g1.2, by omega, by omega, fun H2 g2 => ?_⟩
      refine ⟨_, _, rfl, rfl, false, by show V.bl (decide ((30 : Int) < ((l.size : Nat) : Int))) = V.bl false; rw [decide_eq_false (by omega)], iteF ?_⟩
      have g12 := g1.trans g2
      refine ⟨_, rfl, v2, r, rfl, d2.mono g12.2, by omega, by omega, fun H3 g3 => ?_⟩
      exact ⟨_, _, rfl, rfl, false, by show V.bl (decide ((30 : Int) < ((r.size : Nat) : Int))) = V.bl false; rw [decide_eq_false (by omega)], iteF (rest _ _ ⟨rfl, g12.trans g3⟩)⟩
    rintro σ' H2 ⟨rfl, g2⟩
    refine cut (fun σ' H' => σ' = [some (.ref o), some (.ref a), some v1, some v2, n3, n4, n5] ∧ Gr [] H H') ?_ (fun rest => ?_)
    case refine_2 =>
      refine ⟨_, rfl, v1, l, rfl, d1.mono g2.2, by omega, by omega, by omega, fun lp ps H3 g3 hlp0 hlp hps => ?_⟩
      refine ⟨_, rfl, lp, _, rfl, SqL.of hlp, fun q hq => ?_⟩
      have gq : Gr [] H3 (upd H3 q (.lst (cutV ps (some 1) none))) := Gr.new hq
      refine ⟨q, rfl, ⟨_, SqL.of upd_same⟩, fun D hD => ?_⟩
      have hqD := ne_of_none upd_same hD
      have g23 := (g2.trans g3).trans gq
      have hqq : upd H3 q (.lst (cutV ps (some 1) none)) q = some (.lst (ps.drop 1)) := by rw [upd_same, cut1]
      have lps := Paired.length hps
      rw [Tm.length_parts] at lps
      rw [cut1]
      refine lc_map (xs := ps.drop 1) walk_list [] (fun _ _ => True) (fun _ y _ => y = .bl false) (by rw [← cut1]; exact hD) (by simp) (by rw [List.length_drop]; omega) (fun H' g => SqL.of (g.1 _ _ (by rw [upd_ne hqD, upd_same]) (by simpa using hqD))) (fun _ _ _ _ _ h => h) trivial (fun _ _ _ _ _ _ => trivial) ?_ ?_
      · rintro i x H4 R hx g4 _ kR
        rw [List.getElem?_drop] at hx
        obtain ⟨t', ht', ⟨p', a', ys', inner', rfl, hp', ha', hy', hin⟩⟩ := paired_get hps hx
        have gg : Ts H3 H4 := (by
          have := (gq.2.trans (Ts.new (o := .lst []) hD)).trans (by rw [cut1]; exact g4.2)
          exact this)
        have memt : t' ∈ l.parts := List.mem_of_getElem? ht'
        have tailt : t' ∈ l.parts.tail := by
          rw [Nat.add_comm] at ht'
          rw [← List.getElem?_tail] at ht'
          exact List.mem_of_getElem? ht'
        have sh4 : Sh T.cShape.C ws hs o ds H4 := (((sh.gr0 g23).gr0 (Gr.new (o := .lst []) hD))).gr (S := [D]) (by rw [cut1]; exact g4) (fun b hb => by
          obtain ⟨kv0, h0⟩ := sh.there b hb
          simpa using ne_of_none (g23.same _ _ h0) hD) (by simpa using ne_of_none (g23.same _ _ ho) hD)
        obtain ⟨dx4, sV4, wk4, lo4, hd4, rk4, kw4, kl4, kh4, kr4, ho4, _⟩ := sh4.it
        refine ⟨p', _, rfl, SqT.of (gg _ _ hp'), rfl, _, _, rfl, _, _, rfl, rfl, rfl, ?_⟩
        refine ⟨_, rfl, o, dx4, _, rfl, ho4, sh_no (by simp), _, rfl, ?_⟩
        show spAsk T.cShape.C [.ref o, inner'] H4 _ _
        refine spAsk_of ⟨o, inner', ws, hs, ds, t', rfl, sh4, hin.mono gg, Tm.ok_parts okl memt, ?_⟩
        rw [ok.asks t' tailt]
        exact kR _ _ (Gr.refl _ _) trivial rfl
      · rintro ys H4 g4 _ hys hn' hy
        refine ⟨D, _, rfl, SqL.of (by rw [hys, boolsF hy]), false, ?_, iteF (rest _ _ ⟨rfl, g23.trans (by rw [cut1]; exact g4)⟩)⟩
        rw [any_rep]
    rintro σ' H3 ⟨rfl, g3⟩
    refine cut (fun σ' H' => σ' = [some (.ref o), some (.ref a), some v1, some v2, n3, n4, n5] ∧ Gr [] H H') ?_ (fun rest => ?_)
    case refine_2 =>
      refine ⟨_, rfl, ?_⟩
      show spNumbers [v2] H3 _ _
      refine spNumbers_of ⟨v2, r, rfl, d2.mono g3.2, by omega, by omega, fun lr nr H4 g4 hlr s1 s2 s3 => ?_⟩
      refine ⟨lr, rfl, ⟨_, SqL.of hlr⟩, fun D hD => ?_⟩
      have hlD := ne_of_none hlr hD
      have g34 := g3.trans g4
      refine lc_map (xs := nr.map V.int) walk_list [] (fun _ _ => True) (fun _ y _ => y = .bl true) hD (by simp) (by rw [List.length_map]; omega) (fun H' g => SqL.of (g.1 _ _ (by rw [upd_ne hlD]; exact hlr) (by simpa using hlD))) (fun _ _ _ _ _ h => h) trivial (fun _ _ _ _ _ _ => trivial) ?_ ?_
      · rintro i x H5 R hx g5 _ kR
        rw [List.getElem?_map] at hx
        obtain ⟨z, hz, rfl⟩ := Option.map_eq_some_iff.mp hx
        have gg : Ts H H5 := (g34.2.trans (Ts.new hD)).trans g5.2
        refine ⟨rfl, _, rfl, _, rfl, ?_⟩
        show spNumbers [v1] H5 _ _
        refine spNumbers_of ⟨v1, l, rfl, d1.mono gg, by omega, by omega, fun ll nl H6 g6 hll q1 q2 q3 => ?_⟩
        refine ⟨ll, _, rfl, .inl hll, rfl, flat_int nl, kR _ _ g6 trivial ?_⟩
        show V.bl (inV (.int z) (nl.map V.int)) = _
        obtain ⟨m, hm, rfl⟩ := s1 z (List.mem_of_getElem? hz)
        rw [inV_int, decide_eq_true (q2 m (ok.unk m hm))]
      · rintro ys H5 g5 _ hys hn' hy
        refine ⟨D, _, rfl, SqL.of (by rw [hys, bools hy]), true, ?_, iteF (rest _ _ ⟨rfl, g34.trans g5⟩)⟩
        rw [all_rep]
    rintro σ' H4 ⟨rfl, g4⟩
    have ho4 := g4.same _ _ ho
    have hrk4 := g4.same _ _ hrk
    refine ⟨_, rfl, o, _, dx, _, _, rfl, ho4, T.cShape.cl, T.n_Shape_rank, sF_rk, fun x dx' hx hdx hne => ?_⟩
    have gx : Gr [] H4 (upd (upd H4 dx' (.own x)) x (.ins T.cOrder.C dx' [])) := (Gr.new hdx).trans (Gr.new (by rw [upd_ne (Ne.symm hne)]; exact hx))
    show spOI P w T.cOrder.C [.ref x, .ref rk] _ _ _
    refine spOI_of ⟨x, rk, dx', rfl, upd_same, fun H5 m g5 hm0 hx5 mem5 => ⟨rfl, ?_⟩⟩
    have hxr : rk ≠ x := ne_of_none hrk4 hx
    have hrk5 : H5 rk = some (.dK kr) := g5.1 _ _ (gx.same _ _ hrk4) (by simpa using hxr)
    refine ⟨x, dx', _, rfl, hx5, oF_no _ _ (by decide +kernel) (by decide +kernel), _, rfl, _, rfl, ?_⟩
    have gg : Gr [] H H5 := g4.trans (((gx.less (S := [x])).trans g5).since hx)
    refine ⟨x, m, v1, v2, rkOf hs, hs, l, r, l, r, [], rfl, ⟨⟨dx', rk, kr, hx5, hrk5, fun r' hr' => tr r' hr'⟩, mem5, ⟨fun _ h => (by simp at h), List.nodup_nil⟩, okl, okr, by omega⟩, Tm.self_parts _, Tm.self_parts _, d1.mono gg.2, d2.mono gg.2, by omega, fun H6 es6 g6 oc6 => ?_⟩
    rw [ok.down]
    have hm : H m = none := (g4.trans gx).fresh hm0 (by simp)
    exact k _ ((gg.less.trans g6).since hm)
end
end Dr
/-! == and != by an own __eq__ that may answer either way, of anything on the right -/
namespace PySem.W
open PySem PySem.Spec PyProof.Rows
theorem ne_bind (self : Value) : bindSpecial (.builtin "object.__ne__") self = pure (.builtin "object.__ne__", [self]) :=
  PySem.F.slot_enumerate_ne.bind self
section
variable {prog : Program} {w : World} {A : Around} {E : Value → Shared → Prop} {s : Shared} {K : Frag} {x C L f : Addr} {h₀ : Heap} {m : Str → Option Value} {ox : Obj} {od : Option Obj} {b tb : Value}
theorem ifBound_ne {M : Model} {Q : Option Value → Shared → Prop} (X : K.In s.heap) (I : InstAt s.heap x ox C od) (hs : findIn K (.ref C) "__ne__" = some (some (.builtin "object.__ne__")))
    (h : wpAny M A (call (.builtin "object.__ne__") [.ref x, b]) (fun v => Q (some v)) E s) : wpAny M A (callSpecialIfBound? (.ref x) "__ne__" [b]) Q E s := by
  simp only [callSpecialIfBound?, bindSpecialIfBound?]
  refine wpAny_holding (wpAny_bind (wpAny_bind (wpAny_bind (I.type.here ((looks_findIn X hs).here ?_)))))
  refine wpAny_bind (wpAny_askSetting (wpAny_ite ?_))
  have whole : wpAny M A (call (.builtin "object.__ne__") ([.ref x] ++ [b]) >>= fun v => pure (some v)) Q E s := wpAny_bind (wpAny_mono h (fun v s' h' => wpAny_pure h') fun _ _ h' => h')
  split
  · exact wpAny_bind ((Looks.of_pure (ne_bind (.ref x))).here (wpAny_pure (by exact whole)))
  · exact wpAny_tryCatch (wpAny_bind ((Looks.of_pure (ne_bind (.ref x))).here (wpAny_pure (by exact whole))))
theorem call_ne {Q : Value → Shared → Prop} (hu : A.units + 1 < cLine) (X : K.In s.heap) (I : InstAt s.heap x ox C od) (hs : findIn K (.ref C) "__eq__" = some (some (.ref f))) (hf : isFn K (.ref f) = true) (hm : mroIn K C (.type "object") = some true)
    (h : wpAny (model prog w) A.in1 (call (.ref f) [.ref x, b]) (fun v s' => ∃ k, v = .bool k ∧ Q (.bool (!k)) s') E s) : wpAny (model prog w) A (call (.builtin "object.__ne__") [.ref x, b]) Q E s := by
  refine wpAny_call (codeAny_call_builtin (by decide +kernel) F.cmpEntry_ne (check_slot F.cmpKind_ne F.cmpSplit_ne ((I.type).andThen (looks_mroIn X hm)) (F.cmpArgs_ne _ _) ?_))
  unfold Builtin.«object.__ne__»
  show wpAny _ _ (cRoomFor "comparison" [.ref x, b] >>= _) _ _ s
  refine wpAny_bind (wpAny_cRoomFor (by rw [Around.in1_units]; exact hu) ?_)
  refine wpAny_bind (ifBound_K X I hs hf (wpAny_mono h (fun v s' hv => ?_) fun _ _ e => e))
  obtain ⟨k, rfl, q⟩ := hv
  show wpAny _ _ (truthy (.bool k) >>= _) _ _ s'
  exact wpAny_bind (wpAny_truthy_bool (wpAny_pure q))
theorem cmpNe_K {Q : Value → Shared → Prop} (hu : A.units + 1 < cLine) (F : Fr h₀ L s.heap m) (X₀ : K.In h₀) (I : InstAt s.heap x ox C od) (hb : Looks (model prog w) s.heap (typeOf b) tb) (hn : notFirst K C tb = true)
    (hs : findIn K (.ref C) "__eq__" = some (some (.ref f))) (hne : findIn K (.ref C) "__ne__" = some (some (.builtin "object.__ne__"))) (hf : isFn K (.ref f) = true) (hm : mroIn K C (.type "object") = some true)
    (h : wpAny (model prog w) A.in1 (call (.ref f) [.ref x, b]) (fun v s' => ∃ k, v = .bool k ∧ Q (.bool (!k)) s') E s) : wpAny (model prog w) A (richCompare .NotEq (.ref x) b) Q E s := by
  have X := X₀.keeps F.keep
  have one : wpAny (model prog w) A (tryCompare (.ref x) "__ne__" b) (fun r s' => ∃ v, r = some v ∧ Q v s') E s := by
    unfold tryCompare
    refine wpAny_bind (ifBound_ne X I hne (call_ne hu X I hs hf hm (wpAny_mono h (fun v s' hv => ?_) fun _ _ e => e)))
    obtain ⟨k, rfl, q⟩ := hv
    exact ⟨k, rfl, wpAny_pure ⟨_, rfl, q⟩⟩
  have notSub : (Value.ref C == tb) = false → subIn K tb (.ref C) = some false := fun q => by
    rcases Bool.or_eq_true_iff.mp hn with e | e
    · exact absurd (eq_of_beq e) fun z => by simp [z] at q
    · exact eq_of_beq e
  unfold richCompare
  simp only [oneThing_ref]
  refine wpAny_holding (wpAny_bind (wpAny_cRoomFor (Nat.lt_of_succ_lt hu) (wpAny_bind (I.type.here (wpAny_bind (hb.here ?_))))))
  split
  all_goals first
    | refine wpAny_bind (wpAny_pure ?_)
    | (rename_i q; refine wpAny_bind ((looks_subIn X (notSub (by cases e : (Value.ref C == tb) <;> simp_all))).here ?_))
  all_goals
    simp only [Bool.false_eq_true, if_false]
    refine wpAny_bind (wpAny_mono one ?_ fun _ _ e => e)
    rintro _ s' ⟨v, rfl, k⟩
    exact wpAny_pure k
end
end PySem.W
namespace Dr
open PySem L2
/-- the class at C has the own == at f, and no own != -/
structure EqC (K : PySem.W.Frag) (C f : Addr) : Prop where
  eq : PySem.W.findIn K (.ref C) "__eq__" = some (some (.ref f))
  ne : PySem.W.findIn K (.ref C) "__ne__" = some (some (.builtin "object.__ne__"))
  fn : PySem.W.isFn K (.ref f) = true
  ob : PySem.W.mroIn K C (.type "object") = some true
  sN : PySem.W.subIn K (.type "NoneType") (.ref C) = some false
  sI : PySem.W.subIn K (.type "int") (.ref C) = some false
  sS : PySem.W.subIn K (.type "str") (.ref C) = some false
  sL : PySem.W.subIn K (.type "list") (.ref C) = some false
  sT : PySem.W.subIn K (.type "tuple") (.ref C) = some false
/-- what may stand on the right -/
inductive Rt (C : Addr) (H : Hp) : V → Prop
  | non : Rt C H .non
  | int (i : Int) : Rt C H (.int i)
  | str (x : Str) : Rt C H (.str x)
  | lst {a : Addr} {xs : List V} : H a = some (.lst xs) → Rt C H (.ref a)
  | tup {a : Addr} {xs : List V} : H a = some (.tup xs) → Rt C H (.ref a)
  | ins {a dx : Addr} {fs : List (Str × V)} : H a = some (.ins C dx fs) → Rt C H (.ref a)
section
variable {X : Cx} {pps : List (Addr × PySem.Obj)} {σ : L2.St} {H : Hp} {s : Shared} {C f : Addr}
theorem Rt.looks (I : Inv X pps σ H s) (e : EqC X.K C f) {y : V} {u : Value} (r : Rt C H y) (ry : RelV y u) : ∃ tb, PySem.W.Looks (model X.prog X.w) s.heap (typeOf u) tb ∧ PySem.W.notFirst X.K C tb = true := by
  cases r with
  | non =>
    cases ry
    exact ⟨.type "NoneType", PySem.W.Looks.of_pure rfl, by unfold PySem.W.notFirst; rw [e.sN]; simp⟩
  | int i =>
    obtain ⟨t, rfl⟩ := ry
    exact ⟨.type "int", PySem.W.Looks.of_pure rfl, by unfold PySem.W.notFirst; rw [e.sI]; simp⟩
  | str x =>
    obtain ⟨t, rfl⟩ := ry
    exact ⟨.type "str", PySem.W.Looks.of_pure rfl, by unfold PySem.W.notFirst; rw [e.sS]; simp⟩
  | @lst a xs h =>
    cases ry
    obtain ⟨its, _, p, _⟩ := I.list (SqL.of h)
    obtain ⟨o, n, h1, h2, _⟩ := p
    exact ⟨.type "list", fun A Q E s' k q => wpAny_typeOf_ref (k _ _ h1) (by rw [h2]; exact q), by unfold PySem.W.notFirst; rw [e.sL]; simp⟩
  | @tup a xs h =>
    cases ry
    obtain ⟨its, _, p, _⟩ := I.tuple (SqT.of h)
    obtain ⟨o, h1, h2, _⟩ := p
    exact ⟨.type "tuple", fun A Q E s' k q => wpAny_typeOf_ref (k _ _ h1) (by rw [h2]; exact q), by unfold PySem.W.notFirst; rw [e.sT]; simp⟩
  | @ins a dx fs h =>
    cases ry
    obtain ⟨mB, J', _⟩ := ins_get I.hok h
    obtain ⟨od', J', _⟩ := J'.look
    exact ⟨.ref C, J'.type, by simp [PySem.W.notFirst]⟩
end
def rOwn (C : Addr) (sp : Sp) (neg : Bool) : R2 := fun x y H Q => ∃ a dx fs, x = .ref a ∧ H a = some (.ins C dx fs) ∧ Rt C H y ∧ sp [.ref a, y] H (fun v H' => ∃ k, v = .bl k ∧ Q (.bl (if neg then !k else k)) H') E0
section
variable {X : Cx} {C f : Addr} {fd : FuncData} {ps : List Str} {sp : Sp} {n : Nat}
theorem op_eqOwn (e : EqC X.K C f) (F : FnOk X.prog X.w X.K X.mg X.base CX0 n f fd ps sp) (hr : Room n X.A) (hb : Binds X.K fd ps []) : OpR X (compareOp .Eq) (rOwn C sp false) := by
  rintro pps s σ H x y v u Q I rx ry ⟨a, dx, fs, rfl, ha, rt, hsp⟩
  cases rx
  obtain ⟨mA, J, _⟩ := ins_get I.hok ha
  obtain ⟨od, J, _⟩ := J.look
  obtain ⟨m, hF⟩ := I.fr
  obtain ⟨tb, lb, nb⟩ := rt.looks I e ry
  show wpAny (model X.prog X.w) X.A (richCompare .Eq (.ref a) u) (EP X pps σ Q) X.xe s
  refine PySem.W.cmp_K (op := .Eq) hr.units0 hF I.ok.mod.kin J lb nb e.eq e.fn ?_
  have hl := F.len _ _ _ _ hsp
  have r2 : Vals [V.ref a, y] [Value.ref a, u] := .cons rfl (.cons ry .nil)
  refine wpAny_call (codeAny_mono (F.run X.A X.stack s H ⟨[.ref a, u], []⟩ [.ref a, u] [.ref a, y] _ E0 hr I.env0 (by
    have := hb s [.ref a, u] I.kIn (by simpa using hl)
    simpa using this) r2 hsp) fun r s' hq => ?_)
  cases r with
  | error e => exact pass0 (X := X) pps σ H s e s' I hq
  | ok fl =>
    cases fl with
    | ret w =>
      obtain ⟨z, H', I', rz, k, ez, q⟩ := I.after hq
      subst ez
      cases rz
      exact ⟨.bl k, H', I', rfl, q⟩
    | next => exact False.elim hq
    | brk => exact False.elim hq
    | cont => exact False.elim hq
theorem op_neOwn (e : EqC X.K C f) (F : FnOk X.prog X.w X.K X.mg X.base CX0 n f fd ps sp) (hr : Room (n + 1) X.A) (hb : Binds X.K fd ps []) : OpR X (compareOp .NotEq) (rOwn C sp true) := by
  rintro pps s σ H x y v u Q I rx ry ⟨a, dx, fs, rfl, ha, rt, hsp⟩
  cases rx
  obtain ⟨mA, J, _⟩ := ins_get I.hok ha
  obtain ⟨od, J, _⟩ := J.look
  obtain ⟨m, hF⟩ := I.fr
  obtain ⟨tb, lb, nb⟩ := rt.looks I e ry
  show wpAny (model X.prog X.w) X.A (richCompare .NotEq (.ref a) u) (EP X pps σ Q) X.xe s
  refine PySem.W.cmpNe_K (by have := hr.un; omega) hF I.ok.mod.kin J lb nb e.eq e.ne e.fn e.ob ?_
  have hl := F.len _ _ _ _ hsp
  have r2 : Vals [V.ref a, y] [Value.ref a, u] := .cons rfl (.cons ry .nil)
  have e0 : Env0 X.prog X.w X.K X.mg X.base X.A.in1 X.stack s H := by
    have e := I.env0
    exact ⟨e.frames, e.mod, e.bs, e.bsz, e.funs, e.frf, e.hok, e.bare⟩
  refine wpAny_call (codeAny_mono (F.run X.A.in1 X.stack s H ⟨[.ref a, u], []⟩ [.ref a, u] [.ref a, y] _ E0 hr.in1 e0 (by
    have := hb s [.ref a, u] I.kIn (by simpa using hl)
    simpa using this) r2 hsp) fun r s' hq => ?_)
  cases r with
  | error e => exact pass0 (X := X) pps σ H s e s' I hq
  | ok fl =>
    cases fl with
    | ret w =>
      obtain ⟨z, H', I', rz, k, ez, q⟩ := I.after hq
      subst ez
      cases rz
      exact ⟨k, rfl, .bl (!k), H', I', rfl, q⟩
    | next => exact False.elim hq
    | brk => exact False.elim hq
    | cont => exact False.elim hq
end
end Dr
/-! doors made and compared -/
namespace Dr
open PySem L2
structure GoodDoor (ws : List Wd) (sl : List Str) (hs : List Tm.Row) (ls : List (Tm × Tm)) : Prop where
  wok : WOK ws
  sok : SOK ws sl
  hok : HOK (ws.map (·.1) ++ sl) (ws.flatMap (·.2)) hs
  few : ls.length ≤ 16
  laws : ∀ l ∈ ls, LawOK ws hs l.1 l.2
def dF (sh w s h l m : V) : List (Str × V) := putF "meeting" m (putF "laws" l (putF "heads" h (putF "sealed" s (putF "words" w (putF "shape" sh [])))))
section
variable {sh w s h l m : V}
theorem dF_words : (dF sh w s h l m).lookup ("words" : Str) = some w := by
  unfold dF
  rw [lookup_putF, if_neg (by decide +kernel), lookup_putF, if_neg (by decide +kernel), lookup_putF, if_neg (by decide +kernel), lookup_putF, if_neg (by decide +kernel), lookup_putF, if_pos rfl]
theorem dF_sealed : (dF sh w s h l m).lookup ("sealed" : Str) = some s := by
  unfold dF
  rw [lookup_putF, if_neg (by decide +kernel), lookup_putF, if_neg (by decide +kernel), lookup_putF, if_neg (by decide +kernel), lookup_putF, if_pos rfl]
theorem dF_heads : (dF sh w s h l m).lookup ("heads" : Str) = some h := by
  unfold dF
  rw [lookup_putF, if_neg (by decide +kernel), lookup_putF, if_neg (by decide +kernel), lookup_putF, if_pos rfl]
theorem dF_laws : (dF sh w s h l m).lookup ("laws" : Str) = some l := by
  unfold dF
  rw [lookup_putF, if_neg (by decide +kernel), lookup_putF, if_pos rfl]
end
/-- a door stands at d, of these parts -/
def DoorIs (C : Addr) (H : Hp) (d : Addr) (p1 p2 p3 p4 : D) : Prop := ∃ dx sh v1 v2 v3 v4 m, H d = some (.ins C dx (dF sh v1 v2 v3 v4 m)) ∧ Dd H v1 p1 ∧ Dd H v2 p2 ∧ Dd H v3 p3 ∧ Dd H v4 p4
theorem DoorIs.gr {C : Addr} {S : List Addr} {H H' : Hp} {d : Addr} {p1 p2 p3 p4 : D} (h : DoorIs C H d p1 p2 p3 p4) (g : Gr S H H') (n : d ∉ S) : DoorIs C H' d p1 p2 p3 p4 := by
  obtain ⟨dx, sh, v1, v2, v3, v4, m, h0, h1, h2, h3, h4⟩ := h
  exact ⟨dx, sh, v1, v2, v3, v4, m, g.1 _ _ h0 n, h1.mono g.2, h2.mono g.2, h3.mono g.2, h4.mono g.2⟩
/-- no door -/
inductive Nd (H : Hp) : V → Prop
  | non : Nd H .non
  | int (i : Int) : Nd H (.int i)
  | str (x : Str) : Nd H (.str x)
  | lst {a : Addr} {xs : List V} : H a = some (.lst xs) → Nd H (.ref a)
  | tup {a : Addr} {xs : List V} : H a = some (.tup xs) → Nd H (.ref a)
structure DoorFacts (K : PySem.W.Frag) (C f : Addr) : Prop where
  eqc : EqC K C f
  kN : PySem.W.kitOne K (.type "NoneType") (.ref C) = some false
  kI : PySem.W.kitOne K (.type "int") (.ref C) = some false
  kS : PySem.W.kitOne K (.type "str") (.ref C) = some false
  kL : PySem.W.kitOne K (.type "list") (.ref C) = some false
  kT : PySem.W.kitOne K (.type "tuple") (.ref C) = some false
  kD : PySem.W.kitOne K (.ref C) (.ref C) = some true
  ha : PySem.W.findIn K (.ref C) "__class__" = some (some (.builtin "object.__class__"))
  hn : PySem.W.specialIn K (.builtin "object.__class__") "__get__" = some (some (.builtin "getset_descriptor.__get__"))
  htk : PySem.W.takesIn K (.builtin "object.__class__") = some true
theorem Nd.ty {K : PySem.W.Frag} {C f : Addr} {H : Hp} {y : V} (n : Nd H y) (d : DoorFacts K C f) : ∃ t, TyX K H y t ∧ PySem.W.kitOne K t (.ref C) = some false := by
  cases n with
  | non => exact ⟨_, .base .non, d.kN⟩
  | int i => exact ⟨_, .base (.int i), d.kI⟩
  | str x => exact ⟨_, .base (.str x), d.kS⟩
  | lst h => exact ⟨_, .base (.lst h), d.kL⟩
  | tup h => exact ⟨_, .base (.tup h), d.kT⟩
theorem Nd.rt {C : Addr} {H : Hp} {y : V} (n : Nd H y) : Rt C H y := by
  cases n with
  | non => exact .non
  | int i => exact .int i
  | str x => exact .str x
  | lst h => exact .lst h
  | tup h => exact .tup h
@[irreducible] def spDoor (C : Addr) : Sp := fun vs H Q _ => ∃ (d dx : Addr) (v1 v2 v3 v4 : V) (ws : List Wd) (sl : List Str) (hs : List Tm.Row) (ls : List (Tm × Tm)), vs = [.ref d, v1, v2, v3, v4] ∧ H d = some (.ins C dx []) ∧ Dd H v1 (encW ws) ∧ Dd H v2 (txts sl) ∧ Dd H v3 (encH hs) ∧ Dd H v4 (encL ls) ∧ GoodDoor ws sl hs ls ∧
  ∀ H' sh m, Gr [d] H H' → H' d = some (.ins C dx (dF sh v1 v2 v3 v4 m)) → Q .non H'
theorem spDoor_of {C : Addr} {vs : List V} {H : Hp} {Q : VK} {E : XK} (h : ∃ (d dx : Addr) (v1 v2 v3 v4 : V) (ws : List Wd) (sl : List Str) (hs : List Tm.Row) (ls : List (Tm × Tm)), vs = [.ref d, v1, v2, v3, v4] ∧ H d = some (.ins C dx []) ∧ Dd H v1 (encW ws) ∧ Dd H v2 (txts sl) ∧ Dd H v3 (encH hs) ∧ Dd H v4 (encL ls) ∧ GoodDoor ws sl hs ls ∧
  ∀ H' sh m, Gr [d] H H' → H' d = some (.ins C dx (dF sh v1 v2 v3 v4 m)) → Q .non H') : spDoor C vs H Q E := by unfold spDoor; exact h
@[irreducible] def spEqD (C : Addr) : Sp := fun vs H Q _ => ∃ (d : Addr) (y : V) (p1 p2 p3 p4 : D), vs = [.ref d, y] ∧ DoorIs C H d p1 p2 p3 p4 ∧ ((Nd H y ∧ Q (.bl false) H) ∨ ∃ d2 q1 q2 q3 q4, y = .ref d2 ∧ DoorIs C H d2 q1 q2 q3 q4 ∧ NestedKey.depth (.tup [p1, p2, p3, p4]) ≤ 60 ∧ NestedKey.depth (.tup [q1, q2, q3, q4]) ≤ 60 ∧
  ∀ H', Gr [] H H' → Q (.bl (decide (NestedKey.tup [p1, p2, p3, p4] = .tup [q1, q2, q3, q4]))) H')
theorem spEqD_of {C : Addr} {vs : List V} {H : Hp} {Q : VK} {E : XK} (h : ∃ (d : Addr) (y : V) (p1 p2 p3 p4 : D), vs = [.ref d, y] ∧ DoorIs C H d p1 p2 p3 p4 ∧ ((Nd H y ∧ Q (.bl false) H) ∨ ∃ d2 q1 q2 q3 q4, y = .ref d2 ∧ DoorIs C H d2 q1 q2 q3 q4 ∧ NestedKey.depth (.tup [p1, p2, p3, p4]) ≤ 60 ∧ NestedKey.depth (.tup [q1, q2, q3, q4]) ≤ 60 ∧
  ∀ H', Gr [] H H' → Q (.bl (decide (NestedKey.tup [p1, p2, p3, p4] = .tup [q1, q2, q3, q4]))) H')) : spEqD C vs H Q E := by unfold spEqD; exact h
section
variable {P : Program} {w : World} {K : PySem.W.Frag} {mg : Str → Option Value} {base : Heap}
theorem sc_Door_init : FnScope ["self", "words", "sealed", "heads", "laws", "kinds", "number", "rule", "name", "some"] ["self", "words", "sealed", "heads", "laws"] (defScope s_Door_init) := ⟨rfl, rfl, rfl, by decide +kernel, rfl, by decide +kernel, by decide +kernel⟩
theorem ok_Door_init (T : Tx K mg) : FnOk P w K mg base CX0 66 T.f_Door_init.f T.f_Door_init.fd ["self", "words", "sealed", "heads", "laws"] (spDoor T.cDoor.C) := by
  have GS := ok_Shape_init (P := P) (w := w) (base := base) T
  have MS : Mk K T.cShape.C T.f_Shape_init.f := T.f_Shape_init.mk' T.cShape.makes T.cShape.kp rfl
  refine T.f_Door_init.F.ok (k := 65) sc_Door_init (fun vs H Q E h => ?_) (fun cdv A outer s H vs Q E hr h => ?_)
  · unfold spDoor at h
    obtain ⟨d, dx, v1, v2, v3, v4, ws, sl, hs, ls, rfl, _⟩ := h
    rfl
  · have nd := sc_Door_init.nd
    refine ⟨_, (pss_cons (ps_if (pt_not (pt_val (pe_call (ok_are_words T) (hr.mono (by omega)) rfl T.f_are_words.g T.f_are_words.F.kp T.f_are_words.b .nil pass0 (pa_cons (pv 1) pa_nil)))) (pss_one ps_never) pss_nil) (pss_cons (ps_if (pt_not (pt_val (pe_call (ok_are_sealed T) (hr.mono (by omega)) rfl T.f_are_sealed.g T.f_are_sealed.F.kp T.f_are_sealed.b .nil pass0 (pa_cons (pv 2) (pa_cons (pv 1) pa_nil))))) (pss_one ps_never) pss_nil) (pss_cons (ps_set (i := 5) nd rfl (Or.inl rfl) (pe_op op_cat (pe_lc (own := [("name", 8), ("some", 9)]) rfl nd (piT K (pv 1)) (blkOk_by (own := [("name", 8), ("some", 9)]) (N := ["self", "words", "sealed", "heads", "laws", "kinds", "number", "rule", "name", "some"]) (sc := defScope s_Door_init) (by decide +kernel)) (fun _ _ _ _ _ => (pgT K 2 (pgs_cons (pg_name (i := 8) nd rfl (Or.inl rfl) (Or.inr rfl)) (pgs_cons (pg_name (i := 9) nd rfl (Or.inl rfl) (Or.inr rfl)) pgs_nil)))) (fun _ _ _ _ _ => pts_nil) (fun _ _ _ _ _ => (pv 8))) (pe_callTy call_list_of (by rfl) T.z_list (by decide +kernel) (pa_cons (pv 2) pa_nil)))) (pss_cons (ps_if (pt_not (pt_val (pe_call (ok_are_heads T) (hr.mono (by omega)) rfl T.f_are_heads.g T.f_are_heads.F.kp T.f_are_heads.b .nil pass0 (pa_cons (pv 3) (pa_cons (pv 5) (pa_cons (pe_callB (cr_sumT rfl) (by rfl) T.z_sum (by decide +kernel) (pa_cons (pe_lc (own := [("name", 8), ("some", 9)]) rfl nd (piT K (pv 1)) (blkOk_by (own := [("name", 8), ("some", 9)]) (N := ["self", "words", "sealed", "heads", "laws", "kinds", "number", "rule", "name", "some"]) (sc := defScope s_Door_init) (by decide +kernel)) (fun _ _ _ _ _ => (pgT K 2 (pgs_cons (pg_name (i := 8) nd rfl (Or.inl rfl) (Or.inr rfl)) (pgs_cons (pg_name (i := 9) nd rfl (Or.inl rfl) (Or.inr rfl)) pgs_nil)))) (fun _ _ _ _ _ => pts_nil) (fun _ _ _ _ _ => (pv 9))) (pa_cons (pe_tup pa_nil) pa_nil))) pa_nil)))))) (pss_one ps_never) pss_nil) (pss_cons (ps_fld (pv 0) (pe_make MS GS (hr.mono (by omega)) rfl T.cShape.g T.f_Shape_init.b .nil pass0 (pa_cons (pv 1) (pa_cons (pv 2) (pa_cons (pv 3) pa_nil)))) rfl) (pss_cons (ps_if (pt_not (pt_val (pe_call (ok_is_tuple T) (hr.mono (by omega)) rfl T.f_is_tuple.g T.f_is_tuple.F.kp T.f_is_tuple.b .nil pass0 (pa_cons (pv 4) (pa_cons pe_int (pa_cons (pe_glo (by rfl) T.gMOST_LAWS) pa_nil)))))) (pss_one ps_never) pss_nil) (pss_cons (ps_for PassesOwn.never rfl (pi_enumT (by rfl) T.z_enumerate (pa_cons (pv 4) pa_nil)) (pgT K 2 (pgs_cons (pg_name (i := 6) nd rfl (Or.inl rfl) (Or.inr rfl)) (pgs_cons (pg_name (i := 7) nd rfl (Or.inl rfl) (Or.inr rfl)) pgs_nil))) (pss_one (ps_if (pt_not (pt_val (pe_call (ok_is_law T) (hr.mono (by omega)) rfl T.f_is_law.g T.f_is_law.F.kp T.f_is_law.b .nil pass0 (pa_cons (fldK K (pv 0)) (pa_cons (pv 7) pa_nil))))) (pss_one ps_never) pss_nil))) (pss_cons (ps_fld (pv 0) (pv 1) rfl) (pss_cons (ps_fld (pv 0) (pv 2) rfl) (pss_cons (ps_fld (pv 0) (pv 3) rfl) (pss_cons (ps_fld (pv 0) (pv 4) rfl) (pss_one (ps_fld (pv 0) (pe_lst pa_nil) rfl))))))))))))), ?_⟩
    unfold spDoor at h
    obtain ⟨d, dx, v1, v2, v3, v4, ws, sl, hs, ls, rfl, hd, e1, e2, e3, e4, good, k⟩ := h
    obtain ⟨a, vs, rfl, ha, hws⟩ := e1.tup_inv
    obtain ⟨b, rfl, hb⟩ := txts_inv e2
    obtain ⟨c, us, rfl, hc, hhs⟩ := e4.tup_inv
    have lvs := hws.map_len
    have lus := hhs.map_len
    have l1 := good.wok.len
    have l2 := good.sok.len
    have wfew : (ws.flatMap (·.2)).length ≤ 16 := by
      have : ∀ l : List Wd, (∀ wd ∈ l, wd.2.length ≤ 4) → (l.flatMap (·.2)).length ≤ 4 * l.length := by
        intro l
        induction l with
        | nil => intro _; simp
        | cons x l ih =>
          intro h
          have h1 := h x List.mem_cons_self
          have h2 := ih fun wd hw => h wd (List.mem_cons_of_mem _ hw)
          rw [List.flatMap_cons, List.length_append, List.length_cons]
          omega
      have := this ws fun wd hw => (good.wok.each wd hw).2.2.1
      omega
    let σ0 : Option V → Option V → Option V → L2.St := fun kk n1 n2 => [some (.ref d), some (.ref a), some (.ref b), some v3, some (.ref c), kk, n1, n2, none, none]
    refine cut (fun σ' H' => σ' = σ0 none none none ∧ Gr [] H H') ?_ (fun rest => ?_)
    case refine_2 =>
      refine ⟨_, rfl, ?_⟩
      show spAreWords [.ref a] H _ _
      exact spAreWords_of ⟨_, ws, rfl, e1, good.wok, fun H1 g1 => ⟨true, rfl, iteF (rest _ _ ⟨rfl, g1⟩)⟩⟩
    rintro σ' H1 ⟨rfl, g1⟩
    refine cut (fun σ' H' => σ' = σ0 none none none ∧ Gr [] H H') ?_ (fun rest => ?_)
    case refine_2 =>
      refine ⟨_, rfl, _, rfl, ?_⟩
      show spAreSealed [.ref b, .ref a] H1 _ _
      exact spAreSealed_of ⟨_, _, ws, sl, rfl, e2.mono g1.2, e1.mono g1.2, good.sok, l1.2, fun H2 g2 => ⟨true, rfl, iteF (rest _ _ ⟨rfl, g1.trans g2⟩)⟩⟩
    rintro σ' H2 ⟨rfl, g2⟩
    -- kinds
    refine cut (fun σ' H' => ∃ l, σ' = σ0 (some (.ref l)) none none ∧ Gr [] H H' ∧ H' l = some (.lst ((ws.map (·.1) ++ sl).map V.str))) ?_ (fun rest => ?_)
    case refine_2 =>
      have ha2 := g2.2 _ _ ha
      refine ⟨_, rfl, a, rfl, ⟨_, SqT.of ha2⟩, fun D hD => ?_⟩
      have haD : a ≠ D := ne_of_none ha2 hD
      refine lc_map (xs := vs) walk_tup [] (fun _ _ => True) (fun i y _ => ∃ wd, ws[i]? = some wd ∧ y = .str wd.1) hD (by simp) (by omega) (fun H' g => SqT.of (g.2 _ _ (by rw [upd_ne haD]; exact ha2))) (fun _ _ _ _ _ h => h) trivial (fun _ _ _ _ _ _ => trivial) ?_ ?_
      · intro i x H3 R hx g3 _ kR
        obtain ⟨wd, hwd, dw⟩ := hws.map_get hx
        have gg : Ts H H3 := (g2.2.trans (Ts.new hD)).trans g3.2
        obtain ⟨p, q, rfl, hp, hq⟩ := wd_inv (dw.mono gg)
        refine ⟨p, _, rfl, SqT.of hp, rfl, _, _, rfl, _, _, rfl, rfl, rfl, ?_⟩
        exact ⟨_, rfl, kR _ _ (Gr.refl _ _) trivial ⟨wd, hwd, rfl⟩⟩
      · intro ys H3 g3 _ hl hn hy
        have ey := map_of (by rw [hn, lvs]) hy
        have hb3 := (g2.trans g3).2 _ _ hb
        refine ⟨_, rfl, b, _, rfl, .inr (SqT.of hb3), fun l hl3 => ?_⟩
        have hDl : D ≠ l := ne_of_none hl hl3
        refine ⟨D, l, ys, _, rfl, rfl, (by rw [upd_ne hDl]; exact hl), upd_same, (by rw [hn, List.length_map, sizeLine_eq]; omega), fun p hp => ?_⟩
        refine rest _ _ ⟨p, rfl, ((g2.trans g3).trans (Gr.new hl3)).trans (Gr.new hp), ?_⟩
        rw [upd_same, ey, List.map_append, List.map_map]
        rfl
    rintro σ' H3 ⟨kl, rfl, g3, hkl⟩
    refine cut (fun σ' H' => σ' = σ0 (some (.ref kl)) none none ∧ Gr [] H H') ?_ (fun rest => ?_)
    case refine_2 =>
      have ha3 := g3.2 _ _ ha
      refine ⟨_, rfl, _, rfl, _, rfl, a, rfl, ⟨_, SqT.of ha3⟩, fun D hD => ?_⟩
      have haD : a ≠ D := ne_of_none ha3 hD
      refine lc_map (xs := vs) walk_tup [] (fun _ _ => True) (fun i y H' => ∃ wd, ws[i]? = some wd ∧ ∃ b, y = .ref b ∧ H' b = some (.tup (wd.2.map V.str))) hD (by simp) (by omega) (fun H' g => SqT.of (g.2 _ _ (by rw [upd_ne haD]; exact ha3))) (fun _ _ _ _ g ⟨wd, h1, b, h2, h3⟩ => ⟨wd, h1, b, h2, g.2 _ _ h3⟩) trivial (fun _ _ _ _ _ _ => trivial) ?_ ?_
      · intro i x H4 R hx g4 _ kR
        obtain ⟨wd, hwd, dw⟩ := hws.map_get hx
        have gg : Ts H H4 := (g3.2.trans (Ts.new hD)).trans g4.2
        obtain ⟨p, q, rfl, hp, hq⟩ := wd_inv (dw.mono gg)
        refine ⟨p, _, rfl, SqT.of hp, rfl, _, _, rfl, _, _, rfl, rfl, rfl, ?_⟩
        exact ⟨_, rfl, kR _ _ (Gr.refl _ _) trivial ⟨wd, hwd, q, rfl, hq⟩⟩
      · intro zs H4 g4 _ hl4 hn4 hy4
        refine ⟨(by show 0 ≤ sizeLine; decide), fun t ht => ?_⟩
        have gt : Gr [] H4 (upd H4 t (.tup [])) := Gr.new ht
        have efl : (ws.map fun wd => wd.2.map V.str).flatten = (ws.flatMap (·.2)).map V.str := by
          rw [List.flatMap, List.map_flatten, List.map_map]
          rfl
        refine ⟨D, t, zs, ws.map fun wd => wd.2.map V.str, rfl, gt.same _ _ hl4, upd_same, paired_of (by rw [hn4, List.length_map, lvs]) fun i y hi => ?_, ?_, fun p H5 g5 hp => ?_⟩
        · obtain ⟨wd, h1, b, h2, h3⟩ := hy4 i y hi
          exact ⟨_, by rw [List.getElem?_map, h1]; rfl, b, h2, gt.2 _ _ h3⟩
        · rw [efl, List.length_map, sizeLine_eq]
          omega
        · rw [efl] at hp
          have g35 := ((g4.trans gt).trans g5)
          show spAreHeads [v3, .ref kl, .ref p] H5 _ _
          exact spAreHeads_of ⟨v3, kl, p, _, _, hs, rfl, e3.mono (g3.trans g35).2, g35.same _ _ hkl, hp, good.hok, fun H6 g6 => ⟨true, rfl, iteF (rest _ _ ⟨rfl, (g3.trans g35).trans g6⟩)⟩⟩
    rintro σ' H4 ⟨rfl, g4⟩
    -- the shape
    refine cut (fun σ' H' => σ' = σ0 (some (.ref kl)) none none ∧ ∃ x ds, Gr [d] H H' ∧ H' d = some (.ins T.cDoor.C dx (putF "shape" (.ref x) [])) ∧ Sh T.cShape.C ws hs x ds H') ?_ (fun rest => ?_)
    case refine_2 =>
      have hd4 := g4.same _ _ hd
      refine ⟨_, rfl, _, rfl, _, rfl, fun x dx' hx hdx hne => ?_⟩
      have gx : Gr [] H4 (upd (upd H4 dx' (.own x)) x (.ins T.cShape.C dx' [])) := (Gr.new hdx).trans (Gr.new (by rw [upd_ne (Ne.symm hne)]; exact hx))
      have g5 := g4.trans gx
      show spSh T.cShape.C [.ref x, .ref a, .ref b, v3] _ _ _
      refine spSh_of ⟨x, dx', _, _, _, ws, hs, rfl, upd_same, e1.mono g5.2, e3.mono g5.2, l1.2, fun wd hw => (good.wok.each wd hw).2.2.1, good.hok.len.2, good.wok.words, good.hok.unlike, fun H6 ds g6 sh => ⟨rfl, ?_⟩⟩
      have hdx2 : d ≠ x := ne_of_none hd4 hx
      have hd6 := g6.1 _ _ (gx.same _ _ hd4) (by simpa using hdx2)
      have g46 : Gr [] H H6 := g4.trans (((gx.less (S := [x])).trans g6).since hx)
      have gd : Gr [d] H6 (upd H6 d (.ins T.cDoor.C dx (putF "shape" (.ref x) []))) := Gr.at hd6 (fun _ z => nomatch z) List.mem_cons_self
      have dsd : ∀ z ∈ ds, z ∉ [d] := fun z hz => by
        obtain ⟨kv0, h0⟩ := sh.there z hz
        simpa using ne_of h0 hd6 (fun q => nomatch q)
      exact ⟨_, rfl, d, _, dx, _, rfl, hd6, T.cDoor.cl, T.n_Door_shape, (by show 0 < 1000; decide), rest _ _ ⟨rfl, x, ds, g46.less.trans gd, upd_same, sh.gr gd dsd (by simpa using Ne.symm hdx2)⟩⟩
    rintro σ' H5 ⟨rfl, x, ds, g5, hd5, sh⟩
    refine cut (fun σ' H' => σ' = σ0 (some (.ref kl)) none none ∧ H5 = H') ?_ (fun rest => ?_)
    case refine_2 =>
      refine ⟨_, rfl, ?_⟩
      show spTuple [.ref c, .int 0, .int 16] H5 _ _
      refine spTuple_of ⟨_, _, _, rfl, .inr ⟨c, _, rfl, g5.2 _ _ hc, ?_⟩⟩
      have := good.few
      rw [decide_eq_true (show (0 : Int) ≤ (us.length : Int) by omega), decide_eq_true (show (us.length : Int) ≤ 16 by omega)]
      exact ⟨true, rfl, iteF (rest _ _ ⟨rfl, rfl⟩)⟩
    rintro σ' H' ⟨rfl, rfl⟩
    refine cut (fun σ' H' => ∃ n1 n2, σ' = σ0 (some (.ref kl)) n1 n2 ∧ Gr [d] H H' ∧ H' d = some (.ins T.cDoor.C dx (putF "shape" (.ref x) []))) ?_ (fun rest => ?_)
    case refine_2 =>
      have hc5 := g5.2 _ _ hc
      refine ⟨_, rfl, c, _, rfl, SqT.of hc5, ?_⟩
      refine for_it (n := us.length) walk_enumT (fun i σ H' => ∃ n1 n2, σ = σ0 (some (.ref kl)) n1 n2 ∧ Gr [] H5 H') ⟨_, _, rfl, Gr.refl _ _⟩ (fun i σ H' _ ⟨_, _, _, g⟩ => SqT.of (g.2 _ _ hc5)) ?_ ?_
      · rintro i y σ H6 H7 hi ⟨n1, n2, rfl, g6⟩ ⟨U, y1, y2, rfl, hU, rfl, q1, q2⟩
        cases Option.some.inj q1
        obtain ⟨lw, hlw, dl⟩ := hhs.map_get (show us[i]? = some y2 from q2)
        have gU : Gr [] H6 (upd H6 U (.tup [.int (i : Nat), y2])) := Gr.new hU
        have g57 := g6.trans gU
        refine ⟨U, _, rfl, SqT.of upd_same, rfl, _, _, rfl, _, _, rfl, rfl, ?_⟩
        refine ⟨_, rfl, d, _, dx, _, _, rfl, g57.same _ _ hd5, T.cDoor.cl, T.n_Door_shape, (by rw [lookup_putF, if_pos rfl]), _, rfl, ?_⟩
        show spLaw1 T.cShape.C [.ref x, y2] _ _ _
        exact spLaw1_of ⟨x, y2, ws, hs, ds, lw.1, lw.2, rfl, sh.gr0 g57, (dl.mono g5.2).mono g57.2, good.laws lw (List.mem_of_getElem? hlw), fun r hr' => (good.hok.each r hr').2.2.1, fun H8 g8 => ⟨true, rfl, iteF ⟨_, _, rfl, g57.trans g8⟩⟩⟩
      · rintro σ H6 ⟨n1, n2, rfl, g6⟩
        exact rest _ _ ⟨_, _, rfl, g5.trans g6.less, g6.same _ _ hd5⟩
    rintro σ' H6 ⟨n1, n2, rfl, g6, hd6⟩
    -- the fields
    have st : ∀ {H' : Hp} {fs gs : List (Str × V)}, H' d = some (.ins T.cDoor.C dx fs) → Gr [d] H' (upd H' d (.ins T.cDoor.C dx gs)) := fun h => Gr.at h (fun _ z => nomatch z) List.mem_cons_self
    refine cut (fun σ' H' => σ' = σ0 (some (.ref kl)) n1 n2 ∧ Gr [d] H H' ∧ H' d = some (.ins T.cDoor.C dx (putF "words" (.ref a) (putF "shape" (.ref x) [])))) ?_ (fun rest => ?_)
    case refine_2 => exact ⟨_, rfl, _, rfl, d, _, dx, _, rfl, hd6, T.cDoor.cl, T.n_Door_words, (by show 1 < 1000; decide), rest _ _ ⟨rfl, g6.trans (st hd6), upd_same⟩⟩
    rintro σ' H7 ⟨rfl, g7, hd7⟩
    refine cut (fun σ' H' => σ' = σ0 (some (.ref kl)) n1 n2 ∧ Gr [d] H H' ∧ H' d = some (.ins T.cDoor.C dx (putF "sealed" (.ref b) (putF "words" (.ref a) (putF "shape" (.ref x) []))))) ?_ (fun rest => ?_)
    case refine_2 => exact ⟨_, rfl, _, rfl, d, _, dx, _, rfl, hd7, T.cDoor.cl, T.n_Door_sealed, (by show 2 < 1000; decide), rest _ _ ⟨rfl, g7.trans (st hd7), upd_same⟩⟩
    rintro σ' H8 ⟨rfl, g8, hd8⟩
    refine cut (fun σ' H' => σ' = σ0 (some (.ref kl)) n1 n2 ∧ Gr [d] H H' ∧ H' d = some (.ins T.cDoor.C dx (putF "heads" v3 (putF "sealed" (.ref b) (putF "words" (.ref a) (putF "shape" (.ref x) [])))))) ?_ (fun rest => ?_)
    case refine_2 => exact ⟨_, rfl, _, rfl, d, _, dx, _, rfl, hd8, T.cDoor.cl, T.n_Door_heads, (by show 3 < 1000; decide), rest _ _ ⟨rfl, g8.trans (st hd8), upd_same⟩⟩
    rintro σ' H9 ⟨rfl, g9, hd9⟩
    refine cut (fun σ' H' => σ' = σ0 (some (.ref kl)) n1 n2 ∧ Gr [d] H H' ∧ H' d = some (.ins T.cDoor.C dx (putF "laws" (.ref c) (putF "heads" v3 (putF "sealed" (.ref b) (putF "words" (.ref a) (putF "shape" (.ref x) []))))))) ?_ (fun rest => ?_)
    case refine_2 => exact ⟨_, rfl, _, rfl, d, _, dx, _, rfl, hd9, T.cDoor.cl, T.n_Door_laws, (by show 4 < 1000; decide), rest _ _ ⟨rfl, g9.trans (st hd9), upd_same⟩⟩
    rintro σ' H10 ⟨rfl, g10, hd10⟩
    refine ⟨(by show 0 ≤ sizeLine; decide), fun m hm => ?_⟩
    have gm : Gr [] H10 (upd H10 m (.lst [])) := Gr.new hm
    have hd11 := gm.same _ _ hd10
    exact ⟨_, rfl, d, _, dx, _, rfl, hd11, T.cDoor.cl, T.n_Door_meeting, (by show 5 < 1000; decide), k _ (.ref x) (.ref m) ((g10.trans gm.less).trans (st hd11)) upd_same⟩
theorem sc_Door_eq : FnScope ["self", "other", "mine"] ["self", "other"] (defScope s_Door_eq) := ⟨rfl, rfl, rfl, by decide +kernel, rfl, by decide +kernel, by decide +kernel⟩
theorem ok_Door_eq (T : Tx K mg) (F : DoorFacts K T.cDoor.C T.f_Door_eq.f) : FnOk P w K mg base CX0 1 T.f_Door_eq.f T.f_Door_eq.fd ["self", "other"] (spEqD T.cDoor.C) := by
  refine T.f_Door_eq.F.ok (k := 0) sc_Door_eq (fun vs H Q E h => ?_) (fun cdv A outer s H vs Q E hr h => ?_)
  · unfold spEqD at h
    obtain ⟨d, y, p1, p2, p3, p4, rfl, _⟩ := h
    rfl
  · have nd := sc_Door_eq.nd
    refine ⟨_, (pss_cons (ps_if (pt_not (pt_val (pe_callB (isiK K) (by rfl) T.z_isinstance (by decide +kernel) (pa_cons (pv 1) (pa_cons (pe_glob (v := .ref T.cDoor.C) (by rfl) T.cDoor.g rfl) pa_nil))))) (pss_one (ps_ret pe_bl)) pss_nil) (pss_cons (ps_set (i := 2) nd rfl (Or.inl rfl) (pe_tup (pa_cons (fldK K (pv 0)) (pa_cons (fldK K (pv 0)) (pa_cons (fldK K (pv 0)) (pa_cons (fldK K (pv 0)) pa_nil)))))) (pss_one (ps_ret (pe_cmpR (op_eqN hr.units) (pv 2) (pe_tup (pa_cons (fldK K (pv 1)) (pa_cons (fldK K (pv 1)) (pa_cons (fldK K (pv 1)) (pa_cons (fldK K (pv 1)) pa_nil))))) (nomark _)))))), ?_⟩
    unfold spEqD at h
    obtain ⟨d, y, p1, p2, p3, p4, rfl, ⟨dx, sh, v1, v2, v3, v4, m, hd, e1, e2, e3, e4⟩, h⟩ := h
    rcases h with ⟨hn, k⟩ | ⟨d2, q1, q2, q3, q4, rfl, ⟨dx2, sh2, u1, u2, u3, u4, m2, hd2, f1, f2, f3, f4⟩, z1, z2, k⟩
    · obtain ⟨t, ty, kt⟩ := hn.ty F
      exact ⟨_, rfl, _, _, _, _, false, rfl, .own _, ty, kt, false, rfl, iteT k⟩
    · refine cut (fun σ' H' => σ' = [some (.ref d), some (.ref d2), none] ∧ H = H') ?_ (fun rest => ?_)
      case refine_2 =>
        exact ⟨_, rfl, _, _, _, _, true, rfl, .own _, .base (.ins hd2 T.cDoor.cl F.ha F.hn F.htk F.eqc.ob), F.kD, true, rfl, iteF (rest _ _ ⟨rfl, rfl⟩)⟩
      rintro σ' H' ⟨rfl, rfl⟩
      refine cut (fun σ' H' => ∃ t, σ' = [some (.ref d), some (.ref d2), some (.ref t)] ∧ Gr [] H H' ∧ H' t = some (.tup [v1, v2, v3, v4])) ?_ (fun rest => ?_)
      case refine_2 =>
        refine ⟨_, rfl, d, _, dx, _, _, rfl, hd, T.cDoor.cl, T.n_Door_words, dF_words, _, rfl, d, _, dx, _, _, rfl, hd, T.cDoor.cl, T.n_Door_sealed, dF_sealed, _, rfl, d, _, dx, _, _, rfl, hd, T.cDoor.cl, T.n_Door_heads, dF_heads, _, rfl, d, _, dx, _, _, rfl, hd, T.cDoor.cl, T.n_Door_laws, dF_laws, (by show 4 ≤ sizeLine; decide), fun t ht => ?_⟩
        exact rest _ _ ⟨t, rfl, Gr.new ht, upd_same⟩
      rintro σ' H1 ⟨t, rfl, g1, ht⟩
      have hd21 := g1.same _ _ hd2
      refine ⟨_, rfl, _, rfl, d2, _, dx2, _, _, rfl, hd21, T.cDoor.cl, T.n_Door_words, dF_words, _, rfl, d2, _, dx2, _, _, rfl, hd21, T.cDoor.cl, T.n_Door_sealed, dF_sealed, _, rfl, d2, _, dx2, _, _, rfl, hd21, T.cDoor.cl, T.n_Door_heads, dF_heads, _, rfl, d2, _, dx2, _, _, rfl, hd21, T.cDoor.cl, T.n_Door_laws, dF_laws, (by show 4 ≤ sizeLine; decide), fun r hr' => ?_⟩
      have gr : Gr [] H1 (upd H1 r (.tup [u1, u2, u3, u4])) := Gr.new hr'
      have gg := g1.trans gr
      exact ⟨.tup [p1, p2, p3, p4], .tup [q1, q2, q3, q4], .tup (gr.2 _ _ ht) (.cons (e1.mono gg.2) (.cons (e2.mono gg.2) (.cons (e3.mono gg.2) (.cons (e4.mono gg.2) .nil)))), .tup upd_same (.cons (f1.mono gg.2) (.cons (f2.mono gg.2) (.cons (f3.mono gg.2) (.cons (f4.mono gg.2) .nil)))), z1, z2, k _ gg⟩
end
end Dr
/-! what the law draws: words, heads -/
namespace Dr
open PySem L2
def rIxN : R2 := fun x y H Q => ∃ p xs i v, x = .ref p ∧ y = .int i ∧ (H p = some (.lst xs) ∨ H p = some (.tup xs)) ∧ atI xs i = some v ∧ Q v H
theorem ixN {X : Cx} : IxR X rIxN := by
  intro value slice pps s σ H x y v u Q I rx ry h hs
  obtain ⟨p, xs, i, w, ex, ey, hp, e, q⟩ := h
  rcases hp with hp | hp
  · exact ix_list value slice pps s σ H x y v u Q I rx ry ⟨p, xs, i, w, ex, ey, SqL.of hp, e, q⟩ hs
  · exact ix_tup value slice pps s σ H x y v u Q I rx ry ⟨p, xs, i, w, ex, ey, SqT.of hp, e, q⟩ hs
abbrev hl (c : Addr) (a1 a2 a3 a4 : Int) : List V := [.ref c, .int a1, .int a2, .int a3, .int a4]
/-- the hand stands at p, its cells at c -/
def HA (H : Hp) (p c : Addr) : Prop := ∃ (cs : List Int) (a1 a2 a3 a4 : Int), 0 ≤ a1 ∧ H p = some (.lst (hl c a1 a2 a3 a4)) ∧ H c = some (.lst (cs.map V.int)) ∧ c ≠ p
theorem HA.gr {S : List Addr} {H H' : Hp} {p c : Addr} (h : HA H p c) (g : Gr S H H') (n : p ∉ S) (m : c ∉ S) : HA H' p c := by
  obtain ⟨cs, a1, a2, a3, a4, h0, h1, h2, h3⟩ := h
  exact ⟨cs, a1, a2, a3, a4, h0, g.1 _ _ h1 n, g.1 _ _ h2 m, h3⟩
theorem HA.gr0 {H H' : Hp} {p c : Addr} (h : HA H p c) (g : Gr [] H H') : HA H' p c := h.gr g (by simp) (by simp)
theorem HA.lst {H : Hp} {p c : Addr} (h : HA H p c) : ∃ xs, H p = some (.lst xs) := let ⟨_, _, _, _, _, _, h1, _⟩ := h; ⟨_, h1⟩
theorem HA.lstc {H : Hp} {p c : Addr} (h : HA H p c) : ∃ xs, H c = some (.lst xs) := let ⟨_, _, _, _, _, _, _, h1, _⟩ := h; ⟨_, h1⟩
theorem HA.cp {H : Hp} {p c : Addr} (h : HA H p c) : c ≠ p := let ⟨_, _, _, _, _, _, _, _, h1⟩ := h; h1
/-- what is not there is not the hand -/
theorem HA.ne {H : Hp} {p c q : Addr} (h : HA H p c) (e : H q = none) : q ≠ p := by
  obtain ⟨xs, h1⟩ := h.lst
  exact (ne_of_none h1 e).symm
theorem HA.nec {H : Hp} {p c q : Addr} (h : HA H p c) (e : H q = none) : q ≠ c := by
  obtain ⟨xs, h1⟩ := h.lstc
  exact (ne_of_none h1 e).symm
/-- what is no list is not the hand -/
theorem HA.neo {H : Hp} {p c q : Addr} {o : HO} (h : HA H p c) (e : H q = some o) (n : ∀ xs, o ≠ .lst xs) : q ≠ p := by
  obtain ⟨xs, h1⟩ := h.lst
  exact (ne_of h1 e fun z => n _ z.symm).symm
theorem HA.neco {H : Hp} {p c q : Addr} {o : HO} (h : HA H p c) (e : H q = some o) (n : ∀ xs, o ≠ .lst xs) : q ≠ c := by
  obtain ⟨xs, h1⟩ := h.lstc
  exact (ne_of h1 e fun z => n _ z.symm).symm
theorem HA.new {H : Hp} {p c q : Addr} {o : HO} (h : HA H p c) (e : H q = none) : HA (upd H q o) p c := h.gr0 (Gr.new e)
theorem HA.upd {H : Hp} {p c q : Addr} {o : HO} (h : HA H p c) (e : q ≠ p) (f : q ≠ c) : HA (upd H q o) p c := by
  obtain ⟨cs, a1, a2, a3, a4, h0, h1, h2, h3⟩ := h
  exact ⟨cs, a1, a2, a3, a4, h0, by rw [upd_ne e.symm]; exact h1, by rw [upd_ne f.symm]; exact h2, h3⟩
@[irreducible] def spDrawI : Sp := fun vs H Q _ => ∃ (p c : Addr) (n : Int), vs = [.ref p, .int n] ∧ HA H p c ∧ 0 < n ∧ n < 1073741824 ∧ ∀ r H', 0 ≤ r → r < n → HA H' p c → Gr [p] H H' → Q (.int r) H'
theorem spDrawI_of {vs : List V} {H : Hp} {Q : VK} {E : XK} (h : ∃ (p c : Addr) (n : Int), vs = [.ref p, .int n] ∧ HA H p c ∧ 0 < n ∧ n < 1073741824 ∧ ∀ r H', 0 ≤ r → r < n → HA H' p c → Gr [p] H H' → Q (.int r) H') : spDrawI  vs H Q E := by unfold spDrawI; exact h
@[irreducible] def spSome : Sp := fun vs H Q _ => ∃ (p c l : Addr) (xs : List V), vs = [.ref p, .ref l] ∧ HA H p c ∧ (H l = some (.lst xs) ∨ H l = some (.tup xs)) ∧ l ≠ p ∧ xs ≠ [] ∧ xs.length ≤ 1000 ∧ ∀ (i : Nat) x H', xs[i]? = some x → HA H' p c → Gr [p] H H' → Q x H'
theorem spSome_of {vs : List V} {H : Hp} {Q : VK} {E : XK} (h : ∃ (p c l : Addr) (xs : List V), vs = [.ref p, .ref l] ∧ HA H p c ∧ (H l = some (.lst xs) ∨ H l = some (.tup xs)) ∧ l ≠ p ∧ xs ≠ [] ∧ xs.length ≤ 1000 ∧ ∀ (i : Nat) x H', xs[i]? = some x → HA H' p c → Gr [p] H H' → Q x H') : spSome  vs H Q E := by unfold spSome; exact h
@[irreducible] def spHand (K : PySem.W.Frag) : Sp := fun vs H Q _ => ∃ (a : Addr) (ns : List Int), vs = [.ref a] ∧ SqL K H a (ns.map V.int) ∧ ns.length ≤ 63 ∧ ∀ p c H', Gr [] H H' → H p = none → HA H' p c → Q (.ref p) H'
theorem spHand_of {K : PySem.W.Frag} {vs : List V} {H : Hp} {Q : VK} {E : XK} (h : ∃ (a : Addr) (ns : List Int), vs = [.ref a] ∧ SqL K H a (ns.map V.int) ∧ ns.length ≤ 63 ∧ ∀ p c H', Gr [] H H' → H p = none → HA H' p c → Q (.ref p) H') : spHand K vs H Q E := by unfold spHand; exact h
theorem upd_eq {H : Hp} {a : Addr} {o : HO} (h : H a = some o) : upd H a o = H := by
  funext b
  by_cases e : b = a
  · rw [e, upd_same, h]
  · rw [upd_ne e]
theorem small_mul {i j : Int} (h1 : 0 ≤ i) (h2 : i < 2147483648) : CMul i j := .inl ⟨by omega, by omega⟩
theorem cut_ints (ns : List Int) (l u : Option Int) : ∃ ms : List Int, cutV (ns.map V.int) l u = ms.map V.int ∧ ms.length ≤ ns.length := by
  refine ⟨(ns.drop (HT.sIx (ns.map V.int).length 0 l)).take (HT.sIx (ns.map V.int).length (ns.map V.int).length u - HT.sIx (ns.map V.int).length 0 l), ?_, ?_⟩
  · unfold cutV
    rw [List.map_take, List.map_drop]
  · rw [List.length_take, List.length_drop]
    omega
theorem cut_drop {xs : List V} {r : Nat} (h : r ≤ xs.length) : cutV xs (some (r : Int)) none = xs.drop r := by
  unfold cutV
  rw [HT.sIx_nat, Nat.min_eq_left h]
  show (xs.drop r).take (xs.length - r) = _
  rw [List.take_of_length_le (by rw [List.length_drop]; omega)]
theorem cut_take {xs : List V} {r : Nat} : cutV xs none (some (r : Int)) = xs.take r := by
  unfold cutV
  rw [HT.sIx_nat]
  show (xs.drop 0).take (min r xs.length - 0) = _
  rw [List.drop_zero, Nat.sub_zero]
  by_cases h : r ≤ xs.length
  · rw [Nat.min_eq_left h]
  · rw [Nat.min_eq_right (by omega), List.take_of_length_le (Nat.le_refl _), List.take_of_length_le (by omega)]
section
variable {P : Program} {w : World} {K : PySem.W.Frag} {mg : Str → Option Value} {base : Heap}
theorem sc_law_draw : FnScope ["hand", "many", "cell", "digit", "number"] ["hand", "many"] (defScope s_law_draw) := ⟨rfl, rfl, rfl, by decide +kernel, rfl, by decide +kernel, by decide +kernel⟩
theorem ok_law_draw (T : Tx K mg) : FnOk P w K mg base CX0 1 T.f_law_draw.f T.f_law_draw.fd ["hand", "many"] spDrawI := by
  refine T.f_law_draw.F.ok sc_law_draw (fun vs H Q E h => ?_) (fun cdv A outer s H vs Q E hr h => ?_)
  · unfold spDrawI at h
    obtain ⟨p, c, n, rfl, _⟩ := h
    rfl
  · have nd := sc_law_draw.nd
    refine ⟨_, (pss_cons (ps_if (PW.pt (pw_and (pt_cmpR op_eq (pe_ix (ixL K) (pv 0) pe_int (fun _ _ => rfl)) pe_int (nomark _)) (pw_and1 (pt_cmpR op_lt (pe_ix (ixL K) (pv 0) pe_int (fun _ _ => rfl)) (pe_callB (lenK K) (by rfl) T.z_len (by decide +kernel) (pa_cons (pe_ix (ixL K) (pv 0) pe_int (fun _ _ => rfl)) pa_nil)) (nomark _))))) (pss_cons (ps_set (i := 2) nd rfl (Or.inl rfl) (pe_ix (ixL K) (pe_ix (ixL K) (pv 0) pe_int (fun _ _ => rfl)) (pe_ix (ixL K) (pv 0) pe_int (fun _ _ => rfl)) (fun _ _ => rfl))) (pss_cons (ps_asg (pe_op op_add (pe_ix (ixL K) (pv 0) pe_int (fun _ _ => rfl)) pe_int) (pg_sub (pv 0) pe_int set_list (fun _ => rfl))) (pss_cons (ps_asg (pe_op op_mod (pe_callTy call_int1 (by rfl) T.z_int (by decide +kernel) (pa_cons (pe_op op_add (pe_op op_add (pe_op op_mul (pe_ix (ixL K) (pv 0) pe_int (fun _ _ => rfl)) pe_int) (pv 2)) pe_int) pa_nil)) pe_int) (pg_sub (pv 0) pe_int set_list (fun _ => rfl))) (pss_one (ps_if (pt_cmpR op_ge (pv 2) (pe_op op_pow pe_int pe_int) (nomark _)) (pss_one (ps_asg (pv 2) (pg_sub (pv 0) pe_int set_list (fun _ => rfl)))) pss_nil))))) pss_nil) (pss_cons (ps_if (pt_cmpR op_gt (pe_ix (ixL K) (pv 0) pe_int (fun _ _ => rfl)) pe_int (nomark _)) (pss_cons (ps_set (i := 3) nd rfl (Or.inl rfl) (pe_op op_mod (pe_callTy call_int1 (by rfl) T.z_int (by decide +kernel) (pa_cons (pe_ix (ixL K) (pv 0) pe_int (fun _ _ => rfl)) pa_nil)) (pv 1))) (pss_cons (ps_asg (pe_op op_fdiv (pe_ix (ixL K) (pv 0) pe_int (fun _ _ => rfl)) (pv 1)) (pg_sub (pv 0) pe_int set_list (fun _ => rfl))) (pss_one (ps_ret (pv 3))))) pss_nil) (pss_cons (ps_asg (pe_op op_add (pe_ix (ixL K) (pv 0) pe_int (fun _ _ => rfl)) pe_int) (pg_sub (pv 0) pe_int set_list (fun _ => rfl))) (pss_cons (ps_set (i := 4) nd rfl (Or.inl rfl) (pe_op op_mod (pe_callTy call_int1 (by rfl) T.z_int (by decide +kernel) (pa_cons (pe_op op_mul (pe_callTy call_int1 (by rfl) T.z_int (by decide +kernel) (pa_cons (pe_op op_add (pe_ix (ixL K) (pv 0) pe_int (fun _ _ => rfl)) (pe_op op_mul pe_int (pe_ix (ixL K) (pv 0) pe_int (fun _ _ => rfl)))) pa_nil)) pe_int) pa_nil)) pe_int)) (pss_cons (ps_set (i := 4) nd rfl (Or.inl rfl) (pe_op op_mod (pe_callTy call_int1 (by rfl) T.z_int (by decide +kernel) (pa_cons (pe_op op_mul (pv 4) (pe_op op_add (pe_op op_fdiv (pv 4) pe_int) pe_int)) pa_nil)) pe_int)) (pss_cons (ps_set (i := 4) nd rfl (Or.inl rfl) (pe_op op_mod (pe_callTy call_int1 (by rfl) T.z_int (by decide +kernel) (pa_cons (pe_op op_mul (pv 4) (pe_op op_add (pe_op op_fdiv (pv 4) pe_int) pe_int)) pa_nil)) pe_int)) (pss_one (ps_ret (pe_op op_mod (pe_callTy call_int1 (by rfl) T.z_int (by decide +kernel) (pa_cons (pe_op op_fdiv (pv 4) pe_int) pa_nil)) (pv 1)))))))))), ?_⟩
    unfold spDrawI at h
    obtain ⟨p, c, n, rfl, ⟨cs, a1, a2, a3, a4, h1, hp, hc, hcp⟩, n0, n1, k0⟩ := h
    have k : ∀ r b1 b2 b3 b4 : Int, 0 ≤ r → r < n → 0 ≤ b1 → Q (.int r) (upd H p (.lst (hl c b1 b2 b3 b4))) := fun r b1 b2 b3 b4 r0 r1 hb => k0 r _ r0 r1 ⟨cs, b1, b2, b3, b4, hb, upd_same, by rw [upd_ne hcp]; exact hc, hcp⟩ (Gr.at hp (fun _ z => nomatch z) List.mem_cons_self)
    have len : atI (hl c a1 a2 a3 a4) 0 = some (.ref c) := rfl
    refine cut (fun σ' H' => ∃ (v : Option V) (b1 b2 b3 b4 : Int), 0 ≤ b1 ∧ σ' = [some (.ref p), some (.int n), v, none, none] ∧ H' = upd H p (.lst (hl c b1 b2 b3 b4))) ?_ (fun rest => ?_)
    · rintro σ' H' ⟨v, b1, b2, b3, b4, hb1, rfl, rfl⟩
      refine cut (fun σ' H' => ∃ (v : Option V) (b1 b2 b3 b4 : Int), 0 ≤ b1 ∧ σ' = [some (.ref p), some (.int n), v, none, none] ∧ H' = upd H p (.lst (hl c b1 b2 b3 b4))) ?_ (fun rest => ?_)
      · rintro σ' H' ⟨v, b1, b2, b3, b4, hb1, rfl, rfl⟩
        refine ⟨_, rfl, _, _, _, _, rfl, rfl, SqL.of upd_same, rfl, _, _, rfl, rfl, _, rfl, _, _, _, 4, rfl, rfl, upd_same, rfl, ?_⟩
        rw [upd_upd]
        refine ⟨_, rfl, _, _, _, _, rfl, rfl, SqL.of upd_same, rfl, _, rfl, _, _, _, _, rfl, rfl, SqL.of upd_same, rfl, _, _, rfl, rfl, .inl ⟨by decide, by decide⟩, _, _, rfl, rfl, .inl ⟨_, rfl, _, _, rfl, rfl, .inr ⟨by decide, by decide⟩, .inl ⟨_, rfl, _, _, rfl, rfl, (by show (0 : Int) < 2147483647; decide), ?_⟩⟩⟩
        refine ⟨_, rfl, _, rfl, _, _, rfl, rfl, ⟨by decide, by decide⟩, _, _, rfl, rfl, _, _, rfl, rfl, small_mul (Int.emod_nonneg _ (by decide)) (Int.lt_trans (Int.emod_lt_of_pos _ (by decide)) (by decide)), .inl ⟨_, rfl, _, _, rfl, rfl, (by show (0 : Int) < 2147483647; decide), ?_⟩⟩
        refine ⟨_, rfl, _, rfl, _, _, rfl, rfl, ⟨by decide, by decide⟩, _, _, rfl, rfl, _, _, rfl, rfl, small_mul (Int.emod_nonneg _ (by decide)) (Int.lt_trans (Int.emod_lt_of_pos _ (by decide)) (by decide)), .inl ⟨_, rfl, _, _, rfl, rfl, (by show (0 : Int) < 2147483399; decide), ?_⟩⟩
        refine ⟨_, rfl, _, _, rfl, rfl, ⟨by decide, by decide⟩, .inl ⟨_, rfl, _, rfl, _, _, rfl, rfl, n0, ?_⟩⟩
        exact k _ _ _ _ _ (Int.emod_nonneg _ (by omega)) (Int.emod_lt_of_pos _ n0) hb1
      · refine ⟨_, rfl, _, _, _, _, rfl, rfl, SqL.of upd_same, rfl, _, _, rfl, rfl, _, rfl, ite2 (fun e => ?_) (fun e => ?_)⟩
        · refine ⟨_, rfl, _, _, _, _, rfl, rfl, SqL.of upd_same, rfl, .inl ⟨_, rfl, _, rfl, _, _, rfl, rfl, n0, ?_⟩⟩
          refine ⟨_, rfl, _, _, _, _, rfl, rfl, SqL.of upd_same, rfl, _, rfl, _, _, rfl, rfl, ⟨n0, n1⟩, _, rfl, _, _, _, 2, rfl, rfl, upd_same, rfl, ?_⟩
          rw [upd_upd]
          exact ⟨_, rfl, k _ _ _ _ _ (Int.emod_nonneg _ (by omega)) (Int.emod_lt_of_pos _ n0) hb1⟩
        · exact rest _ _ ⟨v, b1, b2, b3, b4, hb1, rfl, rfl⟩
    · refine ⟨_, rfl, _, _, _, _, rfl, rfl, SqL.of hp, rfl, rfl, _, rfl, ite2 (fun e2 => ?_) (fun e2 => ?_)⟩
      · refine ⟨_, rfl, _, _, _, _, rfl, rfl, SqL.of hp, rfl, _, rfl, _, _, _, _, rfl, rfl, SqL.of hp, len, _, _, rfl, .inl (SqL.of hc), _, _, rfl, rfl, _, rfl, ite2 (fun e3 => ?_) (fun e3 => ?_)⟩
        · have e4 : a1 < ((cs.map V.int).length : Int) := of_decide_eq_true e3
          obtain ⟨m, rfl⟩ := Int.eq_ofNat_of_zero_le h1
          have hm : m < cs.length := by rw [List.length_map] at e4; omega
          have hz : atI (cs.map V.int) (m : Int) = some (.int cs[m]) := atI_nat (by rw [List.getElem?_map, List.getElem?_eq_getElem hm]; rfl)
          refine ⟨_, rfl, _, _, _, _, rfl, rfl, SqL.of hp, len, _, rfl, _, _, _, _, rfl, rfl, SqL.of hp, rfl, _, _, _, _, rfl, rfl, SqL.of hc, hz, ?_⟩
          refine ⟨_, rfl, _, _, _, _, rfl, rfl, SqL.of hp, rfl, _, _, rfl, rfl, _, rfl, _, _, _, 1, rfl, rfl, hp, rfl, ?_⟩
          refine ⟨_, rfl, _, _, _, _, rfl, rfl, SqL.of upd_same, rfl, _, _, rfl, rfl, .inr ⟨by decide, by decide⟩, _, rfl, _, _, rfl, rfl, _, _, rfl, rfl, .inl ⟨_, rfl, _, _, rfl, rfl, (by show (0 : Int) < 2147483629; decide), ?_⟩⟩
          refine ⟨_, rfl, _, _, _, 3, rfl, rfl, upd_same, rfl, ?_⟩
          rw [upd_upd]
          refine ⟨_, rfl, _, _, rfl, rfl, ⟨by decide, by decide, by decide⟩, _, _, rfl, rfl, _, rfl, ite2 (fun e5 => ?_) (fun e5 => ?_)⟩
          · refine ⟨_, rfl, _, rfl, _, _, _, 2, rfl, rfl, upd_same, rfl, ?_⟩
            rw [upd_upd]
            exact rest _ _ ⟨_, _, _, _, _, (by omega), rfl, rfl⟩
          · exact rest _ _ ⟨_, _, _, _, _, (by omega), rfl, rfl⟩
        · exact rest _ _ ⟨none, a1, a2, a3, a4, h1, rfl, (upd_eq hp).symm⟩
      · refine iteF ?_
        exact rest _ _ ⟨none, a1, a2, a3, a4, h1, rfl, (upd_eq hp).symm⟩
theorem sc_law_hand : FnScope ["script", "cells", "cell"] ["script"] (defScope s_law_hand) := ⟨rfl, rfl, rfl, by decide +kernel, rfl, by decide +kernel, by decide +kernel⟩
theorem ok_law_hand (T : Tx K mg) : FnOk P w K mg base CX0 1 T.f_law_hand.f T.f_law_hand.fd ["script"] (spHand K) := by
  refine T.f_law_hand.F.ok sc_law_hand (fun vs H Q E h => ?_) (fun cdv A outer s H vs Q E hr h => ?_)
  · unfold spHand at h
    obtain ⟨a, ns, rfl, _⟩ := h
    rfl
  · have nd := sc_law_hand.nd
    refine ⟨_, (pss_cons (ps_setLc (i := 1) (own := [("cell", 2)]) rfl nd rfl rfl (by rfl) (piL K (pe_slice sl_list (pv 0) po_none (po_some pe_int))) (blkOk_by (own := [("cell", 2)]) (N := ["script", "cells", "cell"]) (sc := defScope s_law_hand) (by decide +kernel)) (fun _ _ _ _ _ => (pg_name (i := 2) nd rfl (Or.inl rfl) (Or.inr rfl))) (fun _ _ _ _ _ => pts_nil) (fun _ _ _ _ _ => (pe_callB call_abs (by rfl) T.z_abs (by decide +kernel) (pa_cons (pe_callTy call_int1 (by rfl) T.z_int (by decide +kernel) (pa_cons (pv 2) pa_nil)) pa_nil)))) (pss_one (ps_ret (pe_lst (pa_cons (pv 1) (pa_cons pe_int (pa_cons pe_int (pa_cons (pe_op op_add pe_int (pe_op op_mul pe_int (pe_callB (lenK K) (by rfl) T.z_len (by decide +kernel) (pa_cons (pv 1) pa_nil)))) (pa_cons pe_int pa_nil))))))))), ?_⟩
    unfold spHand at h
    obtain ⟨a, ns, rfl, hs, hn, k⟩ := h
    obtain ⟨ms, em, hm⟩ := cut_ints ns none (some 63)
    refine ⟨_, rfl, _, rfl, a, _, rfl, hs, fun q hq => ?_⟩
    rw [em]
    have hq1 : upd H q (.lst (ms.map V.int)) q = some (.lst (ms.map V.int)) := upd_same
    refine ⟨q, rfl, ⟨_, SqL.of hq1⟩, fun d hd => ?_⟩
    have hqd : q ≠ d := ne_of_none hq1 hd
    refine lc_map (xs := ms.map V.int) walk_list [] (fun _ _ => True) (fun i y _ => ∃ z, ms[i]? = some z ∧ y = .int (if z < 0 then -z else z)) hd (by simp) (by rw [List.length_map]; omega) (fun H' g => SqL.of (g.1 _ _ (by rw [upd_ne hqd]; exact hq1) (by simpa using hqd))) (fun _ _ _ _ _ h => h) trivial (fun _ _ _ _ _ _ => trivial) ?_ ?_
    · rintro i x H2 R hx g2 _ kR
      rw [List.getElem?_map] at hx
      obtain ⟨z, hz, rfl⟩ := Option.map_eq_some_iff.mp hx
      exact ⟨rfl, _, rfl, .inl ⟨_, rfl, _, rfl, kR _ _ (Gr.refl _ _) trivial ⟨z, hz, rfl⟩⟩⟩
    · rintro ys H2 g2 _ hys hn' hy
      have e1 := map_of (by rw [hn', List.length_map]) hy
      have gq : Gr [] H (upd H q (.lst (ms.map V.int))) := Gr.new hq
      refine ⟨_, rfl, _, rfl, _, _, rfl, .inl (SqL.of hys), _, _, rfl, rfl, .inl ⟨by decide, by decide⟩, _, _, rfl, rfl, (by show 5 ≤ sizeLine; decide), fun p hp => ?_⟩
      have hdp : d ≠ p := ne_of_none hys hp
      exact k p d _ ((gq.trans g2).trans (Gr.new hp)) ((gq.trans g2).fresh hp (by simp)) ⟨ms.map (fun z => if z < 0 then -z else z), 0, 0, _, 0, Int.le_refl _, upd_same, (by rw [upd_ne hdp, hys, e1, List.map_map]; rfl), hdp⟩
theorem sc_law_some : FnScope ["hand", "things"] ["hand", "things"] (defScope s_law_some) := ⟨rfl, rfl, rfl, by decide +kernel, rfl, by decide +kernel, by decide +kernel⟩
theorem ok_law_some (T : Tx K mg) : FnOk P w K mg base CX0 2 T.f_law_some.f T.f_law_some.fd ["hand", "things"] spSome := by
  refine T.f_law_some.F.ok sc_law_some (fun vs H Q E h => ?_) (fun cdv A outer s H vs Q E hr h => ?_)
  · unfold spSome at h
    obtain ⟨p, c, l, xs, rfl, _⟩ := h
    rfl
  · have nd := sc_law_some.nd
    refine ⟨_, (pss_one (ps_ret (pe_ix ixN (pv 1) (pe_call (ok_law_draw T) (hr.mono (by omega)) rfl T.f_law_draw.g T.f_law_draw.F.kp T.f_law_draw.b .nil pass0 (pa_cons (pv 0) (pa_cons (pe_callB (lenK K) (by rfl) T.z_len (by decide +kernel) (pa_cons (pv 1) pa_nil)) pa_nil))) (fun _ _ => rfl)))), ?_⟩
    unfold spSome at h
    obtain ⟨p, c, l, xs, rfl, ha, hl, hlp, hne, hlen, k⟩ := h
    have hpos : 0 < xs.length := List.length_pos_iff.mpr hne
    refine ⟨_, rfl, _, rfl, _, rfl, _, _, rfl, hl.imp SqL.of SqT.of, ?_⟩
    show spDrawI [.ref p, .int xs.length] H _ _
    refine spDrawI_of ⟨p, c, _, rfl, ha, by omega, by omega, fun r H' r0 r1 ha' g => ?_⟩
    obtain ⟨m, rfl⟩ := Int.eq_ofNat_of_zero_le r0
    have hm : m < xs.length := by omega
    exact ⟨l, xs, _, _, rfl, rfl, hl.imp (fun h => g.1 _ _ h (by simpa using hlp)) (fun h => g.2 _ _ h), atI_nat (List.getElem?_eq_getElem hm), k m _ H' (List.getElem?_eq_getElem hm) ha' g⟩
end
end Dr
/-! equal through and through; words and heads drawn -/
namespace Dr
open PySem L2
mutual
/-- no tuple of it is long -/
def slim : D → Bool
  | .none => true
  | .num _ => true
  | .text _ => true
  | .tup l => decide (l.length ≤ 1000) && slims l
def slims : List D → Bool
  | [] => true
  | d :: l => slim d && slims l
end
theorem slims_mem : ∀ {l : List D} {d : D}, slims l = true → d ∈ l → slim d = true
  | x :: l, d, h, m => by
    simp only [slims, Bool.and_eq_true] at h
    rcases List.mem_cons.mp m with rfl | m
    · exact h.1
    · exact slims_mem h.2 m
theorem depthAll_mem : ∀ {l : List D} {d : D}, d ∈ l → d.depth ≤ NestedKey.depthAll l
  | x :: l, d, m => by
    simp only [NestedKey.depthAll]
    rcases List.mem_cons.mp m with rfl | m
    · omega
    · have := depthAll_mem m
      omega
/-- two that are told and due: the same data, or lists of the same data -/
def Due (H : Hp) (v1 v2 : V) (n : Nat) : Prop := (∃ d, Dd H v1 d ∧ Dd H v2 d ∧ d.depth < n ∧ slim d = true) ∨ ∃ a b xs ys ds, v1 = .ref a ∧ v2 = .ref b ∧ H a = some (.lst xs) ∧ H b = some (.lst ys) ∧ Dds H xs ds ∧ Dds H ys ds ∧ NestedKey.depthAll ds + 1 < n ∧ ds.length ≤ 1000 ∧ slims ds = true
def spIs (n : Nat) : Sp := fun vs H Q _ => ∃ v1 v2, vs = [v1, v2] ∧ Due H v1 v2 n ∧ ∀ H', Gr [] H H' → Q (.bl true) H'
theorem kaF {K : PySem.W.Frag} {t : String} (h1 : kitB t "tuple" = some false) (h2 : kitB t "list" = some false) : PySem.W.kitAny K (.type t) [.type "tuple", .type "list"] = some false := kitAny_cons (kit_ty h1) (fun _ => kitAny_cons (kit_ty h2) (fun _ => kitAny_nil) (fun z => nomatch z)) (fun z => nomatch z)
theorem kaT {K : PySem.W.Frag} : PySem.W.kitAny K (.type "tuple") [.type "tuple", .type "list"] = some true := kitAny_cons (b := true) (kit_ty (by decide +kernel)) (fun z => nomatch z) (fun _ => rfl)
theorem kaL {K : PySem.W.Frag} : PySem.W.kitAny K (.type "list") [.type "tuple", .type "list"] = some true := kitAny_cons (b := false) (kit_ty (by decide +kernel)) (fun _ => kitAny_cons (b := true) (kit_ty (by decide +kernel)) (fun z => nomatch z) (fun _ => rfl)) (fun z => nomatch z)
theorem isiTK {X : Cx} : CallR X (.builtin "isinstance") (rIsiT X.K) := call_isiT
section
variable {P : Program} {w : World} {K : PySem.W.Frag} {mg : Str → Option Value} {base : Heap}
theorem sc_law_is : FnScope ["told", "due", "k"] ["told", "due"] (defScope s_law_is) := ⟨rfl, rfl, rfl, by decide +kernel, rfl, by decide +kernel, by decide +kernel⟩
theorem ok_law_is (T : Tx K mg) : ∀ n, FnOk P w K mg base CX0 (n + 1) T.f_law_is.f T.f_law_is.fd ["told", "due"] (spIs n)
  | 0 => T.f_law_is.F.ok sc_law_is (fun vs H Q E ⟨_, _, _, h, _⟩ => by rcases h with ⟨_, _, _, h, _⟩ | ⟨_, _, _, _, _, _, _, _, _, _, _, h, _⟩ <;> exact absurd h (Nat.not_lt_zero _)) (fun cdv A outer s H vs Q E hr ⟨_, _, _, h, _⟩ => by exfalso; rcases h with ⟨_, _, _, h, _⟩ | ⟨_, _, _, _, _, _, _, _, _, _, _, h, _⟩ <;> exact absurd h (Nat.not_lt_zero _))
  | n + 1 => by
    have ih := ok_law_is T n
    refine T.f_law_is.F.ok (k := n + 1) sc_law_is (fun vs H Q E h => ?_) (fun cdv A outer s H vs Q E hr h => ?_)
    · obtain ⟨v1, v2, rfl, _⟩ := h
      rfl
    · have nd := sc_law_is.nd
      refine ⟨_, (pss_cons (ps_if (pt_val (pe_callB isiTK (by rfl) T.z_isinstance (by decide +kernel) (pa_cons (pv 1) (pa_cons (pe_tup (pa_cons (pe_bltn (v := .ty "tuple") (u := .type "tuple") (by rfl) T.z_tuple (by decide +kernel) rfl) (pa_cons (pe_bltn (v := .ty "list") (u := .type "list") (by rfl) T.z_list (by decide +kernel) rfl) pa_nil))) pa_nil)))) (pss_cons (ps_if (PW.pt (pw_or (pt_cmpR op_ne (pe_callB (isiK K) (by rfl) T.z_isinstance (by decide +kernel) (pa_cons (pv 0) (pa_cons (pe_bltn (v := .ty "tuple") (u := .type "tuple") (by rfl) T.z_tuple (by decide +kernel) rfl) pa_nil))) (pe_callB (isiK K) (by rfl) T.z_isinstance (by decide +kernel) (pa_cons (pv 1) (pa_cons (pe_bltn (v := .ty "tuple") (u := .type "tuple") (by rfl) T.z_tuple (by decide +kernel) rfl) pa_nil))) (nomark _)) (pw_or1 (pt_cmpR op_ne (pe_callB (isiK K) (by rfl) T.z_isinstance (by decide +kernel) (pa_cons (pv 0) (pa_cons (pe_bltn (v := .ty "list") (u := .type "list") (by rfl) T.z_list (by decide +kernel) rfl) pa_nil))) (pe_callB (isiK K) (by rfl) T.z_isinstance (by decide +kernel) (pa_cons (pv 1) (pa_cons (pe_bltn (v := .ty "list") (u := .type "list") (by rfl) T.z_list (by decide +kernel) rfl) pa_nil))) (nomark _))))) (pss_one (ps_ret pe_bl)) pss_nil) (pss_one (ps_ret (pe_and (pe_cmpR op_eq (pe_callB (lenK K) (by rfl) T.z_len (by decide +kernel) (pa_cons (pv 0) pa_nil)) (pe_callB (lenK K) (by rfl) T.z_len (by decide +kernel) (pa_cons (pv 1) pa_nil)) (nomark _)) (pe_one (pe_callB (allK K) (by rfl) T.z_all (by decide +kernel) (pa_cons (pe_lc (own := [("k", 2)]) rfl nd (pi_range1 (by rfl) T.z_range (pa_cons (pe_callB (lenK K) (by rfl) T.z_len (by decide +kernel) (pa_cons (pv 1) pa_nil)) pa_nil)) (blkOk_by (own := [("k", 2)]) (N := ["told", "due", "k"]) (sc := defScope s_law_is) (by decide +kernel)) (fun _ _ _ _ _ => (pg_name (i := 2) nd rfl (Or.inl rfl) (Or.inr rfl))) (fun _ _ _ _ _ => pts_nil) (fun _ _ _ _ _ => (pe_call ih hr rfl T.f_law_is.g T.f_law_is.F.kp T.f_law_is.b .nil pass0 (pa_cons (pe_ix ixN (pv 0) (pv 2) (fun _ _ => rfl)) (pa_cons (pe_ix ixN (pv 1) (pv 2) (fun _ _ => rfl)) pa_nil))))) pa_nil))))))) pss_nil) (pss_cons (ps_if (pt_cmpR op_isN (pv 1) pe_non (nomark _)) (pss_one (ps_ret (pe_cmpR op_isN (pv 0) pe_non (nomark _)))) pss_nil) (pss_cons (ps_if (PW.pt (pw_or (pt_cmpR op_ne (pe_callB (isiK K) (by rfl) T.z_isinstance (by decide +kernel) (pa_cons (pv 0) (pa_cons (pe_bltn (v := .ty "bool") (u := .type "bool") (by rfl) T.z_bool (by decide +kernel) rfl) pa_nil))) (pe_callB (isiK K) (by rfl) T.z_isinstance (by decide +kernel) (pa_cons (pv 1) (pa_cons (pe_bltn (v := .ty "bool") (u := .type "bool") (by rfl) T.z_bool (by decide +kernel) rfl) pa_nil))) (nomark _)) (pw_or1 (pt_cmpR op_ne (pe_callB (isiK K) (by rfl) T.z_isinstance (by decide +kernel) (pa_cons (pv 0) (pa_cons (pe_bltn (v := .ty "int") (u := .type "int") (by rfl) T.z_int (by decide +kernel) rfl) pa_nil))) (pe_callB (isiK K) (by rfl) T.z_isinstance (by decide +kernel) (pa_cons (pv 1) (pa_cons (pe_bltn (v := .ty "int") (u := .type "int") (by rfl) T.z_int (by decide +kernel) rfl) pa_nil))) (nomark _))))) (pss_one (ps_ret pe_bl)) pss_nil) (pss_one (ps_ret (pe_and (pe_cmpR op_eq (pe_callB (isiK K) (by rfl) T.z_isinstance (by decide +kernel) (pa_cons (pv 0) (pa_cons (pe_bltn (v := .ty "str") (u := .type "str") (by rfl) T.z_str (by decide +kernel) rfl) pa_nil))) (pe_callB (isiK K) (by rfl) T.z_isinstance (by decide +kernel) (pa_cons (pv 1) (pa_cons (pe_bltn (v := .ty "str") (u := .type "str") (by rfl) T.z_str (by decide +kernel) rfl) pa_nil))) (nomark _)) (pe_one (pe_cmpR (op_eqN hr.units) (pv 0) (pv 1) (nomark _))))))))), ?_⟩
      obtain ⟨v1, v2, rfl, due, k⟩ := h
      -- items one by one
      have loop : ∀ {a b : Addr} {xs ys : List V} {ds : List D} {H1 : Hp} {D0 : Addr} {Qd : Hp → Prop} {σ : L2.St}, True := trivial
      rcases due with ⟨d, d1, d2, hd, hs⟩ | ⟨a, b, xs, ys, ds, rfl, rfl, ha, hb, dx, dy, hd, hl, hs⟩
      · cases d with
        | none => cases d1
        | text x =>
          obtain ⟨rfl, _⟩ := d1.text_inv
          obtain ⟨rfl, _⟩ := d2.text_inv
          refine ⟨_, rfl, (by show 2 ≤ sizeLine; decide), fun tp htp => ?_⟩
          have g1 : Gr [] H (upd H tp (.tup [.ty "tuple", .ty "list"])) := Gr.new htp
          refine ⟨_, tp, _, _, _, false, rfl, upd_same, .cons (.ty _) (.cons (.ty _) .nil), .base (.str _), kaF (by decide +kernel) (by decide +kernel), false, rfl, iteF ?_⟩
          refine ⟨_, rfl, rfl, false, rfl, iteF ?_⟩
          refine ⟨_, rfl, _, _, _, _, false, rfl, .ty _, .base (.str _), kit_ty (by decide +kernel), _, rfl, _, _, _, _, false, rfl, .ty _, .base (.str _), kit_ty (by decide +kernel), rfl, false, ne_same, iteF ?_⟩
          refine ⟨_, rfl, _, _, _, _, false, rfl, .ty _, .base (.str _), kit_ty (by decide +kernel), _, rfl, _, _, _, _, false, rfl, .ty _, .base (.str _), kit_ty (by decide +kernel), rfl, false, ne_same, iteF ?_⟩
          refine ⟨_, rfl, _, _, _, _, true, rfl, .ty _, .base (.str _), kit_ty (by decide +kernel), _, rfl, _, _, _, _, true, rfl, .ty _, .base (.str _), kit_ty (by decide +kernel), rfl, true, eq_same, iteT ?_⟩
          refine ⟨_, rfl, _, rfl, .text x, .text x, d1.mono g1.2, d2.mono g1.2, by simp [NestedKey.depth], by simp [NestedKey.depth], ?_⟩
          rw [decide_eq_true rfl]
          exact k _ g1
        | num i =>
          cases d1.num_inv
          cases d2.num_inv
          refine ⟨_, rfl, (by show 2 ≤ sizeLine; decide), fun tp htp => ?_⟩
          have g1 : Gr [] H (upd H tp (.tup [.ty "tuple", .ty "list"])) := Gr.new htp
          refine ⟨_, tp, _, _, _, false, rfl, upd_same, .cons (.ty _) (.cons (.ty _) .nil), .base (.int _), kaF (by decide +kernel) (by decide +kernel), false, rfl, iteF ?_⟩
          refine ⟨_, rfl, rfl, false, rfl, iteF ?_⟩
          refine ⟨_, rfl, _, _, _, _, false, rfl, .ty _, .base (.int _), kit_ty (by decide +kernel), _, rfl, _, _, _, _, false, rfl, .ty _, .base (.int _), kit_ty (by decide +kernel), rfl, false, ne_same, iteF ?_⟩
          refine ⟨_, rfl, _, _, _, _, true, rfl, .ty _, .base (.int _), kit_ty (by decide +kernel), _, rfl, _, _, _, _, true, rfl, .ty _, .base (.int _), kit_ty (by decide +kernel), rfl, false, ne_same, iteF ?_⟩
          refine ⟨_, rfl, _, _, _, _, false, rfl, .ty _, .base (.int _), kit_ty (by decide +kernel), _, rfl, _, _, _, _, false, rfl, .ty _, .base (.int _), kit_ty (by decide +kernel), rfl, true, eq_same, iteT ?_⟩
          refine ⟨_, rfl, _, rfl, .num i, .num i, d1.mono g1.2, d2.mono g1.2, by simp [NestedKey.depth], by simp [NestedKey.depth], ?_⟩
          rw [decide_eq_true rfl]
          exact k _ g1
        | tup l =>
          obtain ⟨a, xs, rfl, ha, dx⟩ := d1.tup_inv
          obtain ⟨b, ys, rfl, hb, dy⟩ := d2.tup_inv
          simp only [slim, Bool.and_eq_true, decide_eq_true_eq] at hs
          simp only [NestedKey.depth] at hd
          have lx := dx.length
          have ly := dy.length
          refine ⟨_, rfl, (by show 2 ≤ sizeLine; decide), fun tp htp => ?_⟩
          have g1 : Gr [] H (upd H tp (.tup [.ty "tuple", .ty "list"])) := Gr.new htp
          have ha1 := g1.2 _ _ ha
          have hb1 := g1.2 _ _ hb
          refine ⟨_, tp, _, _, _, true, rfl, upd_same, .cons (.ty _) (.cons (.ty _) .nil), .base (.tup hb1), kaT, true, rfl, iteT ?_⟩
          refine ⟨_, rfl, _, _, _, _, true, rfl, .ty _, .base (.tup ha1), kit_ty (by decide +kernel), _, rfl, _, _, _, _, true, rfl, .ty _, .base (.tup hb1), kit_ty (by decide +kernel), rfl, false, ne_same, iteF ?_⟩
          refine ⟨_, rfl, _, _, _, _, false, rfl, .ty _, .base (.tup ha1), kit_ty (by decide +kernel), _, rfl, _, _, _, _, false, rfl, .ty _, .base (.tup hb1), kit_ty (by decide +kernel), rfl, false, ne_same, iteF ?_⟩
          refine ⟨_, rfl, _, _, rfl, .inr (SqT.of ha1), _, rfl, _, _, rfl, .inr (SqT.of hb1), rfl, true, ?_, iteT ?_⟩
          · show V.bl (decide (V.int (xs.length : Nat) = V.int (ys.length : Nat))) = _
            rw [lx, ly]
            exact eq_same
          refine ⟨_, rfl, _, _, rfl, .inr (SqT.of hb1), _, rfl, by omega, by omega, fun D0 hD => ?_⟩
          have haD := ne_of_none ha1 hD
          have hbD := ne_of_none hb1 hD
          refine lc_mapY (n := ys.length) walk_range [] (fun _ _ => True) (fun _ y _ => y = .bl true) hD (by simp) (by omega) (fun _ _ => trivial) (fun _ _ _ _ _ h => h) trivial (fun _ _ _ _ _ _ => trivial) ?_ ?_
          · rintro i x H2 H3 R hi g2 _ ⟨rfl, rfl⟩ kR
            have gg : Ts H H3 := (g1.2.trans (Ts.new hD)).trans g2.2
            have hx : xs[i]? = some xs[i] := List.getElem?_eq_getElem (by omega)
            have hy : ys[i]? = some ys[i] := List.getElem?_eq_getElem hi
            obtain ⟨e, he, ex⟩ := dx.get hx
            obtain ⟨e2, he2, ey⟩ := dy.get hy
            rw [he] at he2
            cases Option.some.inj he2
            have em := List.mem_of_getElem? he
            have ed := depthAll_mem em
            refine ⟨rfl, _, rfl, _, rfl, a, xs, _, _, rfl, (by show V.int (0 + (i : Int)) = V.int i; rw [Int.zero_add]), .inr (gg _ _ ha), atI_nat hx, _, rfl, _, rfl, b, ys, _, _, rfl, (by show V.int (0 + (i : Int)) = V.int i; rw [Int.zero_add]), .inr (gg _ _ hb), atI_nat hy, ?_⟩
            exact ⟨_, _, rfl, .inl ⟨e, ex.mono gg, ey.mono gg, by omega, slims_mem hs.2 em⟩, fun H4 g4 => kR _ _ g4 trivial rfl⟩
          · rintro zs H2 g2 _ hz hn' hy
            refine ⟨D0, _, rfl, SqL.of (by rw [hz, bools hy]), ?_⟩
            rw [all_rep]
            exact k _ (g1.trans g2)
      · have lx := dx.length
        have ly := dy.length
        refine ⟨_, rfl, (by show 2 ≤ sizeLine; decide), fun tp htp => ?_⟩
        have g1 : Gr [] H (upd H tp (.tup [.ty "tuple", .ty "list"])) := Gr.new htp
        have ha1 := g1.same _ _ ha
        have hb1 := g1.same _ _ hb
        refine ⟨_, tp, _, _, _, true, rfl, upd_same, .cons (.ty _) (.cons (.ty _) .nil), .base (.lst hb1), kaL, true, rfl, iteT ?_⟩
        refine ⟨_, rfl, _, _, _, _, false, rfl, .ty _, .base (.lst ha1), kit_ty (by decide +kernel), _, rfl, _, _, _, _, false, rfl, .ty _, .base (.lst hb1), kit_ty (by decide +kernel), rfl, false, ne_same, iteF ?_⟩
        refine ⟨_, rfl, _, _, _, _, true, rfl, .ty _, .base (.lst ha1), kit_ty (by decide +kernel), _, rfl, _, _, _, _, true, rfl, .ty _, .base (.lst hb1), kit_ty (by decide +kernel), rfl, false, ne_same, iteF ?_⟩
        refine ⟨_, rfl, _, _, rfl, .inl (SqL.of ha1), _, rfl, _, _, rfl, .inl (SqL.of hb1), rfl, true, ?_, iteT ?_⟩
        · show V.bl (decide (V.int (xs.length : Nat) = V.int (ys.length : Nat))) = _
          rw [lx, ly]
          exact eq_same
        refine ⟨_, rfl, _, _, rfl, .inl (SqL.of hb1), _, rfl, by omega, by omega, fun D0 hD => ?_⟩
        have haD := ne_of_none ha1 hD
        have hbD := ne_of_none hb1 hD
        refine lc_mapY (n := ys.length) walk_range [] (fun _ _ => True) (fun _ y _ => y = .bl true) hD (by simp) (by omega) (fun _ _ => trivial) (fun _ _ _ _ _ h => h) trivial (fun _ _ _ _ _ _ => trivial) ?_ ?_
        · rintro i x H2 H3 R hi g2 _ ⟨rfl, rfl⟩ kR
          have gg : Ts H H3 := (g1.2.trans (Ts.new hD)).trans g2.2
          have ha3 : H3 a = some (.lst xs) := g2.1 _ _ (by rw [upd_ne haD]; exact ha1) (by simpa using haD)
          have hb3 : H3 b = some (.lst ys) := g2.1 _ _ (by rw [upd_ne hbD]; exact hb1) (by simpa using hbD)
          have hx : xs[i]? = some xs[i] := List.getElem?_eq_getElem (by omega)
          have hy : ys[i]? = some ys[i] := List.getElem?_eq_getElem hi
          obtain ⟨e, he, ex⟩ := dx.get hx
          obtain ⟨e2, he2, ey⟩ := dy.get hy
          rw [he] at he2
          cases Option.some.inj he2
          have em := List.mem_of_getElem? he
          have ed := depthAll_mem em
          refine ⟨rfl, _, rfl, _, rfl, a, xs, _, _, rfl, (by show V.int (0 + (i : Int)) = V.int i; rw [Int.zero_add]), .inl ha3, atI_nat hx, _, rfl, _, rfl, b, ys, _, _, rfl, (by show V.int (0 + (i : Int)) = V.int i; rw [Int.zero_add]), .inl hb3, atI_nat hy, ?_⟩
          exact ⟨_, _, rfl, .inl ⟨e, ex.mono gg, ey.mono gg, by omega, slims_mem hs em⟩, fun H4 g4 => kR _ _ g4 trivial rfl⟩
        · rintro zs H2 g2 _ hz hn' hy
          refine ⟨D0, _, rfl, SqL.of (by rw [hz, bools hy]), ?_⟩
          rw [all_rep]
          exact k _ (g1.trans g2)
end
end Dr
/-! written data; words and heads drawn -/
namespace Dr
open PySem L2
/-! ### written data -/
def tD (d : D) : TE := fun σ H Q => ∀ v H', Gr [] H H' → Dd H' v d → Q v H'
def tDs (ds : List D) : TA := fun σ H Q => ∀ vs H', Gr [] H H' → Dds H' vs ds → Q vs H'
theorem PE.weak {X : Cx} {e : Expr} {t u : TE} (h : PE X e t) (w : ∀ σ H Q, u σ H Q → t σ H Q) : PE X e u := ⟨fun pins s σ H Q I k => h.run pins s σ H Q I (w _ _ _ k)⟩
theorem PA.weak {X : Cx} {es : List Expr} {t u : TA} (h : PA X es t) (w : ∀ σ H Q, u σ H Q → t σ H Q) : PA X es u := ⟨fun pos pins s σ H Q I k => h.run pos pins s σ H Q I (w _ _ _ k)⟩
section
variable {X : Cx}
theorem pd_str {x : Str} {j : Nat} {pos : Pos} (h : PyData.strOk x = true) : PE X (.Constant (.str x) j pos) (tD (.text x)) := PE.weak pe_str fun σ H Q k => k _ H (Gr.refl _ H) (.text x h)
theorem pd_int {i : Int} {j : Nat} {pos : Pos} : PE X (.Constant (.int i) j pos) (tD (.num i)) := PE.weak pe_int fun σ H Q k => k _ H (Gr.refl _ H) (.num i)
theorem pda_nil : PA X [] (tDs []) := PA.weak pa_nil fun σ H Q k => k _ H (Gr.refl _ H) .nil
theorem pda_cons {e : Expr} {es : List Expr} {d : D} {ds : List D} (h : PE X e (tD d)) (k : PA X es (tDs ds)) (hs : starEach (e :: es) X.env = (false, eval e X.env) :: starEach es X.env := by rfl) : PA X (e :: es) (tDs (d :: ds)) :=
  PA.weak (pa_cons h k hs) fun σ H Q q v H1 g1 d1 vs H2 g2 d2 => q _ H2 (g1.trans g2) (.cons (d1.mono g2.2) d2)
theorem pd_tup {es : List Expr} {ds : List D} {x1} {pos : Pos} (h : PA X es (tDs ds)) (hl : ds.length ≤ 1000 := by decide) : PE X (.Tuple es x1 pos) (tD (.tup ds)) :=
  PE.weak (pe_tup h) fun σ H Q q vs H1 g1 d1 => ⟨by rw [d1.length, sizeLine_eq]; omega, fun p hp => q _ _ (g1.trans (Gr.new hp)) (.tup upd_same (d1.mono (Ts.new hp)))⟩
end
theorem pickI {ns : List Int} {i : Nat} {x : V} (h : (ns.map V.int)[i]? = some x) : ∃ n ∈ ns, x = .int n := by
  rw [List.getElem?_map] at h
  obtain ⟨n, hn, rfl⟩ := Option.map_eq_some_iff.mp h
  exact ⟨n, List.mem_of_getElem? hn, rfl⟩
theorem pickS {ns : List Str} {i : Nat} {x : V} (h : (ns.map V.str)[i]? = some x) : ∃ n ∈ ns, x = .str n := by
  rw [List.getElem?_map] at h
  obtain ⟨n, hn, rfl⟩ := Option.map_eq_some_iff.mp h
  exact ⟨n, List.mem_of_getElem? hn, rfl⟩
theorem strs_of {ks : List Str} {H : Hp} : ∀ {ys : List V}, (∀ (i : Nat) (y : V), ys[i]? = some y → ∃ z ∈ ks, y = .str z) → ∃ zs : List Str, ys = zs.map V.str ∧ ∀ z ∈ zs, z ∈ ks
  | [], _ => ⟨[], rfl, fun _ h => nomatch h⟩
  | y :: ys, h => by
    obtain ⟨z, hz, rfl⟩ := h 0 y rfl
    obtain ⟨zs, rfl, hzs⟩ := strs_of (H := H) (ys := ys) fun i y hy => h (i + 1) y (by simpa using hy)
    refine ⟨z :: zs, rfl, fun x hx => ?_⟩
    rcases List.mem_cons.mp hx with rfl | hx
    · exact hz
    · exact hzs x hx
theorem texts_dds {H : Hp} : ∀ {xs : List Str}, (∀ x ∈ xs, PyData.strOk x = true) → Dds H (xs.map V.str) (xs.map NestedKey.text)
  | [], _ => .nil
  | x :: xs, h => .cons (.text x (h x List.mem_cons_self)) (texts_dds fun y hy => h y (List.mem_cons_of_mem _ hy))
/-! ### words -/
def allW : List Wd := [("bit", ["no", "yes"]), ("hue", ["red", "gold", "blue"]), ("lamp", ["on"]), ("way", ["n", "e", "s", "w"])]
def wsOf (r k : Nat) : List Wd := (allW.drop r ++ allW.take r).take k
def GW (ws : List Wd) : Prop := ∃ r k, r < 4 ∧ 1 ≤ k ∧ k ≤ 4 ∧ ws = wsOf r k
@[irreducible] def spWords : Sp := fun vs H Q _ => ∃ (p c : Addr), vs = [.ref p] ∧ HA H p c ∧ ∀ v ws H', HA H' p c → Gr [p] H H' → GW ws → Dd H' v (encW ws) → Q v H'
theorem spWords_of {vs : List V} {H : Hp} {Q : VK} {E : XK} (h : ∃ (p c : Addr), vs = [.ref p] ∧ HA H p c ∧ ∀ v ws H', HA H' p c → Gr [p] H H' → GW ws → Dd H' v (encW ws) → Q v H') : spWords vs H Q E := by unfold spWords; exact h
/-! ### heads -/
def allH : List Str := ["top", "pop", "push", "flip", "empty", "f", "g", "ask", "mk", "bit", "zz", "abcdefgh"]
def nsOf (r k : Nat) : List Str := (allH.drop r ++ allH.take r).take k
structure GH (ks : List Str) (hs : List Tm.Row) : Prop where
  names : ∃ r k, r < 12 ∧ 2 ≤ k ∧ k ≤ 12 ∧ hs.map (·.1) = nsOf r k
  kinds : ∀ r ∈ hs, r.2.1.length ≤ 3 ∧ ∀ k ∈ r.2.1 ++ [r.2.2], k ∈ ks
@[irreducible] def spHeads : Sp := fun vs H Q _ => ∃ (p c : Addr) (u v : V) (ws : List Wd) (sl : List Str), vs = [.ref p, u, v] ∧ HA H p c ∧ Dd H u (encW ws) ∧ Dd H v (txts sl) ∧ ws.length ≤ 4 ∧ sl.length ≤ 4 ∧ sl ≠ [] ∧ (∀ x ∈ ws.map (·.1) ++ sl, PyData.strOk x = true) ∧ ∀ x hs H', HA H' p c → Gr [p] H H' → GH (ws.map (·.1) ++ sl) hs → Dd H' x (encH hs) → Q x H'
theorem spHeads_of {vs : List V} {H : Hp} {Q : VK} {E : XK} (h : ∃ (p c : Addr) (u v : V) (ws : List Wd) (sl : List Str), vs = [.ref p, u, v] ∧ HA H p c ∧ Dd H u (encW ws) ∧ Dd H v (txts sl) ∧ ws.length ≤ 4 ∧ sl.length ≤ 4 ∧ sl ≠ [] ∧ (∀ x ∈ ws.map (·.1) ++ sl, PyData.strOk x = true) ∧ ∀ x hs H', HA H' p c → Gr [p] H H' → GH (ws.map (·.1) ++ sl) hs → Dd H' x (encH hs) → Q x H') : spHeads vs H Q E := by unfold spHeads; exact h
section
variable {P : Program} {w : World} {K : PySem.W.Frag} {mg : Str → Option Value} {base : Heap}
theorem sc_law_words : FnScope ["hand", "some", "first", "found"] ["hand"] (defScope s_law_words) := ⟨rfl, rfl, rfl, by decide +kernel, rfl, by decide +kernel, by decide +kernel⟩
theorem ok_law_words (T : Tx K mg) : FnOk P w K mg base CX0 3 T.f_law_words.f T.f_law_words.fd ["hand"] spWords := by
  refine T.f_law_words.F.ok sc_law_words (fun vs H Q E h => ?_) (fun cdv A outer s H vs Q E hr h => ?_)
  · unfold spWords at h
    obtain ⟨p, c, rfl, _⟩ := h
    rfl
  · have nd := sc_law_words.nd
    refine ⟨_, (pss_cons (ps_set (i := 1) nd rfl (Or.inl rfl) (pe_lst (pda_cons (pd_tup (pda_cons (pd_str (x := "bit") (by decide +kernel)) (pda_cons (pd_tup (pda_cons (pd_str (x := "no") (by decide +kernel)) (pda_cons (pd_str (x := "yes") (by decide +kernel)) pda_nil))) pda_nil))) (pda_cons (pd_tup (pda_cons (pd_str (x := "hue") (by decide +kernel)) (pda_cons (pd_tup (pda_cons (pd_str (x := "red") (by decide +kernel)) (pda_cons (pd_str (x := "gold") (by decide +kernel)) (pda_cons (pd_str (x := "blue") (by decide +kernel)) pda_nil)))) pda_nil))) (pda_cons (pd_tup (pda_cons (pd_str (x := "lamp") (by decide +kernel)) (pda_cons (pd_tup (pda_cons (pd_str (x := "on") (by decide +kernel)) pda_nil)) pda_nil))) (pda_cons (pd_tup (pda_cons (pd_str (x := "way") (by decide +kernel)) (pda_cons (pd_tup (pda_cons (pd_str (x := "n") (by decide +kernel)) (pda_cons (pd_str (x := "e") (by decide +kernel)) (pda_cons (pd_str (x := "s") (by decide +kernel)) (pda_cons (pd_str (x := "w") (by decide +kernel)) pda_nil))))) pda_nil))) pda_nil)))))) (pss_cons (ps_set (i := 2) nd rfl (Or.inl rfl) (pe_call (ok_law_draw T) (hr.mono (by omega)) rfl T.f_law_draw.g T.f_law_draw.F.kp T.f_law_draw.b .nil pass0 (pa_cons (pv 0) (pa_cons pe_int pa_nil)))) (pss_cons (ps_set (i := 3) nd rfl (Or.inl rfl) (pe_slice sl_list (pe_op op_cat (pe_slice sl_list (pv 1) (po_some (pv 2)) po_none) (pe_slice sl_list (pv 1) po_none (po_some (pv 2)))) po_none (po_some (pe_op op_add pe_int (pe_call (ok_law_some T) (hr.mono (by omega)) rfl T.f_law_some.g T.f_law_some.F.kp T.f_law_some.b .nil pass0 (pa_cons (pv 0) (pa_cons (pe_lst (pa_cons pe_int (pa_cons pe_int (pa_cons pe_int (pa_cons pe_int (pa_cons pe_int (pa_cons pe_int pa_nil))))))) pa_nil))))))) (pss_one (ps_ret (pe_callTy call_tuple_of (by rfl) T.z_tuple (by decide +kernel) (pa_cons (pv 3) pa_nil))))))), ?_⟩
    unfold spWords at h
    obtain ⟨p, c, rfl, ha, k⟩ := h
    refine cut (fun σ' H' => ∃ l vs, σ' = [some (.ref p), some (.ref l), none, none] ∧ Gr [] H H' ∧ l ≠ p ∧ l ≠ c ∧ H' l = some (.lst vs) ∧ Dds H' vs (allW.map encWd)) ?_ (fun rest => ?_)
    case refine_2 =>
      intro vs H1 g1 d1
      have a1 := ha.gr0 g1
      exact ⟨(by rw [d1.length, sizeLine_eq]; decide), fun l hl => rest _ _ ⟨l, vs, rfl, g1.trans (Gr.new hl), a1.ne hl, a1.nec hl, upd_same, d1.mono (Ts.new hl)⟩⟩
    rintro σ' H1 ⟨l, vs, rfl, g1, lp, lc, hl, d1⟩
    refine cut (fun σ' H' => ∃ r : Nat, r < 4 ∧ σ' = [some (.ref p), some (.ref l), some (.int r), none] ∧ HA H' p c ∧ Gr [p] H H' ∧ H' l = some (.lst vs) ∧ Dds H' vs (allW.map encWd)) ?_ (fun rest => ?_)
    case refine_2 =>
      refine ⟨_, rfl, ?_⟩
      show spDrawI [.ref p, .int 4] H1 _ _
      refine spDrawI_of ⟨p, c, 4, rfl, ha.gr0 g1, by decide, by decide, fun r H2 r0 r1 a2 g2 => ?_⟩
      obtain ⟨m, rfl⟩ := Int.eq_ofNat_of_zero_le r0
      exact rest _ _ ⟨m, by omega, rfl, a2, g1.less.trans g2, g2.1 _ _ hl (by simpa using lp), d1.mono g2.2⟩
    rintro σ' H2 ⟨r, hr4, rfl, a2, g2, hl2, d2⟩
    have hvl : vs.length = 4 := by rw [d2.length]; rfl
    refine cut (fun σ' H' => ∃ f n xs, 1 ≤ n ∧ n ≤ 4 ∧ σ' = [some (.ref p), some (.ref l), some (.int r), some (.ref f)] ∧ HA H' p c ∧ Gr [p] H H' ∧ H' f = some (.lst xs) ∧ Dds H' xs ((wsOf r n).map encWd)) ?_ (fun rest => ?_)
    case refine_2 =>
      refine ⟨_, rfl, _, rfl, _, rfl, l, _, rfl, SqL.of hl2, fun q1 hq1 => ?_⟩
      have e1 := ne_of_none hl2 hq1
      refine ⟨_, rfl, _, rfl, _, rfl, l, vs, rfl, SqL.of (by rw [upd_ne e1]; exact hl2), fun q2 hq2 => ?_⟩
      have e2 : q1 ≠ q2 := ne_of_none upd_same hq2
      refine ⟨q1, q2, _, _, rfl, rfl, (by rw [upd_ne e2]; exact upd_same), upd_same, ?_, fun q3 hq3 => ?_⟩
      · rw [cut_drop (by omega), cut_take, List.length_drop, List.length_take, sizeLine_eq]
        omega
      have g3 : Gr [] H2 _ := ((Gr.new hq1).trans (Gr.new hq2)).trans (Gr.new (o := .lst (cutV vs (some (r : Int)) none ++ cutV vs none (some (r : Int)))) hq3)
      refine ⟨_, rfl, (by show 6 ≤ sizeLine; decide), fun l6 hl6 => ?_⟩
      have a3 := a2.gr0 g3
      have ne6 := a3.ne hl6
      show spSome [.ref p, .ref l6] _ _ _
      refine spSome_of ⟨p, c, l6, ([0, 0, 1, 1, 2, 3] : List Int).map V.int, rfl, a3.new hl6, .inl upd_same, ne6, by simp, by simp, fun i x H4 hx a4 g4 => ?_⟩
      obtain ⟨n, hn, rfl⟩ := pickI hx
      obtain ⟨m, rfl, hm⟩ : ∃ m : Nat, n = (m : Int) ∧ m ≤ 3 := by
        simp only [List.mem_cons, List.not_mem_nil, or_false] at hn
        exact ⟨n.toNat, by omega, by omega⟩
      have g36 : Gr [p] H2 H4 := (g3.trans (Gr.new hl6)).less.trans g4
      have h34 := g4.1 _ _ (show upd _ l6 _ q3 = _ by rw [upd_ne (ne_of_none upd_same hl6)]; exact upd_same) (by simpa using (a2.gr0 ((Gr.new (S := []) hq1).trans (Gr.new hq2))).ne hq3)
      refine ⟨_, _, rfl, rfl, _, rfl, q3, _, rfl, SqL.of h34, fun f hf => ?_⟩
      rw [cut_drop (by omega), cut_take, show (1 : Int) + (m : Int) = ((m + 1 : Nat) : Int) by omega, cut_take]
      refine rest _ _ ⟨f, m + 1, _, by omega, by omega, rfl, a4.new hf, (g2.trans g36).trans (Gr.new hf), upd_same, ?_⟩
      have d4 := d2.mono (g36.trans (Gr.new (o := .lst ((vs.drop r ++ vs.take r).take (m + 1))) hf)).2
      have d5 := ((d4.drop r).append (d4.take r)).take (m + 1)
      simpa only [wsOf, List.map_take, List.map_append, List.map_drop] using d5
    rintro σ' H3 ⟨f, n, xs, n1, n4, rfl, a3, g3, hf, d3⟩
    refine ⟨_, rfl, f, _, rfl, .inl ⟨SqL.of hf, fun t ht => ?_⟩⟩
    refine k _ (wsOf r n) _ (a3.new ht) (g3.trans (Gr.new ht)) ⟨r, n, hr4, n1, n4, rfl⟩ (.tup upd_same (d3.mono (Ts.new ht)))
theorem sc_law_heads : FnScope ["hand", "words", "sealed", "names", "kinds", "turn", "found", "name", "many", "some", "k"] ["hand", "words", "sealed"] (defScope s_law_heads) := ⟨rfl, rfl, rfl, by decide +kernel, rfl, by decide +kernel, by decide +kernel⟩
theorem ok_law_heads (T : Tx K mg) : FnOk P w K mg base CX0 3 T.f_law_heads.f T.f_law_heads.fd ["hand", "words", "sealed"] spHeads := by
  refine T.f_law_heads.F.ok sc_law_heads (fun vs H Q E h => ?_) (fun cdv A outer s H vs Q E hr h => ?_)
  · unfold spHeads at h
    obtain ⟨p, c, u, v, ws, sl, rfl, _⟩ := h
    rfl
  · have nd := sc_law_heads.nd
    refine ⟨_, (pss_cons (ps_set (i := 3) nd rfl (Or.inl rfl) (pe_lst (pa_cons pe_str (pa_cons pe_str (pa_cons pe_str (pa_cons pe_str (pa_cons pe_str (pa_cons pe_str (pa_cons pe_str (pa_cons pe_str (pa_cons pe_str (pa_cons pe_str (pa_cons pe_str (pa_cons pe_str pa_nil)))))))))))))) (pss_cons (ps_set (i := 4) nd rfl (Or.inr rfl) (pe_op op_cat (pe_lc (own := [("name", 7), ("some", 9)]) rfl nd (piT K (pv 1)) (blkOk_by (own := [("name", 7), ("some", 9)]) (N := ["hand", "words", "sealed", "names", "kinds", "turn", "found", "name", "many", "some", "k"]) (sc := defScope s_law_heads) (by decide +kernel)) (fun _ _ _ _ _ => (pgT K 2 (pgs_cons (pg_name (i := 7) nd rfl (Or.inl rfl) (Or.inr rfl)) (pgs_cons (pg_name (i := 9) nd rfl (Or.inl rfl) (Or.inr rfl)) pgs_nil)))) (fun _ _ _ _ _ => pts_nil) (fun _ _ _ _ _ => (pv 7))) (pe_callTy call_list_of (by rfl) T.z_list (by decide +kernel) (pa_cons (pv 2) pa_nil)))) (pss_cons (ps_par (i := 5) (j := 6) (by rfl) nd rfl rfl (by decide) rfl rfl (pa_cons (pe_call (ok_law_draw T) (hr.mono (by omega)) rfl T.f_law_draw.g T.f_law_draw.F.kp T.f_law_draw.b .nil pass0 (pa_cons (pv 0) (pa_cons pe_int pa_nil))) (pa_cons (pe_lst pa_nil) pa_nil)) (by rfl)) (pss_cons (ps_for PassesOwn.never rfl (piL K (pe_slice sl_list (pe_op op_cat (pe_slice sl_list (pv 3) (po_some (pv 5)) po_none) (pe_slice sl_list (pv 3) po_none (po_some (pv 5)))) po_none (po_some (pe_op op_add pe_int (pe_call (ok_law_draw T) (hr.mono (by omega)) rfl T.f_law_draw.g T.f_law_draw.F.kp T.f_law_draw.b .nil pass0 (pa_cons (pv 0) (pa_cons (pe_call (ok_law_some T) (hr.mono (by omega)) rfl T.f_law_some.g T.f_law_some.F.kp T.f_law_some.b .nil pass0 (pa_cons (pv 0) (pa_cons (pe_lst (pa_cons pe_int (pa_cons pe_int (pa_cons pe_int (pa_cons pe_int pa_nil))))) pa_nil))) pa_nil))))))) (pg_name (i := 7) nd rfl (Or.inl rfl) (Or.inr rfl)) (pss_cons (ps_set (i := 8) nd rfl (Or.inl rfl) (pe_call (ok_law_some T) (hr.mono (by omega)) rfl T.f_law_some.g T.f_law_some.F.kp T.f_law_some.b .nil pass0 (pa_cons (pv 0) (pa_cons (pe_lst (pa_cons pe_int (pa_cons pe_int (pa_cons pe_int (pa_cons pe_int (pa_cons pe_int (pa_cons pe_int (pa_cons pe_int pa_nil)))))))) pa_nil)))) (pss_one (ps_expr (pe_bm PySem.F.plainAttrs_list PySem.F.slot_list_append PySem.F.type_list_append mt_append (pv 6) (pa_cons (pe_tup (pa_cons (pv 7) (pa_cons (pe_callTy call_tuple_of (by rfl) T.z_tuple (by decide +kernel) (pa_cons (pe_lc (own := [("k", 10)]) rfl nd (pi_range1 (by rfl) T.z_range (pa_cons (pv 8) pa_nil)) (blkOk_by (own := [("k", 10)]) (N := ["hand", "words", "sealed", "names", "kinds", "turn", "found", "name", "many", "some", "k"]) (sc := defScope s_law_heads) (by decide +kernel)) (fun _ _ _ _ _ => (pg_name (i := 10) nd rfl (Or.inl rfl) (Or.inr rfl))) (fun _ _ _ _ _ => pts_nil) (fun _ _ _ _ _ => (pe_call (ok_law_some T) (hr.mono (by omega)) rfl T.f_law_some.g T.f_law_some.F.kp T.f_law_some.b .nil pass0 (pa_cons (pv 0) (pa_cons (pv 4) pa_nil))))) pa_nil)) (pa_cons (pe_call (ok_law_some T) (hr.mono (by omega)) rfl T.f_law_some.g T.f_law_some.F.kp T.f_law_some.b .nil pass0 (pa_cons (pv 0) (pa_cons (pv 4) pa_nil))) pa_nil)))) pa_nil)))))) (pss_one (ps_ret (pe_callTy call_tuple_of (by rfl) T.z_tuple (by decide +kernel) (pa_cons (pv 6) pa_nil)))))))), ?_⟩
    unfold spHeads at h
    obtain ⟨p, c, u, v, ws, sl, rfl, ha, du, dv, hw4, hs4, hsne, hok, k⟩ := h
    obtain ⟨b, wv, rfl, hb, hs⟩ := du.tup_inv
    obtain ⟨a, rfl, hsl⟩ := txts_inv dv
    have hlen := hs.map_len
    have ks0 : ws.map (·.1) ++ sl ≠ [] := by
      intro z
      exact hsne (List.append_eq_nil_iff.mp z).2
    have ksl : (ws.map (·.1) ++ sl).length ≤ 8 := by rw [List.length_append, List.length_map]; omega
    generalize hks : ws.map (·.1) ++ sl = ks at *
    refine cut (fun σ' H' => ∃ l, σ' = [some (.ref p), some (.ref b), some (.ref a), some (.ref l), none, none, none, none, none, none, none] ∧ Gr [] H H' ∧ l ≠ p ∧ l ≠ c ∧ H' l = some (.lst (allH.map V.str))) ?_ (fun rest => ?_)
    case refine_2 =>
      exact ⟨(by show 12 ≤ sizeLine; decide), fun l hl => rest _ _ ⟨l, rfl, Gr.new hl, ha.ne hl, ha.nec hl, upd_same⟩⟩
    rintro σ' H1 ⟨l, rfl, g1, lp, lc, hl⟩
    refine cut (fun σ' H' => ∃ n1 n2 kl, σ' = [some (.ref p), some (.ref b), some (.ref a), some (.ref l), some (.ref kl), none, none, n1, none, n2, none] ∧ Gr [] H H' ∧ kl ≠ p ∧ kl ≠ c ∧ H' l = some (.lst (allH.map V.str)) ∧ H' kl = some (.lst (ks.map V.str))) ?_ (fun rest => ?_)
    case refine_2 =>
      have hb2 := g1.2 _ _ hb
      refine ⟨_, rfl, b, rfl, ⟨_, SqT.of hb2⟩, fun D hD => ?_⟩
      have hbD : b ≠ D := ne_of_none hb2 hD
      refine lc_map (xs := wv) walk_tup [] (fun _ _ => True) (fun i y _ => ∃ wd, ws[i]? = some wd ∧ y = .str wd.1) hD (by simp) (by omega) (fun H' g => SqT.of (g.2 _ _ (by rw [upd_ne hbD]; exact hb2))) (fun _ _ _ _ _ h => h) trivial (fun _ _ _ _ _ _ => trivial) ?_ ?_
      · intro i x H3 R hx g3 _ kR
        obtain ⟨wd, hwd, dw⟩ := hs.map_get hx
        have gg : Ts H H3 := (g1.2.trans (Ts.new hD)).trans g3.2
        obtain ⟨b', c', rfl, hb', hc⟩ := wd_inv (dw.mono gg)
        refine ⟨b', _, rfl, SqT.of hb', rfl, _, _, rfl, _, _, rfl, rfl, rfl, ?_⟩
        exact ⟨_, rfl, kR _ _ (Gr.refl _ _) trivial ⟨wd, hwd, rfl⟩⟩
      · intro ys H3 g3 _ hyl hn hy
        have e1 := map_of (by rw [hn, hlen]) hy
        have ha3 := (g1.trans g3).2 _ _ hsl
        refine ⟨_, rfl, a, _, rfl, .inr (SqT.of ha3), fun q hq => ?_⟩
        have hDl : D ≠ q := ne_of_none hyl hq
        refine ⟨D, q, ys, _, rfl, rfl, (by rw [upd_ne hDl]; exact hyl), upd_same, (by rw [hn, List.length_map, sizeLine_eq]; omega), fun kl hkl => ?_⟩
        have a4 : HA (upd H3 q (.lst (sl.map V.str))) p c := (ha.gr0 (g1.trans g3)).new hq
        have g4 : Gr [] H1 (upd (upd H3 q (.lst (sl.map V.str))) kl (.lst (ys ++ sl.map V.str))) := (g3.trans (Gr.new hq)).trans (Gr.new hkl)
        refine rest _ _ ⟨_, _, kl, rfl, g1.trans g4, a4.ne hkl, a4.nec hkl, g4.same _ _ hl, ?_⟩
        rw [upd_same, e1, ← hks, List.map_append, List.map_map]
        rfl
    rintro σ' H2 ⟨n1, n2, kl, rfl, g2, klp, klc, hl2, hkl⟩
    refine cut (fun σ' H' => ∃ (r : Nat) (f : Addr), r < 12 ∧ σ' = [some (.ref p), some (.ref b), some (.ref a), some (.ref l), some (.ref kl), some (.int r), some (.ref f), n1, none, n2, none] ∧ HA H' p c ∧ Gr [p] H H' ∧ H f = none ∧ f ≠ p ∧ f ≠ c ∧ f ≠ l ∧ f ≠ kl ∧ H' l = some (.lst (allH.map V.str)) ∧ H' kl = some (.lst (ks.map V.str)) ∧ H' f = some (.lst [])) ?_ (fun rest => ?_)
    case refine_2 =>
      refine ⟨_, rfl, ?_⟩
      show spDrawI [.ref p, .int 12] H2 _ _
      refine spDrawI_of ⟨p, c, 12, rfl, ha.gr0 g2, by decide, by decide, fun r H3 r0 r1 a3 g3 => ?_⟩
      obtain ⟨m, rfl⟩ := Int.eq_ofNat_of_zero_le r0
      have hl3 := g3.1 _ _ hl2 (by simpa using lp)
      have hk3 := g3.1 _ _ hkl (by simpa using klp)
      refine ⟨(by show 0 ≤ sizeLine; decide), fun f hf => ⟨_, _, rfl, rest _ _ ⟨m, f, by omega, rfl, a3.new hf, (g2.less.trans g3).trans (Gr.new hf), ?_, a3.ne hf, a3.nec hf, (ne_of_none hl3 hf).symm, (ne_of_none hk3 hf).symm, (Gr.new (S := []) hf).same _ _ hl3, (Gr.new (S := []) hf).same _ _ hk3, upd_same⟩⟩⟩
      exact (g2.less.trans g3).fresh hf (by simpa using a3.ne hf)
    rintro σ' H3 ⟨r, f, hr12, rfl, a3, g3, hf0, fp, fc, fl, fk, hl3, hk3, hf3⟩
    refine cut (fun σ' H' => ∃ n3 n4 n5 n6 fs, ∃ hs : List Tm.Row, σ' = [some (.ref p), some (.ref b), some (.ref a), some (.ref l), some (.ref kl), some (.int r), some (.ref f), n3, n4, n5, n6] ∧ HA H' p c ∧ Gr [p] H H' ∧ H' f = some (.lst fs) ∧ GH ks hs ∧ Dds H' fs (hs.map encRow)) ?_ (fun rest => ?_)
    case refine_2 =>
      refine ⟨_, rfl, _, rfl, _, rfl, l, _, rfl, SqL.of hl3, fun q1 hq1 => ?_⟩
      have e1 := ne_of_none hl3 hq1
      refine ⟨_, rfl, _, rfl, _, rfl, l, _, rfl, SqL.of (by rw [upd_ne e1]; exact hl3), fun q2 hq2 => ?_⟩
      have e2 : q1 ≠ q2 := ne_of_none upd_same hq2
      have l12 : (allH.map V.str).length = 12 := rfl
      refine ⟨q1, q2, _, _, rfl, rfl, (by rw [upd_ne e2]; exact upd_same), upd_same, ?_, fun q3 hq3 => ?_⟩
      · rw [cut_drop (by omega), cut_take, List.length_drop, List.length_take, sizeLine_eq]
        omega
      have g4 : Gr [] H3 _ := ((Gr.new hq1).trans (Gr.new hq2)).trans (Gr.new (o := .lst (cutV (allH.map V.str) (some (r : Int)) none ++ cutV (allH.map V.str) none (some (r : Int)))) hq3)
      have a4 := a3.gr0 g4
      have q3p := (a3.gr0 ((Gr.new (S := []) hq1).trans (Gr.new hq2))).ne hq3
      refine ⟨_, rfl, _, rfl, (by show 4 ≤ sizeLine; decide), fun l6 hl6 => ?_⟩
      show spSome [.ref p, .ref l6] _ _ _
      refine spSome_of ⟨p, c, l6, ([4, 6, 6, 11] : List Int).map V.int, rfl, a4.new hl6, .inl upd_same, a4.ne hl6, by simp, by simp, fun i x H5 hx a5 g5 => ?_⟩
      obtain ⟨n, hn, rfl⟩ := pickI hx
      show spDrawI [.ref p, .int n] H5 _ _
      have hn2 : 0 < n ∧ n ≤ 11 := by
        simp only [List.mem_cons, List.not_mem_nil, or_false] at hn
        omega
      refine spDrawI_of ⟨p, c, n, rfl, a5, hn2.1, by omega, fun z H6 z0 z1 a6 g6 => ?_⟩
      obtain ⟨m, rfl⟩ := Int.eq_ofNat_of_zero_le z0
      have g46 : Gr [p] H3 H6 := ((g4.trans (Gr.new hl6)).less.trans g5).trans g6
      have h36 := (g5.trans g6).1 _ _ (show upd _ l6 _ q3 = _ by rw [upd_ne (ne_of_none upd_same hl6)]; exact upd_same) (by simpa using q3p)
      refine ⟨_, _, rfl, rfl, _, rfl, q3, _, rfl, SqL.of h36, fun q hq => ?_⟩
      rw [cut_drop (by omega), cut_take, show (2 : Int) + (m : Int) = ((m + 2 : Nat) : Int) by omega, cut_take, ← List.map_drop, ← List.map_take, ← List.map_append, ← List.map_take, show (allH.drop r ++ allH.take r).take (m + 2) = nsOf r (m + 2) from rfl]
      have a7 := a6.new (o := .lst ((nsOf r (m + 2)).map V.str)) hq
      have g7 : Gr [p] H3 (upd H6 q (.lst ((nsOf r (m + 2)).map V.str))) := g46.trans (Gr.new hq)
      have hl7 := g7.1 _ _ hl3 (by simpa using lp)
      have hk7 := g7.1 _ _ hk3 (by simpa using klp)
      have hf7 := g7.1 _ _ hf3 (by simpa using fp)
      have fq : f ≠ q := ne_of_none (g46.1 _ _ hf3 (by simpa using fp)) hq
      have qp := a6.ne hq
      have qc := a6.nec hq
      have hq7 : upd H6 q (.lst ((nsOf r (m + 2)).map V.str)) q = some (.lst ((nsOf r (m + 2)).map V.str)) := upd_same
      have hnl : (nsOf r (m + 2)).length ≤ 12 := by
        unfold nsOf
        rw [List.length_take, List.length_append, List.length_drop, List.length_take]
        have : allH.length = 12 := rfl
        omega
      have nok : ∀ x ∈ nsOf r (m + 2), PyData.strOk x = true := by
        have all : ∀ x ∈ allH, PyData.strOk x = true := by decide +kernel
        intro x hx
        refine all x ?_
        have := List.mem_of_mem_take hx
        rcases List.mem_append.mp this with h | h
        · exact List.mem_of_mem_drop h
        · exact List.mem_of_mem_take h
      generalize upd H6 q (.lst ((nsOf r (m + 2)).map V.str)) = H7 at *
      refine ⟨q, rfl, ⟨_, SqL.of hq7⟩, ?_⟩
      refine for_it (n := ((nsOf r (m + 2)).map V.str).length) walk_list (fun i σ H' => ∃ n3 n4 n6 fs, ∃ hs : List Tm.Row, σ = [some (.ref p), some (.ref b), some (.ref a), some (.ref l), some (.ref kl), some (.int r), some (.ref f), n3, n4, n2, n6] ∧ HA H' p c ∧ Gr [p, f] H7 H' ∧ H' f = some (.lst fs) ∧ hs.map (·.1) = (nsOf r (m + 2)).take i ∧ (∀ r ∈ hs, r.2.1.length ≤ 3 ∧ ∀ k ∈ r.2.1 ++ [r.2.2], k ∈ ks) ∧ Dds H' fs (hs.map encRow)) ?_ (fun i σ H' _ h => ?_) ?_ ?_
      · exact ⟨_, _, _, [], [], rfl, a7, Gr.refl _ _, hf7, rfl, fun _ h => (nomatch h), .nil⟩
      · obtain ⟨_, _, _, _, _, _, _, g, _⟩ := h
        exact SqL.of (g.1 _ _ hq7 (by simpa using ⟨qp, fq.symm⟩))
      · rintro i x σ H8 H9 hi ⟨n3, n4, n6, fs, hs', rfl, a8, g8, hf8, hn8, hk8, d8⟩ ⟨rfl, hx⟩
        rw [List.getElem?_map] at hx
        obtain ⟨nm, hnm, rfl⟩ := Option.map_eq_some_iff.mp hx
        have fl8 : hs'.length ≤ 12 := by
          have e := congrArg List.length hn8
          rw [List.length_map, List.length_take] at e
          omega
        have fl9 : fs.length ≤ 12 := by rw [d8.length, List.length_map]; exact fl8
        refine cut (fun σ' H' => ∃ mm : Nat, mm ≤ 3 ∧ σ' = [some (.ref p), some (.ref b), some (.ref a), some (.ref l), some (.ref kl), some (.int r), some (.ref f), some (.str nm), some (.int mm), n2, n6] ∧ HA H' p c ∧ Gr [p, f] H7 H' ∧ H' f = some (.lst fs) ∧ Dds H' fs (hs'.map encRow)) ?_ (fun rest => ?_)
        case refine_2 =>
          refine ⟨_, rfl, (by show 7 ≤ sizeLine; decide), fun l7 hl7 => ?_⟩
          show spSome [.ref p, .ref l7] _ _ _
          refine spSome_of ⟨p, c, l7, ([0, 1, 1, 1, 2, 2, 3] : List Int).map V.int, rfl, a8.new hl7, .inl upd_same, a8.ne hl7, by simp, by simp, fun i x H5 hx a5 g5 => ?_⟩
          obtain ⟨n, hn, rfl⟩ := pickI hx
          obtain ⟨mm, rfl, hmm⟩ : ∃ m : Nat, n = (m : Int) ∧ m ≤ 3 := by
            simp only [List.mem_cons, List.not_mem_nil, or_false] at hn
            exact ⟨n.toNat, by omega, by omega⟩
          have gg : Gr [p] H9 H5 := (Gr.new hl7).trans g5
          exact rest _ _ ⟨mm, hmm, rfl, a5, g8.trans (gg.wide (by simp)), gg.1 _ _ hf8 (by simpa using fp), d8.mono gg.2⟩
        rintro σ' H5 ⟨mm, hmm, rfl, a5, g5, hf5, d5⟩
        have hk5 := g5.1 _ _ hk7 (by simpa using ⟨klp, fk.symm⟩)
        refine ⟨_, rfl, .inl ⟨rfl, _, SqL.of hf5⟩, ?_⟩
        refine ⟨_, rfl, _, rfl, _, rfl, by omega, by omega, fun D hD => ?_⟩
        have Dp := a5.ne hD
        have Dc := a5.nec hD
        have Df := ne_of_none hf5 hD
        have Dk := ne_of_none hk5 hD
        refine lc_mapY (n := mm) walk_range [p] (fun _ H' => HA H' p c) (fun _ y _ => ∃ z ∈ ks, y = .str z) hD (by simpa using Dp) (by omega) (fun _ _ => trivial) (fun _ _ _ _ _ h => h) (a5.new hD) (fun _ _ _ _ _ h => h.upd Dp Dc) ?_ ?_
        · rintro j y H10 H11 R hj g10 a10 ⟨rfl, rfl⟩ kR
          have hk10 := g10.1 _ _ (show upd H5 D _ kl = _ by rw [upd_ne Dk]; exact hk5) (by simpa using ⟨Dk, klp⟩)
          refine ⟨rfl, _, rfl, _, rfl, ?_⟩
          show spSome [.ref p, .ref kl] _ _ _
          exact spSome_of ⟨p, c, kl, ks.map V.str, rfl, a10, .inl hk10, klp, by simpa using ks0, by rw [List.length_map]; omega, fun i x H4 hx a4 g4 => kR _ _ g4 a4 (pickS hx)⟩
        · rintro zs H10 g10 a10 hz hzn hy
          obtain ⟨zs, rfl, hzs⟩ := strs_of (H := H10) hy
          rw [List.length_map] at hzn
          refine ⟨D, _, rfl, .inl ⟨SqL.of hz, fun t ht => ?_⟩⟩
          have hk10 := g10.1 _ _ hk5 (by simpa using klp)
          have g11 : Gr [p] H5 _ := g10.trans (Gr.new (o := .tup (zs.map V.str)) ht)
          have kt := ne_of_none hk10 ht
          refine ⟨_, rfl, _, rfl, ?_⟩
          show spSome [.ref p, .ref kl] _ _ _
          refine spSome_of ⟨p, c, kl, ks.map V.str, rfl, a10.new ht, .inl (by rw [upd_ne kt]; exact hk10), klp, by simpa using ks0, by rw [List.length_map]; omega, fun i' x H12 hx a12 g12 => ?_⟩
          obtain ⟨kk, hkk, rfl⟩ := pickS hx
          refine ⟨(by show 3 ≤ sizeLine; decide), fun e he => ?_⟩
          have gg := g11.trans g12
          have hf12 := gg.1 _ _ hf5 (by simpa using fp)
          have fe := ne_of_none hf12 he
          have a13 := a12.new (o := .tup [.str nm, .ref t, .str kk]) he
          have ge : Gr [] H12 (upd H12 e (.tup [.str nm, .ref t, .str kk])) := Gr.new he
          have hf13 := ge.same _ _ hf12
          refine ⟨f, _, _, rfl, rfl, hf13, by rw [sizeLine_eq]; omega, ?_⟩
          have gf := Gr.at (S := [p, f]) (o := .lst (fs ++ [.ref e])) hf13 (fun _ z => nomatch z) (by simp)
          refine ⟨_, _, _, _, hs' ++ [(nm, zs, kk)], rfl, a13.upd fp fc, ((g5.trans (gg.wide (by simp))).trans ge.less).trans gf, upd_same, ?_, ?_, ?_⟩
          · rw [List.map_append, hn8, take_one hnm]
            rfl
          · intro rr hrr
            rcases List.mem_append.mp hrr with h | h
            · exact hk8 rr h
            · rw [List.mem_singleton.mp h]
              refine ⟨by show zs.length ≤ 3; omega, fun z hz => ?_⟩
              rcases List.mem_append.mp hz with h | h
              · exact hzs z h
              · rw [List.mem_singleton.mp h]
                exact hkk
          · rw [List.map_append]
            refine (d5.mono ((gg.2.trans ge.2).trans gf.2)).snoc (.tup (gf.2 _ _ upd_same) (.cons (.text nm (nok nm (List.mem_of_getElem? hnm))) (.cons (.tup (gf.2 _ _ (ge.2 _ _ (g12.2 _ _ upd_same))) (texts_dds fun z hz => hok z (hzs z hz))) (.cons (.text kk (hok kk hkk)) .nil))))
      · rintro σ H8 ⟨n3, n4, n6, fs, hs', rfl, a8, g8, hf8, hn8, hk8, d8⟩
        refine rest _ _ ⟨_, _, _, _, fs, hs', rfl, a8, ?_, hf8, ⟨⟨r, m + 2, hr12, by omega, by omega, by rw [hn8, List.length_map, List.take_length]⟩, hk8⟩, d8⟩
        have : Gr [f, p] H H8 := ((g3.wide (T := [f, p]) (by simp)).trans (g7.wide (by simp))).trans (g8.wide (by simp))
        exact this.since hf0
    rintro σ' H4 ⟨n3, n4, n5, n6, fs, hs', rfl, a4, g4, hf4, gh, dr⟩
    refine ⟨_, rfl, f, _, rfl, .inl ⟨SqL.of hf4, fun t ht => ?_⟩⟩
    exact k _ hs' _ (a4.new ht) (g4.trans (Gr.new ht)) gh (.tup upd_same (dr.mono (Ts.new ht)))
end
end Dr
/-! the law's own looks at terms: size, unknowns, order -/
namespace Dr
open PySem L2
/-- a list of data held against the empty list -/
def rNil (neg : Bool) : R2 := fun x y H Q => ∃ a b xs ds, x = .ref a ∧ y = .ref b ∧ H a = some (.lst xs) ∧ H b = some (.lst []) ∧ Dds H xs ds ∧ NestedKey.depthAll ds ≤ 50 ∧ Q (.bl (if neg then !xs.isEmpty else xs.isEmpty)) H
theorem shaped_lst {H : Hp} {xs : List V} {ds : List D} (h : Dds H xs ds) (k : NestedKey.depthAll ds ≤ 50) : SeqAt.shaped (.list (NestedKey.datas ds)) = true := by
  unfold SeqAt.shaped
  simp only [PyData.canLay0, PyData.depth, h.lay, datas_depth, Bool.true_and, decide_eq_true_eq]
  omega
theorem eqv_nil {H : Hp} {xs : List V} {ds : List D} (h : Dds H xs ds) : PyData.eqv (.list (NestedKey.datas ds)) (.list []) = xs.isEmpty := by
  cases h with
  | nil => simp [NestedKey.datas, PyData.eqv, PyData.eqvAll]
  | cons _ _ => simp [NestedKey.datas, PyData.eqv, PyData.eqvAll]
section
variable {X : Cx}
theorem op_eqNil (hu : X.A.units + 64 < cLine) : OpR X (compareOp .Eq) (rNil false) := fun pps s σ H x y v u Q I rx ry ⟨a, b, xs, ds, ex, ey, ha, hb, hd, hk, q⟩ =>
  op_eqD hu pps s σ H x y v u Q I rx ry ⟨.list (NestedKey.datas ds), .list [], ex ▸ .lst (SqL.of ha) hd.dp, ey ▸ .lst (SqL.of hb) .nil, shaped_lst hd hk, by decide +kernel, by rw [eqv_nil hd]; exact q⟩
theorem op_neNil (hu : X.A.units + 64 < cLine) : OpR X (compareOp .NotEq) (rNil true) := fun pps s σ H x y v u Q I rx ry ⟨a, b, xs, ds, ex, ey, ha, hb, hd, hk, q⟩ =>
  op_neD hu pps s σ H x y v u Q I rx ry ⟨.list (NestedKey.datas ds), .list [], ex ▸ .lst (SqL.of ha) hd.dp, ey ▸ .lst (SqL.of hb) .nil, shaped_lst hd hk, by decide +kernel, by rw [eqv_nil hd]; exact q⟩
end
def spUnks (n : Nat) : Sp := fun vs H Q _ => ∃ (v : V) (t : Tm), vs = [v] ∧ Dd H v t.enc ∧ t.dep < n ∧ t.size ≤ 1000 ∧ ∀ l H', Gr [] H H' → H l = none → H' l = some (.lst (t.unk.map fun m => V.int (m.1 : Int))) → Q (.ref l) H'
/-- the parts of a door as the law holds them -/
structure PartsAt (H : Hp) (P : Addr) (ws : List Wd) (sl : List Str) (hs : List Tm.Row) : Prop where
  at_ : ∃ w s h l, H P = some (.tup [w, s, h, l]) ∧ Dd H w (encW ws) ∧ Dd H s (txts sl) ∧ Dd H h (encH hs)
theorem PartsAt.mono {H H' : Hp} {P : Addr} {ws : List Wd} {sl : List Str} {hs : List Tm.Row} (h : PartsAt H P ws sl hs) (g : Ts H H') : PartsAt H' P ws sl hs := by
  obtain ⟨w, s, h, l, h1, h2, h3, h4⟩ := h
  exact ⟨w, s, h, l, g _ _ h1, h2.mono g, h3.mono g, h4.mono g⟩
def spAbv (n : Nat) : Sp := fun vs H Q _ => ∃ (P : Addr) (v1 v2 : V) (ws : List Wd) (sl : List Str) (hs : List Tm.Row) (s t : Tm), vs = [.ref P, v1, v2] ∧ PartsAt H P ws sl hs ∧ Dd H v1 s.enc ∧ Dd H v2 t.enc ∧ Tm.ok hs s = true ∧ Tm.ok hs t = true ∧ s.dep + t.dep < n ∧ s.dep ≤ 30 ∧ t.dep ≤ 30 ∧ s.size ≤ 1000 ∧ t.size ≤ 1000 ∧ hs.length ≤ 12 ∧ ∀ H', Gr [] H H' → Q (.bl (Tm.above (rkOf hs) s t)) H'
section
variable {P : Program} {w : World} {K : PySem.W.Frag} {mg : Str → Option Value} {base : Heap}
theorem sc_law_size : FnScope ["term", "part"] ["term"] (defScope s_law_size) := ⟨rfl, rfl, rfl, by decide +kernel, rfl, by decide +kernel, by decide +kernel⟩
theorem ok_law_size (T : Tx K mg) : ∀ n, FnOk P w K mg base CX0 (n + 1) T.f_law_size.f T.f_law_size.fd ["term"] (spSize n)
  | 0 => T.f_law_size.F.ok sc_law_size (fun vs H Q E ⟨_, _, _, _, h, _⟩ => absurd h (Nat.not_lt_zero _)) (fun cdv A outer s H vs Q E hr ⟨_, _, _, _, h, _⟩ => absurd h (Nat.not_lt_zero _))
  | n + 1 => by
    have ih := ok_law_size T n
    refine T.f_law_size.F.ok sc_law_size (fun vs H Q E h => ?_) (fun cdv A outer s H vs Q E hr h => ?_)
    · obtain ⟨i, t, rfl, _⟩ := h
      rfl
    · have nd := sc_law_size.nd
      refine ⟨_, (pss_cons (ps_if (PW.pt (pw_or (pt_val (pe_callB (isiK K) (by rfl) T.z_isinstance (by decide +kernel) (pa_cons (pv 0) (pa_cons (pe_bltn (v := .ty "str") (u := .type "str") (by rfl) T.z_str (by decide +kernel) rfl) pa_nil)))) (pw_or1 (pt_cmpR op_eq (pe_ix (ixT K) (pv 0) pe_int (fun _ _ => rfl)) pe_str (nomark _))))) (pss_one (ps_ret pe_int)) pss_nil) (pss_one (ps_ret (pe_op op_add pe_int (pe_callB (sumK K) (by rfl) T.z_sum (by decide +kernel) (pa_cons (pe_lc (own := [("part", 1)]) rfl nd (piT K (pe_slice sl_tupN (pv 0) (po_some pe_int) po_none)) (blkOk_by (own := [("part", 1)]) (N := ["term", "part"]) (sc := defScope s_law_size) (by decide +kernel)) (fun _ _ _ _ _ => (pg_name (i := 1) nd rfl (Or.inl rfl) (Or.inr rfl))) (fun _ _ _ _ _ => pts_nil) (fun _ _ _ _ _ => (pe_call ih hr rfl T.f_law_size.g T.f_law_size.F.kp T.f_law_size.b .nil pass0 (pa_cons (pv 1) pa_nil)))) pa_nil)))))), ?_⟩
      obtain ⟨v, t, rfl, hd, hn, hz, k⟩ := h
      cases t with
      | w x =>
        cases word_inv hd
        exact ⟨_, rfl, ⟨_, _, _, _, true, rfl, .ty _, .base (.str _), kit_ty (by decide +kernel), ⟨true, rfl, iteT (iteT (k H (Gr.refl _ H)))⟩⟩⟩
      | u m =>
        obtain ⟨a, rfl, ha⟩ := unk_inv hd
        refine ⟨_, rfl, ⟨_, _, _, _, false, rfl, .ty _, .base (.tup ha), kit_ty (by decide +kernel), ⟨false, rfl, iteF ⟨_, rfl, a, _, _, _, rfl, rfl, SqT.of ha, at0, rfl, true, eq_same, iteT (k H (Gr.refl _ H))⟩⟩⟩⟩
      | c g ts =>
        obtain ⟨a, vs, rfl, ha, hs⟩ := called_inv hd
        refine ⟨_, rfl, ⟨_, _, _, _, false, rfl, .ty _, .base (.tup ha), kit_ty (by decide +kernel), ⟨false, rfl, iteF ⟨_, rfl, a, _, _, _, rfl, rfl, SqT.of ha, at0, rfl, false, eq_unlike (fun z => g.2 (V.str.inj z)), iteF ?_⟩⟩⟩⟩
        refine ⟨_, rfl, _, rfl, a, _, rfl, ha, fun p H1 g1 hp => ?_⟩
        rw [cut1] at hp
        refine ⟨p, rfl, ⟨_, SqT.of hp⟩, fun D hD => ?_⟩
        have hlen := hs.tms
        simp only [Tm.dep, Tm.size] at hn hz
        have hsz := Tm.length_sizes ts
        refine lc_map (xs := vs) walk_tup [] (fun _ _ => True) (fun i y _ => ∃ t, ts[i]? = some t ∧ y = .int (t.size : Nat)) hD (by simp) (by omega) (fun H' g => SqT.of (g.1 _ _ (by rw [upd_ne (ne_of_none hp hD)]; exact hp) (by simpa using ne_of_none hp hD))) (fun _ _ _ _ _ h => h) trivial (fun _ _ _ _ _ _ => trivial) ?_ ?_
        · intro i x H2 R hx g2 _ kR
          obtain ⟨t, ht, hdt⟩ := hs.tm hx
          have mem := List.mem_of_getElem? ht
          have h1 := Tm.dep_mem mem
          have h2 := Tm.size_mem mem
          exact ⟨rfl, _, rfl, x, t, rfl, ((hdt.mono g1.2).mono (Ts.new hD)).mono g2.2, by omega, by omega, fun H4 g4 => kR _ _ g4 trivial ⟨t, ht, rfl⟩⟩
        · intro ys H2 g2 _ hl hn2 hy
          have e1 := map_of (hn2.trans hlen) hy
          refine ⟨D, ts.map fun t => ((t.size : Nat) : Int), rfl, SqL.of (by rw [hl, e1, List.map_map]; rfl), _, _, rfl, rfl, ?_⟩
          show Q (.int ((1 : Int) + (ts.map fun t => ((t.size : Nat) : Int)).sum)) H2
          rw [Tm.sum_sizes ts, show (1 : Int) + ((Tm.sizes ts : Nat) : Int) = ((Tm.size (.c g ts) : Nat) : Int) by simp only [Tm.size]; omega]
          exact k _ (g1.trans g2)
theorem sc_law_unknowns : FnScope ["term", "found", "part"] ["term"] (defScope s_law_unknowns) := ⟨rfl, rfl, rfl, by decide +kernel, rfl, by decide +kernel, by decide +kernel⟩
theorem ok_law_unknowns (T : Tx K mg) : ∀ n, FnOk P w K mg base CX0 (n + 1) T.f_law_unknowns.f T.f_law_unknowns.fd ["term"] (spUnks n)
  | 0 => T.f_law_unknowns.F.ok sc_law_unknowns (fun vs H Q E ⟨_, _, _, _, h, _⟩ => absurd h (Nat.not_lt_zero _)) (fun cdv A outer s H vs Q E hr ⟨_, _, _, _, h, _⟩ => absurd h (Nat.not_lt_zero _))
  | n + 1 => by
    have ih := ok_law_unknowns T n
    refine T.f_law_unknowns.F.ok sc_law_unknowns (fun vs H Q E h => ?_) (fun cdv A outer s H vs Q E hr h => ?_)
    · obtain ⟨i, t, rfl, _⟩ := h
      rfl
    · have nd := sc_law_unknowns.nd
      refine ⟨_, (pss_cons (ps_if (pt_val (pe_callB (isiK K) (by rfl) T.z_isinstance (by decide +kernel) (pa_cons (pv 0) (pa_cons (pe_bltn (v := .ty "str") (u := .type "str") (by rfl) T.z_str (by decide +kernel) rfl) pa_nil)))) (pss_one (ps_ret (pe_lst pa_nil))) pss_nil) (pss_cons (ps_if (pt_cmpR op_eq (pe_ix (ixT K) (pv 0) pe_int (fun _ _ => rfl)) pe_str (nomark _)) (pss_one (ps_ret (pe_lst (pa_cons (pe_ix (ixT K) (pv 0) pe_int (fun _ _ => rfl)) pa_nil)))) pss_nil) (pss_cons (ps_set (i := 1) nd rfl (Or.inl rfl) (pe_lst pa_nil)) (pss_cons (ps_for PassesOwn.never rfl (piT K (pe_slice sl_tupN (pv 0) (po_some pe_int) po_none)) (pg_name (i := 2) nd rfl (Or.inl rfl) (Or.inr rfl)) (pss_one (ps_expr (pe_bm PySem.F.plainAttrs_list PySem.F.slot_list_extend PySem.F.type_list_extend mt_extend (pv 1) (pa_cons (pe_call ih hr rfl T.f_law_unknowns.g T.f_law_unknowns.F.kp T.f_law_unknowns.b .nil pass0 (pa_cons (pv 2) pa_nil)) pa_nil))))) (pss_one (ps_ret (pv 1))))))), ?_⟩
      obtain ⟨v, t, rfl, hd, hn, hz, k⟩ := h
      cases t with
      | w x =>
        cases word_inv hd
        exact ⟨_, rfl, ⟨_, _, _, _, true, rfl, .ty _, .base (.str _), kit_ty (by decide +kernel), ⟨true, rfl, iteT ⟨(by show 0 ≤ sizeLine; decide), fun l hl => k l _ (Gr.new hl) hl upd_same⟩⟩⟩⟩
      | u m =>
        obtain ⟨a, rfl, ha⟩ := unk_inv hd
        refine ⟨_, rfl, ⟨_, _, _, _, false, rfl, .ty _, .base (.tup ha), kit_ty (by decide +kernel), ⟨false, rfl, iteF ⟨_, rfl, a, _, _, _, rfl, rfl, SqT.of ha, at0, rfl, true, eq_same, iteT ?_⟩⟩⟩⟩
        exact ⟨_, rfl, a, _, _, _, rfl, rfl, SqT.of ha, at1, (by show 1 ≤ sizeLine; decide), fun l hl => k l _ (Gr.new hl) hl upd_same⟩
      | c g ts =>
        obtain ⟨a, vs, rfl, ha, hs⟩ := called_inv hd
        refine ⟨_, rfl, ⟨_, _, _, _, false, rfl, .ty _, .base (.tup ha), kit_ty (by decide +kernel), ⟨false, rfl, iteF ⟨_, rfl, a, _, _, _, rfl, rfl, SqT.of ha, at0, rfl, false, eq_unlike (fun z => g.2 (V.str.inj z)), iteF ?_⟩⟩⟩⟩
        have hlen := hs.tms
        simp only [Tm.dep, Tm.size] at hn hz
        have hsz := Tm.length_sizes ts
        refine ⟨(by show 0 ≤ sizeLine; decide), fun l hl => ?_⟩
        have g0 : Gr [] H (upd H l (.lst [])) := Gr.new hl
        refine ⟨_, rfl, _, rfl, a, _, rfl, g0.2 _ _ ha, fun p H1 g1 hp => ?_⟩
        rw [cut1] at hp
        have hl1 : H1 l = some (.lst []) := g1.same _ _ upd_same
        refine ⟨p, rfl, ⟨_, SqT.of hp⟩, ?_⟩
        refine for_it (n := vs.length) walk_tup (fun i σ H' => ∃ n1, σ = [some (.ref a), some (.ref l), n1] ∧ Gr [l] H1 H' ∧ H' l = some (.lst ((Tm.unks (ts.take i)).map fun m => V.int (m.1 : Int)))) ⟨_, rfl, Gr.refl _ _, hl1⟩ (fun i σ H' _ ⟨_, _, g, _⟩ => SqT.of (g.2 _ _ hp)) ?_ ?_
        · rintro i x σ H3 H4 hi ⟨n1, rfl, g3, hl3⟩ ⟨rfl, hx⟩
          obtain ⟨t, ht, hdt⟩ := hs.tm hx
          have mem := List.mem_of_getElem? ht
          have d1 := Tm.dep_mem mem
          have d2 := Tm.size_mem mem
          refine ⟨_, rfl, .inl ⟨rfl, _, SqL.of hl3⟩, ?_⟩
          refine ⟨_, rfl, x, t, rfl, ((hdt.mono g0.2).mono g1.2).mono g3.2, by omega, by omega, fun m H5 g5 hm0 hm => ?_⟩
          have hl5 := g5.same _ _ hl3
          have l1 := Tm.length_unks (ts.take i)
          have l2 := Tm.sizes_take ts i
          have l3 := Tm.length_unk t
          refine ⟨l, m, _, _, rfl, rfl, hl5, hm, by rw [List.length_map, List.length_map, sizeLine_eq]; omega, ?_⟩
          refine ⟨_, rfl, g3.trans (g5.less.trans (Gr.at hl5 (fun _ z => nomatch z) List.mem_cons_self)), ?_⟩
          rw [upd_same, take_one ht, Tm.unks_app, List.map_append]
          simp [Tm.unks]
        · rintro σ H3 ⟨n1, rfl, g3, hl3⟩
          rw [hlen, List.take_length] at hl3
          exact ⟨_, rfl, k l H3 (((g0.trans g1).less.trans g3).since hl) hl (by simpa only [Tm.unk] using hl3)⟩
end
end Dr
/-! the law's own order of terms -/
namespace Dr
open PySem L2
theorem idx_names {hs : List Tm.Row} {x : Str} (h : ∃ r ∈ hs, r.1 = x) : ((hs.map (·.1)).map V.str)[rkOf hs x]? = some (.str x) ∧ ∀ (m : Nat) (z : V), m < rkOf hs x → ((hs.map (·.1)).map V.str)[m]? = some z → eqV z (.str x) = false := by
  obtain ⟨r, hr, e⟩ := h
  have lt : rkOf hs x < hs.length := List.findIdx_lt_length_of_exists ⟨r, hr, by simp [e]⟩
  refine ⟨?_, fun m z hm hz => ?_⟩
  · have := List.findIdx_getElem (w := lt)
    rw [List.getElem?_map, List.getElem?_map, List.getElem?_eq_getElem lt]
    exact congrArg (fun y => some (V.str y)) (of_decide_eq_true this)
  · have no := List.not_of_lt_findIdx hm
    rw [List.getElem?_map, List.getElem?_map, List.getElem?_eq_getElem (by omega)] at hz
    cases Option.some.inj hz
    have ne : (hs[m]'(by omega)).1 ≠ x := by simpa using no
    show ((hs[m]'(by omega)).1 == x) = false
    simpa using ne
def pairD (q : Tm × Tm) : D := .tup [q.1.enc, q.2.enc]
section
variable {P : Program} {w : World} {K : PySem.W.Frag} {mg : Str → Option Value} {base : Heap}
theorem sc_law_is_above : FnScope ["parts", "one", "other", "order", "unlike", "part", "head", "a", "b"] ["parts", "one", "other"] (defScope s_law_is_above) := ⟨rfl, rfl, rfl, by decide +kernel, rfl, by decide +kernel, by decide +kernel⟩
theorem ok_law_is_above (T : Tx K mg) : ∀ n, FnOk P w K mg base CX0 (n + 45) T.f_law_is_above.f T.f_law_is_above.fd ["parts", "one", "other"] (spAbv n)
  | 0 => T.f_law_is_above.F.ok (k := 44) sc_law_is_above (fun vs H Q E ⟨_, _, _, _, _, _, _, _, _, _, _, _, _, _, h, _⟩ => absurd h (Nat.not_lt_zero _)) (fun cdv A outer s H vs Q E hr ⟨_, _, _, _, _, _, _, _, _, _, _, _, _, _, h, _⟩ => absurd h (Nat.not_lt_zero _))
  | n + 1 => by
    have ih := ok_law_is_above T n
    refine T.f_law_is_above.F.ok (k := n + 45) sc_law_is_above (fun vs H Q E h => ?_) (fun cdv A outer s H vs Q E hr h => ?_)
    · obtain ⟨P, v1, v2, _, _, _, _, _, rfl, _⟩ := h
      rfl
    · have nd := sc_law_is_above.nd
      refine ⟨_, (pss_cons (ps_if (PW.pt (pw_or (pt_val (pe_callB (isiK K) (by rfl) T.z_isinstance (by decide +kernel) (pa_cons (pv 1) (pa_cons (pe_bltn (v := .ty "str") (u := .type "str") (by rfl) T.z_str (by decide +kernel) rfl) pa_nil)))) (pw_or1 (pt_cmpR op_eq (pe_ix (ixT K) (pv 1) pe_int (fun _ _ => rfl)) pe_str (nomark _))))) (pss_one (ps_ret pe_bl)) pss_nil) (pss_cons (ps_if (pt_val (pe_callB (isiK K) (by rfl) T.z_isinstance (by decide +kernel) (pa_cons (pv 2) (pa_cons (pe_bltn (v := .ty "str") (u := .type "str") (by rfl) T.z_str (by decide +kernel) rfl) pa_nil)))) (pss_one (ps_ret pe_bl)) pss_nil) (pss_cons (ps_if (pt_cmpR op_eq (pe_ix (ixT K) (pv 2) pe_int (fun _ _ => rfl)) pe_str (nomark _)) (pss_one (ps_ret (pe_cmpR op_inF (pe_ix (ixT K) (pv 2) pe_int (fun _ _ => rfl)) (pe_call (ok_law_unknowns T 40) (hr.mono (by omega)) rfl T.f_law_unknowns.g T.f_law_unknowns.F.kp T.f_law_unknowns.b .nil pass0 (pa_cons (pv 1) pa_nil)) (by rfl)))) pss_nil) (pss_cons (ps_if (pt_val (pe_callB (anyK K) (by rfl) T.z_any (by decide +kernel) (pa_cons (pe_lc (own := [("part", 5)]) rfl nd (piT K (pe_slice sl_tupN (pv 1) (po_some pe_int) po_none)) (blkOk_by (own := [("part", 5)]) (N := ["parts", "one", "other", "order", "unlike", "part", "head", "a", "b"]) (sc := defScope s_law_is_above) (by decide +kernel)) (fun _ _ _ _ _ => (pg_name (i := 5) nd rfl (Or.inl rfl) (Or.inr rfl))) (fun _ _ _ _ _ => pts_nil) (fun _ _ _ _ _ => (pe_or (pe_cmpR (op_eqN hr.units) (pv 5) (pv 2) (nomark _)) (pe_one (pe_call ih hr rfl T.f_law_is_above.g T.f_law_is_above.F.kp T.f_law_is_above.b .nil pass0 (pa_cons (pv 0) (pa_cons (pv 5) (pa_cons (pv 2) pa_nil)))))))) pa_nil))) (pss_one (ps_ret pe_bl)) pss_nil) (pss_cons (ps_if (pt_not (pt_val (pe_callB (allK K) (by rfl) T.z_all (by decide +kernel) (pa_cons (pe_lc (own := [("part", 5)]) rfl nd (piT K (pe_slice sl_tupN (pv 2) (po_some pe_int) po_none)) (blkOk_by (own := [("part", 5)]) (N := ["parts", "one", "other", "order", "unlike", "part", "head", "a", "b"]) (sc := defScope s_law_is_above) (by decide +kernel)) (fun _ _ _ _ _ => (pg_name (i := 5) nd rfl (Or.inl rfl) (Or.inr rfl))) (fun _ _ _ _ _ => pts_nil) (fun _ _ _ _ _ => (pe_call ih hr rfl T.f_law_is_above.g T.f_law_is_above.F.kp T.f_law_is_above.b .nil pass0 (pa_cons (pv 0) (pa_cons (pv 1) (pa_cons (pv 5) pa_nil)))))) pa_nil)))) (pss_one (ps_ret pe_bl)) pss_nil) (pss_cons (ps_setLc (i := 3) (own := [("head", 6)]) rfl nd rfl rfl (by rfl) (piT K (pe_ix (ixT K) (pv 0) pe_int (fun _ _ => rfl))) (blkOk_by (own := [("head", 6)]) (N := ["parts", "one", "other", "order", "unlike", "part", "head", "a", "b"]) (sc := defScope s_law_is_above) (by decide +kernel)) (fun _ _ _ _ _ => (pg_name (i := 6) nd rfl (Or.inl rfl) (Or.inr rfl))) (fun _ _ _ _ _ => pts_nil) (fun _ _ _ _ _ => (pe_ix (ixT K) (pv 6) pe_int (fun _ _ => rfl)))) (pss_cons (ps_if (pt_cmpR op_ne (pe_ix (ixT K) (pv 1) pe_int (fun _ _ => rfl)) (pe_ix (ixT K) (pv 2) pe_int (fun _ _ => rfl)) (nomark _)) (pss_one (ps_ret (pe_cmpR op_lt (pe_bm PySem.F.plainAttrs_list PySem.F.slot_list_index PySem.F.type_list_index mt_index (pv 3) (pa_cons (pe_ix (ixT K) (pv 2) pe_int (fun _ _ => rfl)) pa_nil)) (pe_bm PySem.F.plainAttrs_list PySem.F.slot_list_index PySem.F.type_list_index mt_index (pv 3) (pa_cons (pe_ix (ixT K) (pv 1) pe_int (fun _ _ => rfl)) pa_nil)) (nomark _)))) pss_nil) (pss_cons (ps_setLc (i := 4) (own := [("a", 7), ("b", 8)]) rfl nd rfl rfl (by rfl) (RZ.pi_zipA (by rfl) T.z_zip (pa_cons (pe_slice sl_tupN (pv 1) (po_some pe_int) po_none) (pa_cons (pe_slice sl_tupN (pv 2) (po_some pe_int) po_none) pa_nil))) (blkOk_by (own := [("a", 7), ("b", 8)]) (N := ["parts", "one", "other", "order", "unlike", "part", "head", "a", "b"]) (sc := defScope s_law_is_above) (by decide +kernel)) (fun _ _ _ _ _ => (pgT K 2 (pgs_cons (pg_name (i := 7) nd rfl (Or.inl rfl) (Or.inr rfl)) (pgs_cons (pg_name (i := 8) nd rfl (Or.inl rfl) (Or.inr rfl)) pgs_nil)))) (fun _ _ _ _ _ => (pts_one (pt_cmpR (op_neN hr.units) (pv 7) (pv 8) (nomark _)))) (fun _ _ _ _ _ => (pe_tup (pa_cons (pv 7) (pa_cons (pv 8) pa_nil))))) (pss_one (ps_ret (pe_and (pe_cmpR (op_neNil hr.units) (pv 4) (pe_lst pa_nil) (nomark _)) (pe_one (pe_call ih hr rfl T.f_law_is_above.g T.f_law_is_above.F.kp T.f_law_is_above.b .nil pass0 (pa_cons (pv 0) (pa_cons (pe_ix (ixT K) (pe_ix (ixL K) (pv 4) pe_int (fun _ _ => rfl)) pe_int (fun _ _ => rfl)) (pa_cons (pe_ix (ixT K) (pe_ix (ixL K) (pv 4) pe_int (fun _ _ => rfl)) pe_int (fun _ _ => rfl)) pa_nil)))))))))))))))), ?_⟩
      obtain ⟨pp, v1, v2, ws, sl, hs, s, t, rfl, pa, d1, d2, ok1, ok2, hn, n1, n2, z1, z2, hh, k⟩ := h
      cases s with
      | w x =>
        cases word_inv d1
        rw [Tm.above_w] at k
        exact ⟨_, rfl, ⟨_, _, _, _, true, rfl, .ty _, .base (.str _), kit_ty (by decide +kernel), ⟨true, rfl, iteT (iteT (k H (Gr.refl _ H)))⟩⟩⟩
      | u m =>
        obtain ⟨a, rfl, ha⟩ := unk_inv d1
        rw [Tm.above_u] at k
        exact ⟨_, rfl, ⟨_, _, _, _, false, rfl, .ty _, .base (.tup ha), kit_ty (by decide +kernel), ⟨false, rfl, iteF ⟨_, rfl, a, _, _, _, rfl, rfl, SqT.of ha, at0, rfl, true, eq_same, iteT (k H (Gr.refl _ H))⟩⟩⟩⟩
      | c h ss =>
        obtain ⟨a, vs, rfl, ha, hv⟩ := called_inv d1
        refine ⟨_, rfl, ⟨_, _, _, _, false, rfl, .ty _, .base (.tup ha), kit_ty (by decide +kernel), ⟨false, rfl, iteF ⟨_, rfl, a, _, _, _, rfl, rfl, SqT.of ha, at0, rfl, false, eq_unlike (fun z => h.2 (V.str.inj z)), iteF ?_⟩⟩⟩⟩
        cases t with
        | w x =>
          cases word_inv d2
          rw [Tm.above_cw] at k
          exact ⟨_, rfl, ⟨_, _, _, _, true, rfl, .ty _, .base (.str _), kit_ty (by decide +kernel), ⟨true, rfl, iteT (k H (Gr.refl _ H))⟩⟩⟩
        | u m =>
          obtain ⟨b, rfl, hb⟩ := unk_inv d2
          rw [Tm.above_cu] at k
          refine ⟨_, rfl, ⟨_, _, _, _, false, rfl, .ty _, .base (.tup hb), kit_ty (by decide +kernel), ⟨false, rfl, iteF ⟨_, rfl, b, _, _, _, rfl, rfl, SqT.of hb, at0, rfl, true, eq_same, iteT ?_⟩⟩⟩⟩
          refine ⟨_, rfl, b, _, _, _, rfl, rfl, SqT.of hb, at1, _, rfl, ?_⟩
          refine ⟨.ref a, Tm.c h ss, rfl, d1, by omega, z1, fun l H1 g1 hl0 hl => ?_⟩
          have e : ((Tm.c h ss).unk.map fun m => V.int (m.1 : Int)) = ((Tm.unks ss).map fun m => (m.1 : Int)).map V.int := by
            rw [List.map_map]
            simp only [Tm.unk]
            rfl
          rw [e] at hl
          refine ⟨l, _, rfl, .inl hl, rfl, flat_int _, ?_⟩
          rw [if_neg Bool.false_ne_true, inV_int]
          have e2 : decide ((m.1 : Int) ∈ (Tm.unks ss).map fun m => (m.1 : Int)) = decide (m ∈ Tm.unks ss) := by
            refine decide_eq_decide.mpr ⟨fun q => ?_, fun q => List.mem_map_of_mem q⟩
            obtain ⟨j, hj, ej⟩ := List.mem_map.mp q
            have : j = m := Fin.ext (by omega)
            rw [← this]
            exact hj
          rw [e2]
          exact k _ g1
        | c g ts =>
          obtain ⟨b, us, rfl, hb, hu⟩ := called_inv d2
          rw [Tm.above_cc] at k
          refine ⟨_, rfl, ⟨_, _, _, _, false, rfl, .ty _, .base (.tup hb), kit_ty (by decide +kernel), ⟨false, rfl, iteF ⟨_, rfl, b, _, _, _, rfl, rfl, SqT.of hb, at0, rfl, false, eq_unlike (fun z => g.2 (V.str.inj z)), iteF ?_⟩⟩⟩⟩
          have lv := hv.tms
          have lu := hu.tms
          have sv := Tm.length_sizes ss
          have su := Tm.length_sizes ts
          have dv : ∀ p ∈ ss, p.dep + 1 ≤ (Tm.c h ss).dep ∧ p.size ≤ 1000 ∧ Tm.ok hs p = true := fun p m => ⟨by have := Tm.dep_mem m; simp only [Tm.dep]; omega, by have := Tm.size_mem m; simp only [Tm.size] at z1; omega, Tm.ok_parts ok1 (by simp only [Tm.parts, List.mem_cons]; exact .inr (Tm.mem_partss.mpr ⟨p, m, Tm.self_parts _⟩))⟩
          have du : ∀ p ∈ ts, p.dep + 1 ≤ (Tm.c g ts).dep ∧ p.size ≤ 1000 ∧ Tm.ok hs p = true := fun p m => ⟨by have := Tm.dep_mem m; simp only [Tm.dep]; omega, by have := Tm.size_mem m; simp only [Tm.size] at z2; omega, Tm.ok_parts ok2 (by simp only [Tm.parts, List.mem_cons]; exact .inr (Tm.mem_partss.mpr ⟨p, m, Tm.self_parts _⟩))⟩
          simp only [Tm.size] at z1 z2
          unfold tNext
          dsimp only
          refine cut (fun σ' H' => ∃ m1 m2 m3 m4, σ' = [some (.ref pp), some (.ref a), some (.ref b), none, none, m1, m2, m3, m4] ∧ Gr [] H H' ∧ (ss.any fun p => decide (p = .c g ts) || Tm.above (rkOf hs) p (.c g ts)) = false) ?_ (fun rest => ?_)
          case refine_2 =>
            refine ⟨_, rfl, _, rfl, a, _, rfl, ha, fun p H1 g1 hp => ?_⟩
            rw [cut1] at hp
            refine ⟨p, rfl, ⟨_, SqT.of hp⟩, fun D hD => ?_⟩
            have hpD := ne_of_none hp hD
            refine lc_map (xs := vs) walk_tup [] (fun _ _ => True) (fun i y _ => ∃ s, ss[i]? = some s ∧ y = .bl (decide (s = .c g ts) || Tm.above (rkOf hs) s (.c g ts))) hD (by simp) (by omega) (fun H' g => SqT.of (g.2 _ _ (by rw [upd_ne hpD]; exact hp))) (fun _ _ _ _ _ h => h) trivial (fun _ _ _ _ _ _ => trivial) ?_ ?_
            · intro i x H2 R hx g2 _ kR
              obtain ⟨s', hs', dx⟩ := hv.tm hx
              have gg : Ts H H2 := (g1.2.trans (Ts.new hD)).trans g2.2
              have ms := List.mem_of_getElem? hs'
              have q1 := dv s' ms
              have e1 := Tm.depth_enc s'
              have e2 := Tm.depth_enc (Tm.c g ts)
              refine ⟨rfl, _, rfl, _, rfl, s'.enc, (Tm.c g ts).enc, dx.mono gg, d2.mono gg, by omega, by omega, _, rfl, ite2 (fun e => ?_) (fun e => ?_)⟩
              · rw [Tm.enc_dec] at e
                exact kR _ _ (Gr.refl _ _) trivial ⟨s', hs', by rw [e]; rfl⟩
              · refine ⟨_, rfl, _, rfl, _, rfl, ?_⟩
                refine ⟨pp, x, .ref b, ws, sl, hs, s', Tm.c g ts, rfl, pa.mono gg, dx.mono gg, d2.mono gg, q1.2.2, ok2, by omega, by omega, n2, q1.2.1, by simp only [Tm.size]; omega, hh, fun H4 g4 => kR _ _ g4 trivial ⟨s', hs', ?_⟩⟩
                rw [Tm.enc_dec] at e
                rw [Bool.eq_false_iff.mpr e, Bool.false_or]
            · intro ys H2 g2 _ hl hn2 hy
              have e1 := map_of (by rw [hn2, lv]) hy
              refine ⟨D, ss.map fun s => (decide (s = .c g ts) || Tm.above (rkOf hs) s (.c g ts)), rfl, SqL.of (by rw [hl, e1, List.map_map]; rfl), _, rfl, ite2 (fun e => ?_) (fun e => ?_)⟩
              · rw [show (ss.any fun p => decide (p = .c g ts) || Tm.above (rkOf hs) p (.c g ts)) = true by rw [← e, List.any_map]; rfl, Bool.true_or] at k
                exact k _ (g1.trans g2)
              · rw [List.any_map] at e
                exact rest _ _ ⟨_, _, _, _, rfl, g1.trans g2, Bool.eq_false_iff.mpr e⟩
          rintro σ' H1 ⟨m1, m2, m3, m4, rfl, g1, no⟩
          rw [no, Bool.false_or] at k
          refine cut (fun σ' H' => ∃ m1 m2 m3 m4, σ' = [some (.ref pp), some (.ref a), some (.ref b), none, none, m1, m2, m3, m4] ∧ Gr [] H H' ∧ (ts.all fun q => Tm.above (rkOf hs) (.c h ss) q) = true) ?_ (fun rest => ?_)
          case refine_2 =>
            refine ⟨_, rfl, _, rfl, b, _, rfl, g1.2 _ _ hb, fun p H2 g2 hp => ?_⟩
            rw [cut1] at hp
            refine ⟨p, rfl, ⟨_, SqT.of hp⟩, fun D hD => ?_⟩
            have hpD := ne_of_none hp hD
            have g12 := g1.trans g2
            refine lc_map (xs := us) walk_tup [] (fun _ _ => True) (fun i y _ => ∃ s, ts[i]? = some s ∧ y = .bl (Tm.above (rkOf hs) (.c h ss) s)) hD (by simp) (by omega) (fun H' g => SqT.of (g.2 _ _ (by rw [upd_ne hpD]; exact hp))) (fun _ _ _ _ _ h => h) trivial (fun _ _ _ _ _ _ => trivial) ?_ ?_
            · intro i x H3 R hx g3 _ kR
              obtain ⟨s', hs', dx⟩ := hu.tm hx
              have gg : Ts H H3 := (g12.2.trans (Ts.new hD)).trans g3.2
              have ms := List.mem_of_getElem? hs'
              have q1 := du s' ms
              refine ⟨rfl, _, rfl, _, rfl, _, rfl, ?_⟩
              exact ⟨pp, .ref a, x, ws, sl, hs, Tm.c h ss, s', rfl, pa.mono gg, d1.mono gg, dx.mono gg, ok1, q1.2.2, by omega, n1, by omega, by simp only [Tm.size]; omega, q1.2.1, hh, fun H4 g4 => kR _ _ g4 trivial ⟨s', hs', rfl⟩⟩
            · intro ys H3 g3 _ hl hn2 hy
              have e1 := map_of (by rw [hn2, lu]) hy
              refine ⟨D, ts.map fun s => Tm.above (rkOf hs) (.c h ss) s, rfl, SqL.of (by rw [hl, e1, List.map_map]; rfl), _, rfl, ?_⟩
              rw [List.all_map]
              cases e : (ts.all fun q => Tm.above (rkOf hs) (.c h ss) q) with
              | true =>
                rw [show ts.all (id ∘ fun s => Tm.above (rkOf hs) (.c h ss) s) = true from e]
                exact iteF (rest _ _ ⟨_, _, _, _, rfl, g12.trans g3, e⟩)
              | false =>
                rw [show ts.all (id ∘ fun s => Tm.above (rkOf hs) (.c h ss) s) = false from e]
                rw [e, Bool.false_and] at k
                exact iteT (k _ (g12.trans g3))
          rintro σ' H2 ⟨m1, m2, m3, m4, rfl, g2, al⟩
          rw [al, Bool.true_and] at k
          have pa2 := pa.mono g2.2
          obtain ⟨pw, ps, ph, pl, hP, _, _, dh⟩ := pa2.at_
          obtain ⟨c, rs, rfl, hc, hr⟩ := dh.tup_inv
          refine cut (fun σ' H' => ∃ o m1 m2 m3 m4, σ' = [some (.ref pp), some (.ref a), some (.ref b), some (.ref o), none, m1, m2, m3, m4] ∧ Gr [] H H' ∧ H' o = some (.lst ((hs.map (·.1)).map V.str))) ?_ (fun rest => ?_)
          case refine_2 =>
            refine ⟨_, rfl, pp, _, _, _, rfl, rfl, SqT.of hP, at2, c, rfl, ⟨_, SqT.of hc⟩, fun D hD => ?_⟩
            have hcD := ne_of_none hc hD
            have hrl := hr.map_len
            refine lc_map (xs := rs) walk_tup [] (fun _ _ => True) (fun i y _ => ∃ r, hs[i]? = some r ∧ y = .str r.1) hD (by simp) (by omega) (fun H' g => SqT.of (g.2 _ _ (by rw [upd_ne hcD]; exact hc))) (fun _ _ _ _ _ h => h) trivial (fun _ _ _ _ _ _ => trivial) ?_ ?_
            · intro i x H3 R hx g3 _ kR
              obtain ⟨r, hr', dr⟩ := hr.map_get hx
              obtain ⟨q, q2, rfl, hq, _⟩ := row_inv ((dr.mono (Ts.new hD)).mono g3.2)
              exact ⟨rfl, _, rfl, q, _, _, _, rfl, rfl, SqT.of hq, at0, kR _ _ (Gr.refl _ _) trivial ⟨r, hr', rfl⟩⟩
            · intro ys H3 g3 _ hl hn2 hy
              have e1 := map_of (by rw [hn2, hrl]) hy
              exact rest _ _ ⟨D, _, _, _, _, rfl, g2.trans g3, by rw [hl, e1, List.map_map]; rfl⟩
          rintro σ' H3 ⟨o, m1, m2, m3, m4, rfl, g3, ho⟩
          have ha3 := g3.2 _ _ ha
          have hb3 := g3.2 _ _ hb
          refine cut (fun σ' H' => σ' = [some (.ref pp), some (.ref a), some (.ref b), some (.ref o), none, m1, m2, m3, m4] ∧ H' = H3 ∧ h = g) ?_ (fun rest => ?_)
          case refine_2 =>
            refine ⟨_, rfl, a, _, _, _, rfl, rfl, SqT.of ha3, at0, _, rfl, b, _, _, _, rfl, rfl, SqT.of hb3, at0, rfl, _, rfl, ite2 (fun e => ?_) (fun e => ?_)⟩
            · have ne : h ≠ g := fun z => by rw [z, decide_eq_true rfl] at e; cases e
              obtain ⟨r1, f1⟩ := ok_fnd ok1
              obtain ⟨r2, f2⟩ := ok_fnd ok2
              have i1 := idx_names ⟨r1, (fnd_mem f1).1, (fnd_mem f1).2⟩
              have i2 := idx_names ⟨r2, (fnd_mem f2).1, (fnd_mem f2).2⟩
              refine ⟨_, rfl, .inl ⟨rfl, _, SqL.of ho⟩, _, rfl, b, _, _, _, rfl, rfl, SqT.of hb3, at0, o, _, _, rkOf hs g.1, _, rfl, rfl, SqL.of ho, rfl, flat_str _, i2.1, (beq_self_eq_true g.1 : (g.1 == g.1) = true), i2.2, ?_⟩
              refine ⟨_, rfl, .inl ⟨rfl, _, SqL.of ho⟩, _, rfl, a, _, _, _, rfl, rfl, SqT.of ha3, at0, o, _, _, rkOf hs h.1, _, rfl, rfl, SqL.of ho, rfl, flat_str _, i1.1, (beq_self_eq_true h.1 : (h.1 == h.1) = true), i1.2, _, _, rfl, rfl, ?_⟩
              have e3 : Tm.ahead (rkOf hs) h g ss ts = decide (rkOf hs g.1 < rkOf hs h.1) := by
                unfold Tm.ahead
                rw [if_neg ne]
              rw [e3] at k
              have e4 : decide (((rkOf hs g.1 : Nat) : Int) < ((rkOf hs h.1 : Nat) : Int)) = decide (rkOf hs g.1 < rkOf hs h.1) := decide_eq_decide.mpr (by omega)
              show Q (.bl (decide (((rkOf hs g.1 : Nat) : Int) < ((rkOf hs h.1 : Nat) : Int)))) H3
              rw [e4]
              exact k _ g3
            · refine rest _ _ ⟨rfl, rfl, ?_⟩
              refine Decidable.byContradiction fun z => e ?_
              rw [decide_eq_false (fun q => z (Subtype.ext (by injection q)))]
              rfl
          rintro σ' _ ⟨rfl, rfl, rfl⟩
          have e5 : Tm.ahead (rkOf hs) h h ss ts = match (ss.zip ts).find? (fun p => decide (p.1 ≠ p.2)) with | none => false | some p => Tm.above (rkOf hs) p.1 p.2 := by
            unfold Tm.ahead
            rw [if_pos rfl] <;> rfl
          rw [e5] at k
          refine cut (fun σ' H' => ∃ u ys m1 m2 m3 m4, σ' = [some (.ref pp), some (.ref a), some (.ref b), some (.ref o), some (.ref u), m1, m2, m3, m4] ∧ Gr [] H H' ∧ H' u = some (.lst ys) ∧ Dds H' ys (((ss.zip ts).filter fun p => decide (p.1 ≠ p.2)).map pairD)) ?_ (fun rest => ?_)
          case refine_2 =>
            refine ⟨_, rfl, _, rfl, a, _, rfl, ha3, fun p H4 g4 hp => ⟨_, rfl, _, rfl, b, _, rfl, g4.2 _ _ hb3, fun q H5 g5 hq => ?_⟩⟩
            rw [cut1] at hp hq
            have hp5 := g5.2 _ _ hp
            have g45 := g4.trans g5
            have g35 := g3.trans g45
            refine ⟨p, q, _, _, rfl, .inr ⟨SqT.of hp5, SqT.of hq, fun D hD => ?_⟩⟩
            have hpD := ne_of_none hp5 hD
            have hqD := ne_of_none hq hD
            have zl : (ss.zip ts).length = min vs.length us.length := by rw [List.length_zip, lv, lu]
            refine lc_it (walk_zipT (xs := vs) (ys := us) rfl) (fun i H' => Gr [D] (upd H5 D (.lst [])) H' ∧ ∃ ys, H' D = some (.lst ys) ∧ ys.length ≤ i ∧ Dds H' ys ((((ss.zip ts).take i).filter fun p => decide (p.1 ≠ p.2)).map pairD)) ⟨Gr.refl _ _, [], upd_same, Nat.le_refl _, .nil⟩ (fun i H' _ h => ⟨SqT.of (h.1.2 _ _ (by rw [upd_ne hpD]; exact hp5)), SqT.of (h.1.2 _ _ (by rw [upd_ne hqD]; exact hq))⟩) ?_ ?_
            · rintro i x H6 H7 hi ⟨g6, ys, hy, ly, dy⟩ ⟨U, y1, y2, rfl, hU, rfl, e1, e2⟩
              obtain ⟨s', hs', dx'⟩ := hv.tm e1
              obtain ⟨t', ht', dy'⟩ := hu.tm e2
              have ms := List.mem_of_getElem? hs'
              have mt := List.mem_of_getElem? ht'
              have q1 := dv s' ms
              have q2 := du t' mt
              have ex1 := Tm.depth_enc s'
              have ex2 := Tm.depth_enc t'
              have gU : Gr [] H6 (upd H6 U (.tup [y1, y2])) := Gr.new hU
              have gg : Ts H (upd H6 U (.tup [y1, y2])) := ((g35.2.trans (Ts.new hD)).trans g6.2).trans gU.2
              have hz : (ss.zip ts)[i]? = some (s', t') := by rw [List.getElem?_zip_eq_some]; exact ⟨hs', ht'⟩
              have hyU := gU.same _ _ hy
              refine ⟨U, _, rfl, SqT.of upd_same, rfl, _, _, rfl, _, _, rfl, rfl, rfl, ?_⟩
              refine ⟨_, rfl, _, rfl, s'.enc, t'.enc, dx'.mono gg, dy'.mono gg, by omega, by omega, _, rfl, ?_⟩
              rw [Tm.enc_dec]
              cases de : decide (s' = t') with
              | false =>
                refine iteT ⟨_, rfl, _, rfl, (by show 2 ≤ sizeLine; decide), fun e he => ?_⟩
                have ge : Gr [] (upd H6 U (.tup [y1, y2])) (upd (upd H6 U (.tup [y1, y2])) e (.tup [y1, y2])) := Gr.new he
                have hye := ge.same _ _ hyU
                have gl := Gr.at (S := [D]) (o := .lst (ys ++ [.ref e])) hye (fun _ z => nomatch z) List.mem_cons_self
                refine ⟨ys, hye, by rw [sizeLine_eq]; omega, (g6.trans (gU.trans ge).less).trans gl, _, upd_same, by rw [List.length_append, List.length_singleton]; omega, ?_⟩
                rw [take_one hz, List.filter_append, List.map_append, show List.filter (fun p : Tm × Tm => decide (p.1 ≠ p.2)) [(s', t')] = [(s', t')] by simp [of_decide_eq_false de]]
                refine (dy.mono ((gU.2.trans ge.2).trans gl.2)).snoc (.tup (gl.2 _ _ upd_same) (.cons (dx'.mono ((gg.trans ge.2).trans gl.2)) (.cons (dy'.mono ((gg.trans ge.2).trans gl.2)) .nil)))
              | true =>
                refine iteF ⟨g6.trans gU.less, ys, hyU, by omega, ?_⟩
                rw [take_one hz, List.filter_append, show List.filter (fun p : Tm × Tm => decide (p.1 ≠ p.2)) [(s', t')] = [] by simp [of_decide_eq_true de], List.append_nil]
                exact dy.mono gU.2
            · rintro H6 ⟨g6, ys, hy, ly, dy⟩
              rw [← zl, List.take_length] at dy
              exact rest _ _ ⟨D, ys, _, _, _, _, rfl, g35.trans (((Gr.new hD).trans g6).since hD), hy, dy⟩
          rintro σ' H4 ⟨u, ys, m1, m2, m3, m4, rfl, g4, hu4, dys⟩
          refine ⟨_, rfl, (by show 0 ≤ sizeLine; decide), fun e he => ?_⟩
          have ge : Gr [] H4 (upd H4 e (.lst [])) := Gr.new he
          have hue := ge.same _ _ hu4
          have dep60 : ∀ l : List (Tm × Tm), (∀ q ∈ l, q.1.dep ≤ 30 ∧ q.2.dep ≤ 30) → NestedKey.depthAll (l.map pairD) ≤ 40 := by
            intro l
            induction l with
            | nil => intro _; simp [NestedKey.depthAll]
            | cons q l ih =>
              intro hq
              have h1 := hq q List.mem_cons_self
              have h2 := ih fun x hx => hq x (List.mem_cons_of_mem _ hx)
              have e1 := Tm.depth_enc q.1
              have e2 := Tm.depth_enc q.2
              simp only [List.map_cons, NestedKey.depthAll, pairD, NestedKey.depth] at h2 ⊢
              omega
          have inz : ∀ q ∈ (ss.zip ts).filter (fun p => decide (p.1 ≠ p.2)), q.1 ∈ ss ∧ q.2 ∈ ts := fun q hq => List.of_mem_zip (List.mem_filter.mp hq).1
          have small : ∀ q ∈ (ss.zip ts).filter (fun p => decide (p.1 ≠ p.2)), q.1.dep ≤ 30 ∧ q.2.dep ≤ 30 := fun q hq => by
            have m := inz q hq
            have h1 := dv _ m.1
            have h2 := du _ m.2
            omega
          have hd := List.head?_filter (p := fun p : Tm × Tm => decide (p.1 ≠ p.2)) (l := ss.zip ts)
          rw [← hd] at k
          refine ⟨u, e, ys, _, rfl, rfl, hue, upd_same, dys.mono ge.2, (by have := dep60 _ small; omega), ?_⟩
          cases ef : (ss.zip ts).filter (fun p => decide (p.1 ≠ p.2)) with
          | nil =>
            rw [ef] at dys k
            cases dys.nil_inv
            exact ⟨false, rfl, iteF (k _ (g4.trans ge))⟩
          | cons q l =>
            rw [ef] at dys k
            have mq := inz q (by rw [ef]; exact List.mem_cons_self)
            obtain ⟨y, ys', rfl, dq, _⟩ := dys.cons_inv
            obtain ⟨w, ws', rfl, hw, dw⟩ := dq.tup_inv
            obtain ⟨y1, ws1, rfl, dy1, dw⟩ := dw.cons_inv
            obtain ⟨y2, ws2, rfl, dy2, dw⟩ := dw.cons_inv
            cases dw.nil_inv
            have hwe := ge.2 _ _ hw
            have h1 := dv _ mq.1
            have h2 := du _ mq.2
            refine ⟨true, rfl, iteT ?_⟩
            refine ⟨_, rfl, _, rfl, u, _, _, _, rfl, rfl, SqL.of hue, at0, w, _, _, _, rfl, rfl, SqT.of hwe, at0, _, rfl, u, _, _, _, rfl, rfl, SqL.of hue, at0, w, _, _, _, rfl, rfl, SqT.of hwe, at1, ?_⟩
            exact ⟨pp, y1, y2, ws, sl, hs, q.1, q.2, rfl, (pa.mono g4.2).mono ge.2, dy1.mono ge.2, dy2.mono ge.2, h1.2.2, h2.2.2, by omega, by omega, by omega, h1.2.1, h2.2.1, hh, fun H5 g5 => k _ ((g4.trans ge).trans g5)⟩
end
end Dr
/-! of drawing terms: walks of a list or a tuple, the kinds of the unknowns, the words of a kind -/
namespace Dr
open PySem L2
/-- what a name holds, a list or a tuple, is gone over -/
def iLT (K : PySem.W.Frag) (i : Nat) : TI := fun σ H R => ∃ a xs, σ[i]? = some (some (.ref a)) ∧ ((SqL K H a xs ∧ R (Itl K a) H) ∨ (SqT K H a xs ∧ R (Itt K a) H))
theorem pi_lt {X : Cx} {tg e : Expr} {i : Nat} (K : PySem.W.Frag) (h : PE X e (tVar i)) (hK : X.K = K := by rfl) : PI X tg e (iLT K i) := by
  constructor
  rintro pins s σ H R I ⟨a, xs, e1, ⟨hs, r⟩ | ⟨hs, r⟩⟩
  · exact (piL K h hK).run pins s σ H R I ⟨_, e1, a, rfl, ⟨xs, hs⟩, r⟩
  · exact (piT K h hK).run pins s σ H R I ⟨_, e1, a, rfl, ⟨xs, hs⟩, r⟩
theorem len_sub : ∀ {l m : List Int}, l.Nodup → (∀ x ∈ l, x ∈ m) → l.length ≤ m.length
  | [], m, _, _ => Nat.zero_le _
  | x :: l, m, nd, h => by
    have hx := h x List.mem_cons_self
    have nx := (List.nodup_cons.mp nd)
    have ih := len_sub (m := m.erase x) nx.2 fun y hy => (List.mem_erase_of_ne (fun z : y = x => nx.1 (by rw [← z]; exact hy))).mpr (h y (List.mem_cons_of_mem _ hy))
    rw [List.length_erase_of_mem hx] at ih
    have : 0 < m.length := List.length_pos_of_mem hx
    rw [List.length_cons]
    omega
/-! ### the unknowns' kinds -/
/-- keys are numbers below a thousand, values kinds -/
def KK (kvs : List (Key × V)) : Prop := ∀ kv ∈ kvs, ∃ (m : Fin 1000) (k : Str), kv = (.inl (m.1 : Int), .str k)
def tkd (kvs : List (Key × V)) (m : Fin 1000) : Option Str := match valV kvs (.inl (m.1 : Int)) with
  | some (.str k) => some k
  | _ => none
/-- what was told stays told -/
def Ext (a b : List (Key × V)) : Prop := ∀ m k, tkd a m = some k → tkd b m = some k
theorem Ext.refl (a : List (Key × V)) : Ext a a := fun _ _ h => h
theorem Ext.trans {a b c : List (Key × V)} (x : Ext a b) (y : Ext b c) : Ext a c := fun m k h => y m k (x m k h)
theorem val_mem : ∀ {kvs : List (Key × V)} {k : Key} {v : V}, valV kvs k = some v → (k, v) ∈ kvs
  | [], k, v, h => by cases h
  | p :: r, k, v, h => by
    by_cases e : p.1 = k
    · rw [valV_pos e] at h
      cases Option.some.inj h
      rw [← e]
      exact List.mem_cons_self
    · rw [valV_neg e] at h
      exact List.mem_cons_of_mem _ (val_mem h)
theorem mem_val : ∀ {kvs : List (Key × V)} {kv : Key × V}, kv ∈ kvs → ∃ v, valV kvs kv.1 = some v
  | p :: r, kv, h => by
    by_cases e : p.1 = kv.1
    · exact ⟨p.2, valV_pos e⟩
    · rw [valV_neg e]
      rcases List.mem_cons.mp h with rfl | h
      · exact absurd rfl e
      · exact mem_val h
theorem KK.val {kvs : List (Key × V)} (h : KK kvs) {m : Fin 1000} {v : V} (e : valV kvs (.inl (m.1 : Int)) = some v) : ∃ k, v = .str k ∧ tkd kvs m = some k := by
  obtain ⟨m', k, e2⟩ := h _ (val_mem e)
  have ev : v = .str k := congrArg Prod.snd e2
  refine ⟨k, ev, ?_⟩
  unfold tkd
  rw [e, ev]
theorem KK.put {kvs : List (Key × V)} (h : KK kvs) (m : Fin 1000) (k : Str) : KK (putK kvs (.inl (m.1 : Int)) (.str k)) := by
  unfold putK
  split
  · intro kv hk
    obtain ⟨q, hq, rfl⟩ := List.mem_map.mp hk
    obtain ⟨j, k2, rfl⟩ := h q hq
    dsimp only
    split
    · exact ⟨j, k, rfl⟩
    · exact ⟨j, k2, rfl⟩
  · intro kv hk
    rcases List.mem_append.mp hk with hk | hk
    · exact h kv hk
    · rw [List.mem_singleton.mp hk]
      exact ⟨m, k, rfl⟩
theorem put_ext {kvs : List (Key × V)} {m : Fin 1000} {k : Str} (n : valV kvs (.inl (m.1 : Int)) = none) : Ext kvs (putK kvs (.inl (m.1 : Int)) (.str k)) ∧ tkd (putK kvs (.inl (m.1 : Int)) (.str k)) m = some k ∧ (putK kvs (.inl (m.1 : Int)) (.str k)).length = kvs.length + 1 ∧ ∀ j k2, tkd (putK kvs (.inl (m.1 : Int)) (.str k)) j = some k2 → tkd kvs j = some k2 ∨ j = m := by
  refine ⟨fun j k2 h => ?_, ?_, ?_, fun j k2 h => ?_⟩
  · unfold tkd at h ⊢
    rw [valV_put]
    by_cases e : (Sum.inl (j.1 : Int) : Key) = .inl (m.1 : Int)
    · rw [e, n] at h
      cases h
    · rw [if_neg e]
      exact h
  · unfold tkd
    rw [valV_put, if_pos rfl]
  · unfold putK
    rw [valV_any, n]
    simp
  · by_cases e : j = m
    · exact .inr e
    · refine .inl ?_
      unfold tkd at h ⊢
      rw [valV_put, if_neg (fun z => e (Fin.ext (by injection z with z; omega)))] at h
      exact h
/-- some number is not told yet -/
theorem room_left {kvs : List (Key × V)} (h : kvs.length < 1000) : ∃ r : Nat, r < 1000 ∧ valV kvs (.inl (r : Int)) = none := by
  refine Classical.byContradiction fun no => ?_
  have all : ∀ r : Nat, r < 1000 → (r : Int) ∈ kvs.map fun kv => numOf kv.1 := fun r hr => by
    cases e : valV kvs (.inl (r : Int)) with
    | none => exact absurd ⟨r, hr, e⟩ no
    | some v => exact List.mem_map.mpr ⟨_, val_mem e, rfl⟩
  have nd : ((List.range 1000).map fun n : Nat => (n : Int)).Nodup := List.Pairwise.map _ (fun (a b : Nat) (ne : a ≠ b) (e : (a : Int) = (b : Int)) => ne (by omega)) List.nodup_range
  have := len_sub nd fun x hx => by
    obtain ⟨r, hr, rfl⟩ := List.mem_map.mp hx
    exact all r (List.mem_range.mp hr)
  rw [List.length_map, List.length_map, List.length_range] at this
  omega
mutual
theorem kd_mono {wk : Str → Option Str} {hs : List Tm.Row} {T T' : Fin 1000 → Option Str} (x : ∀ m k, T m = some k → T' m = some k) : ∀ {t : Tm} {k : Str}, Tm.kd wk hs T t k = true → Tm.kd wk hs T' t k = true
  | .w _, k, h => h
  | .u n, k, h => by
    simp only [Tm.kd, decide_eq_true_eq] at h ⊢
    exact x _ _ h
  | .c g ts, k, h => by
    simp only [Tm.kd] at h ⊢
    cases f : Tm.fnd hs g.1 with
    | none => rw [f] at h; cases h
    | some r =>
      rw [f] at h
      simp only [Bool.and_eq_true, decide_eq_true_eq] at h ⊢
      exact ⟨h.1, kds_mono x h.2⟩
theorem kds_mono {wk : Str → Option Str} {hs : List Tm.Row} {T T' : Fin 1000 → Option Str} (x : ∀ m k, T m = some k → T' m = some k) : ∀ {ts : List Tm} {ks : List Str}, Tm.kds wk hs T ts ks = true → Tm.kds wk hs T' ts ks = true
  | [], [], _ => by simp [Tm.kds]
  | t :: ts, k :: ks, h => by
    simp only [Tm.kds, Bool.and_eq_true] at h ⊢
    exact ⟨kd_mono x h.1, kds_mono x h.2⟩
  | [], _ :: _, h => by simp [Tm.kds] at h
  | _ :: _, [], h => by simp [Tm.kds] at h
end
theorem kds_snoc {wk : Str → Option Str} {hs : List Tm.Row} {T : Fin 1000 → Option Str} : ∀ {ts : List Tm} {ks : List Str} {t : Tm} {k : Str}, Tm.kds wk hs T ts ks = true → Tm.kd wk hs T t k = true → Tm.kds wk hs T (ts ++ [t]) (ks ++ [k]) = true
  | [], [], t, k, _, h => by simp [Tm.kds, h]
  | s :: ts, j :: ks, t, k, h, h2 => by
    simp only [Tm.kds, Bool.and_eq_true] at h
    simp only [List.cons_append, Tm.kds, Bool.and_eq_true]
    exact ⟨h.1, kds_snoc h.2 h2⟩
  | [], _ :: _, _, _, h, _ => by simp [Tm.kds] at h
  | _ :: _, [], _, _, h, _ => by simp [Tm.kds] at h
/-! ### the words of a kind -/
theorem merge_mem : ∀ {kvs acc : List (Key × V)} {k : Key} {v : V}, valV (mergeK acc kvs) k = some v → valV acc k = some v ∨ (k, v) ∈ kvs
  | [], acc, k, v, h => .inl h
  | p :: r, acc, k, v, h => by
    have h : valV (mergeK (putK acc p.1 p.2) r) k = some v := h
    rcases merge_mem h with h | h
    · rw [valV_put] at h
      by_cases e : k = p.1
      · rw [if_pos e] at h
        cases Option.some.inj h
        exact .inr (by rw [e]; exact List.mem_cons_self)
      · rw [if_neg e] at h
        exact .inl h
    · exact .inr (List.mem_cons_of_mem _ h)
theorem word_pairs {H : Hp} : ∀ {ws : List Wd} {wv : List V}, Dds H wv (ws.map encWd) → ∃ (ps : List Addr) (kvs : List (Key × V)), wv = ps.map V.ref ∧ Paired (fun p kv => H p = some (.tup [kV kv.1, kv.2])) ps kvs ∧ ∀ kv ∈ kvs, ∃ w ∈ ws, ∃ c, kv = (.inr w.1, .ref c) ∧ H c = some (.tup (w.2.map V.str))
  | [], wv, h => ⟨[], [], h.nil_inv, .nil, fun _ m => nomatch m⟩
  | w :: ws, wv, h => by
    obtain ⟨v, wv', rfl, h1, h2⟩ := h.cons_inv
    obtain ⟨a, b, rfl, ha, hb⟩ := wd_inv h1
    obtain ⟨ps, kvs, rfl, hp, hk⟩ := word_pairs h2
    refine ⟨a :: ps, (.inr w.1, .ref b) :: kvs, rfl, .cons ha hp, fun kv m => ?_⟩
    rcases List.mem_cons.mp m with rfl | m
    · exact ⟨w, List.mem_cons_self, b, rfl, hb⟩
    · obtain ⟨w', hw, r⟩ := hk kv m
      exact ⟨w', List.mem_cons_of_mem _ hw, r⟩
/-- how many unknowns, how many parts a drawn term has at most -/
def lv : Nat → Nat
  | 0 => 1
  | 1 => 1
  | d + 2 => 3 * lv (d + 1)
def sz : Nat → Nat
  | 0 => 1
  | 1 => 1
  | d + 2 => 1 + 3 * sz (d + 1)
/-- a term all of whose heads are some of hl -/
def From (hl : List Tm.Row) (t : Tm) : Prop := ∀ g ts, Tm.c g ts ∈ t.parts → ∃ r ∈ hl, r.1 = g.1
end Dr
/-! a term drawn -/
namespace Dr
open PySem L2
theorem cutIf {c : TT} {t u : TS} {D : Ends} {σ : L2.St} {H : Hp} (A : Hp → Prop) (ht : ∀ H1, A H1 → t D σ H1) (h : (∀ H1, A H1 → t D σ H1) → tIfS c t u D σ H) : tIfS c t u D σ H := h ht
theorem tcons_cut {ta : TE} {tr : TA} {σ : L2.St} {H : Hp} {Q : List V → Hp → Prop} (A : V → Hp → Prop) (h2 : ∀ x H1, A x H1 → tr σ H1 (fun xs H2 => Q (x :: xs) H2)) (h1 : (∀ x H1, A x H1 → tr σ H1 fun xs H2 => Q (x :: xs) H2) → tCons ta tr σ H Q) : tCons ta tr σ H Q := h1 h2
structure DTpre (H : Hp) (p c P f hp : Addr) (kind : Str) (d : Nat) (ws : List Wd) (sl : List Str) (hs hl : List Tm.Row) (us : List V) (kvs : List (Key × V)) : Prop where
  hand : HA H p c
  parts : PartsAt H P ws sl hs
  heads : H hp = some (.lst us) ∨ H hp = some (.tup us)
  rows : Dds H us (hl.map encRow)
  told : H f = some (.dK kvs)
  kk : KK kvs
  few : kvs.length + lv d ≤ 900
  w4 : ws.length ≤ 4
  wl : ∀ w ∈ ws, w.2.length ≤ 4 ∧ ∀ x ∈ w.2, PyData.strOk x = true
  wnd : (ws.flatMap (·.2)).Nodup
  h12 : hl.length ≤ 12
  sub : ∀ r ∈ hl, Tm.fnd hs r.1 = some r ∧ r.1 ≠ "?" ∧ r.2.1.length ≤ 3 ∧ PyData.strOk r.1 = true
  hpp : hp ≠ p
def spDT (n : Nat) : Sp := fun vs H Q _ => ∃ (p c P f hp : Addr) (kind : Str) (d : Nat) (ws : List Wd) (sl : List Str) (hs hl : List Tm.Row) (us : List V) (kvs : List (Key × V)),
  vs = [.ref p, .ref P, .str kind, .int (d : Nat), .ref f, .ref hp] ∧ 1 ≤ d ∧ d < n ∧ DTpre H p c P f hp kind d ws sl hs hl us kvs ∧
  ∀ t v H' kvs', HA H' p c → Gr [p, f] H H' → H' f = some (.dK kvs') → KK kvs' → Ext kvs kvs' → (∀ m k, tkd kvs' m = some k → tkd kvs m = some k ∨ m ∈ t.unk) → kvs'.length ≤ kvs.length + lv d → Dd H' v t.enc → KdT ws hs (tkd kvs') t kind → t.dep ≤ d → t.size ≤ sz d → From hl t → Q v H'
theorem lv_pos : ∀ d, 1 ≤ lv d ∧ 1 ≤ sz d
  | 0 => ⟨Nat.le_refl _, Nat.le_refl _⟩
  | 1 => ⟨Nat.le_refl _, Nat.le_refl _⟩
  | d + 2 => by
    have := lv_pos (d + 1)
    simp only [lv, sz]
    omega
theorem from_w {hl : List Tm.Row} (x : Str) : From hl (.w x) := fun g ts h => by simp [Tm.parts] at h
theorem from_u {hl : List Tm.Row} (m : Fin 1000) : From hl (.u m) := fun g ts h => by simp [Tm.parts] at h
theorem deps_le {m : Nat} : ∀ {ts : List Tm}, (∀ t ∈ ts, t.dep ≤ m) → Tm.deps ts ≤ m
  | [], _ => by simp [Tm.deps]
  | t :: ts, h => by
    have h1 := h t List.mem_cons_self
    have h2 := deps_le fun s hs => h s (List.mem_cons_of_mem _ hs)
    simp only [Tm.deps]
    omega
theorem sizes_le {m : Nat} : ∀ {ts : List Tm}, (∀ t ∈ ts, t.size ≤ m) → Tm.sizes ts ≤ ts.length * m
  | [], _ => by simp [Tm.sizes]
  | t :: ts, h => by
    have h1 := h t List.mem_cons_self
    have h2 := sizes_le fun s hs => h s (List.mem_cons_of_mem _ hs)
    simp only [Tm.sizes, List.length_cons, Nat.succ_mul]
    omega
theorem word_of {ws : List Wd} (nd : (ws.flatMap (·.2)).Nodup) {w : Wd} {x : Str} (hw : w ∈ ws) (hx : x ∈ w.2) : wkOf ws x = some w.1 := by
  obtain ⟨i, hi⟩ := List.getElem?_of_mem hw
  obtain ⟨j, hj⟩ := List.getElem?_of_mem hx
  exact wk_step nd hi hj
theorem nums_dds {H : Hp} : ∀ ns : List Int, Dds H (ns.map V.int) (ns.map NestedKey.num)
  | [] => .nil
  | n :: ns => .cons (.num n) (nums_dds ns)
theorem nums_depth : ∀ ns : List Int, NestedKey.depthAll (ns.map NestedKey.num) = 0
  | [] => rfl
  | n :: ns => by
    have := nums_depth ns
    simp only [List.map_cons, NestedKey.depthAll, NestedKey.depth, this]
    omega
theorem texts_depth : ∀ xs : List Str, NestedKey.depthAll (xs.map NestedKey.text) = 0
  | [] => rfl
  | n :: ns => by
    have := texts_depth ns
    simp only [List.map_cons, NestedKey.depthAll, NestedKey.depth, this]
    omega
theorem rows_depth : ∀ hs : List Tm.Row, NestedKey.depthAll (hs.map encRow) ≤ 3
  | [] => by simp [NestedKey.depthAll]
  | r :: hs => by
    have := rows_depth hs
    have := texts_depth r.2.1
    simp only [List.map_cons, NestedKey.depthAll, encRow, txts, NestedKey.depth] at *
    omega
section
variable {P : Program} {w : World} {K : PySem.W.Frag} {mg : Str → Option Value} {base : Heap}
theorem sc_law_drawn_term : FnScope ["hand", "parts", "kind", "deep", "told", "heads", "rows", "words", "same", "number", "name", "kinds", "own", "head", "n", "one"] ["hand", "parts", "kind", "deep", "told", "heads"] (defScope s_law_drawn_term) := ⟨rfl, rfl, rfl, by decide +kernel, rfl, by decide +kernel, by decide +kernel⟩
theorem ok_law_drawn_term (T : Tx K mg) : ∀ n, FnOk P w K mg base CX0 (n + 3) T.f_law_drawn_term.f T.f_law_drawn_term.fd ["hand", "parts", "kind", "deep", "told", "heads"] (spDT n)
  | 0 => T.f_law_drawn_term.F.ok (k := 2) sc_law_drawn_term (fun vs H Q E ⟨_, _, _, _, _, _, _, _, _, _, _, _, _, _, _, h, _⟩ => absurd h (Nat.not_lt_zero _)) (fun cdv A outer s H vs Q E hr ⟨_, _, _, _, _, _, _, _, _, _, _, _, _, _, _, h, _⟩ => absurd h (Nat.not_lt_zero _))
  | n + 1 => by
    have ih := ok_law_drawn_term T n
    refine T.f_law_drawn_term.F.ok (k := n + 3) sc_law_drawn_term (fun vs H Q E h => ?_) (fun cdv A outer s H vs Q E hr h => ?_)
    · obtain ⟨p, c, pp, f, hp, kind, d, _, _, _, _, _, _, rfl, _⟩ := h
      rfl
    · have nd := sc_law_drawn_term.nd
      refine ⟨_, (pss_cons (ps_par (i := 6) (j := 7) (by rfl) nd rfl rfl (by decide) rfl rfl (pa_cons (pe_lc (own := [("head", 13)]) rfl nd (pi_lt (i := 5) K (pv 5)) (blkOk_by (own := [("head", 13)]) (N := ["hand", "parts", "kind", "deep", "told", "heads", "rows", "words", "same", "number", "name", "kinds", "own", "head", "n", "one"]) (sc := defScope s_law_drawn_term) (by decide +kernel)) (fun _ _ _ _ _ => (pg_name (i := 13) nd rfl (Or.inl rfl) (Or.inr rfl))) (fun _ _ _ _ _ => (pts_one (pt_cmpR op_eq (pe_ix (ixT K) (pv 13) pe_int (fun _ _ => rfl)) (pv 2) (nomark _)))) (fun _ _ _ _ _ => (pv 13))) (pa_cons (pe_dget2 (hu_of hr) (pe_callTy (call_dictP rfl) (by rfl) T.z_dict (by decide +kernel) (pa_cons (pe_callTy call_list_of (by rfl) T.z_list (by decide +kernel) (pa_cons (pe_ix (ixT K) (pv 1) pe_int (fun _ _ => rfl)) pa_nil)) pa_nil)) (pv 2) (pe_tup pa_nil) ⟨by rfl, by rfl, by rfl, by rfl⟩) pa_nil)) (by rfl)) (pss_cons (ps_if (PW.pt (pw_or (pt_cmpR op_lt (pv 3) pe_int (nomark _)) (pw_or (pt_cmpR (op_eqNil hr.units) (pv 6) (pe_lst pa_nil) (nomark _)) (pw_or1 (pt_cmpR op_eq (pe_call (ok_law_draw T) (hr.mono (by omega)) rfl T.f_law_draw.g T.f_law_draw.F.kp T.f_law_draw.b .nil pass0 (pa_cons (pv 0) (pa_cons pe_int pa_nil))) pe_int (nomark _)))))) (pss_cons (ps_if (PW.pt (pw_and (pt_cmpR (op_neN hr.units) (pv 7) (pe_tup pa_nil) (nomark _)) (pw_and1 (pt_cmpR op_eq (pe_call (ok_law_draw T) (hr.mono (by omega)) rfl T.f_law_draw.g T.f_law_draw.F.kp T.f_law_draw.b .nil pass0 (pa_cons (pv 0) (pa_cons pe_int pa_nil))) pe_int (nomark _))))) (pss_one (ps_ret (pe_call (ok_law_some T) (hr.mono (by omega)) rfl T.f_law_some.g T.f_law_some.F.kp T.f_law_some.b .nil pass0 (pa_cons (pv 0) (pa_cons (pv 7) pa_nil))))) pss_nil) (pss_cons (ps_setLc (i := 8) (own := [("n", 14)]) rfl nd rfl rfl (by rfl) (piL K (pe_callB cr_sortedI (by rfl) T.z_sorted (by decide +kernel) (pa_cons (pe_callTy (call_listD rfl) (by rfl) T.z_list (by decide +kernel) (pa_cons (pv 4) pa_nil)) pa_nil))) (blkOk_by (own := [("n", 14)]) (N := ["hand", "parts", "kind", "deep", "told", "heads", "rows", "words", "same", "number", "name", "kinds", "own", "head", "n", "one"]) (sc := defScope s_law_drawn_term) (by decide +kernel)) (fun _ _ _ _ _ => (pg_name (i := 14) nd rfl (Or.inl rfl) (Or.inr rfl))) (fun _ _ _ _ _ => (pts_one (pt_cmpR op_eq (pe_dget (hu_of hr) (pv 4) (pv 14) (fun _ _ => rfl)) (pv 2) (nomark _)))) (fun _ _ _ _ _ => (pv 14))) (pss_cons (ps_if (PW.pt (pw_and (pt_cmpR (op_neNil hr.units) (pv 8) (pe_lst pa_nil) (nomark _)) (pw_and1 (pt_cmpR op_gt (pe_call (ok_law_draw T) (hr.mono (by omega)) rfl T.f_law_draw.g T.f_law_draw.F.kp T.f_law_draw.b .nil pass0 (pa_cons (pv 0) (pa_cons pe_int pa_nil))) pe_int (nomark _))))) (pss_one (ps_ret (pe_tup (pa_cons pe_str (pa_cons (pe_call (ok_law_some T) (hr.mono (by omega)) rfl T.f_law_some.g T.f_law_some.F.kp T.f_law_some.b .nil pass0 (pa_cons (pv 0) (pa_cons (pv 8) pa_nil))) pa_nil))))) pss_nil) (pss_cons (ps_set (i := 9) nd rfl (Or.inl rfl) (pe_call (ok_law_some T) (hr.mono (by omega)) rfl T.f_law_some.g T.f_law_some.F.kp T.f_law_some.b .nil pass0 (pa_cons (pv 0) (pa_cons (pe_lst (pa_cons pe_int (pa_cons pe_int (pa_cons pe_int (pa_cons pe_int (pa_cons pe_int (pa_cons pe_int (pa_cons pe_int pa_nil)))))))) pa_nil)))) (pss_cons (ps_while PassesOwn.never (pt_cmp (pc_din (hu_of hr) (pv 9) (pv 4))) (pss_one (ps_set (i := 9) nd rfl (Or.inl rfl) (pe_op op_mod (pe_callTy call_int1 (by rfl) T.z_int (by decide +kernel) (pa_cons (pe_op op_add (pv 9) pe_int) pa_nil)) pe_int)))) (pss_cons (ps_dput (hu_of hr) (pv 4) (pv 9) (pv 2) rfl) (pss_one (ps_ret (pe_tup (pa_cons pe_str (pa_cons (pv 9) pa_nil))))))))))) pss_nil) (pss_cons (ps_asg (pe_call (ok_law_some T) (hr.mono (by omega)) rfl T.f_law_some.g T.f_law_some.F.kp T.f_law_some.b .nil pass0 (pa_cons (pv 0) (pa_cons (pv 6) pa_nil))) (pgT K 3 (pgs_cons (pg_name (i := 10) nd rfl (Or.inl rfl) (Or.inr rfl)) (pgs_cons (pg_name (i := 11) nd rfl (Or.inl rfl) (Or.inr rfl)) (pgs_cons (pg_name (i := 12) nd rfl (Or.inl rfl) (Or.inr rfl)) pgs_nil))))) (pss_one (ps_ret (pe_op op_catN (pe_tup (pa_cons (pv 10) pa_nil)) (pe_callTy call_tuple_of (by rfl) T.z_tuple (by decide +kernel) (pa_cons (pe_lc (own := [("one", 15)]) rfl nd (piT K (pv 11)) (blkOk_by (own := [("one", 15)]) (N := ["hand", "parts", "kind", "deep", "told", "heads", "rows", "words", "same", "number", "name", "kinds", "own", "head", "n", "one"]) (sc := defScope s_law_drawn_term) (by decide +kernel)) (fun _ _ _ _ _ => (pg_name (i := 15) nd rfl (Or.inl rfl) (Or.inr rfl))) (fun _ _ _ _ _ => pts_nil) (fun _ _ _ _ _ => (pe_call ih hr rfl T.f_law_drawn_term.g T.f_law_drawn_term.F.kp T.f_law_drawn_term.b .nil pass0 (pa_cons (pv 0) (pa_cons (pv 1) (pa_cons (pv 15) (pa_cons (pe_op op_sub (pv 3) pe_int) (pa_cons (pv 4) (pa_cons (pv 5) pa_nil))))))))) pa_nil)))))))), ?_⟩
      obtain ⟨p, c, pp, f, hp, kind, d, ws, sl, hs, hl, us, kvs, rfl, d1, dn, pre, k⟩ := h
      have ha := pre.hand
      have hf := pre.told
      have fp : f ≠ p := ha.neo hf fun _ z => nomatch z
      have fhp : hp ≠ f := by
        rcases pre.heads with h | h
        · exact ne_of h hf (fun z => nomatch z)
        · exact ne_of h hf (fun z => nomatch z)
      obtain ⟨pw, ps, ph, pl, hP, dw, _, _⟩ := pre.parts.at_
      obtain ⟨b, wv, rfl, hb, hwv⟩ := dw.tup_inv
      have lus := pre.rows.map_len
      have few := pre.few
      have lvp := lv_pos d
      have h12 := pre.h12
      let σ0 : Option V → Option V → Option V → L2.St := fun r w h => [some (.ref p), some (.ref pp), some (.str kind), some (.int (d : Nat)), some (.ref f), some (.ref hp), r, w, none, none, none, none, none, h, none, none]
      -- the rows of this kind, its words
      refine cut (fun σ' H' => ∃ rw wc h13 rv ww, σ' = σ0 (some (.ref rw)) (some (.ref wc)) h13 ∧ Gr [] H H' ∧ H' rw = some (.lst rv) ∧ rw ≠ p ∧ rv.length ≤ 12 ∧ Dds H' rv ((hl.filter fun r => decide (r.2.2 = kind)).map encRow) ∧ H' wc = some (.tup (ww.map V.str)) ∧ (ww = [] ∨ ∃ w ∈ ws, w.1 = kind ∧ w.2 = ww)) ?_ (fun rest => ?_)
      case refine_2 =>
        unfold tSeq tPar
        refine tcons_cut (fun x H2 => ∃ D rv, x = .ref D ∧ H D = none ∧ Gr [] H H2 ∧ H2 D = some (.lst rv) ∧ rv.length ≤ 12 ∧ Dds H2 rv ((hl.filter fun r => decide (r.2.2 = kind)).map encRow)) ?_ (fun go => ?_)
        · rintro _ H2 ⟨D, rv, rfl, hD, g2, hrv, lrv, drv⟩
          have hP2 := g2.2 _ _ hP
          have hb2 := g2.2 _ _ hb
          refine ⟨_, rfl, pp, _, _, _, rfl, rfl, SqT.of hP2, at0, b, _, rfl, .inr (SqT.of hb2), fun l hl => ?_⟩
          obtain ⟨qs, ks, e1, pq, mk⟩ := word_pairs (hwv.mono g2.2)
          have g3 : Gr [] H2 (upd H2 l (.lst wv)) := Gr.new hl
          refine ⟨l, qs, ks, rfl, SqL.of (by rw [← e1]; exact upd_same), Paired.mapP pq (fun _ _ h => SqT.of (g3.2 _ _ h)), fun dd hdd => ?_⟩
          have g4 : Gr [] H2 (upd (upd H2 l (.lst wv)) dd (.dK (mergeK [] ks))) := g3.trans (Gr.new hdd)
          refine ⟨dd, rfl, .inl ⟨_, .inl upd_same⟩, _, rfl, (by show 0 ≤ sizeLine; decide), fun t ht => ?_⟩
          have g5 : Gr [] H2 (upd (upd (upd H2 l (.lst wv)) dd (.dK (mergeK [] ks))) t (.tup [])) := g4.trans (Gr.new ht)
          have hdt := ne_of_none (show upd (upd H2 l (.lst wv)) dd (.dK (mergeK [] ks)) dd = _ from upd_same) ht
          refine ⟨_, DGet.k (k := Sum.inr kind) (by rw [upd_ne hdt]; exact upd_same), ?_⟩
          have hDp : D ≠ p := ha.ne hD
          cases e : valV (mergeK [] ks) (.inr kind) with
          | none => exact ⟨_, _, rfl, rest _ _ ⟨D, t, _, rv, [], rfl, g2.trans g5, g5.same _ _ hrv, hDp, lrv, drv.mono g5.2, upd_same, .inl rfl⟩⟩
          | some v =>
            rcases merge_mem e with h | h
            · cases h
            · obtain ⟨w, hw, c2, e2, hc2⟩ := mk _ h
              have ew : kind = w.1 := Sum.inr.inj (congrArg Prod.fst e2)
              cases congrArg Prod.snd e2
              exact ⟨_, _, rfl, rest _ _ ⟨D, c2, _, rv, w.2, rfl, g2.trans g5, g5.same _ _ hrv, hDp, lrv, drv.mono g5.2, g5.2 _ _ hc2, .inr ⟨w, hw, ew.symm, rfl⟩⟩⟩
        rcases pre.heads with hh | hh
        · refine ⟨hp, us, rfl, .inl ⟨SqL.of hh, fun D hD => ?_⟩⟩
          have hhD := ne_of_none hh hD
          refine lc_it (walk_list (xs := us)) (fun i H' => Gr [D] (upd H D (.lst [])) H' ∧ ∃ rv, H' D = some (.lst rv) ∧ rv.length ≤ i ∧ Dds H' rv (((hl.take i).filter fun r => decide (r.2.2 = kind)).map encRow)) ⟨Gr.refl _ _, [], upd_same, Nat.le_refl _, .nil⟩ (fun i H' _ h => SqL.of (h.1.1 _ _ (by rw [upd_ne hhD]; exact hh) (by simpa using hhD))) ?_ ?_
          · rintro i x H2 H3 hi ⟨g2, rv, hrv, lrv, drv⟩ ⟨rfl, hx⟩
            obtain ⟨r, hr', dr⟩ := pre.rows.map_get hx
            have gg : Ts H H3 := (Ts.new hD).trans g2.2
            have drr := dr.mono gg
            obtain ⟨q, q2, rfl, hq, _⟩ := row_inv drr
            refine ⟨rfl, _, rfl, q, _, _, _, rfl, rfl, SqT.of hq, at2, _, rfl, rfl, _, rfl, ?_⟩
            have ed : decide (V.str r.2.2 = V.str kind) = decide (r.2.2 = kind) := decide_eq_decide.mpr ⟨fun z => V.str.inj z, fun z => by rw [z]⟩
            rw [ed]
            cases e : decide (r.2.2 = kind) with
            | true =>
              refine iteT ⟨_, rfl, rv, hrv, by rw [sizeLine_eq]; omega, ?_⟩
              have gl := Gr.at (S := [D]) (o := .lst (rv ++ [.ref q])) hrv (fun _ z => nomatch z) List.mem_cons_self
              refine ⟨g2.trans gl, _, upd_same, by rw [List.length_append, List.length_singleton]; omega, ?_⟩
              rw [take_one hr', List.filter_append, List.map_append, show List.filter (fun r : Tm.Row => decide (r.2.2 = kind)) [r] = [r] by simp [of_decide_eq_true e]]
              exact (drv.mono gl.2).snoc (drr.mono gl.2)
            | false =>
              refine iteF ⟨g2, rv, hrv, by omega, ?_⟩
              rw [take_one hr', List.filter_append, show List.filter (fun r : Tm.Row => decide (r.2.2 = kind)) [r] = [] by simp [of_decide_eq_false e], List.append_nil]
              exact drv
          · rintro H2 ⟨g2, rv, hrv, lrv, drv⟩
            rw [lus, List.take_length] at drv
            exact go _ _ ⟨D, rv, rfl, hD, ((Gr.new hD).trans g2).since hD, hrv, by omega, drv⟩
        · refine ⟨hp, us, rfl, .inr ⟨SqT.of hh, fun D hD => ?_⟩⟩
          have hhD := ne_of_none hh hD
          refine lc_it (walk_tup (xs := us)) (fun i H' => Gr [D] (upd H D (.lst [])) H' ∧ ∃ rv, H' D = some (.lst rv) ∧ rv.length ≤ i ∧ Dds H' rv (((hl.take i).filter fun r => decide (r.2.2 = kind)).map encRow)) ⟨Gr.refl _ _, [], upd_same, Nat.le_refl _, .nil⟩ (fun i H' _ h => SqT.of (h.1.1 _ _ (by rw [upd_ne hhD]; exact hh) (by simpa using hhD))) ?_ ?_
          · rintro i x H2 H3 hi ⟨g2, rv, hrv, lrv, drv⟩ ⟨rfl, hx⟩
            obtain ⟨r, hr', dr⟩ := pre.rows.map_get hx
            have gg : Ts H H3 := (Ts.new hD).trans g2.2
            have drr := dr.mono gg
            obtain ⟨q, q2, rfl, hq, _⟩ := row_inv drr
            refine ⟨rfl, _, rfl, q, _, _, _, rfl, rfl, SqT.of hq, at2, _, rfl, rfl, _, rfl, ?_⟩
            have ed : decide (V.str r.2.2 = V.str kind) = decide (r.2.2 = kind) := decide_eq_decide.mpr ⟨fun z => V.str.inj z, fun z => by rw [z]⟩
            rw [ed]
            cases e : decide (r.2.2 = kind) with
            | true =>
              refine iteT ⟨_, rfl, rv, hrv, by rw [sizeLine_eq]; omega, ?_⟩
              have gl := Gr.at (S := [D]) (o := .lst (rv ++ [.ref q])) hrv (fun _ z => nomatch z) List.mem_cons_self
              refine ⟨g2.trans gl, _, upd_same, by rw [List.length_append, List.length_singleton]; omega, ?_⟩
              rw [take_one hr', List.filter_append, List.map_append, show List.filter (fun r : Tm.Row => decide (r.2.2 = kind)) [r] = [r] by simp [of_decide_eq_true e]]
              exact (drv.mono gl.2).snoc (drr.mono gl.2)
            | false =>
              refine iteF ⟨g2, rv, hrv, by omega, ?_⟩
              rw [take_one hr', List.filter_append, show List.filter (fun r : Tm.Row => decide (r.2.2 = kind)) [r] = [] by simp [of_decide_eq_false e], List.append_nil]
              exact drv
          · rintro H2 ⟨g2, rv, hrv, lrv, drv⟩
            rw [lus, List.take_length] at drv
            exact go _ _ ⟨D, rv, rfl, hD, ((Gr.new hD).trans g2).since hD, hrv, by omega, drv⟩
      rintro σ' H1 ⟨rw, wc, h13, rv, ww, rfl, g1, hrw, rwp, lrv, drv, hwc, hww⟩
      have ha1 := ha.gr0 g1
      have wcp : wc ≠ p := ha1.neo hwc fun _ z => nomatch z
      have wok : ww.length ≤ 4 ∧ ∀ x ∈ ww, PyData.strOk x = true := by
        rcases hww with rfl | ⟨w, hw, _, rfl⟩
        · exact ⟨Nat.zero_le _, fun _ h => nomatch h⟩
        · exact pre.wl w hw
      let σ1 : Option V → Option V → Option V → L2.St := fun s8 s9 n14 => [some (.ref p), some (.ref pp), some (.str kind), some (.int (d : Nat)), some (.ref f), some (.ref hp), some (.ref rw), some (.ref wc), s8, s9, none, none, none, h13, n14, none]
      refine cut (fun σ' H' => σ' = σ1 none none none ∧ HA H' p c ∧ Gr [p] H H' ∧ H' rw = some (.lst rv) ∧ Dds H' rv ((hl.filter fun r => decide (r.2.2 = kind)).map encRow) ∧ rv ≠ [] ∧ 2 ≤ d) ?_ (fun rest => ?_)
      case refine_2 =>
        refine cutIf (fun H2 => HA H2 p c ∧ Gr [p] H H2 ∧ H2 wc = some (.tup (ww.map V.str))) ?_ (fun body => ?_)
        · rintro H2 ⟨a2, g2, hwc2⟩
          -- a word
          refine cut (fun σ' H' => σ' = σ1 none none none ∧ HA H' p c ∧ Gr [p] H H') ?_ (fun rest2 => ?_)
          case refine_2 =>
            refine ⟨_, rfl, (by show 0 ≤ sizeLine; decide), fun t ht => ?_⟩
            have gt : Gr [] H2 (upd H2 t (.tup [])) := Gr.new ht
            have td := texts_depth ww
            refine ⟨txts ww, .tup [], .tup (gt.2 _ _ hwc2) (texts_dds wok.2), .tup upd_same .nil, (by simp only [txts, NestedKey.depth]; omega), (by simp [NestedKey.depth, NestedKey.depthAll]), ?_⟩
            cases ww with
            | nil => exact ⟨false, by rw [show txts [] = NestedKey.tup [] from rfl, decide_eq_true rfl]; rfl, iteF (iteF (rest2 _ _ ⟨rfl, a2.gr0 gt, g2.trans gt.less⟩))⟩
            | cons x0 xs =>
              refine ⟨true, by rw [decide_eq_false (fun z => by simp [txts] at z)]; rfl, iteT ?_⟩
              refine ⟨_, rfl, ?_⟩
              show spDrawI [.ref p, .int 2] _ _ _
              refine spDrawI_of ⟨p, c, 2, rfl, a2.gr0 gt, by decide, by decide, fun r H3 _ _ a3 g3 => ?_⟩
              have g23 : Gr [p] H2 H3 := gt.less.trans g3
              refine ⟨rfl, _, rfl, ite2 (fun e => ?_) (fun e => rest2 _ _ ⟨rfl, a3, g2.trans g23⟩)⟩
              refine ⟨_, rfl, _, rfl, ?_⟩
              show spSome [.ref p, .ref wc] _ _ _
              refine spSome_of ⟨p, c, wc, (x0 :: xs).map V.str, rfl, a3, .inr (g23.2 _ _ hwc2), wcp, by simp, by rw [List.length_map]; omega, fun i x H4 hx a4 g4 => ?_⟩
              obtain ⟨z, hz, rfl⟩ := pickS hx
              have g4' := (g2.trans g23).trans g4
              refine k (.w z) _ H4 kvs a4 (g4'.wide (by simp)) (g4'.1 _ _ hf (by simpa using fp)) pre.kk (Ext.refl _) (fun _ _ h => .inl h) (by omega) (.text z (wok.2 z hz)) ?_ (Nat.zero_le _) lvp.2 (from_w z)
              rcases hww with h | ⟨w, hw, ek, e2⟩
              · cases h
              · simp only [KdT, Tm.kd, decide_eq_true_eq]
                rw [word_of pre.wnd hw (by rw [e2]; exact hz), ek]
          rintro σ' H3 ⟨rfl, a3, g3⟩
          -- the unknowns of this kind
          refine cut (fun σ' H' => ∃ sm n14, ∃ ss : List Int, σ' = σ1 (some (.ref sm)) none n14 ∧ HA H' p c ∧ Gr [p] H H' ∧ H' sm = some (.lst (ss.map V.int)) ∧ sm ≠ p ∧ ss.length ≤ 1000 ∧ ∀ x ∈ ss, ∃ m : _root_.Fin 1000, x = (m.1 : Int) ∧ tkd kvs m = some kind) ?_ (fun rest3 => ?_)
          case refine_2 =>
            have hf3 := g3.1 _ _ hf (by simpa using fp)
            have ek : (kvs.map fun kv => kV kv.1) = (kvs.map fun kv => numOf kv.1).map V.int := by
              rw [List.map_map]
              refine List.map_congr_left fun kv hk => ?_
              obtain ⟨m, q, rfl⟩ := pre.kk kv hk
              rfl
            refine ⟨_, rfl, f, kvs, rfl, .inl hf3, fun l hl => ?_⟩
            rw [ek]
            have gl : Gr [] H3 (upd H3 l (.lst ((kvs.map fun kv => numOf kv.1).map V.int))) := Gr.new hl
            refine ⟨l, _, rfl, SqL.of upd_same, fun ns q perm _ hq => ?_⟩
            have gq : Gr [] H3 (upd (upd H3 l (.lst ((kvs.map fun kv => numOf kv.1).map V.int))) q (.lst (ns.map V.int))) := gl.trans (Gr.new hq)
            have hq1 : upd (upd H3 l (.lst ((kvs.map fun kv => numOf kv.1).map V.int))) q (.lst (ns.map V.int)) q = some (.lst (ns.map V.int)) := upd_same
            have aq := a3.gr0 gq
            have hfq := gq.same _ _ hf3
            have nl : ns.length ≤ 900 := by rw [perm.length_eq, List.length_map]; omega
            have gg := g3.trans gq.less
            generalize upd (upd H3 l (.lst ((kvs.map fun kv => numOf kv.1).map V.int))) q (.lst (ns.map V.int)) = H4 at *
            refine ⟨q, rfl, ⟨_, SqL.of hq1⟩, fun D hD => ?_⟩
            have hqD := ne_of_none hq1 hD
            have hfD := ne_of_none hfq hD
            have Dp := aq.ne hD
            refine lc_it (walk_list (xs := ns.map V.int)) (fun i H' => Gr [D] (upd H4 D (.lst [])) H' ∧ ∃ ss : List Int, H' D = some (.lst (ss.map V.int)) ∧ ss.length ≤ i ∧ ∀ x ∈ ss, ∃ m : _root_.Fin 1000, x = (m.1 : Int) ∧ tkd kvs m = some kind) ⟨Gr.refl _ _, [], upd_same, Nat.le_refl _, fun _ h => nomatch h⟩ (fun i H' _ h => SqL.of (h.1.1 _ _ (by rw [upd_ne hqD]; exact hq1) (by simpa using hqD))) ?_ ?_
            · rintro i x H5 H6 hi ⟨g5, ss, hss, ls, mem⟩ ⟨rfl, hx⟩
              rw [List.length_map] at hi
              obtain ⟨n0, hn0, rfl⟩ := pickI hx
              have hn1 := perm.mem_iff.mp hn0
              obtain ⟨kv, hkv, rfl⟩ := List.mem_map.mp hn1
              obtain ⟨m, q0, rfl⟩ := pre.kk kv hkv
              obtain ⟨v, hv⟩ := mem_val hkv
              obtain ⟨q1, rfl, tm⟩ := pre.kk.val hv
              have hf6 := g5.1 _ _ (by rw [upd_ne hfD]; exact hfq) (by simpa using hfD)
              refine ⟨rfl, _, rfl, _, rfl, f, V.str q1, rfl, (by rw [← hv]; exact DGet.k (k := Sum.inl (m.1 : Int)) hf6), _, rfl, rfl, _, rfl, ?_⟩
              have ed : decide (V.str q1 = V.str kind) = decide (q1 = kind) := decide_eq_decide.mpr ⟨fun z => V.str.inj z, fun z => by rw [z]⟩
              rw [ed]
              cases e : decide (q1 = kind) with
              | true =>
                refine iteT ⟨_, rfl, ss.map V.int, hss, by rw [List.length_map, sizeLine_eq]; omega, ?_⟩
                refine ⟨g5.trans (Gr.at hss (fun _ z => nomatch z) List.mem_cons_self), ss ++ [(m.1 : Int)], by rw [upd_same, List.map_append]; rfl, by rw [List.length_append, List.length_singleton]; omega, fun x hx => ?_⟩
                rcases List.mem_append.mp hx with h | h
                · exact mem x h
                · rw [List.mem_singleton.mp h]
                  exact ⟨m, rfl, by rw [tm, of_decide_eq_true e]⟩
              | false => exact iteF ⟨g5, ss, hss, by omega, mem⟩
            · rintro H5 ⟨g5, ss, hss, ls, mem⟩
              rw [List.length_map] at ls
              exact rest3 _ _ ⟨D, _, ss, rfl, (aq.new hD).gr g5 (by simpa using Dp.symm) (by simpa using (aq.nec hD).symm), gg.trans (((Gr.new hD).trans g5).since hD).less, hss, Dp, by omega, mem⟩
          rintro σ' H4 ⟨sm, n14, ss, rfl, a4, g4, hsm, smp, lss, mem⟩
          -- one of them
          refine cut (fun σ' H' => σ' = σ1 (some (.ref sm)) none n14 ∧ HA H' p c ∧ Gr [p] H H') ?_ (fun rest4 => ?_)
          case refine_2 =>
            refine ⟨_, rfl, (by show 0 ≤ sizeLine; decide), fun t ht => ?_⟩
            have gt : Gr [] H4 (upd H4 t (.lst [])) := Gr.new ht
            refine ⟨sm, t, ss.map V.int, ss.map .num, rfl, rfl, gt.same _ _ hsm, upd_same, nums_dds ss, (by rw [nums_depth]; omega), ?_⟩
            cases ss with
            | nil => exact ⟨false, rfl, iteF (iteF (rest4 _ _ ⟨rfl, a4.gr0 gt, g4.trans gt.less⟩))⟩
            | cons x0 xs =>
              refine ⟨true, rfl, iteT ⟨_, rfl, ?_⟩⟩
              show spDrawI [.ref p, .int 3] _ _ _
              refine spDrawI_of ⟨p, c, 3, rfl, a4.gr0 gt, by decide, by decide, fun r H5 _ _ a5 g5 => ?_⟩
              have g45 : Gr [p] H4 H5 := gt.less.trans g5
              refine ⟨_, _, rfl, rfl, _, rfl, ite2 (fun e => ?_) (fun e => rest4 _ _ ⟨rfl, a5, g4.trans g45⟩)⟩
              refine ⟨_, rfl, _, rfl, ?_⟩
              show spSome [.ref p, .ref sm] _ _ _
              refine spSome_of ⟨p, c, sm, (x0 :: xs).map V.int, rfl, a5, .inl (g45.1 _ _ hsm (by simpa using smp)), smp, by simp, by rw [List.length_map]; omega, fun i x H6 hx a6 g6 => ?_⟩
              obtain ⟨n0, hn0, rfl⟩ := pickI hx
              obtain ⟨m, rfl, tm⟩ := mem n0 hn0
              refine ⟨(by show 2 ≤ sizeLine; decide), fun t2 ht2 => ?_⟩
              have g6' := ((g4.trans g45).trans g6).trans (Gr.new (o := .tup [.str "?", .int (m.1 : Int)]) ht2)
              refine k (.u m) _ _ kvs (a6.new ht2) (g6'.wide (by simp)) (g6'.1 _ _ hf (by simpa using fp)) pre.kk (Ext.refl _) (fun _ _ h => .inl h) (by omega) (by simp only [Tm.enc]; exact .tup upd_same (.cons (.text "?" (by decide +kernel)) (.cons (.num _) .nil))) (by simp only [KdT, Tm.kd, decide_eq_true_eq]; exact tm) d1 lvp.2 (from_u m)
          rintro σ' H5 ⟨rfl, a5, g5⟩
          -- a new one
          refine cut (fun σ' H' => ∃ x : Nat, x < 1000 ∧ σ' = σ1 (some (.ref sm)) (some (.int (x : Nat))) n14 ∧ HA H' p c ∧ Gr [p] H H') ?_ (fun rest5 => ?_)
          case refine_2 =>
            refine ⟨_, rfl, (by show 7 ≤ sizeLine; decide), fun l7 hl7 => ?_⟩
            show spSome [.ref p, .ref l7] _ _ _
            refine spSome_of ⟨p, c, l7, ([0, 1, 2, 3, 10, 998, 999] : List Int).map V.int, rfl, a5.new hl7, .inl upd_same, a5.ne hl7, by simp, by simp, fun i x H6 hx a6 g6 => ?_⟩
            obtain ⟨n0, hn0, rfl⟩ := pickI hx
            obtain ⟨x, rfl, hx1⟩ : ∃ x : Nat, n0 = (x : Int) ∧ x < 1000 := by
              simp only [List.mem_cons, List.not_mem_nil, or_false] at hn0
              exact ⟨n0.toNat, by omega, by omega⟩
            exact rest5 _ _ ⟨x, hx1, rfl, a6, g5.trans ((Gr.new hl7).less.trans g6)⟩
          rintro σ' H6 ⟨x, hx1, rfl, a6, g6⟩
          have hf6 := g6.1 _ _ hf (by simpa using fp)
          refine cut (fun σ' H' => ∃ x : Nat, x < 1000 ∧ σ' = σ1 (some (.ref sm)) (some (.int (x : Nat))) n14 ∧ H6 = H' ∧ valV kvs (.inl (x : Int)) = none) ?_ (fun rest6 => ?_)
          case refine_2 =>
            obtain ⟨r0, hr0, hn0⟩ := room_left (kvs := kvs) (by omega)
            refine ⟨fun m σ' H' => ∃ x : Nat, x < 1000 ∧ σ' = σ1 (some (.ref sm)) (some (.int (x : Nat))) n14 ∧ H6 = H' ∧ m = (r0 + 1000 - x) % 1000, ⟨_, x, hx1, rfl, rfl, rfl⟩, ?_⟩
            rintro m σ' _ ⟨x, hx, rfl, rfl, rfl⟩
            refine ⟨_, rfl, _, rfl, f, _, rfl, DGet.k (k := Sum.inl (x : Int)) hf6, _, rfl, ?_⟩
            cases e : valV kvs (.inl (x : Int)) with
            | none => exact iteF (rest6 _ _ ⟨x, hx, rfl, rfl, e⟩)
            | some v =>
              refine iteT ⟨fun σ' H' => ∃ y : Nat, y = (x + 1) % 1000 ∧ σ' = σ1 (some (.ref sm)) (some (.int (y : Nat))) n14 ∧ H6 = H', ?_, ?_⟩
              · rintro σ' _ ⟨y, rfl, rfl, rfl⟩
                have ne : x ≠ r0 := fun z => by rw [z, hn0] at e; cases e
                exact ⟨_, by omega, _, by omega, rfl, rfl, rfl⟩
              · refine ⟨_, rfl, _, _, rfl, rfl, .inl ⟨_, rfl, _, _, rfl, rfl, (by show (0 : Int) < 1000; decide), ?_⟩⟩
                have e9 : V.int (((x : Int) + 1) % 1000) = V.int (((x + 1) % 1000 : Nat) : Int) := congrArg V.int (by omega)
                exact ⟨_, rfl, (by show σ1 (some (.ref sm)) (some (V.int (((x : Int) + 1) % 1000))) n14 = _; rw [e9]), rfl⟩
          rintro σ' _ ⟨x, hx, rfl, rfl, hn⟩
          refine cut (fun σ' H' => σ' = σ1 (some (.ref sm)) (some (.int (x : Nat))) n14 ∧ H' = upd H6 f (.dK (putK kvs (.inl (x : Int)) (.str kind)))) ?_ (fun rest7 => ?_)
          case refine_2 =>
            exact ⟨_, rfl, _, rfl, _, rfl, f, _, rfl, DPut.k (k := Sum.inl (x : Int)) hf6 (by rw [sizeLine_eq]; omega), rest7 _ _ ⟨rfl, rfl⟩⟩
          rintro σ' _ ⟨rfl, rfl⟩
          refine ⟨_, rfl, (by show 2 ≤ sizeLine; decide), fun t ht => ?_⟩
          obtain ⟨x1, x2, x3, x4⟩ := put_ext (kvs := kvs) (m := ⟨x, hx⟩) (k := kind) hn
          have fc : f ≠ c := a6.neco hf6 fun _ z => nomatch z
          have gf : Gr [p, f] H6 (upd H6 f (.dK (putK kvs (.inl (x : Int)) (.str kind)))) := Gr.at hf6 (fun _ z => nomatch z) (by simp)
          refine k (.u ⟨x, hx⟩) _ _ _ ((a6.upd fp fc).new ht) (((g6.wide (by simp)).trans gf).trans (Gr.new ht)) (by rw [upd_ne (ne_of_none upd_same ht)]; exact upd_same) (pre.kk.put ⟨x, hx⟩ kind) x1 (fun m k h => (x4 m k h).imp id fun z => by rw [z]; simp [Tm.unk]) (by rw [x3]; omega) (by simp only [Tm.enc]; exact .tup upd_same (.cons (.text "?" (by decide +kernel)) (.cons (.num _) .nil))) (by simp only [KdT, Tm.kd, decide_eq_true_eq]; exact x2) d1 lvp.2 (from_u _)
        · refine ⟨_, rfl, _, _, rfl, rfl, _, rfl, ite2 (fun e => ?_) (fun e => ?_)⟩
          · exact iteT (body _ ⟨ha1, g1.less, hwc⟩)
          · have d2 : 2 ≤ d := by
              have : ¬ ((d : Int) < 2) := fun z => e (decide_eq_true z)
              omega
            refine ⟨_, rfl, (by show 0 ≤ sizeLine; decide), fun t ht => ?_⟩
            have gt : Gr [] H1 (upd H1 t (.lst [])) := Gr.new ht
            refine ⟨rw, t, rv, _, rfl, rfl, gt.same _ _ hrw, upd_same, drv.mono gt.2, (by have := rows_depth (hl.filter fun r => decide (r.2.2 = kind)); omega), ?_⟩
            cases rv with
            | nil => exact ⟨true, rfl, iteT (iteT (body _ ⟨ha1.gr0 gt, (g1.trans gt).less, gt.2 _ _ hwc⟩))⟩
            | cons x0 xs =>
              refine ⟨false, rfl, iteF ⟨_, rfl, ?_⟩⟩
              show spDrawI [.ref p, .int 6] _ _ _
              refine spDrawI_of ⟨p, c, 6, rfl, ha1.gr0 gt, by decide, by decide, fun r H3 _ _ a3 g3 => ?_⟩
              have g13 : Gr [p] H1 H3 := gt.less.trans g3
              refine ⟨rfl, _, rfl, ite2 (fun e => body _ ⟨a3, g1.less.trans g13, g13.2 _ _ hwc⟩) (fun e => rest _ _ ⟨rfl, a3, g1.less.trans g13, g13.1 _ _ hrw (by simpa using rwp), drv.mono g13.2, by simp, d2⟩)⟩
      rintro σ' H2 ⟨rfl, a2, g2, hrw2, drv2, rne, d2⟩
      obtain ⟨e, rfl⟩ : ∃ e, d = e + 2 := ⟨d - 2, by omega⟩
      have lve : lv (e + 2) = 3 * lv (e + 1) := rfl
      have sze : sz (e + 2) = 1 + 3 * sz (e + 1) := rfl
      have fc : f ≠ c := ha.neco hf fun _ z => nomatch z
      refine cut (fun σ' H' => ∃ (r : Tm.Row) (ca : Addr), σ' = [some (.ref p), some (.ref pp), some (.str kind), some (.int ((e + 2 : Nat) : Int)), some (.ref f), some (.ref hp), some (.ref rw), some (.ref wc), none, none, some (.str r.1), some (.ref ca), some (.str r.2.2), h13, none, none] ∧ HA H' p c ∧ Gr [p] H H' ∧ H' ca = some (.tup (r.2.1.map V.str)) ∧ r ∈ hl ∧ r.2.2 = kind) ?_ (fun rest2 => ?_)
      case refine_2 =>
        refine ⟨_, rfl, _, rfl, ?_⟩
        show spSome [.ref p, .ref rw] _ _ _
        refine spSome_of ⟨p, c, rw, rv, rfl, a2, .inl hrw2, rwp, rne, by omega, fun i x H3 hx a3 g3 => ?_⟩
        obtain ⟨r, hr', dr⟩ := (drv2.mono g3.2).map_get hx
        obtain ⟨q, ca, rfl, hq, hca⟩ := row_inv dr
        have hr2 := List.mem_filter.mp (List.mem_of_getElem? hr')
        exact ⟨q, _, rfl, SqT.of hq, rfl, _, _, rfl, _, _, rfl, _, _, rfl, rfl, rest2 _ _ ⟨r, ca, rfl, a3, g2.trans g3, hca, hr2.1, of_decide_eq_true hr2.2⟩⟩
      rintro σ' H3 ⟨r, ca, rfl, a3, g3, hca, hrl, rk⟩
      obtain ⟨fr, rq, r3, rok⟩ := pre.sub r hrl
      have hf3 := g3.1 _ _ hf (by simpa using fp)
      refine ⟨_, rfl, (by show 1 ≤ sizeLine; decide), fun t1 ht1 => ?_⟩
      have gt : Gr [] H3 (upd H3 t1 (.tup [.str r.1])) := Gr.new ht1
      have a4 := a3.gr0 gt
      have hca4 := gt.2 _ _ hca
      have hf4 := gt.same _ _ hf3
      have ht4 : upd H3 t1 (.tup [.str r.1]) t1 = some (.tup [.str r.1]) := upd_same
      have g4 := g3.trans gt.less
      have heads4 : upd H3 t1 (.tup [.str r.1]) hp = some (.lst us) ∨ upd H3 t1 (.tup [.str r.1]) hp = some (.tup us) := pre.heads.imp (fun h => g4.1 _ _ h (by simpa using pre.hpp)) (fun h => g4.2 _ _ h)
      generalize upd H3 t1 (.tup [.str r.1]) = H4 at *
      refine ⟨_, rfl, ca, rfl, ⟨_, SqT.of hca4⟩, fun D hD => ?_⟩
      have caD := ne_of_none hca4 hD
      have fD := ne_of_none hf4 hD
      have Dp := a4.ne hD
      have Dc := a4.nec hD
      have hpD : hp ≠ D := by
        rcases heads4 with h | h
        · exact ne_of_none h hD
        · exact ne_of_none h hD
      refine lc_it (walk_tup (xs := r.2.1.map V.str)) (fun i H' => HA H' p c ∧ Gr [D, p, f] (upd H4 D (.lst [])) H' ∧ ∃ kv ys ts, H' f = some (.dK kv) ∧ KK kv ∧ Ext kvs kv ∧ (∀ m k, tkd kv m = some k → tkd kvs m = some k ∨ m ∈ Tm.unks ts) ∧ kv.length ≤ kvs.length + i * lv (e + 1) ∧ H' D = some (.lst ys) ∧ ys.length = i ∧ Dds H' ys (Tm.encs ts) ∧ Tm.kds (wkOf ws) hs (tkd kv) ts (r.2.1.take i) = true ∧ ∀ t ∈ ts, t.dep ≤ e + 1 ∧ t.size ≤ sz (e + 1) ∧ From hl t)
        ⟨a4.new hD, Gr.refl _ _, kvs, [], [], by rw [upd_ne fD]; exact hf4, pre.kk, Ext.refl _, fun _ _ h => .inl h, by omega, upd_same, rfl, by simp only [Tm.encs]; exact .nil, by simp [Tm.kds], fun _ h => nomatch h⟩ (fun i H' _ h => SqT.of (h.2.1.2 _ _ (by rw [upd_ne caD]; exact hca4))) ?_ ?_
      · rintro i x H5 H6 hi ⟨a5, g5, kv, ys, ts, hf5, kk5, ext5, new5, len5, hD5, ly, dy, ks5, al⟩ ⟨rfl, hx⟩
        rw [List.length_map] at hi
        rw [List.getElem?_map] at hx
        obtain ⟨k1, hk1, rfl⟩ := Option.map_eq_some_iff.mp hx
        have gg : Ts H H6 := (g4.2.trans (Ts.new hD)).trans g5.2
        have i2 : i * lv (e + 1) ≤ 2 * lv (e + 1) := Nat.mul_le_mul_right _ (by omega)
        refine ⟨rfl, yes (iteT ⟨_, rfl, _, rfl, _, rfl, _, rfl, _, _, rfl, rfl, _, rfl, _, rfl, ?_⟩)⟩
        refine ⟨p, c, pp, f, hp, k1, e + 1, ws, sl, hs, hl, us, kv, ?_, by omega, by omega, ?_, ?_⟩
        · have e9 : V.int (((e + 2 : Nat) : Int) - 1) = V.int ((e + 1 : Nat) : Int) := congrArg V.int (by omega)
          show [_, _, _, V.int (((e + 2 : Nat) : Int) - 1), _, _] = _
          rw [e9]
        · refine ⟨a5, pre.parts.mono gg, ?_, pre.rows.mono gg, hf5, kk5, by omega, pre.w4, pre.wl, pre.wnd, pre.h12, pre.sub, pre.hpp⟩
          exact heads4.imp (fun h => g5.1 _ _ (by rw [upd_ne hpD]; exact h) (by simpa using ⟨hpD, pre.hpp, fhp⟩)) (fun h => g5.2 _ _ (by rw [upd_ne hpD]; exact h))
        · intro t v H7 kv' a7 g7 hf7 kk7 ext7 new7 len7 dv kd7 dep7 sz7 fr7
          have hD7 := g7.1 _ _ hD5 (by simpa using ⟨Dp, fD.symm⟩)
          have gD : Gr [D, p, f] H7 (upd H7 D (.lst (ys ++ [v]))) := Gr.at hD7 (fun _ z => nomatch z) (by simp)
          refine ⟨ys, hD7, by rw [sizeLine_eq]; omega, a7.upd Dp Dc, (g5.trans (g7.wide (by simp))).trans gD, kv', ys ++ [v], ts ++ [t], by rw [upd_ne fD]; exact hf7, kk7, ext5.trans ext7, ?_, by rw [Nat.succ_mul]; omega, upd_same, by rw [List.length_append, ly]; rfl, ?_, ?_, ?_⟩
          · intro m k h
            rw [Tm.unks_app]
            rcases new7 m k h with h | h
            · exact (new5 m k h).imp id fun z => List.mem_append_left _ z
            · exact .inr (List.mem_append_right _ (by simpa [Tm.unks] using h))
          · have := ((dy.mono g7.2).snoc dv).mono gD.2
            rw [Tm.encs_map] at this ⊢
            rw [List.map_append]
            exact this
          · rw [take_one hk1]
            exact kds_snoc (kds_mono ext7 ks5) kd7
          · intro t' ht'
            rcases List.mem_append.mp ht' with h | h
            · exact al t' h
            · rw [List.mem_singleton.mp h]
              exact ⟨dep7, sz7, fr7⟩
      · rintro H5 ⟨a5, g5, kv, ys, ts, hf5, kk5, ext5, new5, len5, hD5, ly, dy, ks5, al⟩
        rw [List.length_map] at ly len5
        refine ⟨D, _, rfl, .inl ⟨SqL.of hD5, fun t2 ht2 => ?_⟩⟩
        have g2t : Gr [] H5 (upd H5 t2 (.tup ys)) := Gr.new ht2
        have ht5 : H5 t1 = some (.tup [.str r.1]) := g5.2 _ _ ((Ts.new hD) _ _ ht4)
        refine ⟨t1, t2, _, _, rfl, rfl, g2t.2 _ _ ht5, upd_same, by rw [sizeLine_eq]; simp only [List.length_singleton]; omega, fun q H7 g7 hq => ?_⟩
        have lts : ts.length = r.2.1.length := by
          have := dy.tms
          omega
        have gend : Gr [p, f] H H7 := by
          have h1 : Gr [D, p, f] H H5 := (g4.wide (by simp)).trans ((Gr.new hD).trans g5)
          exact (h1.since (g4.fresh hD (by simpa using Dp))).trans ((g2t.trans g7).wide (by simp))
        have i3 : r.2.1.length * lv (e + 1) ≤ 3 * lv (e + 1) := Nat.mul_le_mul_right _ (by omega)
        have s3 := sizes_le (m := sz (e + 1)) fun t ht => (al t ht).2.1
        have s4 : ts.length * sz (e + 1) ≤ 3 * sz (e + 1) := Nat.mul_le_mul_right _ (by omega)
        have dl := deps_le (m := e + 1) fun t ht => (al t ht).1
        refine k (.c ⟨r.1, rq⟩ ts) _ H7 kv ((a5.gr0 g2t).gr0 g7) gend ((g2t.trans g7).same _ _ hf5) kk5 ext5 (by simpa only [Tm.unk] using new5) (by omega) ?_ ?_ (by simp only [Tm.dep]; omega) (by simp only [Tm.size]; omega) ?_
        · simp only [Tm.enc]
          exact .tup hq (.cons (.text r.1 rok) (dy.mono (g2t.trans g7).2))
        · simp only [KdT, Tm.kd]
          rw [fr]
          simp only [rk, decide_true, Bool.true_and]
          rw [List.take_of_length_le (by rw [List.length_map]; exact Nat.le_refl _)] at ks5
          exact ks5
        · intro g' ts' hm
          simp only [Tm.parts, List.mem_cons] at hm
          rcases hm with hm | hm
          · obtain ⟨rfl, rfl⟩ := Tm.c.inj hm
            exact ⟨r, hrl, rfl⟩
          · obtain ⟨t, ht, hp'⟩ := Tm.mem_partss.mp hm
            exact (al t ht).2.2 g' ts' hp'
end
end Dr
/-! a law drawn -/
namespace Dr
open PySem L2
theorem above_unk {rk : Str → Nat} : ∀ (n : Nat) (s t : Tm), s.size + t.size ≤ n → Tm.above rk s t = true → ∀ m ∈ t.unk, m ∈ s.unk := by
  intro n
  induction n with
  | zero =>
    intro s t h
    have := Tm.size_pos s
    omega
  | succ n ih =>
    intro s t hn ha m hm
    cases s with
    | w x => rw [Tm.above_w] at ha; cases ha
    | u x => rw [Tm.above_u] at ha; cases ha
    | c h ss =>
      cases t with
      | w x => simp [Tm.unk] at hm
      | u x =>
        rw [Tm.above_cu] at ha
        simp only [Tm.unk, List.mem_singleton] at hm ⊢
        rw [hm]
        exact of_decide_eq_true ha
      | c g ts =>
        rw [Tm.above_cc, Bool.or_eq_true, Bool.and_eq_true] at ha
        rcases ha with ha | ⟨ha, _⟩
        · obtain ⟨q, hq, ha⟩ := List.any_eq_true.mp ha
          have hz := Tm.size_mem hq
          simp only [Tm.unk]
          refine Tm.mem_unks.mpr ⟨q, hq, ?_⟩
          rcases Bool.or_eq_true_iff.mp ha with ha | ha
          · rw [of_decide_eq_true ha]
            exact hm
          · exact ih q _ (by simp only [Tm.size] at hn ⊢; omega) ha m hm
        · simp only [Tm.unk] at hm
          obtain ⟨q, hq, hm⟩ := Tm.mem_unks.mp hm
          have hz := Tm.size_mem hq
          exact ih _ q (by simp only [Tm.size] at hn ⊢; omega) (List.all_eq_true.mp ha q hq) m hm
structure DLpre (H : Hp) (p c P : Addr) (ws : List Wd) (sl : List Str) (hs : List Tm.Row) : Prop where
  hand : HA H p c
  parts : PartsAt H P ws sl hs
  w4 : ws.length ≤ 4
  wl : ∀ w ∈ ws, w.2.length ≤ 4 ∧ ∀ x ∈ w.2, PyData.strOk x = true
  wnd : (ws.flatMap (·.2)).Nodup
  h12 : 1 ≤ hs.length ∧ hs.length ≤ 12
  sub : ∀ r ∈ hs, Tm.fnd hs r.1 = some r ∧ r.1 ≠ "?" ∧ r.2.1.length ≤ 3 ∧ PyData.strOk r.1 = true
@[irreducible] def spDL : Sp := fun vs H Q _ => ∃ (p c P : Addr) (ws : List Wd) (sl : List Str) (hs : List Tm.Row), vs = [.ref p, .ref P] ∧ DLpre H p c P ws sl hs ∧ ∀ v H', HA H' p c → Gr [p] H H' → (v = .non ∨ ∃ l r, Dd H' v (encLaw (l, r)) ∧ LawOK ws hs l r) → Q v H'
theorem spDL_of {vs : List V} {H : Hp} {Q : VK} {E : XK} (h : ∃ (p c P : Addr) (ws : List Wd) (sl : List Str) (hs : List Tm.Row), vs = [.ref p, .ref P] ∧ DLpre H p c P ws sl hs ∧ ∀ v H', HA H' p c → Gr [p] H H' → (v = .non ∨ ∃ l r, Dd H' v (encLaw (l, r)) ∧ LawOK ws hs l r) → Q v H') : spDL vs H Q E := by unfold spDL; exact h
/-- a left side and the kinds that its unknowns have -/
structure LeftOK (ws : List Wd) (hs : List Tm.Row) (kv : List (Key × V)) (l : Tm) (k : Str) : Prop where
  isC : ∃ g ts, l = .c g ts
  kd : KdT ws hs (tkd kv) l k
  dep : l.dep ≤ 4
  size : l.size ≤ 40
  asks : ∀ p ∈ l.parts.tail, isAsk ws hs p = false
  unk : ∀ m k, tkd kv m = some k → m ∈ l.unk
  kk : KK kv
  few : kv.length ≤ 27
/-- the law of a left side and a right one -/
theorem LeftOK.law {ws : List Wd} {hs : List Tm.Row} {kv kv' : List (Key × V)} {l r : Tm} {k : Str} (h : LeftOK ws hs kv l k) (e : Ext kv kv') (hk : KdT ws hs (tkd kv') r k) (s1 : l.size ≤ 30) (s2 : r.size ≤ 30) (d2 : r.dep ≤ 7) (a : Tm.above (rkOf hs) l r = true) : LawOK ws hs l r := by
  obtain ⟨g, ts, rfl⟩ := h.isC
  exact ⟨⟨g, ts, tkd kv', k, rfl, kd_mono e h.kd, hk⟩, ⟨s1, s2⟩, ⟨by have := h.dep; omega, d2⟩, h.asks, above_unk _ _ _ (Nat.le_refl _) a, a⟩
theorem asks_of {ws : List Wd} {hs hl : List Tm.Row} {g : Hd} {ts : List Tm} (sub : ∀ r ∈ hl, Tm.fnd hs r.1 = some r ∧ r.2.2 ∉ ws.map (·.1)) (fr : ∀ t ∈ ts, From hl t) : ∀ p ∈ (Tm.c g ts).parts.tail, isAsk ws hs p = false := by
  intro p hp
  simp only [Tm.parts, List.tail_cons] at hp
  obtain ⟨t, ht, hp⟩ := Tm.mem_partss.mp hp
  cases p with
  | w x => rfl
  | u m => rfl
  | c g' ts' =>
    obtain ⟨r, hr, e⟩ := fr t ht g' ts' hp
    obtain ⟨f, n⟩ := sub r hr
    rw [e] at f
    show (match Tm.fnd hs g'.1 with | none => false | some r => decide (r.2.2 ∈ ws.map (·.1))) = false
    rw [f]
    exact decide_eq_false n
theorem lv3 : ∀ d, d ≤ 3 → lv d ≤ 9 ∧ sz d ≤ 13 := by decide
section
variable {P : Program} {w : World} {K : PySem.W.Frag} {mg : Str → Option Value} {base : Heap}
theorem sc_law_drawn_law : FnScope ["hand", "parts", "words", "told", "makers", "name", "kinds", "kind", "left", "turn", "more", "right", "some", "head", "one", "n"] ["hand", "parts"] (defScope s_law_drawn_law) := ⟨rfl, rfl, rfl, by decide +kernel, rfl, by decide +kernel, by decide +kernel⟩
theorem ok_law_drawn_law (T : Tx K mg) : FnOk P w K mg base CX0 60 T.f_law_drawn_law.f T.f_law_drawn_law.fd ["hand", "parts"] spDL := by
  refine T.f_law_drawn_law.F.ok sc_law_drawn_law (fun vs H Q E h => ?_) (fun cdv A outer s H vs Q E hr h => ?_)
  · unfold spDL at h
    obtain ⟨p, c, pp, ws, sl, hs, rfl, _⟩ := h
    rfl
  · have nd := sc_law_drawn_law.nd
    refine ⟨_, (pss_cons (ps_asg (pe_tup (pa_cons (pe_lc (own := [("name", 5), ("some", 12)]) rfl nd (piT K (pe_ix (ixT K) (pv 1) pe_int (fun _ _ => rfl))) (blkOk_by (own := [("name", 5), ("some", 12)]) (N := ["hand", "parts", "words", "told", "makers", "name", "kinds", "kind", "left", "turn", "more", "right", "some", "head", "one", "n"]) (sc := defScope s_law_drawn_law) (by decide +kernel)) (fun _ _ _ _ _ => (pgT K 2 (pgs_cons (pg_name (i := 5) nd rfl (Or.inl rfl) (Or.inr rfl)) (pgs_cons (pg_name (i := 12) nd rfl (Or.inl rfl) (Or.inr rfl)) pgs_nil)))) (fun _ _ _ _ _ => pts_nil) (fun _ _ _ _ _ => (pv 5))) (pa_cons pe_dnewK pa_nil))) (pgT K 2 (pgs_cons (pg_name (i := 2) nd rfl (Or.inr rfl) (Or.inl rfl)) (pgs_cons (pg_name (i := 3) nd rfl (Or.inr rfl) (Or.inl rfl)) pgs_nil)))) (pss_cons (ps_set (i := 4) nd rfl (Or.inr rfl) (pe_lc (own := [("head", 13)]) rfl nd (piT K (pe_ix (ixT K) (pv 1) pe_int (fun _ _ => rfl))) (blkOk_by (own := [("head", 13)]) (N := ["hand", "parts", "words", "told", "makers", "name", "kinds", "kind", "left", "turn", "more", "right", "some", "head", "one", "n"]) (sc := defScope s_law_drawn_law) (by decide +kernel)) (fun _ _ _ _ _ => (pg_name (i := 13) nd rfl (Or.inl rfl) (Or.inr rfl))) (fun _ _ _ _ _ => (pts_one (pt_cmpR op_notInF (pe_ix (ixT K) (pv 13) pe_int (fun _ _ => rfl)) (pv 2) (by rfl)))) (fun _ _ _ _ _ => (pv 13)))) (pss_cons (ps_asg (pe_call (ok_law_some T) (hr.mono (by omega)) rfl T.f_law_some.g T.f_law_some.F.kp T.f_law_some.b .nil pass0 (pa_cons (pv 0) (pa_cons (pe_ix (ixT K) (pv 1) pe_int (fun _ _ => rfl)) pa_nil))) (pgT K 3 (pgs_cons (pg_name (i := 5) nd rfl (Or.inl rfl) (Or.inr rfl)) (pgs_cons (pg_name (i := 6) nd rfl (Or.inl rfl) (Or.inr rfl)) (pgs_cons (pg_name (i := 7) nd rfl (Or.inr rfl) (Or.inl rfl)) pgs_nil))))) (pss_cons (ps_set (i := 8) nd rfl (Or.inl rfl) (pe_op op_catN (pe_tup (pa_cons (pv 5) pa_nil)) (pe_callTy call_tuple_of (by rfl) T.z_tuple (by decide +kernel) (pa_cons (pe_lc (own := [("one", 14)]) rfl nd (piT K (pv 6)) (blkOk_by (own := [("one", 14)]) (N := ["hand", "parts", "words", "told", "makers", "name", "kinds", "kind", "left", "turn", "more", "right", "some", "head", "one", "n"]) (sc := defScope s_law_drawn_law) (by decide +kernel)) (fun _ _ _ _ _ => (pg_name (i := 14) nd rfl (Or.inl rfl) (Or.inr rfl))) (fun _ _ _ _ _ => pts_nil) (fun _ _ _ _ _ => (pe_call (ok_law_drawn_term T 4) (hr.mono (by omega)) rfl T.f_law_drawn_term.g T.f_law_drawn_term.F.kp T.f_law_drawn_term.b .nil pass0 (pa_cons (pv 0) (pa_cons (pv 1) (pa_cons (pv 14) (pa_cons (pe_op op_add pe_int (pe_call (ok_law_draw T) (hr.mono (by omega)) rfl T.f_law_draw.g T.f_law_draw.F.kp T.f_law_draw.b .nil pass0 (pa_cons (pv 0) (pa_cons pe_int pa_nil)))) (pa_cons (pv 3) (pa_cons (pv 4) pa_nil))))))))) pa_nil)))) (pss_cons (ps_for PassesOwn.never rfl (pi_range1 (by rfl) T.z_range (pa_cons pe_int pa_nil)) (pg_name (i := 9) nd rfl (Or.inl rfl) (Or.inr rfl)) (pss_cons (ps_set (i := 10) nd rfl (Or.inl rfl) (pe_callTy call_dictD (by rfl) T.z_dict (by decide +kernel) (pa_cons (pv 3) pa_nil))) (pss_cons (ps_set (i := 11) nd rfl (Or.inl rfl) (pe_call (ok_law_drawn_term T 4) (hr.mono (by omega)) rfl T.f_law_drawn_term.g T.f_law_drawn_term.F.kp T.f_law_drawn_term.b .nil pass0 (pa_cons (pv 0) (pa_cons (pv 1) (pa_cons (pv 7) (pa_cons (pe_op op_add pe_int (pe_call (ok_law_draw T) (hr.mono (by omega)) rfl T.f_law_draw.g T.f_law_draw.F.kp T.f_law_draw.b .nil pass0 (pa_cons (pv 0) (pa_cons pe_int pa_nil)))) (pa_cons (pv 10) (pa_cons (pe_ix (ixT K) (pv 1) pe_int (fun _ _ => rfl)) pa_nil)))))))) (pss_one (ps_if (PW.pt (pw_and (pt_cmpR op_eq (pe_callB call_lenD (by rfl) T.z_len (by decide +kernel) (pa_cons (pv 10) pa_nil)) (pe_callB call_lenD (by rfl) T.z_len (by decide +kernel) (pa_cons (pv 3) pa_nil)) (nomark _)) (pw_and (pt_cmpR op_le (pe_call (ok_law_size T 9) (hr.mono (by omega)) rfl T.f_law_size.g T.f_law_size.F.kp T.f_law_size.b .nil pass0 (pa_cons (pv 11) pa_nil)) pe_int (nomark _)) (pw_and1 (pt_val (pe_call (ok_law_is_above T 9) (hr.mono (by omega)) rfl T.f_law_is_above.g T.f_law_is_above.F.kp T.f_law_is_above.b .nil pass0 (pa_cons (pv 1) (pa_cons (pv 8) (pa_cons (pv 11) pa_nil))))))))) (pss_one (ps_ret (pe_ifExp (pt_cmpR op_le (pe_call (ok_law_size T 9) (hr.mono (by omega)) rfl T.f_law_size.g T.f_law_size.F.kp T.f_law_size.b .nil pass0 (pa_cons (pv 8) pa_nil)) pe_int (nomark _)) (pe_tup (pa_cons (pv 8) (pa_cons (pv 11) pa_nil))) pe_non))) pss_nil))))) (pss_cons (ps_set (i := 12) nd rfl (Or.inl rfl) (pe_op op_cat (pe_lc (own := [("n", 15)]) rfl nd (piL K (pe_callB cr_sortedI (by rfl) T.z_sorted (by decide +kernel) (pa_cons (pe_callTy (call_listD rfl) (by rfl) T.z_list (by decide +kernel) (pa_cons (pv 3) pa_nil)) pa_nil))) (blkOk_by (own := [("n", 15)]) (N := ["hand", "parts", "words", "told", "makers", "name", "kinds", "kind", "left", "turn", "more", "right", "some", "head", "one", "n"]) (sc := defScope s_law_drawn_law) (by decide +kernel)) (fun _ _ _ _ _ => (pg_name (i := 15) nd rfl (Or.inl rfl) (Or.inr rfl))) (fun _ _ _ _ _ => (pts_one (pt_cmpR op_eq (pe_dget (hu_of hr) (pv 3) (pv 15) (fun _ _ => rfl)) (pv 7) (nomark _)))) (fun _ _ _ _ _ => (pe_tup (pa_cons pe_str (pa_cons (pv 15) pa_nil))))) (pe_callTy call_list_of (by rfl) T.z_list (by decide +kernel) (pa_cons (pe_dget2 (hu_of hr) (pe_callTy (call_dictP rfl) (by rfl) T.z_dict (by decide +kernel) (pa_cons (pe_callTy call_list_of (by rfl) T.z_list (by decide +kernel) (pa_cons (pe_ix (ixT K) (pv 1) pe_int (fun _ _ => rfl)) pa_nil)) pa_nil)) (pv 7) (pe_tup pa_nil) ⟨by rfl, by rfl, by rfl, by rfl⟩) pa_nil)))) (pss_one (ps_ret (pe_ifExp (PW.pt (pw_and (pt_cmpR (op_neNil hr.units) (pv 12) (pe_lst pa_nil) (nomark _)) (pw_and1 (pt_cmpR op_le (pe_call (ok_law_size T 9) (hr.mono (by omega)) rfl T.f_law_size.g T.f_law_size.F.kp T.f_law_size.b .nil pass0 (pa_cons (pv 8) pa_nil)) pe_int (nomark _))))) (pe_tup (pa_cons (pv 8) (pa_cons (pe_call (ok_law_some T) (hr.mono (by omega)) rfl T.f_law_some.g T.f_law_some.F.kp T.f_law_some.b .nil pass0 (pa_cons (pv 0) (pa_cons (pv 12) pa_nil))) pa_nil))) pe_non))))))))), ?_⟩
    unfold spDL at h
    obtain ⟨p, c, pp, ws, sl, hs, rfl, pre, k⟩ := h
    have ha := pre.hand
    obtain ⟨pw, ps, ph, pl, hP, dw, ds, dh⟩ := pre.parts.at_
    obtain ⟨b, wv, rfl, hb, hwv⟩ := dw.tup_inv
    obtain ⟨hh, us, rfl, hhh, hus⟩ := dh.tup_inv
    have lwv := hwv.map_len
    have lus := hus.map_len
    have w4 := pre.w4
    have h12 := pre.h12
    have hhp : hh ≠ p := ha.neo hhh fun _ z => nomatch z
    let σ0 : Option V → Option V → Option V → Option V → Option V → L2.St := fun w t m s5 s12 => [some (.ref p), some (.ref pp), w, t, m, s5, none, none, none, none, none, none, s12, none, none, none]
    refine cut (fun σ' H' => ∃ wl f s5 s12, σ' = σ0 (some (.ref wl)) (some (.ref f)) none s5 s12 ∧ Gr [] H H' ∧ H f = none ∧ H' wl = some (.lst ((ws.map (·.1)).map V.str)) ∧ H' f = some (.dK [])) ?_ (fun rest => ?_)
    case refine_2 =>
      refine ⟨_, rfl, pp, _, _, _, rfl, rfl, SqT.of hP, at0, b, rfl, ⟨_, SqT.of hb⟩, fun D hD => ?_⟩
      have hbD := ne_of_none hb hD
      refine lc_map (xs := wv) walk_tup [] (fun _ _ => True) (fun i y _ => ∃ wd, ws[i]? = some wd ∧ y = .str wd.1) hD (by simp) (by omega) (fun H' g => SqT.of (g.2 _ _ (by rw [upd_ne hbD]; exact hb))) (fun _ _ _ _ _ h => h) trivial (fun _ _ _ _ _ _ => trivial) ?_ ?_
      · intro i x H3 R hx g3 _ kR
        obtain ⟨wd, hwd, dw⟩ := hwv.map_get hx
        have gg : Ts H H3 := (Ts.new hD).trans g3.2
        obtain ⟨b', c', rfl, hb', hc⟩ := wd_inv (dw.mono gg)
        refine ⟨b', _, rfl, SqT.of hb', rfl, _, _, rfl, _, _, rfl, rfl, rfl, ?_⟩
        exact ⟨_, rfl, kR _ _ (Gr.refl _ _) trivial ⟨wd, hwd, rfl⟩⟩
      · intro ys H1 g1 _ hyl hn hy
        have e1 := map_of (by rw [hn, lwv]) hy
        refine fun f hf => ⟨(by show 2 ≤ sizeLine; decide), fun t ht => ?_⟩
        have hDf := ne_of_none hyl hf
        have gf : Gr [] H1 (upd H1 f (.dK [])) := Gr.new hf
        have gt : Gr [] (upd H1 f (.dK [])) (upd (upd H1 f (.dK [])) t (.tup [.ref D, .ref f])) := Gr.new ht
        refine ⟨t, _, rfl, SqT.of upd_same, rfl, _, _, rfl, _, _, rfl, rfl, rest _ _ ⟨D, f, _, _, rfl, (g1.trans gf).trans gt, g1.fresh hf (by simp), gt.same _ _ (gf.same _ _ (by rw [hyl, e1, List.map_map]; rfl)), gt.same _ _ upd_same⟩⟩
    rintro σ' H1 ⟨wl, f, s5, s12, rfl, g1, hf0, hwl, hf1⟩
    have ha1 := ha.gr0 g1
    have fp : f ≠ p := ha1.neo hf1 fun _ z => nomatch z
    have fc : f ≠ c := ha1.neco hf1 fun _ z => nomatch z
    -- the rows that are no askers
    refine cut (fun σ' H' => ∃ mk h13 mv, σ' = [some (.ref p), some (.ref pp), some (.ref wl), some (.ref f), some (.ref mk), s5, none, none, none, none, none, none, s12, h13, none, none] ∧ Gr [] H H' ∧ H' f = some (.dK []) ∧ H' mk = some (.lst mv) ∧ mk ≠ p ∧ Dds H' mv ((hs.filter fun r => decide (r.2.2 ∉ ws.map (·.1))).map encRow)) ?_ (fun rest => ?_)
    case refine_2 =>
      have hP1 := g1.2 _ _ hP
      have hhh1 := g1.2 _ _ hhh
      refine ⟨_, rfl, pp, _, _, _, rfl, rfl, SqT.of hP1, at2, hh, rfl, ⟨_, SqT.of hhh1⟩, fun D hD => ?_⟩
      have hD1 := ne_of_none hhh1 hD
      have wD := ne_of_none hwl hD
      have fD := ne_of_none hf1 hD
      refine lc_it (walk_tup (xs := us)) (fun i H' => Gr [D] (upd H1 D (.lst [])) H' ∧ ∃ rv, H' D = some (.lst rv) ∧ rv.length ≤ i ∧ Dds H' rv (((hs.take i).filter fun r => decide (r.2.2 ∉ ws.map (·.1))).map encRow)) ⟨Gr.refl _ _, [], upd_same, Nat.le_refl _, .nil⟩ (fun i H' _ h => SqT.of (h.1.2 _ _ (by rw [upd_ne hD1]; exact hhh1))) ?_ ?_
      · rintro i x H2 H3 hi ⟨g2, rv, hrv, lrv, drv⟩ ⟨rfl, hx⟩
        obtain ⟨r, hr', dr⟩ := hus.map_get hx
        have gg : Ts H H3 := (g1.2.trans (Ts.new hD)).trans g2.2
        have drr := dr.mono gg
        obtain ⟨q, q2, rfl, hq, _⟩ := row_inv drr
        have hwl3 := g2.1 _ _ (show upd H1 D (.lst []) wl = _ by rw [upd_ne wD]; exact hwl) (by simpa using wD)
        refine ⟨rfl, _, rfl, q, _, _, _, rfl, rfl, SqT.of hq, at2, _, rfl, wl, _, rfl, .inl hwl3, rfl, flat_str _, _, rfl, ?_⟩
        rw [if_pos rfl, inV_str]
        cases e : decide (r.2.2 ∈ ws.map (·.1)) with
        | false =>
          refine iteT ⟨_, rfl, rv, hrv, by rw [sizeLine_eq]; omega, ?_⟩
          have gl := Gr.at (S := [D]) (o := .lst (rv ++ [.ref q])) hrv (fun _ z => nomatch z) List.mem_cons_self
          refine ⟨g2.trans gl, _, upd_same, by rw [List.length_append, List.length_singleton]; omega, ?_⟩
          rw [take_one hr', List.filter_append, List.map_append, show List.filter (fun r : Tm.Row => decide (r.2.2 ∉ ws.map (·.1))) [r] = [r] by rw [List.filter_cons, if_pos (decide_eq_true (of_decide_eq_false e)), List.filter_nil]]
          exact (drv.mono gl.2).snoc (drr.mono gl.2)
        | true =>
          refine iteF ⟨g2, rv, hrv, by omega, ?_⟩
          rw [take_one hr', List.filter_append, show List.filter (fun r : Tm.Row => decide (r.2.2 ∉ ws.map (·.1))) [r] = [] by rw [List.filter_cons, if_neg (by simpa using of_decide_eq_true e), List.filter_nil], List.append_nil]
          exact drv
      · rintro H2 ⟨g2, rv, hrv, lrv, drv⟩
        rw [lus, List.take_length] at drv
        exact rest _ _ ⟨D, _, rv, rfl, g1.trans (((Gr.new hD).trans g2).since hD), g2.1 _ _ (by rw [upd_ne fD]; exact hf1) (by simpa using fD), hrv, ha1.ne hD, drv⟩
    rintro σ' H2 ⟨mk, h13, mv, rfl, g2, hf2, hmk, mkp, dmv⟩
    have ha2 := ha.gr0 g2
    generalize hml : hs.filter (fun r => decide (r.2.2 ∉ ws.map (·.1))) = ml at dmv
    have msub : ∀ r ∈ ml, r ∈ hs ∧ r.2.2 ∉ ws.map (·.1) := fun r hr => by
      rw [← hml] at hr
      have := List.mem_filter.mp hr
      exact ⟨this.1, of_decide_eq_true this.2⟩
    have lml : ml.length ≤ 12 := by
      rw [← hml]
      exact Nat.le_trans (List.length_filter_le _ _) h12.2
    -- the head of the left side
    refine cut (fun σ' H' => ∃ (r : Tm.Row) (ca : Addr), σ' = [some (.ref p), some (.ref pp), some (.ref wl), some (.ref f), some (.ref mk), some (.str r.1), some (.ref ca), some (.str r.2.2), none, none, none, none, s12, h13, none, none] ∧ HA H' p c ∧ Gr [p] H H' ∧ H' f = some (.dK []) ∧ H' mk = some (.lst mv) ∧ Dds H' mv (ml.map encRow) ∧ H' ca = some (.tup (r.2.1.map V.str)) ∧ r ∈ hs) ?_ (fun rest => ?_)
    case refine_2 =>
      have hP2 := g2.2 _ _ hP
      have hhh2 := g2.2 _ _ hhh
      refine ⟨_, rfl, _, rfl, pp, _, _, _, rfl, rfl, SqT.of hP2, at2, ?_⟩
      show spSome [.ref p, .ref hh] _ _ _
      refine spSome_of ⟨p, c, hh, us, rfl, ha2, .inr hhh2, hhp, by intro z; rw [z] at lus; simp at lus; omega, by omega, fun i x H3 hx a3 g3 => ?_⟩
      obtain ⟨r, hr', dr⟩ := ((hus.mono g2.2).mono g3.2).map_get hx
      obtain ⟨q, ca, rfl, hq, hca⟩ := row_inv dr
      exact ⟨q, _, rfl, SqT.of hq, rfl, _, _, rfl, _, _, rfl, _, _, rfl, rfl, rest _ _ ⟨r, ca, rfl, a3, g2.less.trans g3, g3.1 _ _ hf2 (by simpa using fp), g3.1 _ _ hmk (by simpa using mkp), dmv.mono g3.2, hca, List.mem_of_getElem? hr'⟩⟩
    rintro σ' H3 ⟨r, ca, rfl, a3, g3, hf3, hmk3, dmv3, hca, hrh⟩
    obtain ⟨fr, rq, r3, rok⟩ := pre.sub r hrh
    have mkf : mk ≠ f := ne_of hmk3 hf3 (fun z => nomatch z)
    -- the left side
    refine cut (fun σ' H' => ∃ (lf : Addr) (n14 : Option V) (kv : List (Key × V)) (l : Tm), σ' = [some (.ref p), some (.ref pp), some (.ref wl), some (.ref f), some (.ref mk), some (.str r.1), some (.ref ca), some (.str r.2.2), some (.ref lf), none, none, none, s12, h13, n14, none] ∧ HA H' p c ∧ Gr [p] H H' ∧ H' f = some (.dK kv) ∧ Dd H' (.ref lf) l.enc ∧ LeftOK ws hs kv l r.2.2) ?_ (fun rest => ?_)
    case refine_2 =>
      refine ⟨_, rfl, (by show 1 ≤ sizeLine; decide), fun t1 ht1 => ?_⟩
      have gt : Gr [] H3 (upd H3 t1 (.tup [.str r.1])) := Gr.new ht1
      have a4 := a3.gr0 gt
      have hca4 := gt.2 _ _ hca
      have hf4 := gt.same _ _ hf3
      have hmk4 := gt.same _ _ hmk3
      have dmv4 := dmv3.mono gt.2
      have ht4 : upd H3 t1 (.tup [.str r.1]) t1 = some (.tup [.str r.1]) := upd_same
      have g4 := g3.trans gt.less
      generalize upd H3 t1 (.tup [.str r.1]) = H4 at *
      refine ⟨_, rfl, ca, rfl, ⟨_, SqT.of hca4⟩, fun D hD => ?_⟩
      have caD := ne_of_none hca4 hD
      have fD := ne_of_none hf4 hD
      have mD := ne_of_none hmk4 hD
      have Dp := a4.ne hD
      have Dc := a4.nec hD
      refine lc_it (walk_tup (xs := r.2.1.map V.str)) (fun i H' => HA H' p c ∧ Gr [D, p, f] (upd H4 D (.lst [])) H' ∧ ∃ kv ys ts, H' f = some (.dK kv) ∧ KK kv ∧ (∀ m k, tkd kv m = some k → m ∈ Tm.unks ts) ∧ kv.length ≤ i * 9 ∧ H' D = some (.lst ys) ∧ ys.length = i ∧ Dds H' ys (Tm.encs ts) ∧ Tm.kds (wkOf ws) hs (tkd kv) ts (r.2.1.take i) = true ∧ ∀ t ∈ ts, t.dep ≤ 3 ∧ t.size ≤ 13 ∧ From ml t)
        ⟨a4.new hD, Gr.refl _ _, [], [], [], by rw [upd_ne fD]; exact hf4, (fun _ h => nomatch h), (fun m k h => by simp [tkd, valV] at h), Nat.zero_le _, upd_same, rfl, by simp only [Tm.encs]; exact .nil, by simp [Tm.kds], fun _ h => nomatch h⟩ (fun i H' _ h => SqT.of (h.2.1.2 _ _ (by rw [upd_ne caD]; exact hca4))) ?_ ?_
      · rintro i x H5 H6 hi ⟨a5, g5, kv, ys, ts, hf5, kk5, new5, len5, hD5, ly, dy, ks5, al⟩ ⟨rfl, hx⟩
        rw [List.length_map] at hi
        rw [List.getElem?_map] at hx
        obtain ⟨k1, hk1, rfl⟩ := Option.map_eq_some_iff.mp hx
        refine ⟨rfl, yes (iteT ⟨_, rfl, _, rfl, _, rfl, _, rfl, ?_⟩)⟩
        show spDrawI [.ref p, .int 3] _ _ _
        refine spDrawI_of ⟨p, c, 3, rfl, a5, by decide, by decide, fun z H6b z0 z1 a6 g6 => ?_⟩
        obtain ⟨m, rfl⟩ := Int.eq_ofNat_of_zero_le z0
        have gg : Ts H H6b := ((g4.2.trans (Ts.new hD)).trans g5.2).trans g6.2
        have l3 := lv3 (1 + m) (by omega)
        refine ⟨_, _, rfl, rfl, _, rfl, _, rfl, ?_⟩
        have hf6 := g6.1 _ _ hf5 (by simpa using fp)
        have hD6 := g6.1 _ _ hD5 (by simpa using Dp)
        refine ⟨p, c, pp, f, mk, k1, 1 + m, ws, sl, hs, ml, mv, kv, ?_, by omega, by omega, ?_, ?_⟩
        · have e9 : V.int ((1 : Int) + (m : Int)) = V.int ((1 + m : Nat) : Int) := congrArg V.int (by omega)
          show [_, _, _, V.int ((1 : Int) + (m : Int)), _, _] = _
          rw [e9]
        · refine ⟨a6, pre.parts.mono gg, .inl ?_, ((dmv4.mono (Ts.new hD)).mono g5.2).mono g6.2, hf6, kk5, by omega, pre.w4, pre.wl, pre.wnd, lml, fun r hr => pre.sub r (msub r hr).1, mkp⟩
          exact g6.1 _ _ (g5.1 _ _ (by rw [upd_ne mD]; exact hmk4) (by simpa using ⟨mD, mkp, mkf⟩)) (by simpa using mkp)
        · intro t v H7 kv' a7 g7 hf7 kk7 ext7 new7 len7 dv kd7 dep7 sz7 fr7
          have hD7 := g7.1 _ _ hD6 (by simpa using ⟨Dp, fD.symm⟩)
          have gD : Gr [D, p, f] H7 (upd H7 D (.lst (ys ++ [v]))) := Gr.at hD7 (fun _ z => nomatch z) (by simp)
          refine ⟨ys, hD7, by rw [sizeLine_eq]; omega, a7.upd Dp Dc, ((g5.trans (g6.wide (by simp))).trans (g7.wide (by simp))).trans gD, kv', ys ++ [v], ts ++ [t], by rw [upd_ne fD]; exact hf7, kk7, ?_, by omega, upd_same, by rw [List.length_append, ly]; rfl, ?_, ?_, ?_⟩
          · intro m k h
            rw [Tm.unks_app]
            rcases new7 m k h with h | h
            · exact List.mem_append_left _ (new5 m k h)
            · exact List.mem_append_right _ (by simpa [Tm.unks] using h)
          · have := (((dy.mono g6.2).mono g7.2).snoc dv).mono gD.2
            rw [Tm.encs_map] at this ⊢
            rw [List.map_append]
            exact this
          · rw [take_one hk1]
            exact kds_snoc (kds_mono ext7 ks5) kd7
          · intro t' ht'
            rcases List.mem_append.mp ht' with h | h
            · exact al t' h
            · rw [List.mem_singleton.mp h]
              exact ⟨by omega, by omega, fr7⟩
      · rintro H5 ⟨a5, g5, kv, ys, ts, hf5, kk5, new5, len5, hD5, ly, dy, ks5, al⟩
        rw [List.length_map] at ly len5
        refine ⟨D, _, rfl, .inl ⟨SqL.of hD5, fun t2 ht2 => ?_⟩⟩
        have g2t : Gr [] H5 (upd H5 t2 (.tup ys)) := Gr.new ht2
        have ht5 : H5 t1 = some (.tup [.str r.1]) := g5.2 _ _ ((Ts.new hD) _ _ ht4)
        refine ⟨t1, t2, _, _, rfl, rfl, g2t.2 _ _ ht5, upd_same, by rw [sizeLine_eq]; simp only [List.length_singleton]; omega, fun q H7 g7 hq => ?_⟩
        have lts : ts.length = r.2.1.length := by
          have := dy.tms
          omega
        have gend : Gr [p] H H7 := by
          have h1 : Gr [D, f, p] H H5 := (g4.wide (by simp)).trans ((Gr.new hD).trans (g5.wide (by intro b; simp only [List.mem_cons, List.not_mem_nil, or_false]; exact Or.imp id Or.symm)))
          exact ((h1.since (g4.fresh hD (by simpa using Dp))).since hf0).trans ((g2t.trans g7).less)
        have s3 := sizes_le (m := 13) fun t ht => (al t ht).2.1
        have dl := deps_le (m := 3) fun t ht => (al t ht).1
        refine rest _ _ ⟨q, _, kv, .c ⟨r.1, rq⟩ ts, rfl, (a5.gr0 g2t).gr0 g7, gend, (g2t.trans g7).same _ _ hf5, ?_, ⟨⟨_, _, rfl⟩, ?_, by simp only [Tm.dep]; omega, by simp only [Tm.size]; omega, asks_of (hl := ml) (fun r hr => ⟨(pre.sub r (msub r hr).1).1, (msub r hr).2⟩) (fun t ht => (al t ht).2.2), by simpa only [Tm.unk] using new5, kk5, by omega⟩⟩
        · simp only [Tm.enc]
          exact .tup hq (.cons (.text r.1 rok) (dy.mono (g2t.trans g7).2))
        · simp only [KdT, Tm.kd]
          rw [fr]
          simp only [decide_true, Bool.true_and]
          rw [List.take_of_length_le (by rw [List.length_map]; exact Nat.le_refl _)] at ks5
          exact ks5
    rintro σ' H4 ⟨lf, n14, kv, l, rfl, a4, g4, hf4, dl, lok⟩
    have lsz := lok.size
    have ldp := lok.dep
    have lfew := lok.few
    let σ1 : Option V → Option V → Option V → Option V → Option V → L2.St := fun s9 s10 s11 s12 s15 => [some (.ref p), some (.ref pp), some (.ref wl), some (.ref f), some (.ref mk), some (.str r.1), some (.ref ca), some (.str r.2.2), some (.ref lf), s9, s10, s11, s12, h13, n14, s15]
    -- right sides, till one is less
    refine cut (fun σ' H' => ∃ s9 s10 s11, σ' = σ1 s9 s10 s11 s12 none ∧ HA H' p c ∧ Gr [p] H4 H') ?_ (fun rest => ?_)
    case refine_2 =>
      refine ⟨4, rfl, by decide, by decide, ?_⟩
      refine for_it (n := 4) walk_range (fun i σ H' => ∃ s9 s10 s11, σ = σ1 s9 s10 s11 s12 none ∧ HA H' p c ∧ Gr [p] H4 H') ⟨_, _, _, rfl, a4, Gr.refl _ _⟩ (fun _ _ _ _ _ => trivial) ?_ ?_
      · rintro i x σ H5 H6 hi ⟨s9, s10, s11, rfl, a5, g5⟩ ⟨rfl, ex⟩
        refine cut (fun σ' H' => ∃ q, σ' = σ1 (some x) (some (.ref q)) s11 s12 none ∧ HA H' p c ∧ Gr [p] H4 H' ∧ H4 q = none ∧ q ≠ p ∧ q ≠ c ∧ H' q = some (.dK kv)) ?_ (fun rest2 => ?_)
        case refine_2 =>
          have hf6 := g5.1 _ _ hf4 (by simpa using fp)
          refine ⟨_, rfl, f, kv, rfl, .inl hf6, fun q hq => rest2 _ _ ⟨q, rfl, a5.new hq, g5.trans (Gr.new hq), g5.fresh hq (by simpa using a5.ne hq), a5.ne hq, a5.nec hq, upd_same⟩⟩
        rintro σ' H7 ⟨q, rfl, a7, g7, q0, qp, qc, hq7⟩
        refine cut (fun σ' H' => ∃ (v : V) (kv' : List (Key × V)) (t : Tm), σ' = σ1 (some x) (some (.ref q)) (some v) s12 none ∧ HA H' p c ∧ Gr [p] H4 H' ∧ H' q = some (.dK kv') ∧ Dd H' v t.enc ∧ KdT ws hs (tkd kv') t r.2.2 ∧ Ext kv kv' ∧ t.dep ≤ 3 ∧ t.size ≤ 13) ?_ (fun rest2 => ?_)
        case refine_2 =>
          refine ⟨_, rfl, _, rfl, _, rfl, _, rfl, ?_⟩
          show spDrawI [.ref p, .int 3] _ _ _
          refine spDrawI_of ⟨p, c, 3, rfl, a7, by decide, by decide, fun z H8 z0 z1 a8 g8 => ?_⟩
          obtain ⟨m, rfl⟩ := Int.eq_ofNat_of_zero_le z0
          have gg : Ts H H8 := (g4.2.trans g7.2).trans g8.2
          have l3 := lv3 (1 + m) (by omega)
          refine ⟨_, _, rfl, rfl, _, rfl, _, rfl, pp, _, _, _, rfl, rfl, SqT.of (gg _ _ hP), at2, ?_⟩
          have hq8 := g8.1 _ _ hq7 (by simpa using qp)
          refine ⟨p, c, pp, q, hh, r.2.2, 1 + m, ws, sl, hs, hs, us, kv, ?_, by omega, by omega, ?_, ?_⟩
          · have e9 : V.int ((1 : Int) + (m : Int)) = V.int ((1 + m : Nat) : Int) := congrArg V.int (by omega)
            show [_, _, _, V.int ((1 : Int) + (m : Int)), _, _] = _
            rw [e9]
          · exact ⟨a8, pre.parts.mono gg, .inr (gg _ _ hhh), hus.mono gg, hq8, lok.kk, by omega, pre.w4, pre.wl, pre.wnd, h12.2, pre.sub, hhp⟩
          · intro t v H9 kv' a9 g9 hq9 kk9 ext9 new9 len9 dv kd9 dep9 sz9 fr9
            refine rest2 _ _ ⟨v, kv', t, rfl, a9, ?_, hq9, dv, kd9, ext9, by omega, by omega⟩
            have : Gr [q, p] H4 H9 := ((g7.wide (by simp)).trans (g8.wide (by simp))).trans (g9.wide (by intro b; simp only [List.mem_cons, List.not_mem_nil, or_false]; exact Or.symm))
            exact this.since q0
        rintro σ' H8 ⟨v, kv', t, rfl, a8, g8, hq8, dv, kd8, ext8, dep8, sz8⟩
        have hf8 := g8.1 _ _ hf4 (by simpa using fp)
        refine ⟨_, rfl, q, kv', rfl, hq8, _, rfl, f, kv, rfl, hf8, rfl, _, rfl, ite2 (fun e => ?_) (fun e => iteF ⟨_, _, _, rfl, a8, g8⟩)⟩
        refine ⟨_, rfl, v, t, rfl, dv, by omega, by omega, fun H9 g9 => ⟨_, _, rfl, rfl, _, rfl, ite2 (fun e2 => ?_) (fun e2 => iteF ⟨_, _, _, rfl, a8.gr0 g9, g8.trans g9.less⟩)⟩⟩
        have g49 := g8.trans g9.less
        have gg : Ts H H9 := g4.2.trans g49.2
        refine ⟨_, rfl, _, rfl, _, rfl, ?_⟩
        refine ⟨pp, .ref lf, v, ws, sl, hs, l, t, rfl, pre.parts.mono gg, dl.mono g49.2, dv.mono g9.2, Tm.ok_of_kd lok.kd, Tm.ok_of_kd kd8, by omega, by omega, by omega, by omega, by omega, h12.2, fun H10 g10 => ?_⟩
        have a10 := (a8.gr0 g9).gr0 g10
        have g410 := g49.trans g10.less
        cases ab : Tm.above (rkOf hs) l t with
        | false => exact ⟨false, rfl, iteF ⟨_, _, _, rfl, a10, g410⟩⟩
        | true =>
          refine ⟨true, rfl, iteT ?_⟩
          refine ⟨_, rfl, .ref lf, l, rfl, dl.mono g410.2, by omega, by omega, fun H11 g11 => ⟨_, _, rfl, rfl, _, rfl, ite2 (fun e3 => ?_) (fun e3 => ?_)⟩⟩
          · refine ⟨_, rfl, _, rfl, (by show 2 ≤ sizeLine; decide), fun y hy => ?_⟩
            have gy : Gr [] H10 (upd H11 y (.tup [.ref lf, v])) := g11.trans (Gr.new hy)
            refine k _ _ (a10.gr0 gy) ((g4.trans g410).trans gy.less) (.inr ⟨l, t, .tup upd_same (.cons (dl.mono (g410.trans gy.less).2) (.cons (dv.mono ((g9.trans g10).trans gy).2) .nil)), lok.law ext8 kd8 ?_ ?_ (by omega) ab⟩)
            · have := of_decide_eq_true e3
              omega
            · have := of_decide_eq_true e2
              omega
          · exact k _ _ (a10.gr0 g11) ((g4.trans g410).trans g11.less) (.inl rfl)
      · rintro σ H5 ⟨s9, s10, s11, rfl, a5, g5⟩
        exact rest _ _ ⟨_, _, _, rfl, a5, g5⟩
    rintro σ' H5 ⟨s9, s10, s11, rfl, a5, g5⟩
    have hf5 := g5.1 _ _ hf4 (by simpa using fp)
    have g05 := g4.trans g5
    -- the unknowns and words of the kind
    refine cut (fun σ' H' => ∃ (so : Addr) (s15 : Option V) (ys : List V) (tms : List Tm), σ' = σ1 s9 s10 s11 (some (.ref so)) s15 ∧ HA H' p c ∧ Gr [] H5 H' ∧ H' so = some (.lst ys) ∧ so ≠ p ∧ ys.length ≤ 1000 ∧ Dds H' ys (tms.map Tm.enc) ∧ ∀ t ∈ tms, (∃ m, t = .u m ∧ tkd kv m = some r.2.2) ∨ ∃ x, t = .w x ∧ wkOf ws x = some r.2.2) ?_ (fun rest => ?_)
    case refine_2 =>
      have ek : (kv.map fun x => kV x.1) = (kv.map fun x => numOf x.1).map V.int := by
        rw [List.map_map]
        refine List.map_congr_left fun x hk => ?_
        obtain ⟨m, q, rfl⟩ := lok.kk x hk
        rfl
      refine ⟨_, rfl, f, kv, rfl, .inl hf5, fun l0 hl0 => ?_⟩
      rw [ek]
      have gl : Gr [] H5 (upd H5 l0 (.lst ((kv.map fun x => numOf x.1).map V.int))) := Gr.new hl0
      refine ⟨l0, _, rfl, SqL.of upd_same, fun ns q perm _ hq => ?_⟩
      have gq : Gr [] H5 (upd (upd H5 l0 (.lst ((kv.map fun x => numOf x.1).map V.int))) q (.lst (ns.map V.int))) := gl.trans (Gr.new hq)
      have hq1 : upd (upd H5 l0 (.lst ((kv.map fun x => numOf x.1).map V.int))) q (.lst (ns.map V.int)) q = some (.lst (ns.map V.int)) := upd_same
      have nl : ns.length ≤ 27 := by rw [perm.length_eq, List.length_map]; omega
      generalize upd (upd H5 l0 (.lst ((kv.map fun x => numOf x.1).map V.int))) q (.lst (ns.map V.int)) = H6 at *
      have a6 := a5.gr0 gq
      have hf6 := gq.same _ _ hf5
      refine ⟨q, rfl, ⟨_, SqL.of hq1⟩, fun D hD => ?_⟩
      have hqD := ne_of_none hq1 hD
      have hfD := ne_of_none hf6 hD
      have Dp := a6.ne hD
      refine lc_it (walk_list (xs := ns.map V.int)) (fun i H' => Gr [D] (upd H6 D (.lst [])) H' ∧ ∃ (ys : List V) (tms : List Tm), H' D = some (.lst ys) ∧ ys.length ≤ i ∧ Dds H' ys (tms.map Tm.enc) ∧ ∀ t ∈ tms, ∃ m, t = .u m ∧ tkd kv m = some r.2.2) ⟨Gr.refl _ _, [], [], upd_same, Nat.le_refl _, .nil, fun _ h => nomatch h⟩ (fun i H' _ h => SqL.of (h.1.1 _ _ (by rw [upd_ne hqD]; exact hq1) (by simpa using hqD))) ?_ ?_
      · rintro i x H7 H8 hi ⟨g7, ys, tms, hys, ly, dy, mem⟩ ⟨rfl, hx⟩
        rw [List.length_map] at hi
        obtain ⟨n0, hn0, rfl⟩ := pickI hx
        have hn1 := perm.mem_iff.mp hn0
        obtain ⟨kx, hkx, rfl⟩ := List.mem_map.mp hn1
        obtain ⟨m, q0, rfl⟩ := lok.kk kx hkx
        obtain ⟨v, hv⟩ := mem_val hkx
        obtain ⟨q1, rfl, tm⟩ := lok.kk.val hv
        have hf8 := g7.1 _ _ (by rw [upd_ne hfD]; exact hf6) (by simpa using hfD)
        refine ⟨rfl, _, rfl, _, rfl, f, V.str q1, rfl, (by rw [← hv]; exact DGet.k (k := Sum.inl (m.1 : Int)) hf8), _, rfl, rfl, _, rfl, ?_⟩
        have ed : decide (V.str q1 = V.str r.2.2) = decide (q1 = r.2.2) := decide_eq_decide.mpr ⟨fun z => V.str.inj z, fun z => by rw [z]⟩
        rw [ed]
        cases e : decide (q1 = r.2.2) with
        | true =>
          refine iteT ⟨_, rfl, (by show 2 ≤ sizeLine; decide), fun y hy => ?_⟩
          have gy : Gr [] H8 (upd H8 y (.tup [.str "?", .int (m.1 : Int)])) := Gr.new hy
          have hys' := gy.same _ _ hys
          have gD := Gr.at (S := [D]) (o := .lst (ys ++ [.ref y])) hys' (fun _ z => nomatch z) List.mem_cons_self
          refine ⟨ys, hys', by rw [sizeLine_eq]; omega, (g7.trans gy.less).trans gD, _, tms ++ [.u m], upd_same, by rw [List.length_append, List.length_singleton]; omega, ?_, fun t ht => ?_⟩
          · rw [List.map_append]
            refine (dy.mono (gy.2.trans gD.2)).snoc ?_
            simp only [Tm.enc]
            exact .tup (gD.2 _ _ upd_same) (.cons (.text "?" (by decide +kernel)) (.cons (.num _) .nil))
          · rcases List.mem_append.mp ht with h | h
            · exact mem t h
            · rw [List.mem_singleton.mp h]
              exact ⟨m, rfl, by rw [tm, of_decide_eq_true e]⟩
        | false => exact iteF ⟨g7, ys, tms, hys, by omega, dy, mem⟩
      · rintro H7 ⟨g7, ys, tms, hys, ly, dy, mem⟩
        rw [List.length_map] at ly
        have g67 : Gr [] H5 H7 := gq.trans (((Gr.new hD).trans g7).since hD)
        have gg : Ts H H7 := g05.2.trans g67.2
        refine ⟨_, rfl, pp, _, _, _, rfl, rfl, SqT.of (gg _ _ hP), at0, b, _, rfl, .inr (SqT.of (gg _ _ hb)), fun l2 hl2 => ?_⟩
        obtain ⟨qs, ks, e1, pq, mk2⟩ := word_pairs (hwv.mono gg)
        have g8 : Gr [] H7 (upd H7 l2 (.lst wv)) := Gr.new hl2
        refine ⟨l2, qs, ks, rfl, SqL.of (by rw [← e1]; exact upd_same), Paired.mapP pq (fun _ _ h => SqT.of (g8.2 _ _ h)), fun dd hdd => ?_⟩
        have g9 : Gr [] H7 (upd (upd H7 l2 (.lst wv)) dd (.dK (mergeK [] ks))) := g8.trans (Gr.new hdd)
        refine ⟨dd, rfl, .inl ⟨_, .inl upd_same⟩, _, rfl, (by show 0 ≤ sizeLine; decide), fun t ht => ?_⟩
        have g10 : Gr [] H7 (upd (upd (upd H7 l2 (.lst wv)) dd (.dK (mergeK [] ks))) t (.tup [])) := g9.trans (Gr.new ht)
        have hdt := ne_of_none (show upd (upd H7 l2 (.lst wv)) dd (.dK (mergeK [] ks)) dd = _ from upd_same) ht
        refine ⟨_, DGet.k (k := Sum.inr r.2.2) (by rw [upd_ne hdt]; exact upd_same), ?_⟩
        -- whichever words there are
        have go : ∀ (c2 : Addr) (ww : List Str), upd (upd (upd H7 l2 (.lst wv)) dd (.dK (mergeK [] ks))) t (.tup []) c2 = some (.tup (ww.map V.str)) → (ww = [] ∨ ∃ w ∈ ws, w.1 = r.2.2 ∧ w.2 = ww) → ∀ l3, upd (upd (upd H7 l2 (.lst wv)) dd (.dK (mergeK [] ks))) t (.tup []) l3 = none → ∀ so, upd (upd (upd (upd H7 l2 (.lst wv)) dd (.dK (mergeK [] ks))) t (.tup [])) l3 (.lst (ww.map V.str)) so = none →
            ∃ (so' : Addr) (s15 : Option V) (zs : List V) (tms : List Tm), σ1 s9 s10 s11 (some (.ref so)) none = σ1 s9 s10 s11 (some (.ref so')) s15 ∧ HA (upd (upd (upd (upd (upd H7 l2 (.lst wv)) dd (.dK (mergeK [] ks))) t (.tup [])) l3 (.lst (ww.map V.str))) so (.lst (ys ++ ww.map V.str))) p c ∧ Gr [] H5 (upd (upd (upd (upd (upd H7 l2 (.lst wv)) dd (.dK (mergeK [] ks))) t (.tup [])) l3 (.lst (ww.map V.str))) so (.lst (ys ++ ww.map V.str))) ∧ (upd (upd (upd (upd (upd H7 l2 (.lst wv)) dd (.dK (mergeK [] ks))) t (.tup [])) l3 (.lst (ww.map V.str))) so (.lst (ys ++ ww.map V.str))) so' = some (.lst zs) ∧ so' ≠ p ∧ zs.length ≤ 1000 ∧ Dds (upd (upd (upd (upd (upd H7 l2 (.lst wv)) dd (.dK (mergeK [] ks))) t (.tup [])) l3 (.lst (ww.map V.str))) so (.lst (ys ++ ww.map V.str))) zs (tms.map Tm.enc) ∧ ∀ t ∈ tms, (∃ m, t = .u m ∧ tkd kv m = some r.2.2) ∨ ∃ x, t = .w x ∧ wkOf ws x = some r.2.2 := by
          intro c2 ww hc2 hww l3 hl3 so hso
          have g11 : Gr [] H7 (upd (upd (upd (upd H7 l2 (.lst wv)) dd (.dK (mergeK [] ks))) t (.tup [])) l3 (.lst (ww.map V.str))) := g10.trans (Gr.new hl3)
          have g12 : Gr [] H7 (upd (upd (upd (upd (upd H7 l2 (.lst wv)) dd (.dK (mergeK [] ks))) t (.tup [])) l3 (.lst (ww.map V.str))) so (.lst (ys ++ ww.map V.str))) := g11.trans (Gr.new hso)
          have a7 := a5.gr0 g67
          have wok : ww.length ≤ 4 ∧ ∀ x ∈ ww, PyData.strOk x = true := by
            rcases hww with rfl | ⟨w, hw, _, rfl⟩
            · exact ⟨Nat.zero_le _, fun _ h => nomatch h⟩
            · exact pre.wl w hw
          refine ⟨so, none, _, tms ++ ww.map Tm.w, rfl, a7.gr0 g12, g67.trans g12, upd_same, (a7.gr0 g11).ne hso, by rw [List.length_append, List.length_map]; omega, ?_, fun t ht => ?_⟩
          · rw [List.map_append, List.map_map]
            refine (dy.mono g12.2).append ?_
            have e : (Tm.enc ∘ Tm.w) = NestedKey.text := by funext x; simp only [Function.comp, Tm.enc]
            rw [e]
            exact texts_dds wok.2
          · rcases List.mem_append.mp ht with h | h
            · exact .inl (mem t h)
            · obtain ⟨x, hx, rfl⟩ := List.mem_map.mp h
              rcases hww with rfl | ⟨w, hw, e1, rfl⟩
              · cases hx
              · exact .inr ⟨x, rfl, by rw [word_of pre.wnd hw hx, e1]⟩
        have hyD : ∀ l3 ww, upd (upd (upd H7 l2 (.lst wv)) dd (.dK (mergeK [] ks))) t (.tup []) l3 = none → upd (upd (upd (upd H7 l2 (.lst wv)) dd (.dK (mergeK [] ks))) t (.tup [])) l3 (.lst ww) D = some (.lst ys) := fun l3 ww hl3 => (Gr.new (S := []) hl3).same _ _ (g10.same _ _ hys)
        cases e : valV (mergeK [] ks) (.inr r.2.2) with
        | none =>
          refine ⟨t, [], rfl, .inr (SqT.of upd_same), fun l3 hl3 => ⟨D, l3, ys, _, rfl, rfl, hyD l3 _ hl3, upd_same, (by rw [sizeLine_eq, List.length_nil]; omega), fun so hso => rest _ _ (go t [] upd_same (.inl rfl) l3 hl3 so hso)⟩⟩
        | some v =>
          rcases merge_mem e with h | h
          · cases h
          · obtain ⟨w, hw, c2, e2, hc2⟩ := mk2 _ h
            have ew : r.2.2 = w.1 := Sum.inr.inj (congrArg Prod.fst e2)
            cases congrArg Prod.snd e2
            have w4' := (pre.wl w hw).1
            refine ⟨c2, w.2.map V.str, rfl, .inr (SqT.of (g10.2 _ _ hc2)), fun l3 hl3 => ⟨D, l3, ys, _, rfl, rfl, hyD l3 _ hl3, upd_same, (by rw [sizeLine_eq, List.length_map]; omega), fun so hso => rest _ _ (go c2 w.2 (g10.2 _ _ hc2) (.inr ⟨w, hw, ew.symm, rfl⟩) l3 hl3 so hso)⟩⟩
    rintro σ' H6 ⟨so, s15, ys, tms, rfl, a6, g6, hso, sop, ly, dy, mem⟩
    have g46 := g5.trans g6.less
    have g06 := g05.trans g6.less
    refine ⟨_, rfl, (by show 0 ≤ sizeLine; decide), fun e he => ?_⟩
    have ge : Gr [] H6 (upd H6 e (.lst [])) := Gr.new he
    have dps : NestedKey.depthAll (tms.map Tm.enc) ≤ 5 := by
      clear dy
      induction tms with
      | nil => simp [NestedKey.depthAll]
      | cons t tms ih =>
        have h1 := ih fun t ht => mem t (List.mem_cons_of_mem _ ht)
        have h2 := Tm.depth_enc t
        have h3 : t.dep ≤ 1 := by
          rcases mem t List.mem_cons_self with ⟨m, rfl, _⟩ | ⟨x, rfl, _⟩
          · exact Nat.le_refl _
          · exact Nat.zero_le _
        simp only [List.map_cons, NestedKey.depthAll]
        omega
    refine ⟨so, e, ys, _, rfl, rfl, ge.same _ _ hso, upd_same, dy.mono ge.2, (by omega), ?_⟩
    cases ys with
    | nil => exact ⟨false, rfl, iteF (iteF (k _ _ (a6.gr0 ge) (g06.trans ge.less) (.inl rfl)))⟩
    | cons y0 ys0 =>
      refine ⟨true, rfl, iteT ?_⟩
      have g46e := g46.trans ge.less
      refine ⟨_, rfl, .ref lf, l, rfl, dl.mono g46e.2, by omega, by omega, fun H7 g7 => ⟨_, _, rfl, rfl, _, rfl, ite2 (fun e2 => ?_) (fun e2 => k _ _ ((a6.gr0 ge).gr0 g7) ((g06.trans ge.less).trans g7.less) (.inl rfl))⟩⟩
      have a7 := (a6.gr0 ge).gr0 g7
      refine ⟨_, rfl, _, rfl, _, rfl, ?_⟩
      show spSome [.ref p, .ref so] _ _ _
      refine spSome_of ⟨p, c, so, y0 :: ys0, rfl, a7, .inl (g7.same _ _ (ge.same _ _ hso)), sop, by simp, ly, fun i x H8 hx a8 g8 => ?_⟩
      obtain ⟨t, ht, dt⟩ := dy.map_get hx
      have gz : Gr [p] H6 H8 := (ge.trans g7).less.trans g8
      refine ⟨(by show 2 ≤ sizeLine; decide), fun y hy => ?_⟩
      have gy : Gr [] H8 (upd H8 y (.tup [.ref lf, x])) := Gr.new hy
      have s30 : l.size ≤ 30 := by
        have := of_decide_eq_true e2
        omega
      refine k _ _ (a8.gr0 gy) ((g06.trans gz).trans gy.less) (.inr ⟨l, t, .tup upd_same (.cons (dl.mono ((g46.trans gz).trans gy.less).2) (.cons (dt.mono (gz.trans gy.less).2) .nil)), ?_⟩)
      obtain ⟨g, ts, el⟩ := lok.isC
      rcases mem t (List.mem_of_getElem? ht) with ⟨m, rfl, tm⟩ | ⟨x1, rfl, wx⟩
      · refine lok.law (Ext.refl _) (by simp only [KdT, Tm.kd, decide_eq_true_eq]; exact tm) s30 (by simp only [Tm.size]; omega) (by simp only [Tm.dep]; omega) ?_
        have := lok.unk m _ tm
        rw [el] at this ⊢
        rw [Tm.above_cu]
        exact decide_eq_true (by simpa only [Tm.unk] using this)
      · refine lok.law (Ext.refl _) (by simp only [KdT, Tm.kd, decide_eq_true_eq]; exact wx) s30 (by simp only [Tm.size]; omega) (by simp only [Tm.dep]; omega) ?_
        rw [el, Tm.above_cw]
end
end Dr
/-! drawn doors are right, and so are those that differ in one thing: no program here -/
namespace Dr
open PySem L2
def allS : List Str := ["stack", "cell", "s", "yes"]
def GS (sl : List Str) : Prop := ∃ k, 1 ≤ k ∧ k ≤ 4 ∧ sl = allS.take k
/-! ### finite checks -/
def wB (ws : List Wd) : Bool := decide (1 ≤ ws.length) && decide (ws.length ≤ 4) && (ws.all fun w => nameOk w.1 && decide (1 ≤ w.2.length) && decide (w.2.length ≤ 4) && w.2.all fun x => nameOk x && PyData.strOk x) && decide (ws.map (·.1)).Nodup && decide (ws.flatMap (·.2)).Nodup
def sB (ws : List Wd) (sl : List Str) : Bool := decide (1 ≤ sl.length) && decide (sl.length ≤ 4) && (sl.all fun x => nameOk x && PyData.strOk x) && decide (ws.map (·.1) ++ sl).Nodup && ((ws.map (·.1) ++ sl).all fun x => nameOk x && PyData.strOk x)
def nB (ns : List Str) : Bool := (ns.all fun x => nameOk x && PyData.strOk x && decide (x ≠ "?")) && decide ns.Nodup && decide (1 ≤ ns.length) && decide (ns.length ≤ 12)
def extW : List Wd → List Wd
  | [] => []
  | w :: ws => (w.1, w.2 ++ [("extra" : Str)]) :: ws
def moreW : Wd := ("more", ["extra"])
def firstShort : List Wd → Bool
  | [] => false
  | w :: _ => decide (w.2.length < 4)
def has (x : Str) (l : List Str) : Bool := l.any fun y => decide (y = x)
theorem not_has {x : Str} {l : List Str} (h : has x l = false) : x ∉ l := fun m => by
  have := List.any_eq_false.mp h x m
  simp at this
def cW (r k : Nat) : Bool := wB (wsOf r k) && (!firstShort (wsOf r k) || wB (extW (wsOf r k))) && (!decide ((wsOf r k).length < 4) || wB (wsOf r k ++ [moreW])) && !has "extra" ((wsOf r k).flatMap (·.2)) && (allH.all fun x => !has x ((wsOf r k).flatMap (·.2))) && !has "other" ((wsOf r k).flatMap (·.2))
theorem chkW0 : ∀ r, r < 4 → ∀ k, k ≤ 4 → 1 ≤ k → cW r k = true := by decide +kernel
theorem chkW (r : Nat) (hr : r < 4) (k : Nat) (hk : k ≤ 4) (h1 : 1 ≤ k) : wB (wsOf r k) = true ∧ (firstShort (wsOf r k) = true → wB (extW (wsOf r k)) = true) ∧ ((wsOf r k).length < 4 → wB (wsOf r k ++ [moreW]) = true) ∧ (("extra" : Str) ∉ (wsOf r k).flatMap (·.2)) ∧ (∀ x ∈ allH, x ∉ (wsOf r k).flatMap (·.2)) ∧ (("other" : Str) ∉ (wsOf r k).flatMap (·.2)) := by
  have h := chkW0 r hr k hk h1
  simp only [cW, Bool.and_eq_true, Bool.or_eq_true, Bool.not_eq_true', List.all_eq_true, decide_eq_false_iff_not] at h
  obtain ⟨⟨⟨⟨⟨a, b⟩, c⟩, d⟩, e⟩, f⟩ := h
  exact ⟨a, fun z => b.elim (fun w => by rw [z] at w; cases w) id, fun z => c.elim (fun w => absurd z w) id, not_has d, fun x hx => not_has (e x hx), not_has f⟩
def cS (r k j : Nat) : Bool := sB (wsOf r k) (allS.take j) && (!decide ((allS.take j).length < 4) || sB (wsOf r k) (allS.take j ++ [("tower" : Str)])) && (!decide ((wsOf r k).length < 4) || sB (wsOf r k ++ [moreW]) (allS.take j)) && !has "more" ((wsOf r k).map (·.1) ++ allS.take j)
theorem chkS0 : ∀ r, r < 4 → ∀ k, k ≤ 4 → 1 ≤ k → ∀ j, j ≤ 4 → 1 ≤ j → cS r k j = true := by decide +kernel
theorem chkS (r : Nat) (hr : r < 4) (k : Nat) (hk : k ≤ 4) (h1 : 1 ≤ k) (j : Nat) (j4 : j ≤ 4) (j1 : 1 ≤ j) : sB (wsOf r k) (allS.take j) = true ∧ ((allS.take j).length < 4 → sB (wsOf r k) (allS.take j ++ [("tower" : Str)]) = true) ∧ ((wsOf r k).length < 4 → sB (wsOf r k ++ [moreW]) (allS.take j) = true) ∧ ("more" : Str) ∉ (wsOf r k).map (·.1) ++ allS.take j := by
  have h := chkS0 r hr k hk h1 j j4 j1
  simp only [cS, Bool.and_eq_true, Bool.or_eq_true, Bool.not_eq_true', decide_eq_false_iff_not] at h
  obtain ⟨⟨⟨a, b⟩, c⟩, d⟩ := h
  exact ⟨a, fun z => b.elim (fun w => absurd z w) id, fun z => c.elim (fun w => absurd z w) id, not_has d⟩
theorem chkN : ∀ r, r < 12 → ∀ k, k ≤ 12 → 2 ≤ k → nB (nsOf r k) = true ∧ ((nsOf r k).length < 12 → nB (nsOf r k ++ [("other" : Str)]) = true) := by decide +kernel
theorem extra_no : ("extra" : Str) ∉ allH := not_has (by decide +kernel)
theorem ns_sub {r k : Nat} {x : Str} (h : x ∈ nsOf r k) : x ∈ allH := by
  rcases List.mem_append.mp (List.mem_of_mem_take h) with h | h
  · exact List.mem_of_mem_drop h
  · exact List.mem_of_mem_take h
theorem wok_of {ws : List Wd} (h : wB ws = true) : WOK ws ∧ ∀ w ∈ ws, w.2.length ≤ 4 ∧ ∀ x ∈ w.2, PyData.strOk x = true := by
  simp only [wB, Bool.and_eq_true, decide_eq_true_eq, List.all_eq_true] at h
  obtain ⟨⟨⟨⟨h1, h2⟩, h3⟩, h4⟩, h5⟩ := h
  exact ⟨⟨⟨h1, h2⟩, fun w hw => ⟨(h3 w hw).1.1.1, (h3 w hw).1.1.2, (h3 w hw).1.2, fun x hx => ((h3 w hw).2 x hx).1⟩, h4, h5⟩, fun w hw => ⟨(h3 w hw).1.2, fun x hx => ((h3 w hw).2 x hx).2⟩⟩
theorem sok_of {ws : List Wd} {sl : List Str} (h : sB ws sl = true) : SOK ws sl ∧ (∀ x ∈ ws.map (·.1) ++ sl, nameOk x = true ∧ PyData.strOk x = true) := by
  simp only [sB, Bool.and_eq_true, decide_eq_true_eq, List.all_eq_true] at h
  obtain ⟨⟨⟨⟨h1, h2⟩, h3⟩, h4⟩, h5⟩ := h
  exact ⟨⟨⟨h1, h2⟩, fun x hx => (h3 x hx).1, h4⟩, h5⟩
theorem hok_of {ks ks' ww : List Str} {hs : List Tm.Row} {ns : List Str} (e : hs.map (·.1) = ns) (nb : nB ns = true) (dis : ∀ x ∈ ns, x ∉ ww) (kinds : ∀ r ∈ hs, r.2.1.length ≤ 3 ∧ ∀ k ∈ r.2.1 ++ [r.2.2], k ∈ ks) (kok : ∀ k ∈ ks, nameOk k = true) (sub : ∀ k ∈ ks, k ∈ ks') : HOK ks' ww hs := by
  simp only [nB, Bool.and_eq_true, decide_eq_true_eq, List.all_eq_true] at nb
  obtain ⟨⟨⟨h1, h2⟩, h3⟩, h4⟩ := nb
  have len : hs.length = ns.length := by rw [← e, List.length_map]
  refine ⟨by omega, fun r hr => ?_, by rw [e]; exact h2⟩
  have hn : r.1 ∈ ns := by rw [← e]; exact List.mem_map_of_mem hr
  exact ⟨(h1 _ hn).1.1, dis _ hn, (kinds r hr).1, fun k hk => ⟨kok k ((kinds r hr).2 k hk), sub k ((kinds r hr).2 k hk)⟩⟩
/-! ### laws carried over -/
mutual
theorem kd_over {wk wk' : Str → Option Str} {hs hs' : List Tm.Row} {T : _root_.Fin 1000 → Option Str} (x : ∀ a k, wk a = some k → wk' a = some k) (y : ∀ g e, Tm.fnd hs g = some e → Tm.fnd hs' g = some e) : ∀ {t : Tm} {k : Str}, Tm.kd wk hs T t k = true → Tm.kd wk' hs' T t k = true
  | .w _, k, h => by
    simp only [Tm.kd, decide_eq_true_eq] at h ⊢
    exact x _ _ h
  | .u n, k, h => h
  | .c g ts, k, h => by
    simp only [Tm.kd] at h ⊢
    cases f : Tm.fnd hs g.1 with
    | none => rw [f] at h; cases h
    | some r =>
      rw [f] at h
      rw [y _ _ f]
      simp only [Bool.and_eq_true, decide_eq_true_eq] at h ⊢
      exact ⟨h.1, kds_over x y h.2⟩
theorem kds_over {wk wk' : Str → Option Str} {hs hs' : List Tm.Row} {T : _root_.Fin 1000 → Option Str} (x : ∀ a k, wk a = some k → wk' a = some k) (y : ∀ g e, Tm.fnd hs g = some e → Tm.fnd hs' g = some e) : ∀ {ts : List Tm} {ks : List Str}, Tm.kds wk hs T ts ks = true → Tm.kds wk' hs' T ts ks = true
  | [], [], _ => by simp [Tm.kds]
  | t :: ts, k :: ks, h => by
    simp only [Tm.kds, Bool.and_eq_true] at h ⊢
    exact ⟨kd_over x y h.1, kds_over x y h.2⟩
  | [], _ :: _, h => by simp [Tm.kds] at h
  | _ :: _, [], h => by simp [Tm.kds] at h
end
theorem above_congr {rk rk' : Str → Nat} : ∀ (n : Nat) (s t : Tm), s.size + t.size ≤ n → (∀ g ts, Tm.c g ts ∈ s.parts → rk g.1 = rk' g.1) → (∀ g ts, Tm.c g ts ∈ t.parts → rk g.1 = rk' g.1) → Tm.above rk s t = Tm.above rk' s t := by
  intro n
  induction n with
  | zero =>
    intro s t h
    have := Tm.size_pos s
    omega
  | succ n ih =>
    intro s t hn h1 h2
    cases s with
    | w x => rw [Tm.above_w, Tm.above_w]
    | u x => rw [Tm.above_u, Tm.above_u]
    | c h ss =>
      cases t with
      | w x => rw [Tm.above_cw, Tm.above_cw]
      | u x => rw [Tm.above_cu, Tm.above_cu]
      | c g ts =>
        have ps : ∀ p ∈ ss, ∀ g' ts', Tm.c g' ts' ∈ p.parts → rk g'.1 = rk' g'.1 := fun p hp g' ts' m => h1 g' ts' (by simp only [Tm.parts, List.mem_cons]; exact .inr (Tm.mem_partss.mpr ⟨p, hp, m⟩))
        have pt : ∀ p ∈ ts, ∀ g' ts', Tm.c g' ts' ∈ p.parts → rk g'.1 = rk' g'.1 := fun p hp g' ts' m => h2 g' ts' (by simp only [Tm.parts, List.mem_cons]; exact .inr (Tm.mem_partss.mpr ⟨p, hp, m⟩))
        have e1 : rk h.1 = rk' h.1 := h1 h ss (Tm.self_parts _)
        have e2 : rk g.1 = rk' g.1 := h2 g ts (Tm.self_parts _)
        rw [Tm.above_cc, Tm.above_cc]
        have a1 : (ss.any fun p => decide (p = .c g ts) || Tm.above rk p (.c g ts)) = ss.any fun p => decide (p = .c g ts) || Tm.above rk' p (.c g ts) := Tm.any_ext fun p hp => by
          have := Tm.size_mem hp
          rw [ih p _ (by simp only [Tm.size] at hn ⊢; omega) (ps p hp) h2]
        have a2 : (ts.all fun q => Tm.above rk (.c h ss) q) = ts.all fun q => Tm.above rk' (.c h ss) q := Tm.all_ext fun q hq => by
          have := Tm.size_mem hq
          exact ih _ q (by simp only [Tm.size] at hn ⊢; omega) h1 (pt q hq)
        rw [a1, a2]
        congr 2
        unfold Tm.ahead
        split
        · cases f : (ss.zip ts).find? (fun p => decide (p.1 ≠ p.2)) with
          | none => rfl
          | some p =>
            have m := List.of_mem_zip (List.mem_of_find?_eq_some f)
            have z1 := Tm.size_mem m.1
            have z2 := Tm.size_mem m.2
            exact ih p.1 p.2 (by simp only [Tm.size] at hn; omega) (ps _ m.1) (pt _ m.2)
        · rw [e1, e2]
theorem fnd_app {hs : List Tm.Row} {o : Tm.Row} {g : Str} {e : Tm.Row} (h : Tm.fnd hs g = some e) : Tm.fnd (hs ++ [o]) g = some e := by
  unfold Tm.fnd at h ⊢
  rw [List.find?_append, h]
  rfl
theorem rk_app {hs : List Tm.Row} {o : Tm.Row} {g : Str} (h : ∃ r ∈ hs, r.1 = g) : rkOf (hs ++ [o]) g = rkOf hs g := by
  unfold rkOf
  rw [List.findIdx_append, if_pos (List.findIdx_lt_length_of_exists (by obtain ⟨r, hr, e⟩ := h; exact ⟨r, hr, by simp [e]⟩))]
theorem known {hs : List Tm.Row} {t : Tm} (ok : Tm.ok hs t = true) {g : Hd} {ts : List Tm} (m : Tm.c g ts ∈ t.parts) : ∃ r, Tm.fnd hs g.1 = some r := ok_fnd (Tm.ok_parts ok m)
/-- a head more at the end -/
theorem LawOK.head {ws : List Wd} {hs : List Tm.Row} {l r : Tm} (h : LawOK ws hs l r) (o : Tm.Row) : LawOK ws (hs ++ [o]) l r := by
  obtain ⟨g, ts, T, k, e, k1, k2⟩ := h.ex
  have o1 := Tm.ok_of_kd k1
  have o2 := Tm.ok_of_kd k2
  refine ⟨⟨g, ts, T, k, e, kd_over (fun _ _ z => z) (fun _ _ z => fnd_app z) k1, kd_over (fun _ _ z => z) (fun _ _ z => fnd_app z) k2⟩, h.sizes, h.deps, fun p hp => ?_, h.unk, ?_⟩
  · have old := h.asks p hp
    cases p with
    | w x => rfl
    | u x => rfl
    | c g' ts' =>
      obtain ⟨r', f⟩ := known o1 (List.mem_of_mem_tail hp)
      have old : (match Tm.fnd hs g'.1 with | none => false | some r => decide (r.2.2 ∈ ws.map (·.1))) = false := old
      show (match Tm.fnd (hs ++ [o]) g'.1 with | none => false | some r => decide (r.2.2 ∈ ws.map (·.1))) = false
      rw [fnd_app f]
      rw [f] at old
      exact old
  · rw [above_congr _ _ _ (Nat.le_refl _) (rk' := rkOf hs) (fun g' ts' m => rk_app (by obtain ⟨r', f⟩ := known o1 m; exact ⟨r', fnd_mem f⟩)) (fun g' ts' m => rk_app (by obtain ⟨r', f⟩ := known o2 m; exact ⟨r', fnd_mem f⟩))]
    exact h.down
/-- words more -/
theorem LawOK.words {ws ws' : List Wd} {hs : List Tm.Row} {l r : Tm} (h : LawOK ws hs l r) (x : ∀ a k, wkOf ws a = some k → wkOf ws' a = some k) (y : ∀ r ∈ hs, r.2.2 ∈ ws'.map (·.1) → r.2.2 ∈ ws.map (·.1)) : LawOK ws' hs l r := by
  obtain ⟨g, ts, T, k, e, k1, k2⟩ := h.ex
  refine ⟨⟨g, ts, T, k, e, kd_over x (fun _ _ z => z) k1, kd_over x (fun _ _ z => z) k2⟩, h.sizes, h.deps, fun p hp => ?_, h.unk, h.down⟩
  have old := h.asks p hp
  cases p with
  | w x => rfl
  | u x => rfl
  | c g' ts' =>
    have old : (match Tm.fnd hs g'.1 with | none => false | some r => decide (r.2.2 ∈ ws.map (·.1))) = false := old
    show (match Tm.fnd hs g'.1 with | none => false | some r => decide (r.2.2 ∈ ws'.map (·.1))) = false
    cases f : Tm.fnd hs g'.1 with
    | none => rfl
    | some r' =>
      rw [f] at old
      exact decide_eq_false fun z => of_decide_eq_false old (y r' (fnd_mem f).1 z)
theorem wk_more {ws : List Wd} {a k : Str} (h : wkOf ws a = some k) : wkOf (ws ++ [moreW]) a = some k := by
  unfold wkOf at h ⊢
  obtain ⟨w, hw, e⟩ := Option.map_eq_some_iff.mp h
  rw [List.find?_append, hw]
  exact congrArg some e
theorem wk_ext {ws : List Wd} {a k : Str} (no : ("extra" : Str) ∉ ws.flatMap (·.2)) (h : wkOf ws a = some k) : wkOf (extW ws) a = some k := by
  cases ws with
  | nil => exact h
  | cons w ws =>
    unfold wkOf extW at *
    obtain ⟨v, hv, e⟩ := Option.map_eq_some_iff.mp h
    have ne : a ≠ "extra" := fun z => by
      refine no (List.mem_flatMap.mpr ⟨v, List.mem_of_find?_eq_some hv, ?_⟩)
      have := List.find?_some hv
      rw [← z]
      exact of_decide_eq_true this
    rw [List.find?_cons] at hv
    rw [List.find?_cons]
    by_cases m : a ∈ w.2
    · rw [decide_eq_true m] at hv
      rw [decide_eq_true (List.mem_append_left _ m)]
      cases Option.some.inj hv
      exact congrArg some e
    · rw [decide_eq_false m] at hv
      rw [decide_eq_false (show a ∉ w.2 ++ [("extra" : Str)] by simp [m, ne]), hv]
      exact congrArg some e
/-! ### right doors -/
structure Drawn (ws : List Wd) (sl : List Str) (hs : List Tm.Row) (ls : List (Tm × Tm)) : Prop where
  gw : GW ws
  gs : GS sl
  gh : GH (ws.map (·.1) ++ sl) hs
  few : ls.length ≤ 5
  laws : ∀ l ∈ ls, LawOK ws hs l.1 l.2
section
variable {ws : List Wd} {sl : List Str} {hs : List Tm.Row} {ls : List (Tm × Tm)}
theorem names_of {ks : List Str} (h : GH ks hs) : nB (hs.map (·.1)) = true ∧ (hs.length < 12 → nB (hs.map (·.1) ++ [("other" : Str)]) = true) ∧ ∀ x ∈ hs.map (·.1), x ∈ allH := by
  obtain ⟨r, k, hr, h2, hk, e⟩ := h.names
  have c := chkN r hr k hk h2
  rw [← e] at c
  rw [List.length_map] at c
  exact ⟨c.1, c.2, fun x hx => by rw [e] at hx; exact ns_sub hx⟩
theorem Drawn.good (h : Drawn ws sl hs ls) : GoodDoor ws sl hs ls := by
  obtain ⟨r, k, hr, k1, k4, rfl⟩ := h.gw
  obtain ⟨j, j1, j4, rfl⟩ := h.gs
  have w := chkW r hr k k4 k1
  have s := chkS r hr k k4 k1 j j4 j1
  have n := names_of h.gh
  exact ⟨(wok_of w.1).1, (sok_of s.1).1, hok_of rfl n.1 (fun x hx => w.2.2.2.2.1 x (n.2.2 x hx)) h.gh.kinds (fun k hk => ((sok_of s.1).2 k hk).1) (fun _ z => z), by have := h.few; omega, h.laws⟩
theorem nB_rev {ns : List Str} (h : nB ns = true) : nB ns.reverse = true := by
  simp only [nB, Bool.and_eq_true, decide_eq_true_eq, List.all_eq_true, List.mem_reverse, List.length_reverse] at h ⊢
  exact ⟨⟨⟨h.1.1.1, List.pairwise_reverse.mpr (h.1.1.2.imp fun z => z.symm)⟩, h.1.2⟩, h.2⟩
/-- heads in another order, no laws -/
theorem Drawn.rev (h : Drawn ws sl hs ls) : GoodDoor ws sl hs.reverse [] := by
  obtain ⟨r, k, hr, k1, k4, rfl⟩ := h.gw
  obtain ⟨j, j1, j4, rfl⟩ := h.gs
  have w := chkW r hr k k4 k1
  have s := chkS r hr k k4 k1 j j4 j1
  have n := names_of h.gh
  refine ⟨(wok_of w.1).1, (sok_of s.1).1, hok_of List.map_reverse (nB_rev n.1) (fun x hx => w.2.2.2.2.1 x (n.2.2 x (List.mem_reverse.mp hx))) (fun r hr => h.gh.kinds r (List.mem_reverse.mp hr)) (fun k hk => ((sok_of s.1).2 k hk).1) (fun _ z => z), Nat.zero_le _, fun _ z => nomatch z⟩
/-- other laws of the same -/
theorem Drawn.some (h : Drawn ws sl hs ls) {ls' : List (Tm × Tm)} (few : ls'.length ≤ 16) (sub : ∀ l ∈ ls', l ∈ ls) : GoodDoor ws sl hs ls' :=
  ⟨h.good.wok, h.good.sok, h.good.hok, few, fun l hl => h.laws l (sub l hl)⟩
theorem Drawn.head (h : Drawn ws sl hs ls) (l12 : hs.length < 12) {s0 : Str} (hs0 : s0 ∈ sl) : GoodDoor ws sl (hs ++ [(("other" : Str), ([] : List Str), s0)]) ls := by
  have g := h.good
  have n := names_of h.gh
  obtain ⟨r, k, hr, k1, k4, rfl⟩ := h.gw
  obtain ⟨j, j1, j4, rfl⟩ := h.gs
  have w := chkW r hr k k4 k1
  have s := chkS r hr k k4 k1 j j4 j1
  refine ⟨g.wok, g.sok, hok_of (ks := (wsOf r k).map (·.1) ++ allS.take j) (by rw [List.map_append]; rfl) (n.2.1 l12) (fun x hx => ?_) (fun r hr => ?_) (fun k hk => ((sok_of s.1).2 k hk).1) (fun _ z => z), g.few, fun l hl => (h.laws l hl).head _⟩
  · rcases List.mem_append.mp hx with hx | hx
    · exact w.2.2.2.2.1 x (n.2.2 x hx)
    · rw [List.mem_singleton.mp hx]
      exact w.2.2.2.2.2
  · rcases List.mem_append.mp hr with hr | hr
    · exact h.gh.kinds r hr
    · rw [List.mem_singleton.mp hr]
      exact ⟨Nat.zero_le _, fun k hk => by
        rw [List.mem_singleton.mp hk]
        exact List.mem_append_right _ hs0⟩
theorem Drawn.seal (h : Drawn ws sl hs ls) (l4 : sl.length < 4) : GoodDoor ws (sl ++ [("tower" : Str)]) hs ls := by
  have g := h.good
  have n := names_of h.gh
  obtain ⟨r, k, hr, k1, k4, rfl⟩ := h.gw
  obtain ⟨j, j1, j4, rfl⟩ := h.gs
  have w := chkW r hr k k4 k1
  have s := chkS r hr k k4 k1 j j4 j1
  exact ⟨g.wok, (sok_of (s.2.1 l4)).1, hok_of rfl n.1 (fun x hx => w.2.2.2.2.1 x (n.2.2 x hx)) h.gh.kinds (fun k hk => ((sok_of s.1).2 k hk).1) (fun k z => by rw [← List.append_assoc]; exact List.mem_append_left _ z), g.few, h.laws⟩
theorem Drawn.more (h : Drawn ws sl hs ls) (l4 : ws.length < 4) : GoodDoor (ws ++ [moreW]) sl hs ls := by
  have g := h.good
  have n := names_of h.gh
  have kn := h.gh.kinds
  obtain ⟨r, k, hr, k1, k4, rfl⟩ := h.gw
  obtain ⟨j, j1, j4, rfl⟩ := h.gs
  have w := chkW r hr k k4 k1
  have s := chkS r hr k k4 k1 j j4 j1
  refine ⟨(wok_of (w.2.2.1 l4)).1, (sok_of (s.2.2.1 l4)).1, hok_of rfl n.1 (fun x hx z => ?_) kn (fun k hk => ((sok_of s.1).2 k hk).1) (fun k z => ?_), g.few, fun l hl => (h.laws l hl).words (fun a k z => wk_more z) (fun r' hr' z => ?_)⟩
  · rw [List.flatMap_append] at z
    rcases List.mem_append.mp z with z | z
    · exact w.2.2.2.2.1 x (n.2.2 x hx) z
    · simp only [List.flatMap_cons, List.flatMap_nil, List.append_nil, moreW, List.mem_singleton] at z
      exact extra_no (z ▸ n.2.2 x hx)
  · rw [List.map_append]
    rcases List.mem_append.mp z with z | z
    · exact List.mem_append_left _ (List.mem_append_left _ z)
    · exact List.mem_append_right _ z
  · rw [List.map_append] at z
    rcases List.mem_append.mp z with z | z
    · exact z
    · have e : r'.2.2 = "more" := List.mem_singleton.mp z
      exact absurd ((kn r' hr').2 r'.2.2 (by simp)) (by rw [e]; exact s.2.2.2)
theorem ext_names : ∀ ws : List Wd, (extW ws).map (·.1) = ws.map (·.1)
  | [] => rfl
  | w :: ws => rfl
theorem Drawn.ext (h : Drawn ws sl hs ls) (l4 : firstShort ws = true) : GoodDoor (extW ws) sl hs ls := by
  have g := h.good
  have n := names_of h.gh
  obtain ⟨r, k, hr, k1, k4, rfl⟩ := h.gw
  obtain ⟨j, j1, j4, rfl⟩ := h.gs
  have w := chkW r hr k k4 k1
  have s := chkS r hr k k4 k1 j j4 j1
  have so := (sok_of s.1).1
  refine ⟨(wok_of (w.2.1 l4)).1, ⟨so.len, so.each, by rw [ext_names]; exact so.unlike⟩, hok_of rfl n.1 (fun x hx z => ?_) h.gh.kinds (fun k hk => ((sok_of s.1).2 k hk).1) (fun k z => by rw [ext_names]; exact z), g.few, fun l hl => (h.laws l hl).words (fun a k z => wk_ext w.2.2.2.1 z) (fun r' hr' z => by rw [ext_names] at z; exact z)⟩
  have sub : ∀ ws : List Wd, x ∈ (extW ws).flatMap (·.2) → x = "extra" ∨ x ∈ ws.flatMap (·.2) := by
    intro ws z
    cases ws with
    | nil => exact .inr z
    | cons v vs =>
      simp only [extW, List.flatMap_cons, List.mem_append, List.mem_singleton] at z ⊢
      rcases z with (z | z) | z
      · exact .inr (.inl z)
      · exact .inl z
      · exact .inr (.inr z)
  rcases sub _ z with z | z
  · exact extra_no (z ▸ n.2.2 x hx)
  · exact w.2.2.2.2.1 x (n.2.2 x hx) z
/-- what the law is drawn from -/
theorem drawn_pre (gw : GW ws) (gs : GS sl) (gh : GH (ws.map (·.1) ++ sl) hs) : ws.length ≤ 4 ∧ (∀ w ∈ ws, w.2.length ≤ 4 ∧ ∀ x ∈ w.2, PyData.strOk x = true) ∧ (ws.flatMap (·.2)).Nodup ∧ (1 ≤ hs.length ∧ hs.length ≤ 12) ∧ (∀ r ∈ hs, Tm.fnd hs r.1 = some r ∧ r.1 ≠ "?" ∧ r.2.1.length ≤ 3 ∧ PyData.strOk r.1 = true) ∧ (∀ x ∈ ws.map (·.1) ++ sl, PyData.strOk x = true) := by
  have n := names_of gh
  have kn := gh.kinds
  obtain ⟨r, k, hr, k1, k4, rfl⟩ := gw
  obtain ⟨j, j1, j4, rfl⟩ := gs
  have w := wok_of (chkW r hr k k4 k1).1
  have s := sok_of (chkS r hr k k4 k1 j j4 j1).1
  have nb := n.1
  simp only [nB, Bool.and_eq_true, decide_eq_true_eq, List.all_eq_true, List.length_map] at nb
  obtain ⟨⟨⟨h1, h2⟩, h3⟩, h4⟩ := nb
  refine ⟨w.1.len.2, w.2, w.1.words, ⟨h3, h4⟩, fun r hr => ⟨?_, (h1 _ (List.mem_map_of_mem hr)).2, (kn r hr).1, (h1 _ (List.mem_map_of_mem hr)).1.2⟩, fun x hx => (s.2 x hx).2⟩
  obtain ⟨i, hi⟩ := List.getElem?_of_mem hr
  have : ∀ (l : List Tm.Row), (l.map (·.1)).Nodup → r ∈ l → Tm.fnd l r.1 = some r := by
    intro l
    induction l with
    | nil => intro _ z; cases z
    | cons a l ih =>
      intro nd z
      unfold Tm.fnd
      rw [List.find?_cons]
      rw [List.map_cons, List.nodup_cons] at nd
      by_cases e : a.1 = r.1
      · rw [decide_eq_true e]
        rcases List.mem_cons.mp z with rfl | z
        · rfl
        · exact absurd (List.mem_map_of_mem (f := fun x : Tm.Row => x.1) z) (by rw [← e]; exact nd.1)
      · rw [decide_eq_false e]
        rcases List.mem_cons.mp z with rfl | z
        · exact absurd rfl e
        · exact ih nd.2 z
  exact this hs h2 hr
end
end Dr
/-! a door's parts drawn, a door made, a door looked at -/
namespace Dr
open PySem L2
/-- the four parts of a door, in a tuple -/
def Four (H : Hp) (a : Addr) (ws : List Wd) (sl : List Str) (hs : List Tm.Row) (ls : List (Tm × Tm)) : Prop := ∃ w s h l, H a = some (.tup [w, s, h, l]) ∧ Dd H w (encW ws) ∧ Dd H s (txts sl) ∧ Dd H h (encH hs) ∧ Dd H l (encL ls)
theorem Four.mono {H H' : Hp} {a : Addr} {ws : List Wd} {sl : List Str} {hs : List Tm.Row} {ls : List (Tm × Tm)} (h : Four H a ws sl hs ls) (g : Ts H H') : Four H' a ws sl hs ls := by
  obtain ⟨w, s, h, l, h0, h1, h2, h3, h4⟩ := h
  exact ⟨w, s, h, l, g _ _ h0, h1.mono g, h2.mono g, h3.mono g, h4.mono g⟩
theorem names_ok {ws : List Wd} {sl : List Str} (gw : GW ws) (gs : GS sl) : ws.length ≤ 4 ∧ sl.length ≤ 4 ∧ sl ≠ [] ∧ ∀ x ∈ ws.map (·.1) ++ sl, PyData.strOk x = true := by
  obtain ⟨r, k, hr, k1, k4, rfl⟩ := gw
  obtain ⟨j, j1, j4, rfl⟩ := gs
  have w := wok_of (chkW r hr k k4 k1).1
  have s := sok_of (chkS r hr k k4 k1 j j4 j1).1
  exact ⟨w.1.len.2, s.1.len.2, fun z => by have := s.1.len.1; rw [z] at this; simp at this, fun x hx => (s.2 x hx).2⟩
@[irreducible] def spLParts : Sp := fun vs H Q _ => ∃ (p c : Addr), vs = [.ref p] ∧ HA H p c ∧ ∀ a H' ws sl hs ls, HA H' p c → Gr [p] H H' → Four H' a ws sl hs ls → Drawn ws sl hs ls → Q (.ref a) H'
theorem spLParts_of {vs : List V} {H : Hp} {Q : VK} {E : XK} (h : ∃ (p c : Addr), vs = [.ref p] ∧ HA H p c ∧ ∀ a H' ws sl hs ls, HA H' p c → Gr [p] H H' → Four H' a ws sl hs ls → Drawn ws sl hs ls → Q (.ref a) H') : spLParts vs H Q E := by unfold spLParts; exact h
/-- the door that stands at d has these parts -/
def DoorOf (C : Addr) (H : Hp) (d : Addr) (ws : List Wd) (sl : List Str) (hs : List Tm.Row) (ls : List (Tm × Tm)) : Prop := DoorIs C H d (encW ws) (txts sl) (encH hs) (encL ls)
@[irreducible] def spMade (C : Addr) : Sp := fun vs H Q _ => ∃ (a : Addr) (ws : List Wd) (sl : List Str) (hs : List Tm.Row) (ls : List (Tm × Tm)), vs = [.ref a] ∧ Four H a ws sl hs ls ∧ GoodDoor ws sl hs ls ∧ ∀ d H', Gr [] H H' → H d = none → DoorOf C H' d ws sl hs ls → Q (.ref d) H'
theorem spMade_of {C : Addr} {vs : List V} {H : Hp} {Q : VK} {E : XK} (h : ∃ (a : Addr) (ws : List Wd) (sl : List Str) (hs : List Tm.Row) (ls : List (Tm × Tm)), vs = [.ref a] ∧ Four H a ws sl hs ls ∧ GoodDoor ws sl hs ls ∧ ∀ d H', Gr [] H H' → H d = none → DoorOf C H' d ws sl hs ls → Q (.ref d) H') : spMade C vs H Q E := by unfold spMade; exact h
@[irreducible] def spStands (C : Addr) : Sp := fun vs H Q _ => ∃ (d a : Addr) (ws : List Wd) (sl : List Str) (hs : List Tm.Row) (ls : List (Tm × Tm)), vs = [.ref d, .ref a] ∧ Four H a ws sl hs ls ∧ DoorOf C H d ws sl hs ls ∧ GoodDoor ws sl hs ls ∧ ∀ H', Gr [] H H' → Q (.bl true) H'
theorem spStands_of {C : Addr} {vs : List V} {H : Hp} {Q : VK} {E : XK} (h : ∃ (d a : Addr) (ws : List Wd) (sl : List Str) (hs : List Tm.Row) (ls : List (Tm × Tm)), vs = [.ref d, .ref a] ∧ Four H a ws sl hs ls ∧ DoorOf C H d ws sl hs ls ∧ GoodDoor ws sl hs ls ∧ ∀ H', Gr [] H H' → Q (.bl true) H') : spStands C vs H Q E := by unfold spStands; exact h
theorem at3 {x y z u : V} {xs : List V} : atI (x :: y :: z :: u :: xs) 3 = some u := atI_nat (j := 3) rfl
mutual
theorem slim_tm : ∀ t : Tm, t.size ≤ 900 → slim t.enc = true
  | .w x, _ => rfl
  | .u m, _ => rfl
  | .c g ts, h => by
    simp only [Tm.size] at h
    have := Tm.length_sizes ts
    simp only [Tm.enc, slim, slims, Bool.and_eq_true, decide_eq_true_eq, Bool.true_and, List.length_cons]
    refine ⟨?_, slims_tm ts (by omega)⟩
    rw [Tm.encs_map, List.length_map]
    omega
theorem slims_tm : ∀ ts : List Tm, Tm.sizes ts ≤ 900 → slims (Tm.encs ts) = true
  | [], _ => by simp only [Tm.encs, slims]
  | t :: ts, h => by
    simp only [Tm.sizes] at h
    simp only [Tm.encs, slims, Bool.and_eq_true]
    exact ⟨slim_tm t (by omega), slims_tm ts (by omega)⟩
end
theorem slims_map {α : Type} {f : α → D} : ∀ {xs : List α}, (∀ x ∈ xs, slim (f x) = true) → slims (xs.map f) = true
  | [], _ => rfl
  | x :: xs, h => by
    simp only [List.map_cons, slims, Bool.and_eq_true]
    exact ⟨h x List.mem_cons_self, slims_map fun y hy => h y (List.mem_cons_of_mem _ hy)⟩
theorem depth_map {α : Type} {f : α → D} {m : Nat} : ∀ {xs : List α}, (∀ x ∈ xs, (f x).depth ≤ m) → NestedKey.depthAll (xs.map f) ≤ m
  | [], _ => by simp [NestedKey.depthAll]
  | x :: xs, h => by
    have h1 := h x List.mem_cons_self
    have h2 := depth_map fun y hy => h y (List.mem_cons_of_mem _ hy)
    simp only [List.map_cons, NestedKey.depthAll]
    omega
/-- a right door's data is neither long nor deep -/
theorem GoodDoor.fine {ws : List Wd} {sl : List Str} {hs : List Tm.Row} {ls : List (Tm × Tm)} (h : GoodDoor ws sl hs ls) : NestedKey.depthAll [encW ws, txts sl, encH hs, encL ls] ≤ 10 ∧ slims [encW ws, txts sl, encH hs, encL ls] = true := by
  have t1 := texts_depth sl
  have t2 : NestedKey.depthAll (ws.map encWd) ≤ 2 := depth_map fun w _ => by
    have := texts_depth w.2
    simp only [encWd, txts, NestedKey.depth, NestedKey.depthAll]
    omega
  have t3 := rows_depth hs
  have t4 : NestedKey.depthAll (ls.map encLaw) ≤ 8 := depth_map fun l hl => by
    have o := (h.laws l hl).deps
    have e1 := Tm.depth_enc l.1
    have e2 := Tm.depth_enc l.2
    simp only [encLaw, NestedKey.depth, NestedKey.depthAll]
    omega
  have l1 := h.wok.len
  have l2 := h.sok.len
  have l3 := h.hok.len
  have l4 := h.few
  have ts : ∀ xs : List Str, xs.length ≤ 1000 → slim (txts xs) = true := fun xs hx => by
    simp only [txts, slim, Bool.and_eq_true, decide_eq_true_eq, List.length_map]
    exact ⟨hx, slims_map fun _ _ => rfl⟩
  refine ⟨by simp only [NestedKey.depthAll, encW, txts, encH, encL, NestedKey.depth]; omega, ?_⟩
  simp only [slims, Bool.and_eq_true, Bool.and_true]
  refine ⟨?_, ts sl (by omega), ?_, ?_⟩
  · simp only [encW, slim, Bool.and_eq_true, decide_eq_true_eq, List.length_map]
    refine ⟨by omega, slims_map fun w hw => ?_⟩
    have := (h.wok.each w hw).2.2.1
    simp only [encWd, slim, slims, Bool.and_eq_true, decide_eq_true_eq, Bool.true_and, Bool.and_true, List.length_cons, List.length_nil]
    exact ⟨by omega, ts w.2 (by omega)⟩
  · simp only [encH, slim, Bool.and_eq_true, decide_eq_true_eq, List.length_map]
    refine ⟨by omega, slims_map fun r hr => ?_⟩
    have := (h.hok.each r hr).2.2.1
    simp only [encRow, slim, slims, Bool.and_eq_true, decide_eq_true_eq, Bool.true_and, Bool.and_true, List.length_cons, List.length_nil]
    exact ⟨by omega, ts r.2.1 (by omega)⟩
  · simp only [encL, slim, Bool.and_eq_true, decide_eq_true_eq, List.length_map]
    refine ⟨by omega, slims_map fun l hl => ?_⟩
    have := (h.laws l hl).sizes
    simp only [encLaw, slim, slims, Bool.and_eq_true, decide_eq_true_eq, Bool.true_and, Bool.and_true, List.length_cons, List.length_nil]
    exact ⟨by omega, slim_tm _ (by omega), slim_tm _ (by omega)⟩
section
variable {P : Program} {w : World} {K : PySem.W.Frag} {mg : Str → Option Value} {base : Heap}
theorem sc_law_parts : FnScope ["hand", "words", "sealed", "parts", "rows", "turn", "row"] ["hand"] (defScope s_law_parts) := ⟨rfl, rfl, rfl, by decide +kernel, rfl, by decide +kernel, by decide +kernel⟩
theorem ok_law_parts (T : Tx K mg) : FnOk P w K mg base CX0 62 T.f_law_parts.f T.f_law_parts.fd ["hand"] spLParts := by
  refine T.f_law_parts.F.ok sc_law_parts (fun vs H Q E h => ?_) (fun cdv A outer s H vs Q E hr h => ?_)
  · unfold spLParts at h
    obtain ⟨p, c, rfl, _⟩ := h
    rfl
  · have nd := sc_law_parts.nd
    refine ⟨_, (pss_cons (ps_par (i := 1) (j := 2) (by rfl) nd rfl rfl (by decide) rfl rfl (pa_cons (pe_call (ok_law_words T) (hr.mono (by omega)) rfl T.f_law_words.g T.f_law_words.F.kp T.f_law_words.b .nil pass0 (pa_cons (pv 0) pa_nil)) (pa_cons (pe_slice sl_tupN (pe_tup (pa_cons pe_str (pa_cons pe_str (pa_cons pe_str (pa_cons pe_str pa_nil))))) po_none (po_some (pe_op op_add pe_int (pe_call (ok_law_some T) (hr.mono (by omega)) rfl T.f_law_some.g T.f_law_some.F.kp T.f_law_some.b .nil pass0 (pa_cons (pv 0) (pa_cons (pe_lst (pa_cons pe_int (pa_cons pe_int (pa_cons pe_int (pa_cons pe_int (pa_cons pe_int pa_nil)))))) pa_nil)))))) pa_nil)) (by rfl)) (pss_cons (ps_set (i := 3) nd rfl (Or.inr rfl) (pe_tup (pa_cons (pv 1) (pa_cons (pv 2) (pa_cons (pe_call (ok_law_heads T) (hr.mono (by omega)) rfl T.f_law_heads.g T.f_law_heads.F.kp T.f_law_heads.b .nil pass0 (pa_cons (pv 0) (pa_cons (pv 1) (pa_cons (pv 2) pa_nil)))) (pa_cons (pe_tup pa_nil) pa_nil)))))) (pss_cons (ps_setLc (i := 4) (own := [("turn", 5)]) rfl nd rfl rfl (by rfl) (pi_range1 (by rfl) T.z_range (pa_cons (pe_call (ok_law_some T) (hr.mono (by omega)) rfl T.f_law_some.g T.f_law_some.F.kp T.f_law_some.b .nil pass0 (pa_cons (pv 0) (pa_cons (pe_lst (pa_cons pe_int (pa_cons pe_int (pa_cons pe_int (pa_cons pe_int pa_nil))))) pa_nil))) pa_nil)) (blkOk_by (own := [("turn", 5)]) (N := ["hand", "words", "sealed", "parts", "rows", "turn", "row"]) (sc := defScope s_law_parts) (by decide +kernel)) (fun _ _ _ _ _ => (pg_name (i := 5) nd rfl (Or.inl rfl) (Or.inr rfl))) (fun _ _ _ _ _ => pts_nil) (fun _ _ _ _ _ => (pe_call (ok_law_drawn_law T) (hr.mono (by omega)) rfl T.f_law_drawn_law.g T.f_law_drawn_law.F.kp T.f_law_drawn_law.b .nil pass0 (pa_cons (pv 0) (pa_cons (pv 3) pa_nil))))) (pss_one (ps_ret (pe_op op_catN (pe_slice sl_tupN (pv 3) po_none (po_some pe_int)) (pe_tup (pa_cons (pe_callTy call_tuple_of (by rfl) T.z_tuple (by decide +kernel) (pa_cons (pe_lc (own := [("row", 6)]) rfl nd (piL K (pv 4)) (blkOk_by (own := [("row", 6)]) (N := ["hand", "words", "sealed", "parts", "rows", "turn", "row"]) (sc := defScope s_law_parts) (by decide +kernel)) (fun _ _ _ _ _ => (pg_name (i := 6) nd rfl (Or.inl rfl) (Or.inr rfl))) (fun _ _ _ _ _ => (pts_one (pt_cmpR op_notN (pv 6) pe_non (nomark _)))) (fun _ _ _ _ _ => (pv 6))) pa_nil)) pa_nil)))))))), ?_⟩
    unfold spLParts at h
    obtain ⟨p, c, rfl, ha, k⟩ := h
    refine cut (fun σ' H' => ∃ u v ws sl, σ' = [some (.ref p), some u, some v, none, none, none, none] ∧ HA H' p c ∧ Gr [p] H H' ∧ Dd H' u (encW ws) ∧ Dd H' v (txts sl) ∧ GW ws ∧ GS sl) ?_ (fun rest => ?_)
    case refine_2 =>
      refine ⟨_, rfl, ?_⟩
      show spWords [.ref p] H _ _
      refine spWords_of ⟨p, c, rfl, ha, fun u ws H1 a1 g1 gw du => ?_⟩
      refine ⟨(by show 4 ≤ sizeLine; decide), fun t ht => ?_⟩
      have gt : Gr [] H1 (upd H1 t (.tup [.str "stack", .str "cell", .str "s", .str "yes"])) := Gr.new ht
      have a2 := a1.gr0 gt
      refine ⟨_, rfl, (by show 5 ≤ sizeLine; decide), fun l5 hl5 => ?_⟩
      show spSome [.ref p, .ref l5] _ _ _
      refine spSome_of ⟨p, c, l5, ([0, 0, 1, 1, 3] : List Int).map V.int, rfl, a2.new hl5, .inl upd_same, a2.ne hl5, by simp, by simp, fun i x H3 hx a3 g3 => ?_⟩
      obtain ⟨n, hn, rfl⟩ := pickI hx
      obtain ⟨m, rfl, hm⟩ : ∃ m : Nat, n = (m : Int) ∧ m ≤ 3 := by
        simp only [List.mem_cons, List.not_mem_nil, or_false] at hn
        exact ⟨n.toNat, by omega, by omega⟩
      have g13 : Gr [p] H1 H3 := (gt.trans (Gr.new hl5)).less.trans g3
      have ht3 : H3 t = some (.tup [.str "stack", .str "cell", .str "s", .str "yes"]) := g3.2 _ _ ((Ts.new hl5) _ _ upd_same)
      refine ⟨_, _, rfl, rfl, _, rfl, t, _, rfl, ht3, fun q H4 g4 hq => ?_⟩
      rw [show (1 : Int) + (m : Int) = ((m + 1 : Nat) : Int) by omega, cut_take] at hq
      have gs : GS (allS.take (m + 1)) := ⟨m + 1, by omega, by omega, rfl⟩
      have no := names_ok gw gs
      refine ⟨_, _, rfl, rest _ _ ⟨u, .ref q, ws, allS.take (m + 1), rfl, a3.gr0 g4, g1.trans (g13.trans g4.less), du.mono (g13.trans g4.less).2, .tup hq ?_, gw, gs⟩⟩
      have : ([V.str "stack", V.str "cell", V.str "s", V.str "yes"] : List V).take (m + 1) = (allS.take (m + 1)).map V.str := by rw [List.map_take]; rfl
      rw [this]
      exact texts_dds fun x hx => no.2.2.2 x (List.mem_append_right _ hx)
    rintro σ' H1 ⟨u, v, ws, sl, rfl, a1, g1, du, dv, gw, gs⟩
    have no := names_ok gw gs
    refine cut (fun σ' H' => ∃ (P : Addr) (w s h e : V) (hs : List Tm.Row), σ' = [some (.ref p), some u, some v, some (.ref P), none, none, none] ∧ HA H' p c ∧ Gr [p] H H' ∧ H' P = some (.tup [w, s, h, e]) ∧ Dd H' w (encW ws) ∧ Dd H' s (txts sl) ∧ Dd H' h (encH hs) ∧ GH (ws.map (·.1) ++ sl) hs) ?_ (fun rest => ?_)
    case refine_2 =>
      refine ⟨_, rfl, _, rfl, _, rfl, _, rfl, _, rfl, ?_⟩
      show spHeads [.ref p, u, v] H1 _ _
      refine spHeads_of ⟨p, c, u, v, ws, sl, rfl, a1, du, dv, no.1, no.2.1, no.2.2.1, no.2.2.2, fun x hs H2 a2 g2 gh dx => ?_⟩
      refine ⟨(by show 0 ≤ sizeLine; decide), fun t ht => ⟨(by show 4 ≤ sizeLine; decide), fun P hP => ?_⟩⟩
      have gt : Gr [] H2 (upd (upd H2 t (.tup [])) P (.tup [u, v, x, .ref t])) := (Gr.new ht).trans (Gr.new hP)
      exact rest _ _ ⟨P, _, _, _, _, hs, rfl, a2.gr0 gt, g1.trans (g2.trans gt.less), upd_same, (du.mono g2.2).mono gt.2, (dv.mono g2.2).mono gt.2, dx.mono gt.2, gh⟩
    rintro σ' H2 ⟨P, w0, s0, h0, e0, hs, rfl, a2, g2, hP, dw, ds, dh, gh⟩
    have pre := drawn_pre gw gs gh
    have pa : PartsAt H2 P ws sl hs := ⟨⟨_, _, _, _, hP, dw, ds, dh⟩⟩
    refine cut (fun σ' H' => ∃ (D : Addr) (n5 : Option V) (ys : List V), σ' = [some (.ref p), some u, some v, some (.ref P), some (.ref D), n5, none] ∧ HA H' p c ∧ Gr [p] H2 H' ∧ H' D = some (.lst ys) ∧ ys.length ≤ 5 ∧ ∀ (i : Nat) (y : V), ys[i]? = some y → y = .non ∨ ∃ l r, Dd H' y (encLaw (l, r)) ∧ LawOK ws hs l r) ?_ (fun rest => ?_)
    case refine_2 =>
      refine ⟨_, rfl, (by show 4 ≤ sizeLine; decide), fun l4 hl4 => ?_⟩
      show spSome [.ref p, .ref l4] _ _ _
      refine spSome_of ⟨p, c, l4, ([0, 1, 3, 5] : List Int).map V.int, rfl, a2.new hl4, .inl upd_same, a2.ne hl4, by simp, by simp, fun i x H3 hx a3 g3 => ?_⟩
      obtain ⟨n, hn, rfl⟩ := pickI hx
      obtain ⟨m, rfl, hm⟩ : ∃ m : Nat, n = (m : Int) ∧ m ≤ 5 := by
        simp only [List.mem_cons, List.not_mem_nil, or_false] at hn
        exact ⟨n.toNat, by omega, by omega⟩
      have g23 : Gr [p] H2 H3 := (Gr.new hl4).trans g3
      refine ⟨_, rfl, by omega, by omega, fun D hD => ?_⟩
      have Dp := a3.ne hD
      have Dc := a3.nec hD
      refine lc_mapY (n := m) walk_range [p] (fun _ H' => HA H' p c) (fun _ y H' => y = .non ∨ ∃ l r, Dd H' y (encLaw (l, r)) ∧ LawOK ws hs l r) hD (by simpa using Dp) (by omega) (fun _ _ => trivial) (fun _ y _ _ g h => h.imp id fun ⟨l, r, d, o⟩ => ⟨l, r, d.mono g.2, o⟩) (a3.new hD) (fun _ _ _ _ _ h => h.upd Dp Dc) ?_ ?_
      · rintro j y H10 H11 R hj g10 a10 ⟨rfl, rfl⟩ kR
        refine ⟨rfl, _, rfl, _, rfl, ?_⟩
        show spDL [.ref p, .ref P] _ _ _
        exact spDL_of ⟨p, c, P, ws, sl, hs, rfl, ⟨a10, pa.mono ((g23.2.trans (Ts.new hD)).trans g10.2), pre.1, pre.2.1, pre.2.2.1, pre.2.2.2.1, pre.2.2.2.2.1⟩, fun v H' a' g' hv => kR v H' g' a' hv⟩
      · rintro zs H10 g10 a10 hz hzn hy
        exact rest _ _ ⟨D, _, zs, rfl, a10, g23.trans g10, hz, by omega, hy⟩
    rintro σ' H3 ⟨D, n5, ys, rfl, a3, g3, hD, ly, hy⟩
    have hP3 := g3.2 _ _ hP
    refine ⟨_, rfl, _, rfl, P, _, rfl, hP3, fun q1 H4 g4 hq1 => ?_⟩
    have e3 : cutV [w0, s0, h0, e0] none (some ((3 : Int))) = [w0, s0, h0] := cut_take (r := 3)
    rw [e3] at hq1
    have hD4 := g4.same _ _ hD
    refine ⟨_, rfl, D, rfl, ⟨_, SqL.of hD4⟩, fun D2 hD2 => ?_⟩
    have hDD := ne_of_none hD4 hD2
    refine lc_it (walk_list (xs := ys)) (fun i H' => Gr [D2] (upd H4 D2 (.lst [])) H' ∧ ∃ zs ls, H' D2 = some (.lst zs) ∧ zs.length ≤ i ∧ Dds H' zs (ls.map encLaw) ∧ ∀ l ∈ ls, LawOK ws hs l.1 l.2) ⟨Gr.refl _ _, [], [], upd_same, Nat.le_refl _, .nil, fun _ h => nomatch h⟩ (fun i H' _ h => SqL.of (h.1.1 _ _ (by rw [upd_ne hDD]; exact hD4) (by simpa using hDD))) ?_ ?_
    · rintro i x H5 H6 hi ⟨g5, zs, ls, hzs, lz, dz, mem⟩ ⟨rfl, hx⟩
      have gg : Ts H3 H6 := (g4.2.trans (Ts.new hD2)).trans g5.2
      refine ⟨rfl, _, rfl, rfl, ?_⟩
      rcases hy i x hx with rfl | ⟨l, r, dl, ok⟩
      · exact ⟨false, by rw [decide_eq_true rfl]; rfl, iteF ⟨g5, zs, ls, hzs, by omega, dz, mem⟩⟩
      · obtain ⟨y, y1, y2, rfl, _⟩ := pair_law dl
        refine ⟨true, by rw [decide_eq_false (fun z => nomatch z)]; rfl, iteT ⟨_, rfl, zs, hzs, by rw [sizeLine_eq]; omega, ?_⟩⟩
        have gD : Gr [D2] H6 (upd H6 D2 (.lst (zs ++ [.ref y]))) := Gr.at hzs (fun _ z => nomatch z) List.mem_cons_self
        refine ⟨g5.trans gD, _, ls ++ [(l, r)], upd_same, by rw [List.length_append, List.length_singleton]; omega, ?_, fun l' hl' => ?_⟩
        · rw [List.map_append]
          exact (dz.mono gD.2).snoc ((dl.mono gg).mono gD.2)
        · rcases List.mem_append.mp hl' with h | h
          · exact mem l' h
          · rw [List.mem_singleton.mp h]
            exact ok
    · rintro H5 ⟨g5, zs, ls, hzs, lz, dz, mem⟩
      have g45 : Gr [] H4 H5 := ((Gr.new hD2).trans g5).since hD2
      refine ⟨D2, _, rfl, .inl ⟨SqL.of hzs, fun t ht => ⟨(by show 1 ≤ sizeLine; decide), fun u1 hu1 => ?_⟩⟩⟩
      have g6 : Gr [] H5 (upd (upd H5 t (.tup zs)) u1 (.tup [.ref t])) := (Gr.new ht).trans (Gr.new hu1)
      refine ⟨q1, u1, _, _, rfl, rfl, g6.2 _ _ (g45.2 _ _ hq1), upd_same, (by show 4 ≤ sizeLine; decide), fun a H7 g7 ha7 => ?_⟩
      have gend : Gr [] H3 H7 := ((g4.trans g45).trans g6).trans g7
      have g27 := g3.trans gend.less
      have ht7 : H7 t = some (.tup zs) := g7.2 _ _ ((Ts.new hu1) _ _ upd_same)
      refine k a H7 ws sl hs ls (a3.gr0 gend) (g2.trans g27) ⟨w0, s0, h0, .ref t, ha7, dw.mono g27.2, ds.mono g27.2, dh.mono g27.2, .tup ht7 (dz.mono (g6.trans g7).2)⟩ ⟨gw, gs, gh, ?_, mem⟩
      have := dz.map_len
      omega
theorem sc_law_made : FnScope ["parts"] ["parts"] (defScope s_law_made) := ⟨rfl, rfl, rfl, by decide +kernel, rfl, by decide +kernel, by decide +kernel⟩
theorem ok_law_made (T : Tx K mg) : FnOk P w K mg base CX0 68 T.f_law_made.f T.f_law_made.fd ["parts"] (spMade T.cDoor.C) := by
  have GD := ok_Door_init (P := P) (w := w) (base := base) T
  have MD : Mk K T.cDoor.C T.f_Door_init.f := T.f_Door_init.mk' T.cDoor.makes T.cDoor.kp rfl
  refine T.f_law_made.F.ok (k := 67) sc_law_made (fun vs H Q E h => ?_) (fun cdv A outer s H vs Q E hr h => ?_)
  · unfold spMade at h
    obtain ⟨a, ws, sl, hs, ls, rfl, _⟩ := h
    rfl
  · have nd := sc_law_made.nd
    refine ⟨_, (pss_one (ps_ret (pe_make MD GD (hr.mono (by omega)) rfl T.cDoor.g T.f_Door_init.b .nil pass0 (pa_cons (pe_ix (ixT K) (pv 0) pe_int (fun _ _ => rfl)) (pa_cons (pe_ix (ixT K) (pv 0) pe_int (fun _ _ => rfl)) (pa_cons (pe_ix (ixT K) (pv 0) pe_int (fun _ _ => rfl)) (pa_cons (pe_ix (ixT K) (pv 0) pe_int (fun _ _ => rfl)) pa_nil))))))), ?_⟩
    unfold spMade at h
    obtain ⟨a, ws, sl, hs, ls, rfl, ⟨v1, v2, v3, v4, ha, d1, d2, d3, d4⟩, good, k⟩ := h
    refine ⟨_, rfl, a, _, _, _, rfl, rfl, SqT.of ha, at0, _, rfl, a, _, _, _, rfl, rfl, SqT.of ha, at1, _, rfl, a, _, _, _, rfl, rfl, SqT.of ha, at2, _, rfl, a, _, _, _, rfl, rfl, SqT.of ha, at3, fun x dx hx hdx hne => ?_⟩
    have gx : Gr [] H (upd (upd H dx (.own x)) x (.ins T.cDoor.C dx [])) := (Gr.new hdx).trans (Gr.new (by rw [upd_ne (Ne.symm hne)]; exact hx))
    show spDoor T.cDoor.C [.ref x, v1, v2, v3, v4] _ _ _
    refine spDoor_of ⟨x, dx, _, _, _, _, ws, sl, hs, ls, rfl, upd_same, d1.mono gx.2, d2.mono gx.2, d3.mono gx.2, d4.mono gx.2, good, fun H' sh m g' h' => ⟨rfl, ?_⟩⟩
    have gg : Gr [x] H H' := gx.less.trans g'
    exact k x H' (gg.since hx) hx ⟨dx, sh, v1, v2, v3, v4, m, h', d1.mono gg.2, d2.mono gg.2, d3.mono gg.2, d4.mono gg.2⟩
theorem sc_law_stands : FnScope ["door", "parts"] ["door", "parts"] (defScope s_law_stands) := ⟨rfl, rfl, rfl, by decide +kernel, rfl, by decide +kernel, by decide +kernel⟩
theorem ok_law_stands (T : Tx K mg) : FnOk P w K mg base CX0 15 T.f_law_stands.f T.f_law_stands.fd ["door", "parts"] (spStands T.cDoor.C) := by
  refine T.f_law_stands.F.ok (k := 14) sc_law_stands (fun vs H Q E h => ?_) (fun cdv A outer s H vs Q E hr h => ?_)
  · unfold spStands at h
    obtain ⟨d, a, ws, sl, hs, ls, rfl, _⟩ := h
    rfl
  · have nd := sc_law_stands.nd
    refine ⟨_, (pss_one (ps_ret (pe_call (ok_law_is T 12) (hr.mono (by omega)) rfl T.f_law_is.g T.f_law_is.F.kp T.f_law_is.b .nil pass0 (pa_cons (pe_lst (pa_cons (fldK K (pv 0)) (pa_cons (fldK K (pv 0)) (pa_cons (fldK K (pv 0)) (pa_cons (fldK K (pv 0)) pa_nil))))) (pa_cons (pe_callTy call_list_of (by rfl) T.z_list (by decide +kernel) (pa_cons (pv 1) pa_nil)) pa_nil))))), ?_⟩
    unfold spStands at h
    obtain ⟨d, a, ws, sl, hs, ls, rfl, ⟨u1, u2, u3, u4, ha, e1, e2, e3, e4⟩, ⟨dx, sh, v1, v2, v3, v4, m, hd, d1, d2, d3, d4⟩, good, k⟩ := h
    obtain ⟨fd, fs⟩ := good.fine
    refine ⟨_, rfl, d, _, dx, _, _, rfl, hd, T.cDoor.cl, T.n_Door_words, dF_words, _, rfl, d, _, dx, _, _, rfl, hd, T.cDoor.cl, T.n_Door_sealed, dF_sealed, _, rfl, d, _, dx, _, _, rfl, hd, T.cDoor.cl, T.n_Door_heads, dF_heads, _, rfl, d, _, dx, _, _, rfl, hd, T.cDoor.cl, T.n_Door_laws, dF_laws, (by show 4 ≤ sizeLine; decide), fun l1 hl1 => ?_⟩
    have g1 : Gr [] H (upd H l1 (.lst [v1, v2, v3, v4])) := Gr.new hl1
    refine ⟨_, rfl, a, _, rfl, .inr (SqT.of (g1.2 _ _ ha)), fun l2 hl2 => ?_⟩
    have g2 : Gr [] H (upd (upd H l1 (.lst [v1, v2, v3, v4])) l2 (.lst [u1, u2, u3, u4])) := g1.trans (Gr.new hl2)
    refine ⟨.ref l1, .ref l2, rfl, .inr ⟨l1, l2, _, _, [encW ws, txts sl, encH hs, encL ls], rfl, rfl, (by rw [upd_ne (ne_of_none upd_same hl2)]; exact upd_same), upd_same, .cons (d1.mono g2.2) (.cons (d2.mono g2.2) (.cons (d3.mono g2.2) (.cons (d4.mono g2.2) .nil))), .cons (e1.mono g2.2) (.cons (e2.mono g2.2) (.cons (e3.mono g2.2) (.cons (e4.mono g2.2) .nil))), by omega, (by show 4 ≤ 1000; decide), fs⟩, fun H' g' => k _ (g2.trans g')⟩
end
end Dr
/-! t[::-1] of a tuple -/
namespace Dr
open PySem PySem.Spec PyProof.Rows L2
/-- what is picked at n-1, n-2 .. 0 stands the other way round -/
theorem picked_back (its : Array Value) : ((List.range its.size).filterMap fun (k : Nat) => its[(((its.size : Int) - 1) + (k : Int) * (-1)).toNat]?) = its.toList.reverse := by
  have h := PySem.W.krv_all its.toList.reverse.toArray
  simp only [List.size_toArray, List.length_reverse, Array.length_toList] at h
  rw [← h]
  have t : ∀ (l : List Nat) (f g : Nat → Option Value), (∀ x ∈ l, f x = g x) → l.filterMap f = l.filterMap g := by
    intro l f g hh
    induction l with
    | nil => rfl
    | cons a l ih => rw [List.filterMap_cons, List.filterMap_cons, hh a (by simp), ih (fun x hx => hh x (by simp [hx]))]
  apply t
  intro k hk
  have hk' : k < its.size := List.mem_range.mp hk
  have e : (((its.size : Int) - 1) + (k : Int) * (-1)).toNat = its.size - 1 - k := by omega
  simp only [e, List.getElem?_toArray]
  rw [List.getElem?_reverse (by simpa using hk')]
  simp
section
variable {prog : Program} {w : World} {A : Around} {E : Value → Shared → Prop} {s : Shared}
theorem applied_back {sl : Addr} {n : Nat} {u : Tok} {Q : Int × Int × Nat → Shared → Prop} (hs : s.heap.IsSliceOf sl .none .none (.int (-1) u)) (q : Q ((n : Int) - 1, -1, n) s) :
    wpAny (model prog w) A (Builtin.Slice.sliceApplied (.ref sl) (pure (n : Int))) Q E s := by
  have num : Builtin.Slice.slicePlaces ((n : Int) - 1) (-1) (-1) = n := by
    unfold Builtin.Slice.slicePlaces
    rw [if_neg (by decide)]
    rcases n with _ | n
    · rfl
    · rw [if_pos (by omega), show (-(-1) : Int) = 1 from rfl, Int.ediv_one]
      omega
  obtain ⟨_, g, _, f⟩ := hs
  unfold Builtin.Slice.sliceApplied Builtin.Slice.sliceFields
  have f0 := fun {Q : Value → Shared → Prop} (q : Q .none s) => wpAny_field (M := model prog w) (A := A) (E := E) (i := 0) g f (x := .none) rfl q
  have f1 := fun {Q : Value → Shared → Prop} (q : Q .none s) => wpAny_field (M := model prog w) (A := A) (E := E) (i := 1) g f (x := .none) rfl q
  have f2 := fun {Q : Value → Shared → Prop} (q : Q (.int (-1) u) s) => wpAny_field (M := model prog w) (A := A) (E := E) (i := 2) g f (x := .int (-1) u) rfl q
  apply wpAny_bind
  apply wpAny_bind (f0 _)
  apply wpAny_bind (f1 _)
  apply wpAny_bind (f2 _)
  apply wpAny_pure
  apply wpAny_bind (slicePart_int _)
  show wpAny _ _ (if ((-1 : Int) == 0) = true then _ else _) _ _ s
  rw [if_neg (by decide)]
  apply wpAny_bind (slicePart_none _)
  apply wpAny_bind (slicePart_none _)
  apply wpAny_bind (wpAny_pure _)
  apply wpAny_pure
  show Q ((n : Int) - 1, -1, Builtin.Slice.slicePlaces ((n : Int) - 1) (-1) (-1)) s
  rw [num]
  exact q
theorem item_back {t sl : Addr} {its : Array Value} {u : Tok} {Q : Value → Shared → Prop} (ht : IsTup s.heap t its) (hz : its.size ≤ sizeLine) (hs : s.heap.IsSliceOf sl .none .none (.int (-1) u))
    (q : Q (.ref s.heap.objs.size) { s with heap := s.heap.push { cls := .type "tuple", data := .seq its.toList.reverse.toArray } }) : wpAny (model prog w) A (getItem (.ref t) (.ref sl)) Q E s := by
  apply getItem_slot ht.typeIs (by decide) PyProof.Rows.slot_tuple_getitem
  apply wpAny_call_entry PyProof.Rows.slot_tuple_getitem ht.typeIs entry_tuple_getitem _ (args_tuple_getitem _ _)
  have hT : s.TypeIs (.ref sl) "slice" := by obtain ⟨o, g, c, _⟩ := hs; exact ⟨o, g, c⟩
  show wpAny _ _ (Builtin.Tuple.tupleItemsOf (.ref t) >>= _) _ _ s
  apply wpAny_bind (tupleItemsOf_ ht _)
  apply wpAny_bind (wpAny_typeOf hT _)
  rw [if_pos (by decide)]
  apply wpAny_bind (applied_back hs _)
  have no : ¬ ((((its.size : Int) - 1 == 0) && ((-1 : Int) == 1) && (its.size == its.size)) = true) := by simp
  show wpAny _ _ (if ((((its.size : Int) - 1 == 0) && ((-1 : Int) == 1) && (its.size == its.size)) = true) then _ else _) _ _ s
  rw [if_neg no, picked_back]
  have sz : sizeOk (.seq its.toList.reverse.toArray) := by
    show its.toList.reverse.toArray.size ≤ sizeLine
    simpa using hz
  apply wpAny_bind
  apply wpAny_newObj_type _ sz
  exact wpAny_pure ⟨_, rfl, q⟩
end
/-- t[::-1]: the tuple of its items, the last one first -/
def tRevT (te : TE) : TE := fun σ H Q => te σ H fun x H1 => ∃ a xs, x = .ref a ∧ H1 a = some (.tup xs) ∧ ∀ p H', Gr [] H1 H' → H' p = some (.tup xs.reverse) → Q (.ref p) H'
section
variable {X : Cx} {e : Expr} {te : TE} {k : Nat} {p1 p2 p3 pos : Pos}
theorem pe_revT (he : PE X e te) : PE X (.Subscript e (.Slice none none (some (.UnaryOp .USub (.Constant (.int 1) k p1) p2)) p3) pos) (tRevT te) := by
  constructor
  intro pins s σ H Q I go
  apply Subscript_
  apply thn (he.run pins s σ H _ I go)
  rintro v s1 ⟨x, H1, I1, rv, a, xs, rfl, sq, fin⟩
  cases rv
  apply wpAny_Slice
  rw [evalPart_none]
  apply wpAny_pure
  apply wpAny_pure
  have minus : PE X (.UnaryOp .USub (.Constant (.int 1) k p1) p2) (tUn (rU fun i => .int (-i)) (tC (.int 1))) := pe_un un_neg pe_int
  rw [evalPart_some]
  apply thn (minus.run pins s1 σ H1 (fun y H2 => y = .int (-1) ∧ H1 = H2) I1 ⟨1, rfl, rfl, rfl⟩)
  rintro vs s2 ⟨_, _, I2, rm, rfl, rfl⟩
  obtain ⟨u, rfl⟩ := rm
  have I3 : L2.Inv X pins σ H1 { s2 with heap := s2.heap.push { cls := .type "slice", data := .fields #[.none, .none, .int (-1) u] } } := I2.kept (t' := s2.toks) fun _ _ g => Heap.get?_push_of_some _ g
  obtain ⟨its, rel, ht, hz⟩ := I3.tuple (SqT.of sq)
  have hl := rel.length
  apply tail_any (ops := [.ref a, .ref s2.heap.objs.size]) ht.typeIs PyProof.Rows.slot_tuple_getitem.lookup _ (by with_unfolding_all rfl)
  apply item_back ht (by simpa [← hl] using hz) (Heap.IsSliceOf.new ..)
  have new := I3.hok.fresh (Nat.le_refl _)
  exact ⟨.ref _, _, I3.laid (t' := s2.toks) (o := .tup xs.reverse) (fun _ _ g => Heap.get?_push_of_some _ g) (Nat.le_refl _) ⟨by simpa using hz, _, rel.reverse, IsTup.new _ _⟩, rfl, fin _ _ (Gr.new new) upd_same⟩
end
end Dr
/-! the doors that differ in one thing -/
namespace Dr
open PySem L2
def Good1 (H : Hp) (y : V) : Prop := ∃ a ws sl hs ls, y = .ref a ∧ Four H a ws sl hs ls ∧ GoodDoor ws sl hs ls
theorem Good1.mono {H H' : Hp} {y : V} (h : Good1 H y) (g : Ts H H') : Good1 H' y := by
  obtain ⟨a, ws, sl, hs, ls, e, f, o⟩ := h
  exact ⟨a, ws, sl, hs, ls, e, f.mono g, o⟩
@[irreducible] def spOthers : Sp := fun vs H Q _ => ∃ (p a : Addr) (ws : List Wd) (sl : List Str) (hs : List Tm.Row) (ls : List (Tm × Tm)), vs = [.ref p, .ref a] ∧ Four H a ws sl hs ls ∧ Drawn ws sl hs ls ∧ ∀ fa ys H', Gr [] H H' → H' fa = some (.lst ys) → ys.length ≤ 10 → (∀ y ∈ ys, Good1 H' y) → Q (.ref fa) H'
theorem spOthers_of {vs : List V} {H : Hp} {Q : VK} {E : XK} (h : ∃ (p a : Addr) (ws : List Wd) (sl : List Str) (hs : List Tm.Row) (ls : List (Tm × Tm)), vs = [.ref p, .ref a] ∧ Four H a ws sl hs ls ∧ Drawn ws sl hs ls ∧ ∀ fa ys H', Gr [] H H' → H' fa = some (.lst ys) → ys.length ≤ 10 → (∀ y ∈ ys, Good1 H' y) → Q (.ref fa) H') : spOthers vs H Q E := by unfold spOthers; exact h
theorem snocs {α : Type} {f : α → D} {H : Hp} {a : Addr} {vs : List V} {xs : List α} {v : V} {x : α} (h : H a = some (.tup (vs ++ [v]))) (k : Dds H vs (xs.map f)) (e : Dd H v (f x)) : Dd H (.ref a) (.tup ((xs ++ [x]).map f)) := by
  rw [List.map_append]
  exact .tup h (k.snoc e)
/-- the list found so far -/
def Fnd (H0 H : Hp) (f : V) (n : Nat) : Prop := ∃ fa ys, f = .ref fa ∧ H0 fa = none ∧ Gr [] H0 H ∧ H fa = some (.lst ys) ∧ ys.length ≤ n ∧ ∀ y ∈ ys, Good1 H y
theorem Fnd.up {H0 H : Hp} {f : V} {n m : Nat} (h : Fnd H0 H f n) (k : n ≤ m) : Fnd H0 H f m := by
  obtain ⟨fa, ys, e, h0, g, h1, l, y⟩ := h
  exact ⟨fa, ys, e, h0, g, h1, by omega, y⟩
theorem Fnd.go {H0 H : Hp} {f : V} {n : Nat} (h : Fnd H0 H f n) : ∃ fa ys, f = .ref fa ∧ Gr [] H0 H ∧ H fa = some (.lst ys) ∧ ys.length ≤ n ∧ ∀ H' y, Gr [] H H' → Good1 H' y → H' fa = some (.lst ys) ∧ Fnd H0 (upd H' fa (.lst (ys ++ [y]))) f (n + 1) := by
  obtain ⟨fa, ys, rfl, h0, g, h1, l, o⟩ := h
  refine ⟨fa, ys, rfl, g, h1, l, fun H' y g' oy => ?_⟩
  have h2 : H' fa = some (.lst ys) := g'.1 _ _ h1 (by simp)
  have t : Ts H' (upd H' fa (.lst (ys ++ [y]))) := Ts.at h2 (fun _ z => nomatch z)
  refine ⟨h2, fa, _, rfl, h0, (g.trans g').upd2 h0, upd_same, by rw [List.length_append, List.length_singleton]; omega, fun x hx => ?_⟩
  rcases List.mem_append.mp hx with hx | hx
  · exact ((o x hx).mono g'.2).mono t
  · rw [List.mem_singleton.mp hx]
    exact oy.mono t
theorem Fnd.on {H0 H H' : Hp} {f : V} {n m : Nat} (h : Fnd H0 H f n) (g : Gr [] H H') (k : n ≤ m) : Fnd H0 H' f m := by
  obtain ⟨fa, ys, e, h0, g0, h1, l, o⟩ := h
  exact ⟨fa, ys, e, h0, g0.trans g, g.1 _ _ h1 (by simp), by omega, fun y hy => (o y hy).mono g.2⟩
theorem Fnd.all {H0 H : Hp} {fa : Addr} {n : Nat} {ys : List V} (h : Fnd H0 H (.ref fa) n) (e : H fa = some (.lst ys)) : ∀ y ∈ ys, Good1 H y := by
  obtain ⟨fb, zs, z, _, _, h1, _, o⟩ := h
  cases z
  rw [h1] at e
  cases e
  exact o
section
variable {P : Program} {w : World} {K : PySem.W.Frag} {mg : Str → Option Value} {base : Heap}
theorem sc_law_others : FnScope ["hand", "parts", "words", "sealed", "heads", "laws", "found"] ["hand", "parts"] (defScope s_law_others) := ⟨rfl, rfl, rfl, by decide +kernel, rfl, by decide +kernel, by decide +kernel⟩
theorem ok_law_others (T : Tx K mg) : FnOk P w K mg base CX0 10 T.f_law_others.f T.f_law_others.fd ["hand", "parts"] spOthers := by
  refine T.f_law_others.F.ok sc_law_others (fun vs H Q E h => ?_) (fun cdv A outer s H vs Q E hr h => ?_)
  · unfold spOthers at h
    obtain ⟨p, a, ws, sl, hs, ls, rfl, _⟩ := h
    rfl
  · have nd := sc_law_others.nd
    refine ⟨_, (pss_cons (ps_asg (pv 1) (pgT K 4 (pgs_cons (pg_name (i := 2) nd rfl (Or.inl rfl) (Or.inr rfl)) (pgs_cons (pg_name (i := 3) nd rfl (Or.inl rfl) (Or.inr rfl)) (pgs_cons (pg_name (i := 4) nd rfl (Or.inl rfl) (Or.inr rfl)) (pgs_cons (pg_name (i := 5) nd rfl (Or.inl rfl) (Or.inr rfl)) pgs_nil)))))) (pss_cons (ps_set (i := 6) nd rfl (Or.inl rfl) (pe_ifExp (pt_cmpR op_lt (pe_callB (lenK K) (by rfl) T.z_len (by decide +kernel) (pa_cons (pv 4) pa_nil)) pe_int (nomark _)) (pe_lst (pa_cons (pe_tup (pa_cons (pv 2) (pa_cons (pv 3) (pa_cons (pe_op op_catN (pv 4) (pe_tup (pa_cons (pe_tup (pa_cons pe_str (pa_cons (pe_tup pa_nil) (pa_cons (pe_ix (ixT K) (pv 3) pe_int (fun _ _ => rfl)) pa_nil)))) pa_nil))) (pa_cons (pv 5) pa_nil))))) pa_nil)) (pe_lst pa_nil))) (pss_cons (ps_if (pt_cmpR op_lt (pe_callB (lenK K) (by rfl) T.z_len (by decide +kernel) (pa_cons (pv 3) pa_nil)) pe_int (nomark _)) (pss_one (ps_expr (pe_bm PySem.F.plainAttrs_list PySem.F.slot_list_append PySem.F.type_list_append mt_append (pv 6) (pa_cons (pe_tup (pa_cons (pv 2) (pa_cons (pe_op op_catN (pv 3) (pe_tup (pa_cons pe_str pa_nil))) (pa_cons (pv 4) (pa_cons (pv 5) pa_nil))))) pa_nil)))) pss_nil) (pss_cons (ps_if (pt_cmpR op_lt (pe_callB (lenK K) (by rfl) T.z_len (by decide +kernel) (pa_cons (pv 2) pa_nil)) pe_int (nomark _)) (pss_one (ps_expr (pe_bm PySem.F.plainAttrs_list PySem.F.slot_list_append PySem.F.type_list_append mt_append (pv 6) (pa_cons (pe_tup (pa_cons (pe_op op_catN (pv 2) (pe_tup (pa_cons (pe_tup (pa_cons pe_str (pa_cons (pe_tup (pa_cons pe_str pa_nil)) pa_nil))) pa_nil))) (pa_cons (pv 3) (pa_cons (pv 4) (pa_cons (pv 5) pa_nil))))) pa_nil)))) pss_nil) (pss_cons (ps_if (pt_cmpR op_lt (pe_callB (lenK K) (by rfl) T.z_len (by decide +kernel) (pa_cons (pe_ix (ixT K) (pe_ix (ixT K) (pv 2) pe_int (fun _ _ => rfl)) pe_int (fun _ _ => rfl)) pa_nil)) pe_int (nomark _)) (pss_one (ps_expr (pe_bm PySem.F.plainAttrs_list PySem.F.slot_list_append PySem.F.type_list_append mt_append (pv 6) (pa_cons (pe_tup (pa_cons (pe_op op_catN (pe_tup (pa_cons (pe_tup (pa_cons (pe_ix (ixT K) (pe_ix (ixT K) (pv 2) pe_int (fun _ _ => rfl)) pe_int (fun _ _ => rfl)) (pa_cons (pe_op op_catN (pe_ix (ixT K) (pe_ix (ixT K) (pv 2) pe_int (fun _ _ => rfl)) pe_int (fun _ _ => rfl)) (pe_tup (pa_cons pe_str pa_nil))) pa_nil))) pa_nil)) (pe_slice sl_tupN (pv 2) (po_some pe_int) po_none)) (pa_cons (pv 3) (pa_cons (pv 4) (pa_cons (pv 5) pa_nil))))) pa_nil)))) pss_nil) (pss_cons (ps_if (pt_cmpR op_gt (pe_callB (lenK K) (by rfl) T.z_len (by decide +kernel) (pa_cons (pv 5) pa_nil)) pe_int (nomark _)) (pss_one (ps_set (i := 6) nd rfl (Or.inl rfl) (pe_op op_cat (pv 6) (pe_lst (pa_cons (pe_tup (pa_cons (pv 2) (pa_cons (pv 3) (pa_cons (pv 4) (pa_cons (pe_slice sl_tupN (pv 5) (po_some pe_int) po_none) pa_nil))))) (pa_cons (pe_tup (pa_cons (pv 2) (pa_cons (pv 3) (pa_cons (pv 4) (pa_cons (pe_op op_catN (pv 5) (pe_slice sl_tupN (pv 5) po_none (po_some pe_int))) pa_nil))))) pa_nil)))))) pss_nil) (pss_cons (ps_if (PW.pt (pw_and (pt_cmpR op_gt (pe_callB (lenK K) (by rfl) T.z_len (by decide +kernel) (pa_cons (pv 5) pa_nil)) pe_int (nomark _)) (pw_and1 (pt_cmpR (op_neN hr.units) (pe_revT (pv 5)) (pv 5) (nomark _))))) (pss_one (ps_expr (pe_bm PySem.F.plainAttrs_list PySem.F.slot_list_append PySem.F.type_list_append mt_append (pv 6) (pa_cons (pe_tup (pa_cons (pv 2) (pa_cons (pv 3) (pa_cons (pv 4) (pa_cons (pe_revT (pv 5)) pa_nil))))) pa_nil)))) pss_nil) (pss_cons (ps_if (pt_cmpR (op_eqN hr.units) (pv 5) (pe_tup pa_nil) (nomark _)) (pss_one (ps_expr (pe_bm PySem.F.plainAttrs_list PySem.F.slot_list_append PySem.F.type_list_append mt_append (pv 6) (pa_cons (pe_tup (pa_cons (pv 2) (pa_cons (pv 3) (pa_cons (pe_revT (pv 4)) (pa_cons (pv 5) pa_nil))))) pa_nil)))) pss_nil) (pss_one (ps_ret (pv 6))))))))))), ?_⟩
    unfold spOthers at h
    obtain ⟨p, a, ws, sl, hs, ls, rfl, fo, dr, k⟩ := h
    obtain ⟨w0, s0, h0, l0, ha, dw, ds, dh, dl⟩ := fo
    have good := dr.good
    have wl := good.wok.len
    have sll := good.sok.len
    have hl := good.hok.len
    have few := dr.few
    obtain ⟨aw, xw, rfl, hw, dws⟩ := dw.tup_inv
    obtain ⟨as, xs, rfl, hs', dss⟩ := ds.tup_inv
    obtain ⟨ah, xh, rfl, hh, dhs⟩ := dh.tup_inv
    obtain ⟨al, xl, rfl, hl', dls⟩ := dl.tup_inv
    have nw := dws.map_len
    have nsl := dss.map_len
    have nh := dhs.map_len
    have nl := dls.map_len
    obtain ⟨s1, sr, rfl⟩ : ∃ s1 sr, sl = s1 :: sr := by
      cases sl with
      | nil => exact absurd sll.1 (by simp)
      | cons a b => exact ⟨a, b, rfl⟩
    obtain ⟨x1, xr, rfl, dx1, _⟩ := dss.cons_inv
    obtain ⟨rfl, ok1⟩ := dx1.text_inv
    refine ⟨_, rfl, a, _, rfl, SqT.of ha, rfl, _, _, rfl, _, _, rfl, _, _, rfl, _, _, rfl, rfl, ?_⟩
    dsimp only
    refine cut (fun σ' H' => ∃ f, σ' = [some (.ref p), some (.ref a), some (.ref aw), some (.ref as), some (.ref ah), some (.ref al), some f] ∧ Fnd H H' f 1) ?_ (fun rest => ?_)
    case refine_2 =>
      refine ⟨_, rfl, ah, xh, rfl, .inr (SqT.of hh), _, _, rfl, rfl, _, rfl, ?_⟩
      by_cases c : (xh.length : Int) < 12
      · rw [decide_eq_true c]
        refine iteT ⟨_, rfl, _, rfl, _, rfl, (by show 0 ≤ sizeLine; decide), fun t ht => ⟨_, rfl, as, _, _, _, rfl, rfl, SqT.of (Ts.new ht _ _ hs'), at0, (by show 3 ≤ sizeLine; decide), fun r hr => ?_⟩⟩
        have g1 : Gr [] H (upd (upd H t (.tup [])) r (.tup [.str "other", .ref t, .str s1])) := (Gr.new ht).trans (Gr.new hr)
        have ht1 := Ts.new (o := .tup [.str "other", .ref t, .str s1]) hr _ _ (upd_same (H := H) (a := t) (o := .tup []))
        refine ⟨(by show 1 ≤ sizeLine; decide), fun q hq => ?_⟩
        have g2 : Gr [] (upd (upd H t (.tup [])) r (.tup [.str "other", .ref t, .str s1])) _ := Gr.new (o := .tup [.ref r]) hq
        refine ⟨ah, q, xh, _, rfl, rfl, g2.2 _ _ (g1.2 _ _ hh), upd_same, (by rw [sizeLine_eq, nh]; simp; omega), fun n H1 g3 hn => ⟨_, rfl, (by show 4 ≤ sizeLine; decide), fun p4 hp4 => ⟨(by show 1 ≤ sizeLine; decide), fun L hL => rest _ _ ⟨_, rfl, ?_⟩⟩⟩⟩
        have g4 : Gr [] H1 _ := Gr.new (o := .tup [.ref aw, .ref as, .ref n, .ref al]) hp4
        have g5 : Gr [] _ _ := Gr.new (o := .lst [.ref p4]) hL
        have gb : Gr [] (upd (upd H t (.tup [])) r (.tup [.str "other", .ref t, .str s1])) _ := ((g2.trans g3).trans g4).trans g5
        have ga := g1.trans gb
        refine ⟨L, _, rfl, (((g1.trans g2).trans g3).trans g4).fresh hL (by simp), ga, upd_same, Nat.le_refl _, fun y hy => ?_⟩
        rw [List.mem_singleton.mp hy]
        refine ⟨p4, ws, _, _, ls, rfl, ⟨_, _, _, _, g5.2 _ _ upd_same, dw.mono ga.2, ds.mono ga.2, snocs (x := (("other" : Str), ([] : List Str), s1)) ((g4.trans g5).2 _ _ hn) (dhs.mono ga.2) (.tup (gb.2 _ _ upd_same) (.cons (.text _ (by decide +kernel)) (.cons (.tup (gb.2 _ _ ht1) .nil) (.cons (.text _ ok1) .nil)))), dl.mono ga.2⟩, dr.head (by omega) List.mem_cons_self⟩
      · rw [decide_eq_false c]
        refine iteF ⟨(by show 0 ≤ sizeLine; decide), fun L hL => rest _ _ ⟨_, rfl, L, [], rfl, hL, Gr.new hL, upd_same, Nat.zero_le _, fun _ z => nomatch z⟩⟩
    rintro σ' H1 ⟨f, rfl, F⟩
    refine cut (fun σ' H' => ∃ f, σ' = [some (.ref p), some (.ref a), some (.ref aw), some (.ref as), some (.ref ah), some (.ref al), some f] ∧ Fnd H H' f 2) ?_ (fun rest => ?_)
    case refine_2 =>
      obtain ⟨fa, ys, rfl, g, hf, len, next⟩ := F.go
      refine ⟨_, rfl, as, _, rfl, .inr (SqT.of (g.2 _ _ hs')), _, _, rfl, rfl, _, rfl, ?_⟩
      by_cases c : ((V.str s1 :: xr).length : Int) < 4
      · rw [decide_eq_true c]
        refine iteT ⟨_, rfl, .inl ⟨rfl, _, SqL.of hf⟩, _, rfl, _, rfl, (by show 1 ≤ sizeLine; decide), fun t ht => ?_⟩
        have g1 : Gr [] H1 _ := Gr.new (o := .tup [.str "tower"]) ht
        refine ⟨as, t, _, _, rfl, rfl, (g.trans g1).2 _ _ hs', upd_same, (by rw [sizeLine_eq]; simp at c ⊢; omega), fun n H2 g2 hn => ⟨_, rfl, _, rfl, (by show 4 ≤ sizeLine; decide), fun p4 hp4 => ?_⟩⟩
        have g3 : Gr [] H2 _ := Gr.new (o := .tup [.ref aw, .ref n, .ref ah, .ref al]) hp4
        have gb := (g1.trans g2).trans g3
        have ga := g.trans gb
        obtain ⟨h2, F2⟩ := next _ (.ref p4) gb ⟨p4, ws, _, hs, ls, rfl, ⟨_, _, _, _, upd_same, dw.mono ga.2, snocs (x := ("tower" : Str)) (g3.2 _ _ hn) (dss.mono ga.2) (.text _ (by decide +kernel)), dh.mono ga.2, dl.mono ga.2⟩, dr.seal (by simp at c nsl ⊢; omega)⟩
        exact ⟨fa, ys, _, rfl, rfl, h2, by rw [sizeLine_eq]; omega, rest _ _ ⟨_, rfl, F2⟩⟩
      · rw [decide_eq_false c]
        exact iteF (rest _ _ ⟨_, rfl, F.up (by omega)⟩)
    rintro σ' H2 ⟨f, rfl, F⟩
    refine cut (fun σ' H' => ∃ f, σ' = [some (.ref p), some (.ref a), some (.ref aw), some (.ref as), some (.ref ah), some (.ref al), some f] ∧ Fnd H H' f 3) ?_ (fun rest => ?_)
    case refine_2 =>
      obtain ⟨fa, ys, rfl, g, hf, len, next⟩ := F.go
      refine ⟨_, rfl, aw, _, rfl, .inr (SqT.of (g.2 _ _ hw)), _, _, rfl, rfl, _, rfl, ?_⟩
      by_cases c : (xw.length : Int) < 4
      · rw [decide_eq_true c]
        refine iteT ⟨_, rfl, .inl ⟨rfl, _, SqL.of hf⟩, _, rfl, (by show 1 ≤ sizeLine; decide), fun t ht => ⟨(by show 2 ≤ sizeLine; decide), fun r hr => ⟨(by show 1 ≤ sizeLine; decide), fun q hq => ?_⟩⟩⟩
        have g1 : Gr [] H2 _ := Gr.new (o := .tup [.str "extra"]) ht
        have g2 : Gr [] (upd H2 t (.tup [.str "extra"])) _ := Gr.new (o := .tup [.str "more", .ref t]) hr
        have g3 : Gr [] (upd (upd H2 t (.tup [.str "extra"])) r (.tup [.str "more", .ref t])) _ := Gr.new (o := .tup [.ref r]) hq
        refine ⟨aw, q, _, _, rfl, rfl, (((g.trans g1).trans g2).trans g3).2 _ _ hw, upd_same, (by rw [sizeLine_eq]; simp at c ⊢; omega), fun n H3 g4 hn => ⟨_, rfl, _, rfl, _, rfl, (by show 4 ≤ sizeLine; decide), fun p4 hp4 => ?_⟩⟩
        have g5 : Gr [] H3 _ := Gr.new (o := .tup [.ref n, .ref as, .ref ah, .ref al]) hp4
        have gc := (g3.trans g4).trans g5
        have gb := (g1.trans g2).trans gc
        have ga := g.trans gb
        obtain ⟨h2, F2⟩ := next _ (.ref p4) gb ⟨p4, _, _, hs, ls, rfl, ⟨_, _, _, _, upd_same, snocs (x := moreW) (g5.2 _ _ hn) (dws.mono ga.2) (.tup (gc.2 _ _ upd_same) (.cons (.text _ (by decide +kernel)) (.cons (.tup ((g2.trans gc).2 _ _ upd_same) (.cons (.text _ (by decide +kernel)) .nil)) .nil))), ds.mono ga.2, dh.mono ga.2, dl.mono ga.2⟩, dr.more (by omega)⟩
        exact ⟨fa, ys, _, rfl, rfl, h2, by rw [sizeLine_eq]; omega, rest _ _ ⟨_, rfl, F2⟩⟩
      · rw [decide_eq_false c]
        exact iteF (rest _ _ ⟨_, rfl, F.up (by omega)⟩)
    rintro σ' H3 ⟨f, rfl, F⟩
    obtain ⟨w1, wr, rfl⟩ : ∃ w1 wr, ws = w1 :: wr := by
      cases ws with
      | nil => exact absurd wl.1 (by simp)
      | cons a b => exact ⟨a, b, rfl⟩
    obtain ⟨v1, xr', rfl, dv1, dwr⟩ := dws.cons_inv
    obtain ⟨b0, vs0, rfl, hb0, dv0⟩ := Dd.tup_inv (l := [.text w1.1, txts w1.2]) dv1
    obtain ⟨v2, vs1, rfl, dv2, dv3⟩ := dv0.cons_inv
    obtain ⟨v4, vs2, rfl, dv4, dv5⟩ := dv3.cons_inv
    cases dv5.nil_inv
    obtain ⟨rfl, okw⟩ := dv2.text_inv
    obtain ⟨b1, zs, rfl, hb1, dzs⟩ := dv4.tup_inv
    have nz := dzs.map_len
    have wz := (good.wok.each w1 List.mem_cons_self).2.2.1
    refine cut (fun σ' H' => ∃ f, σ' = [some (.ref p), some (.ref a), some (.ref aw), some (.ref as), some (.ref ah), some (.ref al), some f] ∧ Fnd H H' f 4) ?_ (fun rest => ?_)
    case refine_2 =>
      obtain ⟨fa, ys, rfl, g, hf, len, next⟩ := F.go
      refine ⟨_, rfl, aw, _, _, _, rfl, rfl, SqT.of (g.2 _ _ hw), at0, b0, _, _, _, rfl, rfl, SqT.of (g.2 _ _ hb0), at1, b1, _, rfl, .inr (SqT.of (g.2 _ _ hb1)), _, _, rfl, rfl, _, rfl, ?_⟩
      by_cases c : (zs.length : Int) < 4
      · rw [decide_eq_true c]
        refine iteT ⟨_, rfl, .inl ⟨rfl, _, SqL.of hf⟩, _, rfl, aw, _, _, _, rfl, rfl, SqT.of (g.2 _ _ hw), at0, b0, _, _, _, rfl, rfl, SqT.of (g.2 _ _ hb0), at0, ?_⟩
        refine ⟨_, rfl, aw, _, _, _, rfl, rfl, SqT.of (g.2 _ _ hw), at0, b0, _, _, _, rfl, rfl, SqT.of (g.2 _ _ hb0), at1, (by show 1 ≤ sizeLine; decide), fun t ht => ?_⟩
        have g1 : Gr [] H3 _ := Gr.new (o := .tup [.str "extra"]) ht
        refine ⟨b1, t, _, _, rfl, rfl, (g.trans g1).2 _ _ hb1, upd_same, (by rw [sizeLine_eq]; simp at c ⊢; omega), fun n Hn gn hn => ⟨(by show 2 ≤ sizeLine; decide), fun r hr => ⟨(by show 1 ≤ sizeLine; decide), fun q hq => ?_⟩⟩⟩
        have g2 : Gr [] Hn _ := Gr.new (o := .tup [.str w1.1, .ref n]) hr
        have g3 : Gr [] (upd Hn r (.tup [.str w1.1, .ref n])) _ := Gr.new (o := .tup [.ref r]) hq
        have gq := (((g.trans g1).trans gn).trans g2).trans g3
        refine ⟨_, rfl, _, rfl, aw, _, rfl, gq.2 _ _ hw, fun u Hu gu hu => ?_⟩
        rw [cut1] at hu
        refine ⟨q, u, _, _, rfl, rfl, gu.2 _ _ upd_same, hu, (by rw [sizeLine_eq]; simp at nw wl ⊢; omega), fun m Hm gm hm => ⟨_, rfl, _, rfl, _, rfl, (by show 4 ≤ sizeLine; decide), fun p4 hp4 => ?_⟩⟩
        have g5 : Gr [] Hm _ := Gr.new (o := .tup [.ref m, .ref as, .ref ah, .ref al]) hp4
        have gd := (gu.trans gm).trans g5
        have gc := (g2.trans g3).trans gd
        have gb := (g1.trans gn).trans gc
        have ga := g.trans gb
        obtain ⟨h2, F2⟩ := next _ (.ref p4) gb ⟨p4, (w1.1, w1.2 ++ [("extra" : Str)]) :: wr, _, hs, ls, rfl, ⟨_, _, _, _, upd_same, .tup (g5.2 _ _ hm) (.cons (.tup ((g3.trans gd).2 _ _ upd_same) (.cons (.text _ okw) (.cons (snocs (gc.2 _ _ hn) (dzs.mono ga.2) (.text _ (by decide +kernel))) .nil))) (dwr.mono ga.2)), ds.mono ga.2, dh.mono ga.2, dl.mono ga.2⟩, dr.ext (decide_eq_true (by omega))⟩
        exact ⟨fa, ys, _, rfl, rfl, h2, by rw [sizeLine_eq]; omega, rest _ _ ⟨_, rfl, F2⟩⟩
      · rw [decide_eq_false c]
        exact iteF (rest _ _ ⟨_, rfl, F.up (by omega)⟩)
    rintro σ' H4 ⟨f, rfl, F⟩
    refine cut (fun σ' H' => ∃ f, σ' = [some (.ref p), some (.ref a), some (.ref aw), some (.ref as), some (.ref ah), some (.ref al), some f] ∧ Fnd H H' f 6) ?_ (fun rest => ?_)
    case refine_2 =>
      obtain ⟨fa, ys, rfl, g, hf, len, next⟩ := F.go
      refine ⟨_, rfl, al, _, rfl, .inr (SqT.of (g.2 _ _ hl')), _, _, rfl, rfl, _, rfl, ?_⟩
      by_cases c : (0 : Int) < (xl.length : Int)
      · rw [decide_eq_true c]
        refine iteT ⟨_, rfl, _, rfl, _, rfl, _, rfl, _, rfl, _, rfl, al, _, rfl, g.2 _ _ hl', fun u Hu gu hu => ⟨(by show 4 ≤ sizeLine; decide), fun q hq => ?_⟩⟩
        rw [cut1] at hu
        have g1 : Gr [] Hu _ := Gr.new (o := .tup [.ref aw, .ref as, .ref ah, .ref u]) hq
        have gq := (g.trans gu).trans g1
        refine ⟨_, rfl, _, rfl, _, rfl, _, rfl, _, rfl, _, rfl, al, _, rfl, gq.2 _ _ hl', fun v Hv gv hv => ?_⟩
        rw [show (1 : Int) = ((1 : Nat) : Int) from rfl, cut_take] at hv
        refine ⟨al, v, _, _, rfl, rfl, (gq.trans gv).2 _ _ hl', hv, (by rw [sizeLine_eq, List.length_take]; omega), fun n Hn gn hn => ⟨(by show 4 ≤ sizeLine; decide), fun r hr => ⟨(by show 2 ≤ sizeLine; decide), fun L hL => ?_⟩⟩⟩
        have g2 : Gr [] Hn _ := Gr.new (o := .tup [.ref aw, .ref as, .ref ah, .ref n]) hr
        have g3 : Gr [] (upd Hn r (.tup [.ref aw, .ref as, .ref ah, .ref n])) _ := Gr.new (o := .lst [.ref q, .ref r]) hL
        have gz := ((gv.trans gn).trans g2).trans g3
        have gy := (gu.trans g1).trans gz
        refine ⟨fa, L, ys, _, rfl, rfl, gy.1 _ _ hf (by simp), upd_same, (by rw [sizeLine_eq]; simp; omega), fun M hM => rest _ _ ⟨_, rfl, M, _, rfl, (g.trans gy).fresh hM (by simp), (g.trans gy).upd2 ((g.trans gy).fresh hM (by simp)), upd_same, by simp; omega, fun y hy => ?_⟩⟩
        have gM : Gr [] (upd (upd Hn r (.tup [.ref aw, .ref as, .ref ah, .ref n])) L (.lst [.ref q, .ref r])) _ := Gr.new (o := .lst (ys ++ [.ref q, .ref r])) hM
        have ga := (g.trans gy).trans gM
        rcases List.mem_append.mp hy with hy | hy
        · exact (F.all hf y hy).mono (gy.trans gM).2
        · rcases List.mem_cons.mp hy with rfl | hy
          · refine ⟨q, w1 :: wr, s1 :: sr, hs, ls.drop 1, rfl, ⟨_, _, _, _, (gz.trans gM).2 _ _ upd_same, dw.mono ga.2, ds.mono ga.2, dh.mono ga.2, ?_⟩, dr.some (by simp; omega) fun x hx => List.mem_of_mem_drop hx⟩
            unfold encL
            rw [List.map_drop]
            exact .tup (((g1.trans gz).trans gM).2 _ _ hu) ((dls.mono ga.2).drop 1)
          · rw [List.mem_singleton.mp hy]
            refine ⟨r, w1 :: wr, s1 :: sr, hs, ls ++ ls.take 1, rfl, ⟨_, _, _, _, (g3.trans gM).2 _ _ upd_same, dw.mono ga.2, ds.mono ga.2, dh.mono ga.2, ?_⟩, dr.some (by simp; omega) fun x hx => ?_⟩
            · unfold encL
              rw [List.map_append, List.map_take]
              exact .tup (((g2.trans g3).trans gM).2 _ _ hn) ((dls.mono ga.2).append ((dls.mono ga.2).take 1))
            · rcases List.mem_append.mp hx with hx | hx
              · exact hx
              · exact List.mem_of_mem_take hx
      · rw [decide_eq_false c]
        exact iteF (rest _ _ ⟨_, rfl, F.up (by omega)⟩)
    rintro σ' H5 ⟨f, rfl, F⟩
    have fin1 := good.fine.1
    have goodR := dr.some (ls' := ls.reverse) (by rw [List.length_reverse]; omega) fun x hx => List.mem_reverse.mp hx
    have fin2 := goodR.fine.1
    simp only [NestedKey.depthAll] at fin1 fin2
    refine cut (fun σ' H' => ∃ f, σ' = [some (.ref p), some (.ref a), some (.ref aw), some (.ref as), some (.ref ah), some (.ref al), some f] ∧ Fnd H H' f 7) ?_ (fun rest => ?_)
    case refine_2 =>
      obtain ⟨fa, ys, rfl, g, hf, len, next⟩ := F.go
      refine ⟨_, rfl, al, _, rfl, .inr (SqT.of (g.2 _ _ hl')), _, _, rfl, rfl, _, rfl, ?_⟩
      by_cases c : (1 : Int) < (xl.length : Int)
      · rw [decide_eq_true c]
        refine iteT ⟨_, rfl, al, _, rfl, g.2 _ _ hl', fun n Hn gn hn => ⟨_, rfl, encL ls.reverse, encL ls, ?_, dl.mono (g.trans gn).2, by omega, by omega, ?_⟩⟩
        · unfold encL
          rw [List.map_reverse]
          exact .tup hn (dls.mono (g.trans gn).2).rev
        by_cases e : encL ls.reverse = encL ls
        · refine ⟨_, rfl, ?_⟩
          rw [decide_eq_true e]
          exact iteF (rest _ _ ⟨_, rfl, F.on gn (by omega)⟩)
        · refine ⟨_, rfl, ?_⟩
          rw [decide_eq_false e]
          have gn' := g.trans gn
          refine iteT ⟨_, rfl, .inl ⟨rfl, _, SqL.of (gn.1 _ _ hf (by simp))⟩, _, rfl, _, rfl, _, rfl, _, rfl, al, _, rfl, gn'.2 _ _ hl', fun u Hu gu hu => ⟨(by show 4 ≤ sizeLine; decide), fun q hq => ?_⟩⟩
          have g1 : Gr [] Hu _ := Gr.new (o := .tup [.ref aw, .ref as, .ref ah, .ref u]) hq
          have gb := (gn.trans gu).trans g1
          have ga := g.trans gb
          obtain ⟨h2, F2⟩ := next _ (.ref q) gb ⟨q, _, _, hs, ls.reverse, rfl, ⟨_, _, _, _, upd_same, dw.mono ga.2, ds.mono ga.2, dh.mono ga.2, by
            unfold encL
            rw [List.map_reverse]
            exact .tup (g1.2 _ _ hu) (dls.mono ga.2).rev⟩, goodR⟩
          exact ⟨fa, ys, _, rfl, rfl, h2, by rw [sizeLine_eq]; omega, rest _ _ ⟨_, rfl, F2⟩⟩
      · rw [decide_eq_false c]
        exact iteF (iteF (rest _ _ ⟨_, rfl, F.up (by omega)⟩))
    rintro σ' H6 ⟨f, rfl, F⟩
    refine cut (fun σ' H' => ∃ f, σ' = [some (.ref p), some (.ref a), some (.ref aw), some (.ref as), some (.ref ah), some (.ref al), some f] ∧ Fnd H H' f 8) ?_ (fun rest => ?_)
    case refine_2 =>
      obtain ⟨fa, ys, rfl, g, hf, len, next⟩ := F.go
      refine ⟨_, rfl, (by show 0 ≤ sizeLine; decide), fun t ht => ?_⟩
      have g1 : Gr [] H6 _ := Gr.new (o := .tup []) ht
      refine ⟨encL ls, .tup [], dl.mono (g.trans g1).2, .tup upd_same .nil, by omega, by simp [NestedKey.depth, NestedKey.depthAll], ?_⟩
      refine ⟨_, rfl, ?_⟩
      by_cases e : encL ls = .tup []
      · rw [decide_eq_true e]
        have e0 : ls = [] := by
          cases ls with
          | nil => rfl
          | cons a b => simp [encL] at e
        have gt := g.trans g1
        refine iteT ⟨_, rfl, .inl ⟨rfl, _, SqL.of (g1.1 _ _ hf (by simp))⟩, _, rfl, _, rfl, _, rfl, ah, _, rfl, gt.2 _ _ hh, fun u Hu gu hu => ⟨_, rfl, (by show 4 ≤ sizeLine; decide), fun q hq => ?_⟩⟩
        have g2 : Gr [] Hu _ := Gr.new (o := .tup [.ref aw, .ref as, .ref u, .ref al]) hq
        have gb := (g1.trans gu).trans g2
        have ga := g.trans gb
        obtain ⟨h2, F2⟩ := next _ (.ref q) gb ⟨q, _, _, hs.reverse, [], rfl, ⟨_, _, _, _, upd_same, dw.mono ga.2, ds.mono ga.2, by
          unfold encH
          rw [List.map_reverse]
          exact .tup (g2.2 _ _ hu) (dhs.mono ga.2).rev, by rw [e0] at dl; exact dl.mono ga.2⟩, dr.rev⟩
        exact ⟨fa, ys, _, rfl, rfl, h2, by rw [sizeLine_eq]; omega, rest _ _ ⟨_, rfl, F2⟩⟩
      · rw [decide_eq_false e]
        exact iteF (rest _ _ ⟨_, rfl, F.on g1 (by omega)⟩)
    rintro σ' H7 ⟨f, rfl, F⟩
    obtain ⟨fa, ys, rfl, g, hf, len, next⟩ := F.go
    exact ⟨_, rfl, k fa ys H7 g hf (by omega) (F.all hf)⟩
end
end Dr
/-! the known door -/
namespace Dr
open PySem L2
def ws0 : List Wd := [("bit", ["no", "yes"])]
def sl0 : List Str := ["stack"]
def hs0 : List Tm.Row := [("empty", [], "stack"), ("push", ["bit", "stack"], "stack"), ("pop", ["stack"], "stack")]
def hPop : Hd := ⟨"pop", by decide +kernel⟩
def hPush : Hd := ⟨"push", by decide +kernel⟩
def ls0 : List (Tm × Tm) := [(.c hPop [.c hPush [.u 0, .u 1]], .u 1)]
def kT0 : _root_.Fin 1000 → Option Str := fun n => if n = 0 then some "bit" else some "stack"
theorem law0 : LawOK ws0 hs0 (.c hPop [.c hPush [.u 0, .u 1]]) (.u 1) := by
  refine ⟨⟨hPop, _, kT0, "stack", rfl, ?_, ?_⟩, by decide +kernel, by decide +kernel, ?_, by decide +kernel, ?_⟩
  · show Tm.kd (wkOf ws0) hs0 kT0 _ "stack" = true
    decide +kernel
  · show Tm.kd (wkOf ws0) hs0 kT0 _ "stack" = true
    decide +kernel
  · decide +kernel
  · rw [Tm.above_cu]
    decide +kernel
theorem good0 : GoodDoor ws0 sl0 hs0 ls0 := by
  have w : wB ws0 = true := by decide +kernel
  have s : sB ws0 sl0 = true := by decide +kernel
  have n : nB (hs0.map (·.1)) = true := by decide +kernel
  refine ⟨(wok_of w).1, (sok_of s).1, hok_of rfl n ?_ ?_ (fun k hk => ((sok_of s).2 k hk).1) (fun _ z => z), by decide, fun l hl => ?_⟩
  · decide +kernel
  · decide +kernel
  · rw [List.mem_singleton.mp hl]
    exact law0
@[irreducible] def spKnown : Sp := fun vs H Q _ => vs = [] ∧ ∀ H', Gr [] H H' → Q (.bl true) H'
theorem spKnown_of {vs : List V} {H : Hp} {Q : VK} {E : XK} (h : vs = [] ∧ ∀ H', Gr [] H H' → Q (.bl true) H') : spKnown vs H Q E := by unfold spKnown; exact h
section
variable {P : Program} {w : World} {K : PySem.W.Frag} {mg : Str → Option Value} {base : Heap}
theorem sc_law_is_known_right : FnScope ["heads", "laws", "parts"] [] (defScope s_law_is_known_right) := ⟨rfl, rfl, rfl, by decide +kernel, rfl, by decide +kernel, by decide +kernel⟩
theorem ok_law_is_known_right (T : Tx K mg) : FnOk P w K mg base CX0 70 T.f_law_is_known_right.f T.f_law_is_known_right.fd [] spKnown := by
  refine T.f_law_is_known_right.F.ok sc_law_is_known_right (fun vs H Q E h => ?_) (fun cdv A outer s H vs Q E hr h => ?_)
  · unfold spKnown at h
    rw [h.1]
    rfl
  · have nd := sc_law_is_known_right.nd
    refine ⟨_, (pss_cons (ps_set (i := 0) nd rfl (Or.inl rfl) (pd_tup (pda_cons (pd_tup (pda_cons (pd_str (x := "empty") (by decide +kernel)) (pda_cons (pd_tup pda_nil) (pda_cons (pd_str (x := "stack") (by decide +kernel)) pda_nil)))) (pda_cons (pd_tup (pda_cons (pd_str (x := "push") (by decide +kernel)) (pda_cons (pd_tup (pda_cons (pd_str (x := "bit") (by decide +kernel)) (pda_cons (pd_str (x := "stack") (by decide +kernel)) pda_nil))) (pda_cons (pd_str (x := "stack") (by decide +kernel)) pda_nil)))) (pda_cons (pd_tup (pda_cons (pd_str (x := "pop") (by decide +kernel)) (pda_cons (pd_tup (pda_cons (pd_str (x := "stack") (by decide +kernel)) pda_nil)) (pda_cons (pd_str (x := "stack") (by decide +kernel)) pda_nil)))) pda_nil))))) (pss_cons (ps_set (i := 1) nd rfl (Or.inl rfl) (pd_tup (pda_cons (pd_tup (pda_cons (pd_tup (pda_cons (pd_str (x := "pop") (by decide +kernel)) (pda_cons (pd_tup (pda_cons (pd_str (x := "push") (by decide +kernel)) (pda_cons (pd_tup (pda_cons (pd_str (x := "?") (by decide +kernel)) (pda_cons (pd_int (i := 0)) pda_nil))) (pda_cons (pd_tup (pda_cons (pd_str (x := "?") (by decide +kernel)) (pda_cons (pd_int (i := 1)) pda_nil))) pda_nil)))) pda_nil))) (pda_cons (pd_tup (pda_cons (pd_str (x := "?") (by decide +kernel)) (pda_cons (pd_int (i := 1)) pda_nil))) pda_nil))) pda_nil))) (pss_cons (ps_set (i := 2) nd rfl (Or.inl rfl) (pe_tup (pa_cons (pd_tup (pda_cons (pd_tup (pda_cons (pd_str (x := "bit") (by decide +kernel)) (pda_cons (pd_tup (pda_cons (pd_str (x := "no") (by decide +kernel)) (pda_cons (pd_str (x := "yes") (by decide +kernel)) pda_nil))) pda_nil))) pda_nil)) (pa_cons (pd_tup (pda_cons (pd_str (x := "stack") (by decide +kernel)) pda_nil)) (pa_cons (pv 0) (pa_cons (pv 1) pa_nil)))))) (pss_one (ps_ret (pe_call (ok_law_stands T) (hr.mono (by omega)) rfl T.f_law_stands.g T.f_law_stands.F.kp T.f_law_stands.b .nil pass0 (pa_cons (pe_call (ok_law_made T) (hr.mono (by omega)) rfl T.f_law_made.g T.f_law_made.F.kp T.f_law_made.b .nil pass0 (pa_cons (pv 2) pa_nil)) (pa_cons (pv 2) pa_nil)))))))), ?_⟩
    unfold spKnown at h
    obtain ⟨rfl, k⟩ := h
    intro vh H1 g1 dh
    have dh : Dd H1 vh (encH hs0) := dh
    dsimp only
    refine cut (fun σ' H' => ∃ vl, σ' = [some vh, some vl, none] ∧ Gr [] H1 H' ∧ Dd H' vl (encL ls0)) ?_ (fun rest => ?_)
    case refine_2 =>
      intro vl H2 g2 dl
      exact rest _ _ ⟨vl, rfl, g2, dl⟩
    rintro σ' H2 ⟨vl, rfl, g2, dl⟩
    refine cut (fun σ' H' => ∃ a, σ' = [some vh, some vl, some (.ref a)] ∧ Gr [] H2 H' ∧ Four H' a ws0 sl0 hs0 ls0) ?_ (fun rest => ?_)
    case refine_2 =>
      intro vw H3 g3 dw vs H4 g4 ds
      refine ⟨_, rfl, _, rfl, (by show 4 ≤ sizeLine; decide), fun a ha => rest _ _ ⟨a, rfl, (g3.trans g4).trans (Gr.new ha), ?_⟩⟩
      have g5 : Gr [] H4 _ := Gr.new (o := .tup [vw, vs, vh, vl]) ha
      have g35 := (g3.trans g4).trans g5
      exact ⟨_, _, _, _, upd_same, dw.mono (g4.trans g5).2, ds.mono g5.2, (dh.mono g2.2).mono g35.2, dl.mono g35.2⟩
    rintro σ' H3 ⟨a, rfl, g3, fo⟩
    refine ⟨_, rfl, ?_⟩
    show spMade T.cDoor.C [.ref a] H3 _ _
    refine spMade_of ⟨a, _, _, _, _, rfl, fo, good0, fun d H4 g4 _ dd => ⟨_, rfl, ?_⟩⟩
    show spStands T.cDoor.C [.ref d, .ref a] H4 _ _
    exact spStands_of ⟨d, a, _, _, _, _, rfl, fo.mono g4.2, dd, good0, fun H5 g5 => k _ ((((g1.trans g2).trans g3).trans g4).trans g5)⟩
end
end Dr
/-! the law -/
namespace Dr
open PySem L2
def four (ws : List Wd) (sl : List Str) (hs : List Tm.Row) (ls : List (Tm × Tm)) : D := .tup [encW ws, txts sl, encH hs, encL ls]
theorem Four.dd {H : Hp} {a : Addr} {ws : List Wd} {sl : List Str} {hs : List Tm.Row} {ls : List (Tm × Tm)} (h : Four H a ws sl hs ls) : Dd H (.ref a) (four ws sl hs ls) := by
  obtain ⟨w, s, h, l, h0, h1, h2, h3, h4⟩ := h
  exact .tup h0 (.cons h1 (.cons h2 (.cons h3 (.cons h4 .nil))))
theorem GoodDoor.low {ws : List Wd} {sl : List Str} {hs : List Tm.Row} {ls : List (Tm × Tm)} (h : GoodDoor ws sl hs ls) : (four ws sl hs ls).depth ≤ 60 := by
  have := h.fine.1
  unfold four
  simp only [NestedKey.depth]
  omega
section
variable {C : Addr} {H : Hp} {Q : VK} {d d2 : Addr} {ws ws' : List Wd} {sl sl' : List Str} {hs hs' : List Tm.Row} {ls ls' : List (Tm × Tm)} {y : V}
theorem DoorOf.gr {S : List Addr} {H' : Hp} (h : DoorOf C H d ws sl hs ls) (g : Gr S H H') (n : d ∉ S) : DoorOf C H' d ws sl hs ls := DoorIs.gr h g n
theorem own_door (neg : Bool) (h : DoorOf C H d ws sl hs ls) (h2 : DoorOf C H d2 ws' sl' hs' ls') (g : GoodDoor ws sl hs ls) (g2 : GoodDoor ws' sl' hs' ls') (k : ∀ H', Gr [] H H' → Q (.bl (xor neg (decide (four ws sl hs ls = four ws' sl' hs' ls')))) H') : rOwn C (spEqD C) neg (.ref d) (.ref d2) H Q := by
  obtain ⟨dx, sh, v1, v2, v3, v4, m, h0, _⟩ := id h
  obtain ⟨dx2, _, _, _, _, _, _, h20, _⟩ := id h2
  refine ⟨d, dx, _, rfl, h0, .ins h20, spEqD_of ⟨d, _, _, _, _, _, rfl, h, .inr ⟨d2, _, _, _, _, rfl, h2, g.low, g2.low, fun H' g' => ⟨_, rfl, ?_⟩⟩⟩⟩
  have := k H' g'
  cases neg
  · simpa [four] using this
  · simpa [four] using this
theorem own_nd (neg : Bool) (h : DoorOf C H d ws sl hs ls) (n : Nd H y) (k : Q (.bl neg) H) : rOwn C (spEqD C) neg (.ref d) y H Q := by
  obtain ⟨dx, sh, v1, v2, v3, v4, m, h0, _⟩ := id h
  refine ⟨d, dx, _, rfl, h0, n.rt, spEqD_of ⟨d, _, _, _, _, _, rfl, h, .inl ⟨n, _, rfl, ?_⟩⟩⟩
  cases neg <;> exact k
end
/-- what the door is not equal to -/
def Rgt (C : Addr) (H : Hp) (f : D) (y : V) : Prop := Nd H y ∨ ∃ d ws sl hs ls, y = .ref d ∧ DoorOf C H d ws sl hs ls ∧ GoodDoor ws sl hs ls ∧ f ≠ four ws sl hs ls
theorem Nd.gr {H H' : Hp} {y : V} (n : Nd H y) (g : Gr [] H H') : Nd H' y := by
  cases n with
  | non => exact .non
  | int i => exact .int i
  | str x => exact .str x
  | lst h => exact .lst (g.same _ _ h)
  | tup h => exact .tup (g.same _ _ h)
theorem Rgt.gr {C : Addr} {H H' : Hp} {f : D} {y : V} (r : Rgt C H f y) (g : Gr [] H H') : Rgt C H' f y := by
  rcases r with n | ⟨d, ws, sl, hs, ls, e, o, go, ne⟩
  · exact .inl (n.gr g)
  · exact .inr ⟨d, ws, sl, hs, ls, e, o.gr g (by simp), go, ne⟩
theorem Rgt.upd {C : Addr} {H : Hp} {f : D} {y : V} {D : Addr} {zs ys : List V} (e : H D = some (.lst zs)) (r : Rgt C H f y) : Rgt C (upd H D (.lst ys)) f y := by
  have g : Gr [D] H (L2.upd H D (.lst ys)) := Gr.at e (fun _ z => nomatch z) List.mem_cons_self
  rcases r with n | ⟨d, ws, sl, hs, ls, rfl, o, go, ne⟩
  · refine .inl ?_
    cases n with
    | non => exact .non
    | int i => exact .int i
    | str x => exact .str x
    | tup h => exact .tup (g.2 _ _ h)
    | @lst a xs h =>
      by_cases z : a = D
      · rw [z]
        exact .lst upd_same
      · exact .lst (g.1 _ _ h (by simpa using z))
  · refine .inr ⟨d, ws, sl, hs, ls, rfl, o.gr g ?_, go, ne⟩
    obtain ⟨_, _, _, _, _, _, _, h0, _⟩ := o
    rw [List.mem_singleton]
    rintro rfl
    rw [h0] at e
    cases e
theorem Rgt.own {C : Addr} {H : Hp} {Q : VK} {d : Addr} {ws : List Wd} {sl : List Str} {hs : List Tm.Row} {ls : List (Tm × Tm)} {y : V} (neg : Bool) (r : Rgt C H (four ws sl hs ls) y) (h : DoorOf C H d ws sl hs ls) (go : GoodDoor ws sl hs ls) (k : ∀ H', Gr [] H H' → Q (.bl neg) H') : rOwn C (spEqD C) neg (.ref d) y H Q := by
  rcases r with n | ⟨d2, ws', sl', hs', ls', rfl, o, go', ne⟩
  · exact own_nd neg h n (k H (Gr.refl _ H))
  · refine own_door neg h o go go' fun H' g => ?_
    rw [decide_eq_false ne, Bool.xor_false]
    exact k H' g
@[irreducible] def spLaw (K : PySem.W.Frag) : Sp := fun vs H Q _ => ∃ (a : Addr) (ns : List Int), vs = [.ref a] ∧ SqL K H a (ns.map V.int) ∧ ns.length ≤ 63 ∧ ∀ H', Q (.bl true) H'
theorem spLaw_of {K : PySem.W.Frag} {vs : List V} {H : Hp} {Q : VK} {E : XK} (h : ∃ (a : Addr) (ns : List Int), vs = [.ref a] ∧ SqL K H a (ns.map V.int) ∧ ns.length ≤ 63 ∧ ∀ H', Q (.bl true) H') : spLaw K vs H Q E := by unfold spLaw; exact h
section
variable {P : Program} {w : World} {K : PySem.W.Frag} {mg : Str → Option Value} {base : Heap}
theorem sc_law : FnScope ["script", "hand", "turn", "parts", "door", "again", "others", "thing", "other"] ["script"] (defScope s_law) := ⟨rfl, rfl, rfl, by decide +kernel, rfl, by decide +kernel, by decide +kernel⟩
theorem ok_law (T : Tx K mg) (DF : DoorFacts K T.cDoor.C T.f_Door_eq.f) : FnOk P w K mg base CX0 72 T.f_law.f T.f_law.fd ["script"] (spLaw K) := by
  refine T.f_law.F.ok (k := 71) sc_law (fun vs H Q E h => ?_) (fun cdv A outer s H vs Q E hr h => ?_)
  · unfold spLaw at h
    obtain ⟨a, ns, rfl, _⟩ := h
    rfl
  · have nd := sc_law.nd
    refine ⟨_, (pss_cons (ps_set (i := 1) nd rfl (Or.inl rfl) (pe_call (ok_law_hand T) (hr.mono (by omega)) rfl T.f_law_hand.g T.f_law_hand.F.kp T.f_law_hand.b .nil pass0 (pa_cons (pv 0) pa_nil))) (pss_cons (ps_if (pt_not (pt_val (pe_call0 (ok_law_is_known_right T) (hr.mono (by omega)) rfl T.f_law_is_known_right.g T.f_law_is_known_right.F.kp T.f_law_is_known_right.b .nil pass0))) (pss_one (ps_ret pe_bl)) pss_nil) (pss_cons (ps_for PassesOwn.never rfl (pi_range1 (by rfl) T.z_range (pa_cons pe_int pa_nil)) (pg_name (i := 2) nd rfl (Or.inl rfl) (Or.inr rfl)) (pss_cons (ps_set (i := 3) nd rfl (Or.inr rfl) (pe_call (ok_law_parts T) (hr.mono (by omega)) rfl T.f_law_parts.g T.f_law_parts.F.kp T.f_law_parts.b .nil pass0 (pa_cons (pv 1) pa_nil))) (pss_cons (ps_par (i := 4) (j := 5) (by rfl) nd rfl rfl (by decide) rfl rfl (pa_cons (pe_call (ok_law_made T) (hr.mono (by omega)) rfl T.f_law_made.g T.f_law_made.F.kp T.f_law_made.b .nil pass0 (pa_cons (pv 3) pa_nil)) (pa_cons (pe_call (ok_law_made T) (hr.mono (by omega)) rfl T.f_law_made.g T.f_law_made.F.kp T.f_law_made.b .nil pass0 (pa_cons (pv 3) pa_nil)) pa_nil)) (by rfl)) (pss_cons (ps_if (PW.pt (pw_or (pt_not (pt_val (pe_call (ok_law_stands T) (hr.mono (by omega)) rfl T.f_law_stands.g T.f_law_stands.F.kp T.f_law_stands.b .nil pass0 (pa_cons (pv 4) (pa_cons (pv 3) pa_nil))))) (pw_or (pt_cmpR op_isnot_bl (pe_cmpR (op_eqOwn DF.eqc (ok_Door_eq T DF) (hr.mono (by omega)) T.f_Door_eq.b) (pv 4) (pv 5) (nomark _)) pe_bl (nomark _)) (pw_or1 (pt_cmpR op_isnot_bl (pe_cmpR (op_neOwn DF.eqc (ok_Door_eq T DF) (hr.mono (by omega)) T.f_Door_eq.b) (pv 4) (pv 5) (nomark _)) pe_bl (nomark _)))))) (pss_one (ps_ret pe_bl)) pss_nil) (pss_cons (ps_setLc (i := 6) (own := [("other", 8)]) rfl nd rfl rfl (by rfl) (piL K (pe_call (ok_law_others T) (hr.mono (by omega)) rfl T.f_law_others.g T.f_law_others.F.kp T.f_law_others.b .nil pass0 (pa_cons (pv 1) (pa_cons (pv 3) pa_nil)))) (blkOk_by (own := [("other", 8)]) (N := ["script", "hand", "turn", "parts", "door", "again", "others", "thing", "other"]) (sc := defScope s_law) (by decide +kernel)) (fun _ _ _ _ _ => (pg_name (i := 8) nd rfl (Or.inl rfl) (Or.inr rfl))) (fun _ _ _ _ _ => (pts_one (pt_cmpR (op_neN hr.units) (pv 8) (pv 3) (nomark _)))) (fun _ _ _ _ _ => (pe_call (ok_law_made T) (hr.mono (by omega)) rfl T.f_law_made.g T.f_law_made.F.kp T.f_law_made.b .nil pass0 (pa_cons (pv 8) pa_nil)))) (pss_cons (ps_for PassesOwn.never rfl (piL K (pe_op op_cat (pv 6) (pe_lst (pa_cons pe_non (pa_cons (pv 3) (pa_cons (pe_callTy call_list_of (by rfl) T.z_list (by decide +kernel) (pa_cons (pv 3) pa_nil)) (pa_cons (pe_ix (ixT K) (pv 3) pe_int (fun _ _ => rfl)) (pa_cons pe_int (pa_cons pe_str pa_nil))))))))) (pg_name (i := 7) nd rfl (Or.inl rfl) (Or.inr rfl)) (pss_one (ps_if (PW.pt (pw_or (pt_cmpR op_isnot_bl (pe_cmpR (op_eqOwn DF.eqc (ok_Door_eq T DF) (hr.mono (by omega)) T.f_Door_eq.b) (pv 4) (pv 7) (nomark _)) pe_bl (nomark _)) (pw_or1 (pt_cmpR op_isnot_bl (pe_cmpR (op_neOwn DF.eqc (ok_Door_eq T DF) (hr.mono (by omega)) T.f_Door_eq.b) (pv 4) (pv 7) (nomark _)) pe_bl (nomark _))))) (pss_one (ps_ret pe_bl)) pss_nil))) (pss_one (ps_if (pt_not (pt_val (pe_call (ok_law_stands T) (hr.mono (by omega)) rfl T.f_law_stands.g T.f_law_stands.F.kp T.f_law_stands.b .nil pass0 (pa_cons (pv 4) (pa_cons (pv 3) pa_nil))))) (pss_one (ps_ret pe_bl)) pss_nil)))))))) (pss_one (ps_ret pe_bl))))), ?_⟩
    unfold spLaw at h
    obtain ⟨a, ns, rfl, hq, few, k⟩ := h
    refine cut (fun σ' H' => ∃ p c, σ' = [some (.ref a), some (.ref p), none, none, none, none, none, none, none] ∧ HA H' p c) ?_ (fun rest => ?_)
    case refine_2 =>
      refine ⟨_, rfl, ?_⟩
      show spHand K [.ref a] H _ _
      exact spHand_of ⟨a, ns, rfl, hq, few, fun p c H1 g1 hp ha => rest _ _ ⟨p, c, rfl, ha⟩⟩
    rintro σ' H1 ⟨p, c, rfl, a1⟩
    refine cut (fun σ' H' => σ' = [some (.ref a), some (.ref p), none, none, none, none, none, none, none] ∧ HA H' p c) ?_ (fun rest => ?_)
    case refine_2 =>
      show spKnown [] H1 _ _
      exact spKnown_of ⟨rfl, fun H2 g2 => ⟨true, rfl, iteF (rest _ _ ⟨rfl, a1.gr0 g2⟩)⟩⟩
    rintro σ' H2 ⟨rfl, a2⟩
    refine cut (fun σ' H' => ∃ n2 n3 n4 n5 n6 n7 n8, σ' = [some (.ref a), some (.ref p), n2, n3, n4, n5, n6, n7, n8] ∧ HA H' p c) ?_ (fun rest => ?_)
    case refine_1 =>
      rintro σ' H3 ⟨n2, n3, n4, n5, n6, n7, n8, rfl, a3⟩
      exact k _
    refine ⟨4, rfl, by decide, by decide, ?_⟩
    refine for_it (n := 4) walk_range (fun _ σ' H' => ∃ n2 n3 n4 n5 n6 n7 n8, σ' = [some (.ref a), some (.ref p), n2, n3, n4, n5, n6, n7, n8] ∧ HA H' p c) ⟨_, _, _, _, _, _, _, rfl, a2⟩ (fun _ _ _ _ _ => trivial) ?_ rest
    rintro i x σ H3 H3' hi ⟨n2, n3, n4, n5, n6, n7, n8, rfl, a3⟩ ⟨rfl, rfl⟩
    refine cut (fun σ' H' => ∃ Z ws sl hs ls, σ' = [some (.ref a), some (.ref p), some (.int (0 + (i : Nat))), some (.ref Z), n4, n5, n6, n7, n8] ∧ HA H' p c ∧ Four H' Z ws sl hs ls ∧ Drawn ws sl hs ls) ?_ (fun rest => ?_)
    case refine_2 =>
      refine ⟨_, rfl, ?_⟩
      show spLParts [.ref p] _ _ _
      exact spLParts_of ⟨p, c, rfl, a3, fun Z H4 ws sl hs ls a4 g4 fo dr => rest _ _ ⟨Z, ws, sl, hs, ls, rfl, a4, fo, dr⟩⟩
    rintro σ' H4 ⟨Z, ws, sl, hs, ls, rfl, a4, fo4, dr⟩
    have good := dr.good
    refine cut (fun σ' H' => ∃ d d2, σ' = [some (.ref a), some (.ref p), some (.int (0 + (i : Nat))), some (.ref Z), some (.ref d), some (.ref d2), n6, n7, n8] ∧ HA H' p c ∧ Four H' Z ws sl hs ls ∧ DoorOf T.cDoor.C H' d ws sl hs ls ∧ DoorOf T.cDoor.C H' d2 ws sl hs ls) ?_ (fun rest => ?_)
    case refine_2 =>
      refine ⟨_, rfl, ?_⟩
      show spMade T.cDoor.C [.ref Z] H4 _ _
      refine spMade_of ⟨Z, ws, sl, hs, ls, rfl, fo4, good, fun d H5 g5 _ dd => ⟨_, rfl, ?_⟩⟩
      show spMade T.cDoor.C [.ref Z] H5 _ _
      exact spMade_of ⟨Z, ws, sl, hs, ls, rfl, fo4.mono g5.2, good, fun d2 H6 g6 _ dd2 => ⟨_, _, rfl, rest _ _ ⟨d, d2, rfl, (a4.gr0 g5).gr0 g6, (fo4.mono g5.2).mono g6.2, dd.gr g6 (by simp), dd2⟩⟩⟩
    rintro σ' H5 ⟨d, d2, rfl, a5, fo5, dd5, dd25⟩
    refine cut (fun σ' H' => σ' = [some (.ref a), some (.ref p), some (.int (0 + (i : Nat))), some (.ref Z), some (.ref d), some (.ref d2), n6, n7, n8] ∧ HA H' p c ∧ Four H' Z ws sl hs ls ∧ DoorOf T.cDoor.C H' d ws sl hs ls) ?_ (fun rest => ?_)
    case refine_2 =>
      refine ⟨_, rfl, _, rfl, ?_⟩
      show spStands T.cDoor.C [.ref d, .ref Z] H5 _ _
      refine spStands_of ⟨d, Z, ws, sl, hs, ls, rfl, fo5, dd5, good, fun H6 g6 => ⟨true, rfl, ?_⟩⟩
      have e : decide (four ws sl hs ls = four ws sl hs ls) = true := decide_eq_true rfl
      refine iteF ⟨_, rfl, _, rfl, own_door false (dd5.gr g6 (by simp)) (dd25.gr g6 (by simp)) good good fun H7 g7 => ⟨_, _, rfl, rfl, _, rfl, ?_⟩⟩
      rw [e]
      have g67 := g6.trans g7
      refine iteF ⟨_, rfl, _, rfl, own_door true (dd5.gr g67 (by simp)) (dd25.gr g67 (by simp)) good good fun H8 g8 => ⟨_, _, rfl, rfl, _, rfl, ?_⟩⟩
      rw [e]
      have g := g67.trans g8
      exact iteF (rest _ _ ⟨rfl, a5.gr0 g, fo5.mono g.2, dd5.gr g (by simp)⟩)
    rintro σ' H6 ⟨rfl, a6, fo6, dd6⟩
    refine cut (fun σ' H' => ∃ L ys n8, σ' = [some (.ref a), some (.ref p), some (.int (0 + (i : Nat))), some (.ref Z), some (.ref d), some (.ref d2), some (.ref L), n7, n8] ∧ HA H' p c ∧ Four H' Z ws sl hs ls ∧ DoorOf T.cDoor.C H' d ws sl hs ls ∧ H' L = some (.lst ys) ∧ ys.length ≤ 10 ∧ ∀ y ∈ ys, Rgt T.cDoor.C H' (four ws sl hs ls) y) ?_ (fun rest => ?_)
    case refine_2 =>
      refine ⟨_, rfl, _, rfl, ?_⟩
      show spOthers [.ref p, .ref Z] H6 _ _
      refine spOthers_of ⟨p, Z, ws, sl, hs, ls, rfl, fo6, dr, fun fa ys0 H7 g7 hfa few good1 => ⟨fa, rfl, ⟨ys0, SqL.of hfa⟩, fun D hD => ?_⟩⟩
      have hDf := ne_of_none hfa hD
      have Dp := (a6.gr0 g7).ne hD
      have Dc := (a6.gr0 g7).nec hD
      have hDd : d ≠ D := by
        obtain ⟨_, _, _, _, _, _, _, h0, _⟩ := dd6.gr g7 (by simp)
        exact ne_of_none h0 hD
      have gD : Gr [] H7 (upd H7 D (.lst [])) := Gr.new hD
      refine lc_it (walk_list (xs := ys0)) (fun i H' => Gr [D] (upd H7 D (.lst [])) H' ∧ HA H' p c ∧ ∃ zs, H' D = some (.lst zs) ∧ zs.length ≤ i ∧ ∀ y ∈ zs, Rgt T.cDoor.C H' (four ws sl hs ls) y) ⟨Gr.refl _ _, (a6.gr0 g7).gr0 gD, [], upd_same, Nat.le_refl _, fun _ h => nomatch h⟩ (fun i H' _ h => SqL.of (h.1.1 _ _ (by rw [upd_ne hDf]; exact hfa) (by simpa using hDf))) ?_ ?_
      · rintro i x H8 H9 hi ⟨g8, a8, zs, hz, lz, all⟩ ⟨rfl, hx⟩
        obtain ⟨Y, ws', sl', hs', ls', rfl, fY, gY⟩ := good1 x (List.mem_of_getElem? hx)
        have t79 := gD.2.trans g8.2
        have fY9 := fY.mono t79
        refine ⟨rfl, _, rfl, _, rfl, _, _, fY9.dd, ((fo6.mono g7.2).mono t79).dd, gY.low, good.low, _, rfl, ?_⟩
        by_cases e : four ws' sl' hs' ls' = four ws sl hs ls
        · rw [decide_eq_true e]
          exact iteF ⟨g8, a8, zs, hz, by omega, all⟩
        · rw [decide_eq_false e]
          refine iteT ⟨_, rfl, ?_⟩
          show spMade T.cDoor.C [.ref Y] _ _ _
          refine spMade_of ⟨Y, _, _, _, _, rfl, fY9, gY, fun dY H10 g10 hdY ddY => ⟨zs, g10.same _ _ hz, by rw [sizeLine_eq]; omega, ?_⟩⟩
          have hz10 := g10.same _ _ hz
          have gu : Gr [D] H10 (upd H10 D (.lst (zs ++ [.ref dY]))) := Gr.at hz10 (fun _ z => nomatch z) List.mem_cons_self
          refine ⟨(g8.trans g10.less).trans gu, (a8.gr0 g10).upd Dp Dc, _, upd_same, by rw [List.length_append, List.length_singleton]; omega, fun y hy => ?_⟩
          rcases List.mem_append.mp hy with hy | hy
          · exact ((all y hy).gr g10).upd hz10
          · rw [List.mem_singleton.mp hy]
            exact Rgt.upd hz10 (.inr ⟨dY, _, _, _, _, rfl, ddY, gY, fun z => e z.symm⟩)
      · rintro H8 ⟨g8, a8, zs, hz, lz, all⟩
        have g78 : Gr [] H7 H8 := (gD.less.trans g8).since hD
        have g := g7.trans g78
        exact rest _ _ ⟨D, zs, _, rfl, a8, fo6.mono g.2, dd6.gr g (by simp), hz, by omega, all⟩
    rintro σ' H7 ⟨L, ys, n8, rfl, a7, fo7, dd7, hL, few, all⟩
    refine cut (fun σ' H' => ∃ n6 n7 n8, σ' = [some (.ref a), some (.ref p), some (.int (0 + (i : Nat))), some (.ref Z), some (.ref d), some (.ref d2), n6, n7, n8] ∧ HA H' p c ∧ Four H' Z ws sl hs ls ∧ DoorOf T.cDoor.C H' d ws sl hs ls) ?_ (fun rest => ?_)
    case refine_2 =>
      obtain ⟨w0, s0, h0, l0, hZ, dw, ds, dh, dl⟩ := id fo7
      obtain ⟨ah, xh, rfl, hh, _⟩ := dh.tup_inv
      refine ⟨_, rfl, _, rfl, _, rfl, Z, _, rfl, .inr (SqT.of hZ), fun l2 hl2 => ?_⟩
      have g1 : Gr [] H7 _ := Gr.new (o := .lst [w0, s0, .ref ah, l0]) hl2
      refine ⟨_, rfl, Z, _, _, _, rfl, rfl, SqT.of (g1.2 _ _ hZ), at2, (by show 6 ≤ sizeLine; decide), fun M hM => ?_⟩
      have g2 : Gr [] (upd H7 l2 (.lst [w0, s0, .ref ah, l0])) _ := Gr.new (o := .lst [.non, .ref Z, .ref l2, .ref ah, .int 0, .str "door"]) hM
      refine ⟨L, M, ys, _, rfl, rfl, (g1.trans g2).same _ _ hL, upd_same, (by rw [sizeLine_eq]; simp; omega), fun N hN => ?_⟩
      have g3 : Gr [] (upd (upd H7 l2 (.lst [w0, s0, .ref ah, l0])) M (.lst [.non, .ref Z, .ref l2, .ref ah, .int 0, .str "door"])) _ := Gr.new (o := .lst (ys ++ [.non, .ref Z, .ref l2, .ref ah, .int 0, .str "door"])) hN
      have g := (g1.trans g2).trans g3
      have hN3 := upd_same (H := upd (upd H7 l2 (.lst [w0, s0, .ref ah, l0])) M (.lst [.non, .ref Z, .ref l2, .ref ah, .int 0, .str "door"])) (a := N) (o := .lst (ys ++ [.non, .ref Z, .ref l2, .ref ah, .int 0, .str "door"]))
      have l23 := (g2.trans g3).same _ _ (upd_same (H := H7) (a := l2) (o := .lst [w0, s0, .ref ah, l0]))
      generalize upd (upd (upd H7 l2 (.lst [w0, s0, .ref ah, l0])) M (.lst [.non, .ref Z, .ref l2, .ref ah, .int 0, .str "door"])) N (.lst (ys ++ [.non, .ref Z, .ref l2, .ref ah, .int 0, .str "door"])) = H8 at *
      have all8 : ∀ y ∈ ys ++ [.non, .ref Z, .ref l2, .ref ah, .int 0, .str "door"], Rgt T.cDoor.C H8 (four ws sl hs ls) y := by
        intro y hy
        rcases List.mem_append.mp hy with hy | hy
        · exact (all y hy).gr g
        · simp only [List.mem_cons, List.not_mem_nil, or_false] at hy
          rcases hy with rfl | rfl | rfl | rfl | rfl | rfl
          · exact .inl .non
          · exact .inl (.tup (g.2 _ _ hZ))
          · exact .inl (.lst l23)
          · exact .inl (.tup (g.2 _ _ hh))
          · exact .inl (.int 0)
          · exact .inl (.str _)
      refine ⟨N, rfl, ⟨_, SqL.of hN3⟩, ?_⟩
      refine for_it (n := (ys ++ [V.non, .ref Z, .ref l2, .ref ah, .int 0, .str "door"]).length) walk_list (fun _ σ H' => ∃ n7, σ = [some (.ref a), some (.ref p), some (.int (0 + (i : Nat))), some (.ref Z), some (.ref d), some (.ref d2), some (.ref L), n7, n8] ∧ Gr [] H8 H') ⟨_, rfl, Gr.refl _ _⟩ (fun _ _ _ _ ⟨_, _, g⟩ => SqL.of (g.same _ _ hN3)) ?_ ?_
      · rintro j y σ H9 H10 hj ⟨n7, rfl, g9⟩ ⟨rfl, hy⟩
        have rg := (all8 y (List.mem_of_getElem? hy)).gr g9
        have dd := dd7.gr (g.trans g9) (by simp)
        refine ⟨_, rfl, _, rfl, rg.own false dd good fun H11 g11 => ⟨_, _, rfl, rfl, _, rfl, ?_⟩⟩
        refine iteF ⟨_, rfl, _, rfl, (rg.gr g11).own true (dd.gr g11 (by simp)) good fun H12 g12 => ⟨_, _, rfl, rfl, _, rfl, ?_⟩⟩
        exact iteF ⟨_, rfl, (g9.trans g11).trans g12⟩
      · rintro σ H9 ⟨n7, rfl, g9⟩
        have gg := g.trans g9
        exact rest _ _ ⟨_, _, _, rfl, a7.gr0 gg, fo7.mono gg.2, dd7.gr gg (by simp)⟩
    rintro σ' H8 ⟨n6, n7, n8, rfl, a8, fo8, dd8⟩
    refine ⟨_, rfl, _, rfl, ?_⟩
    show spStands T.cDoor.C [.ref d, .ref Z] H8 _ _
    exact spStands_of ⟨d, Z, ws, sl, hs, ls, rfl, fo8, dd8, good, fun H9 g9 => ⟨true, rfl, iteF ⟨_, _, _, _, _, _, _, rfl, a8.gr0 g9⟩⟩⟩
end
end Dr
/-! the facts of the top put together -/
namespace Dr
open PySem L2 PySem.W
theorem all_mk {K : Frag} {h : Heap} {mg : Str → Option Value} (X : K.In h) (G : h.Ns mainGlobals mg)
    {COrder : Addr}
    {CShape : Addr}
    {CDoor : Addr}
    {f_is_integer : Addr} {ocf_is_integer kVf_is_integer dcf_is_integer pmf_is_integer cdf_is_integer ctf_is_integer : Value} {odf_is_integer anf_is_integer : Option Addr} {slf_is_integer : Array (Option Value)}
    {f_is_within : Addr} {ocf_is_within kVf_is_within dcf_is_within pmf_is_within cdf_is_within ctf_is_within : Value} {odf_is_within anf_is_within : Option Addr} {slf_is_within : Array (Option Value)}
    {f_is_name : Addr} {ocf_is_name kVf_is_name dcf_is_name pmf_is_name cdf_is_name ctf_is_name : Value} {odf_is_name anf_is_name : Option Addr} {slf_is_name : Array (Option Value)}
    {f_is_tuple : Addr} {ocf_is_tuple kVf_is_tuple dcf_is_tuple pmf_is_tuple cdf_is_tuple ctf_is_tuple : Value} {odf_is_tuple anf_is_tuple : Option Addr} {slf_is_tuple : Array (Option Value)}
    {f_are_unlike : Addr} {ocf_are_unlike kVf_are_unlike dcf_are_unlike pmf_are_unlike cdf_are_unlike ctf_are_unlike : Value} {odf_are_unlike anf_are_unlike : Option Addr} {slf_are_unlike : Array (Option Value)}
    {f_is_unknown : Addr} {ocf_is_unknown kVf_is_unknown dcf_is_unknown pmf_is_unknown cdf_is_unknown ctf_is_unknown : Value} {odf_is_unknown anf_is_unknown : Option Addr} {slf_is_unknown : Array (Option Value)}
    {f_is_word : Addr} {ocf_is_word kVf_is_word dcf_is_word pmf_is_word cdf_is_word ctf_is_word : Value} {odf_is_word anf_is_word : Option Addr} {slf_is_word : Array (Option Value)}
    {f_is_called : Addr} {ocf_is_called kVf_is_called dcf_is_called pmf_is_called cdf_is_called ctf_is_called : Value} {odf_is_called anf_is_called : Option Addr} {slf_is_called : Array (Option Value)}
    {f_size_of : Addr} {ocf_size_of kVf_size_of dcf_size_of pmf_size_of cdf_size_of ctf_size_of : Value} {odf_size_of anf_size_of : Option Addr} {slf_size_of : Array (Option Value)}
    {f_parts_of : Addr} {ocf_parts_of kVf_parts_of dcf_parts_of pmf_parts_of cdf_parts_of ctf_parts_of : Value} {odf_parts_of anf_parts_of : Option Addr} {slf_parts_of : Array (Option Value)}
    {f_numbers_in : Addr} {ocf_numbers_in kVf_numbers_in dcf_numbers_in pmf_numbers_in cdf_numbers_in ctf_numbers_in : Value} {odf_numbers_in anf_numbers_in : Option Addr} {slf_numbers_in : Array (Option Value)}
    {f_Order_init : Addr} {ocf_Order_init kVf_Order_init dcf_Order_init pmf_Order_init cdf_Order_init ctf_Order_init : Value} {odf_Order_init anf_Order_init : Option Addr} {slf_Order_init : Array (Option Value)}
    {f_Order_is_greater : Addr} {ocf_Order_is_greater kVf_Order_is_greater dcf_Order_is_greater pmf_Order_is_greater cdf_Order_is_greater ctf_Order_is_greater : Value} {odf_Order_is_greater anf_Order_is_greater : Option Addr} {slf_Order_is_greater : Array (Option Value)}
    {f_Order_looked : Addr} {ocf_Order_looked kVf_Order_looked dcf_Order_looked pmf_Order_looked cdf_Order_looked ctf_Order_looked : Value} {odf_Order_looked anf_Order_looked : Option Addr} {slf_Order_looked : Array (Option Value)}
    {f_Order_goes_ahead : Addr} {ocf_Order_goes_ahead kVf_Order_goes_ahead dcf_Order_goes_ahead pmf_Order_goes_ahead cdf_Order_goes_ahead ctf_Order_goes_ahead : Value} {odf_Order_goes_ahead anf_Order_goes_ahead : Option Addr} {slf_Order_goes_ahead : Array (Option Value)}
    {f_are_words : Addr} {ocf_are_words kVf_are_words dcf_are_words pmf_are_words cdf_are_words ctf_are_words : Value} {odf_are_words anf_are_words : Option Addr} {slf_are_words : Array (Option Value)}
    {f_are_sealed : Addr} {ocf_are_sealed kVf_are_sealed dcf_are_sealed pmf_are_sealed cdf_are_sealed ctf_are_sealed : Value} {odf_are_sealed anf_are_sealed : Option Addr} {slf_are_sealed : Array (Option Value)}
    {f_are_heads : Addr} {ocf_are_heads kVf_are_heads dcf_are_heads pmf_are_heads cdf_are_heads ctf_are_heads : Value} {odf_are_heads anf_are_heads : Option Addr} {slf_are_heads : Array (Option Value)}
    {f_Shape_init : Addr} {ocf_Shape_init kVf_Shape_init dcf_Shape_init pmf_Shape_init cdf_Shape_init ctf_Shape_init : Value} {odf_Shape_init anf_Shape_init : Option Addr} {slf_Shape_init : Array (Option Value)}
    {f_Shape_kind_of : Addr} {ocf_Shape_kind_of kVf_Shape_kind_of dcf_Shape_kind_of pmf_Shape_kind_of cdf_Shape_kind_of ctf_Shape_kind_of : Value} {odf_Shape_kind_of anf_Shape_kind_of : Option Addr} {slf_Shape_kind_of : Array (Option Value)}
    {f_Shape_is_asker : Addr} {ocf_Shape_is_asker kVf_Shape_is_asker dcf_Shape_is_asker pmf_Shape_is_asker cdf_Shape_is_asker ctf_Shape_is_asker : Value} {odf_Shape_is_asker anf_Shape_is_asker : Option Addr} {slf_Shape_is_asker : Array (Option Value)}
    {f_Shape_told : Addr} {ocf_Shape_told kVf_Shape_told dcf_Shape_told pmf_Shape_told cdf_Shape_told ctf_Shape_told : Value} {odf_Shape_told anf_Shape_told : Option Addr} {slf_Shape_told : Array (Option Value)}
    {f_Shape_told_together : Addr} {ocf_Shape_told_together kVf_Shape_told_together dcf_Shape_told_together pmf_Shape_told_together cdf_Shape_told_together ctf_Shape_told_together : Value} {odf_Shape_told_together anf_Shape_told_together : Option Addr} {slf_Shape_told_together : Array (Option Value)}
    {f_Shape_told_beside : Addr} {ocf_Shape_told_beside kVf_Shape_told_beside dcf_Shape_told_beside pmf_Shape_told_beside cdf_Shape_told_beside ctf_Shape_told_beside : Value} {odf_Shape_told_beside anf_Shape_told_beside : Option Addr} {slf_Shape_told_beside : Array (Option Value)}
    {f_Shape_kind_by : Addr} {ocf_Shape_kind_by kVf_Shape_kind_by dcf_Shape_kind_by pmf_Shape_kind_by cdf_Shape_kind_by ctf_Shape_kind_by : Value} {odf_Shape_kind_by anf_Shape_kind_by : Option Addr} {slf_Shape_kind_by : Array (Option Value)}
    {f_is_law : Addr} {ocf_is_law kVf_is_law dcf_is_law pmf_is_law cdf_is_law ctf_is_law : Value} {odf_is_law anf_is_law : Option Addr} {slf_is_law : Array (Option Value)}
    {f_Door_init : Addr} {ocf_Door_init kVf_Door_init dcf_Door_init pmf_Door_init cdf_Door_init ctf_Door_init : Value} {odf_Door_init anf_Door_init : Option Addr} {slf_Door_init : Array (Option Value)}
    {f_Door_eq : Addr} {ocf_Door_eq kVf_Door_eq dcf_Door_eq pmf_Door_eq cdf_Door_eq ctf_Door_eq : Value} {odf_Door_eq anf_Door_eq : Option Addr} {slf_Door_eq : Array (Option Value)}
    {f_law_hand : Addr} {ocf_law_hand kVf_law_hand dcf_law_hand pmf_law_hand cdf_law_hand ctf_law_hand : Value} {odf_law_hand anf_law_hand : Option Addr} {slf_law_hand : Array (Option Value)}
    {f_law_draw : Addr} {ocf_law_draw kVf_law_draw dcf_law_draw pmf_law_draw cdf_law_draw ctf_law_draw : Value} {odf_law_draw anf_law_draw : Option Addr} {slf_law_draw : Array (Option Value)}
    {f_law_some : Addr} {ocf_law_some kVf_law_some dcf_law_some pmf_law_some cdf_law_some ctf_law_some : Value} {odf_law_some anf_law_some : Option Addr} {slf_law_some : Array (Option Value)}
    {f_law_is : Addr} {ocf_law_is kVf_law_is dcf_law_is pmf_law_is cdf_law_is ctf_law_is : Value} {odf_law_is anf_law_is : Option Addr} {slf_law_is : Array (Option Value)}
    {f_law_words : Addr} {ocf_law_words kVf_law_words dcf_law_words pmf_law_words cdf_law_words ctf_law_words : Value} {odf_law_words anf_law_words : Option Addr} {slf_law_words : Array (Option Value)}
    {f_law_heads : Addr} {ocf_law_heads kVf_law_heads dcf_law_heads pmf_law_heads cdf_law_heads ctf_law_heads : Value} {odf_law_heads anf_law_heads : Option Addr} {slf_law_heads : Array (Option Value)}
    {f_law_drawn_term : Addr} {ocf_law_drawn_term kVf_law_drawn_term dcf_law_drawn_term pmf_law_drawn_term cdf_law_drawn_term ctf_law_drawn_term : Value} {odf_law_drawn_term anf_law_drawn_term : Option Addr} {slf_law_drawn_term : Array (Option Value)}
    {f_law_size : Addr} {ocf_law_size kVf_law_size dcf_law_size pmf_law_size cdf_law_size ctf_law_size : Value} {odf_law_size anf_law_size : Option Addr} {slf_law_size : Array (Option Value)}
    {f_law_unknowns : Addr} {ocf_law_unknowns kVf_law_unknowns dcf_law_unknowns pmf_law_unknowns cdf_law_unknowns ctf_law_unknowns : Value} {odf_law_unknowns anf_law_unknowns : Option Addr} {slf_law_unknowns : Array (Option Value)}
    {f_law_is_above : Addr} {ocf_law_is_above kVf_law_is_above dcf_law_is_above pmf_law_is_above cdf_law_is_above ctf_law_is_above : Value} {odf_law_is_above anf_law_is_above : Option Addr} {slf_law_is_above : Array (Option Value)}
    {f_law_drawn_law : Addr} {ocf_law_drawn_law kVf_law_drawn_law dcf_law_drawn_law pmf_law_drawn_law cdf_law_drawn_law ctf_law_drawn_law : Value} {odf_law_drawn_law anf_law_drawn_law : Option Addr} {slf_law_drawn_law : Array (Option Value)}
    {f_law_parts : Addr} {ocf_law_parts kVf_law_parts dcf_law_parts pmf_law_parts cdf_law_parts ctf_law_parts : Value} {odf_law_parts anf_law_parts : Option Addr} {slf_law_parts : Array (Option Value)}
    {f_law_made : Addr} {ocf_law_made kVf_law_made dcf_law_made pmf_law_made cdf_law_made ctf_law_made : Value} {odf_law_made anf_law_made : Option Addr} {slf_law_made : Array (Option Value)}
    {f_law_stands : Addr} {ocf_law_stands kVf_law_stands dcf_law_stands pmf_law_stands cdf_law_stands ctf_law_stands : Value} {odf_law_stands anf_law_stands : Option Addr} {slf_law_stands : Array (Option Value)}
    {f_law_others : Addr} {ocf_law_others kVf_law_others dcf_law_others pmf_law_others cdf_law_others ctf_law_others : Value} {odf_law_others anf_law_others : Option Addr} {slf_law_others : Array (Option Value)}
    {f_law_is_known_right : Addr} {ocf_law_is_known_right kVf_law_is_known_right dcf_law_is_known_right pmf_law_is_known_right cdf_law_is_known_right ctf_law_is_known_right : Value} {odf_law_is_known_right anf_law_is_known_right : Option Addr} {slf_law_is_known_right : Array (Option Value)}
    {f_law : Addr} {ocf_law kVf_law dcf_law pmf_law cdf_law ctf_law : Value} {odf_law anf_law : Option Addr} {slf_law : Array (Option Value)}
    {tLETTERS : Tok}
    {tMOST_LETTERS : Tok}
    {tMOST_NUMBER : Tok}
    {tUNKNOWN : Tok}
    {tMOST_KINDS : Tok}
    {tMOST_WORDS : Tok}
    {tMOST_HEADS : Tok}
    {tMOST_LAWS : Tok}
    {tMOST_LAW_PARTS : Tok}
    {tMOST_SHAPE : Tok}
    (aOrder : nsIn K mainGlobals "Order" = some (some (.ref COrder)))
    (pgOrder : plainGet K COrder Str.empty = true)
    (hdOrder : hasDictIn K COrder = true)
    (poOrder : plainOver K COrder = true)
    (saOrder : findIn K (.ref COrder) "__setattr__" = some (some (.builtin "object.__setattr__")))
    (mkOrder : makesIn K COrder = true)
    (kpOrder : keepIn K (.ref COrder) = true)
    (aShape : nsIn K mainGlobals "Shape" = some (some (.ref CShape)))
    (pgShape : plainGet K CShape Str.empty = true)
    (hdShape : hasDictIn K CShape = true)
    (poShape : plainOver K CShape = true)
    (saShape : findIn K (.ref CShape) "__setattr__" = some (some (.builtin "object.__setattr__")))
    (mkShape : makesIn K CShape = true)
    (kpShape : keepIn K (.ref CShape) = true)
    (aDoor : nsIn K mainGlobals "Door" = some (some (.ref CDoor)))
    (pgDoor : plainGet K CDoor Str.empty = true)
    (hdDoor : hasDictIn K CDoor = true)
    (poDoor : plainOver K CDoor = true)
    (saDoor : findIn K (.ref CDoor) "__setattr__" = some (some (.builtin "object.__setattr__")))
    (mkDoor : makesIn K CDoor = true)
    (kpDoor : keepIn K (.ref CDoor) = true)
    (af_is_integer : nsIn K mainGlobals "is_integer" = some (some (.ref f_is_integer)))
    (lf_is_integer : K.lookup f_is_integer = some ⟨ocf_is_integer, odf_is_integer, .func (fnOf "is_integer" "is_integer" (defArgs s_is_integer) (defBody s_is_integer) (defScope s_is_integer) .none kVf_is_integer dcf_is_integer pmf_is_integer anf_is_integer cdf_is_integer ctf_is_integer), slf_is_integer⟩)
    (kf_is_integer : codeIn K cdf_is_integer "is_integer" = true)
    (qf_is_integer : keepIn K (.ref f_is_integer) = true)
    (af_is_within : nsIn K mainGlobals "is_within" = some (some (.ref f_is_within)))
    (lf_is_within : K.lookup f_is_within = some ⟨ocf_is_within, odf_is_within, .func (fnOf "is_within" "is_within" (defArgs s_is_within) (defBody s_is_within) (defScope s_is_within) .none kVf_is_within dcf_is_within pmf_is_within anf_is_within cdf_is_within ctf_is_within), slf_is_within⟩)
    (kf_is_within : codeIn K cdf_is_within "is_within" = true)
    (qf_is_within : keepIn K (.ref f_is_within) = true)
    (af_is_name : nsIn K mainGlobals "is_name" = some (some (.ref f_is_name)))
    (lf_is_name : K.lookup f_is_name = some ⟨ocf_is_name, odf_is_name, .func (fnOf "is_name" "is_name" (defArgs s_is_name) (defBody s_is_name) (defScope s_is_name) .none kVf_is_name dcf_is_name pmf_is_name anf_is_name cdf_is_name ctf_is_name), slf_is_name⟩)
    (kf_is_name : codeIn K cdf_is_name "is_name" = true)
    (qf_is_name : keepIn K (.ref f_is_name) = true)
    (af_is_tuple : nsIn K mainGlobals "is_tuple" = some (some (.ref f_is_tuple)))
    (lf_is_tuple : K.lookup f_is_tuple = some ⟨ocf_is_tuple, odf_is_tuple, .func (fnOf "is_tuple" "is_tuple" (defArgs s_is_tuple) (defBody s_is_tuple) (defScope s_is_tuple) .none kVf_is_tuple dcf_is_tuple pmf_is_tuple anf_is_tuple cdf_is_tuple ctf_is_tuple), slf_is_tuple⟩)
    (kf_is_tuple : codeIn K cdf_is_tuple "is_tuple" = true)
    (qf_is_tuple : keepIn K (.ref f_is_tuple) = true)
    (af_are_unlike : nsIn K mainGlobals "are_unlike" = some (some (.ref f_are_unlike)))
    (lf_are_unlike : K.lookup f_are_unlike = some ⟨ocf_are_unlike, odf_are_unlike, .func (fnOf "are_unlike" "are_unlike" (defArgs s_are_unlike) (defBody s_are_unlike) (defScope s_are_unlike) .none kVf_are_unlike dcf_are_unlike pmf_are_unlike anf_are_unlike cdf_are_unlike ctf_are_unlike), slf_are_unlike⟩)
    (kf_are_unlike : codeIn K cdf_are_unlike "are_unlike" = true)
    (qf_are_unlike : keepIn K (.ref f_are_unlike) = true)
    (af_is_unknown : nsIn K mainGlobals "is_unknown" = some (some (.ref f_is_unknown)))
    (lf_is_unknown : K.lookup f_is_unknown = some ⟨ocf_is_unknown, odf_is_unknown, .func (fnOf "is_unknown" "is_unknown" (defArgs s_is_unknown) (defBody s_is_unknown) (defScope s_is_unknown) .none kVf_is_unknown dcf_is_unknown pmf_is_unknown anf_is_unknown cdf_is_unknown ctf_is_unknown), slf_is_unknown⟩)
    (kf_is_unknown : codeIn K cdf_is_unknown "is_unknown" = true)
    (qf_is_unknown : keepIn K (.ref f_is_unknown) = true)
    (af_is_word : nsIn K mainGlobals "is_word" = some (some (.ref f_is_word)))
    (lf_is_word : K.lookup f_is_word = some ⟨ocf_is_word, odf_is_word, .func (fnOf "is_word" "is_word" (defArgs s_is_word) (defBody s_is_word) (defScope s_is_word) .none kVf_is_word dcf_is_word pmf_is_word anf_is_word cdf_is_word ctf_is_word), slf_is_word⟩)
    (kf_is_word : codeIn K cdf_is_word "is_word" = true)
    (qf_is_word : keepIn K (.ref f_is_word) = true)
    (af_is_called : nsIn K mainGlobals "is_called" = some (some (.ref f_is_called)))
    (lf_is_called : K.lookup f_is_called = some ⟨ocf_is_called, odf_is_called, .func (fnOf "is_called" "is_called" (defArgs s_is_called) (defBody s_is_called) (defScope s_is_called) .none kVf_is_called dcf_is_called pmf_is_called anf_is_called cdf_is_called ctf_is_called), slf_is_called⟩)
    (kf_is_called : codeIn K cdf_is_called "is_called" = true)
    (qf_is_called : keepIn K (.ref f_is_called) = true)
    (af_size_of : nsIn K mainGlobals "size_of" = some (some (.ref f_size_of)))
    (lf_size_of : K.lookup f_size_of = some ⟨ocf_size_of, odf_size_of, .func (fnOf "size_of" "size_of" (defArgs s_size_of) (defBody s_size_of) (defScope s_size_of) .none kVf_size_of dcf_size_of pmf_size_of anf_size_of cdf_size_of ctf_size_of), slf_size_of⟩)
    (kf_size_of : codeIn K cdf_size_of "size_of" = true)
    (qf_size_of : keepIn K (.ref f_size_of) = true)
    (af_parts_of : nsIn K mainGlobals "parts_of" = some (some (.ref f_parts_of)))
    (lf_parts_of : K.lookup f_parts_of = some ⟨ocf_parts_of, odf_parts_of, .func (fnOf "parts_of" "parts_of" (defArgs s_parts_of) (defBody s_parts_of) (defScope s_parts_of) .none kVf_parts_of dcf_parts_of pmf_parts_of anf_parts_of cdf_parts_of ctf_parts_of), slf_parts_of⟩)
    (kf_parts_of : codeIn K cdf_parts_of "parts_of" = true)
    (qf_parts_of : keepIn K (.ref f_parts_of) = true)
    (af_numbers_in : nsIn K mainGlobals "numbers_in" = some (some (.ref f_numbers_in)))
    (lf_numbers_in : K.lookup f_numbers_in = some ⟨ocf_numbers_in, odf_numbers_in, .func (fnOf "numbers_in" "numbers_in" (defArgs s_numbers_in) (defBody s_numbers_in) (defScope s_numbers_in) .none kVf_numbers_in dcf_numbers_in pmf_numbers_in anf_numbers_in cdf_numbers_in ctf_numbers_in), slf_numbers_in⟩)
    (kf_numbers_in : codeIn K cdf_numbers_in "numbers_in" = true)
    (qf_numbers_in : keepIn K (.ref f_numbers_in) = true)
    (af_Order_init : findIn K (.ref COrder) "__init__" = some (some (.ref f_Order_init)))
    (lf_Order_init : K.lookup f_Order_init = some ⟨ocf_Order_init, odf_Order_init, .func (fnOf "__init__" "Order.__init__" (defArgs s_Order_init) (defBody s_Order_init) (defScope s_Order_init) .none kVf_Order_init dcf_Order_init pmf_Order_init anf_Order_init cdf_Order_init ctf_Order_init), slf_Order_init⟩)
    (kf_Order_init : codeIn K cdf_Order_init "Order.__init__" = true)
    (qf_Order_init : keepIn K (.ref f_Order_init) = true)
    (nf_Order_init : isFn K (.ref f_Order_init) = true)
    (af_Order_is_greater : findIn K (.ref COrder) "is_greater" = some (some (.ref f_Order_is_greater)))
    (lf_Order_is_greater : K.lookup f_Order_is_greater = some ⟨ocf_Order_is_greater, odf_Order_is_greater, .func (fnOf "is_greater" "Order.is_greater" (defArgs s_Order_is_greater) (defBody s_Order_is_greater) (defScope s_Order_is_greater) .none kVf_Order_is_greater dcf_Order_is_greater pmf_Order_is_greater anf_Order_is_greater cdf_Order_is_greater ctf_Order_is_greater), slf_Order_is_greater⟩)
    (kf_Order_is_greater : codeIn K cdf_Order_is_greater "Order.is_greater" = true)
    (qf_Order_is_greater : keepIn K (.ref f_Order_is_greater) = true)
    (nf_Order_is_greater : isFn K (.ref f_Order_is_greater) = true)
    (af_Order_looked : findIn K (.ref COrder) "looked" = some (some (.ref f_Order_looked)))
    (lf_Order_looked : K.lookup f_Order_looked = some ⟨ocf_Order_looked, odf_Order_looked, .func (fnOf "looked" "Order.looked" (defArgs s_Order_looked) (defBody s_Order_looked) (defScope s_Order_looked) .none kVf_Order_looked dcf_Order_looked pmf_Order_looked anf_Order_looked cdf_Order_looked ctf_Order_looked), slf_Order_looked⟩)
    (kf_Order_looked : codeIn K cdf_Order_looked "Order.looked" = true)
    (qf_Order_looked : keepIn K (.ref f_Order_looked) = true)
    (nf_Order_looked : isFn K (.ref f_Order_looked) = true)
    (af_Order_goes_ahead : findIn K (.ref COrder) "goes_ahead" = some (some (.ref f_Order_goes_ahead)))
    (lf_Order_goes_ahead : K.lookup f_Order_goes_ahead = some ⟨ocf_Order_goes_ahead, odf_Order_goes_ahead, .func (fnOf "goes_ahead" "Order.goes_ahead" (defArgs s_Order_goes_ahead) (defBody s_Order_goes_ahead) (defScope s_Order_goes_ahead) .none kVf_Order_goes_ahead dcf_Order_goes_ahead pmf_Order_goes_ahead anf_Order_goes_ahead cdf_Order_goes_ahead ctf_Order_goes_ahead), slf_Order_goes_ahead⟩)
    (kf_Order_goes_ahead : codeIn K cdf_Order_goes_ahead "Order.goes_ahead" = true)
    (qf_Order_goes_ahead : keepIn K (.ref f_Order_goes_ahead) = true)
    (nf_Order_goes_ahead : isFn K (.ref f_Order_goes_ahead) = true)
    (af_are_words : nsIn K mainGlobals "are_words" = some (some (.ref f_are_words)))
    (lf_are_words : K.lookup f_are_words = some ⟨ocf_are_words, odf_are_words, .func (fnOf "are_words" "are_words" (defArgs s_are_words) (defBody s_are_words) (defScope s_are_words) .none kVf_are_words dcf_are_words pmf_are_words anf_are_words cdf_are_words ctf_are_words), slf_are_words⟩)
    (kf_are_words : codeIn K cdf_are_words "are_words" = true)
    (qf_are_words : keepIn K (.ref f_are_words) = true)
    (af_are_sealed : nsIn K mainGlobals "are_sealed" = some (some (.ref f_are_sealed)))
    (lf_are_sealed : K.lookup f_are_sealed = some ⟨ocf_are_sealed, odf_are_sealed, .func (fnOf "are_sealed" "are_sealed" (defArgs s_are_sealed) (defBody s_are_sealed) (defScope s_are_sealed) .none kVf_are_sealed dcf_are_sealed pmf_are_sealed anf_are_sealed cdf_are_sealed ctf_are_sealed), slf_are_sealed⟩)
    (kf_are_sealed : codeIn K cdf_are_sealed "are_sealed" = true)
    (qf_are_sealed : keepIn K (.ref f_are_sealed) = true)
    (af_are_heads : nsIn K mainGlobals "are_heads" = some (some (.ref f_are_heads)))
    (lf_are_heads : K.lookup f_are_heads = some ⟨ocf_are_heads, odf_are_heads, .func (fnOf "are_heads" "are_heads" (defArgs s_are_heads) (defBody s_are_heads) (defScope s_are_heads) .none kVf_are_heads dcf_are_heads pmf_are_heads anf_are_heads cdf_are_heads ctf_are_heads), slf_are_heads⟩)
    (kf_are_heads : codeIn K cdf_are_heads "are_heads" = true)
    (qf_are_heads : keepIn K (.ref f_are_heads) = true)
    (af_Shape_init : findIn K (.ref CShape) "__init__" = some (some (.ref f_Shape_init)))
    (lf_Shape_init : K.lookup f_Shape_init = some ⟨ocf_Shape_init, odf_Shape_init, .func (fnOf "__init__" "Shape.__init__" (defArgs s_Shape_init) (defBody s_Shape_init) (defScope s_Shape_init) .none kVf_Shape_init dcf_Shape_init pmf_Shape_init anf_Shape_init cdf_Shape_init ctf_Shape_init), slf_Shape_init⟩)
    (kf_Shape_init : codeIn K cdf_Shape_init "Shape.__init__" = true)
    (qf_Shape_init : keepIn K (.ref f_Shape_init) = true)
    (nf_Shape_init : isFn K (.ref f_Shape_init) = true)
    (af_Shape_kind_of : findIn K (.ref CShape) "kind_of" = some (some (.ref f_Shape_kind_of)))
    (lf_Shape_kind_of : K.lookup f_Shape_kind_of = some ⟨ocf_Shape_kind_of, odf_Shape_kind_of, .func (fnOf "kind_of" "Shape.kind_of" (defArgs s_Shape_kind_of) (defBody s_Shape_kind_of) (defScope s_Shape_kind_of) .none kVf_Shape_kind_of dcf_Shape_kind_of pmf_Shape_kind_of anf_Shape_kind_of cdf_Shape_kind_of ctf_Shape_kind_of), slf_Shape_kind_of⟩)
    (kf_Shape_kind_of : codeIn K cdf_Shape_kind_of "Shape.kind_of" = true)
    (qf_Shape_kind_of : keepIn K (.ref f_Shape_kind_of) = true)
    (nf_Shape_kind_of : isFn K (.ref f_Shape_kind_of) = true)
    (af_Shape_is_asker : findIn K (.ref CShape) "is_asker" = some (some (.ref f_Shape_is_asker)))
    (lf_Shape_is_asker : K.lookup f_Shape_is_asker = some ⟨ocf_Shape_is_asker, odf_Shape_is_asker, .func (fnOf "is_asker" "Shape.is_asker" (defArgs s_Shape_is_asker) (defBody s_Shape_is_asker) (defScope s_Shape_is_asker) .none kVf_Shape_is_asker dcf_Shape_is_asker pmf_Shape_is_asker anf_Shape_is_asker cdf_Shape_is_asker ctf_Shape_is_asker), slf_Shape_is_asker⟩)
    (kf_Shape_is_asker : codeIn K cdf_Shape_is_asker "Shape.is_asker" = true)
    (qf_Shape_is_asker : keepIn K (.ref f_Shape_is_asker) = true)
    (nf_Shape_is_asker : isFn K (.ref f_Shape_is_asker) = true)
    (af_Shape_told : findIn K (.ref CShape) "told" = some (some (.ref f_Shape_told)))
    (lf_Shape_told : K.lookup f_Shape_told = some ⟨ocf_Shape_told, odf_Shape_told, .func (fnOf "told" "Shape.told" (defArgs s_Shape_told) (defBody s_Shape_told) (defScope s_Shape_told) .none kVf_Shape_told dcf_Shape_told pmf_Shape_told anf_Shape_told cdf_Shape_told ctf_Shape_told), slf_Shape_told⟩)
    (kf_Shape_told : codeIn K cdf_Shape_told "Shape.told" = true)
    (qf_Shape_told : keepIn K (.ref f_Shape_told) = true)
    (nf_Shape_told : isFn K (.ref f_Shape_told) = true)
    (af_Shape_told_together : findIn K (.ref CShape) "told_together" = some (some (.ref f_Shape_told_together)))
    (lf_Shape_told_together : K.lookup f_Shape_told_together = some ⟨ocf_Shape_told_together, odf_Shape_told_together, .func (fnOf "told_together" "Shape.told_together" (defArgs s_Shape_told_together) (defBody s_Shape_told_together) (defScope s_Shape_told_together) .none kVf_Shape_told_together dcf_Shape_told_together pmf_Shape_told_together anf_Shape_told_together cdf_Shape_told_together ctf_Shape_told_together), slf_Shape_told_together⟩)
    (kf_Shape_told_together : codeIn K cdf_Shape_told_together "Shape.told_together" = true)
    (qf_Shape_told_together : keepIn K (.ref f_Shape_told_together) = true)
    (nf_Shape_told_together : isFn K (.ref f_Shape_told_together) = true)
    (af_Shape_told_beside : findIn K (.ref CShape) "told_beside" = some (some (.ref f_Shape_told_beside)))
    (lf_Shape_told_beside : K.lookup f_Shape_told_beside = some ⟨ocf_Shape_told_beside, odf_Shape_told_beside, .func (fnOf "told_beside" "Shape.told_beside" (defArgs s_Shape_told_beside) (defBody s_Shape_told_beside) (defScope s_Shape_told_beside) .none kVf_Shape_told_beside dcf_Shape_told_beside pmf_Shape_told_beside anf_Shape_told_beside cdf_Shape_told_beside ctf_Shape_told_beside), slf_Shape_told_beside⟩)
    (kf_Shape_told_beside : codeIn K cdf_Shape_told_beside "Shape.told_beside" = true)
    (qf_Shape_told_beside : keepIn K (.ref f_Shape_told_beside) = true)
    (nf_Shape_told_beside : isFn K (.ref f_Shape_told_beside) = true)
    (af_Shape_kind_by : findIn K (.ref CShape) "kind_by" = some (some (.ref f_Shape_kind_by)))
    (lf_Shape_kind_by : K.lookup f_Shape_kind_by = some ⟨ocf_Shape_kind_by, odf_Shape_kind_by, .func (fnOf "kind_by" "Shape.kind_by" (defArgs s_Shape_kind_by) (defBody s_Shape_kind_by) (defScope s_Shape_kind_by) .none kVf_Shape_kind_by dcf_Shape_kind_by pmf_Shape_kind_by anf_Shape_kind_by cdf_Shape_kind_by ctf_Shape_kind_by), slf_Shape_kind_by⟩)
    (kf_Shape_kind_by : codeIn K cdf_Shape_kind_by "Shape.kind_by" = true)
    (qf_Shape_kind_by : keepIn K (.ref f_Shape_kind_by) = true)
    (nf_Shape_kind_by : isFn K (.ref f_Shape_kind_by) = true)
    (af_is_law : nsIn K mainGlobals "is_law" = some (some (.ref f_is_law)))
    (lf_is_law : K.lookup f_is_law = some ⟨ocf_is_law, odf_is_law, .func (fnOf "is_law" "is_law" (defArgs s_is_law) (defBody s_is_law) (defScope s_is_law) .none kVf_is_law dcf_is_law pmf_is_law anf_is_law cdf_is_law ctf_is_law), slf_is_law⟩)
    (kf_is_law : codeIn K cdf_is_law "is_law" = true)
    (qf_is_law : keepIn K (.ref f_is_law) = true)
    (af_Door_init : findIn K (.ref CDoor) "__init__" = some (some (.ref f_Door_init)))
    (lf_Door_init : K.lookup f_Door_init = some ⟨ocf_Door_init, odf_Door_init, .func (fnOf "__init__" "Door.__init__" (defArgs s_Door_init) (defBody s_Door_init) (defScope s_Door_init) .none kVf_Door_init dcf_Door_init pmf_Door_init anf_Door_init cdf_Door_init ctf_Door_init), slf_Door_init⟩)
    (kf_Door_init : codeIn K cdf_Door_init "Door.__init__" = true)
    (qf_Door_init : keepIn K (.ref f_Door_init) = true)
    (nf_Door_init : isFn K (.ref f_Door_init) = true)
    (af_Door_eq : findIn K (.ref CDoor) "__eq__" = some (some (.ref f_Door_eq)))
    (lf_Door_eq : K.lookup f_Door_eq = some ⟨ocf_Door_eq, odf_Door_eq, .func (fnOf "__eq__" "Door.__eq__" (defArgs s_Door_eq) (defBody s_Door_eq) (defScope s_Door_eq) .none kVf_Door_eq dcf_Door_eq pmf_Door_eq anf_Door_eq cdf_Door_eq ctf_Door_eq), slf_Door_eq⟩)
    (kf_Door_eq : codeIn K cdf_Door_eq "Door.__eq__" = true)
    (qf_Door_eq : keepIn K (.ref f_Door_eq) = true)
    (nf_Door_eq : isFn K (.ref f_Door_eq) = true)
    (af_law_hand : nsIn K mainGlobals "_law_hand" = some (some (.ref f_law_hand)))
    (lf_law_hand : K.lookup f_law_hand = some ⟨ocf_law_hand, odf_law_hand, .func (fnOf "_law_hand" "_law_hand" (defArgs s_law_hand) (defBody s_law_hand) (defScope s_law_hand) .none kVf_law_hand dcf_law_hand pmf_law_hand anf_law_hand cdf_law_hand ctf_law_hand), slf_law_hand⟩)
    (kf_law_hand : codeIn K cdf_law_hand "_law_hand" = true)
    (qf_law_hand : keepIn K (.ref f_law_hand) = true)
    (af_law_draw : nsIn K mainGlobals "_law_draw" = some (some (.ref f_law_draw)))
    (lf_law_draw : K.lookup f_law_draw = some ⟨ocf_law_draw, odf_law_draw, .func (fnOf "_law_draw" "_law_draw" (defArgs s_law_draw) (defBody s_law_draw) (defScope s_law_draw) .none kVf_law_draw dcf_law_draw pmf_law_draw anf_law_draw cdf_law_draw ctf_law_draw), slf_law_draw⟩)
    (kf_law_draw : codeIn K cdf_law_draw "_law_draw" = true)
    (qf_law_draw : keepIn K (.ref f_law_draw) = true)
    (af_law_some : nsIn K mainGlobals "_law_some" = some (some (.ref f_law_some)))
    (lf_law_some : K.lookup f_law_some = some ⟨ocf_law_some, odf_law_some, .func (fnOf "_law_some" "_law_some" (defArgs s_law_some) (defBody s_law_some) (defScope s_law_some) .none kVf_law_some dcf_law_some pmf_law_some anf_law_some cdf_law_some ctf_law_some), slf_law_some⟩)
    (kf_law_some : codeIn K cdf_law_some "_law_some" = true)
    (qf_law_some : keepIn K (.ref f_law_some) = true)
    (af_law_is : nsIn K mainGlobals "_law_is" = some (some (.ref f_law_is)))
    (lf_law_is : K.lookup f_law_is = some ⟨ocf_law_is, odf_law_is, .func (fnOf "_law_is" "_law_is" (defArgs s_law_is) (defBody s_law_is) (defScope s_law_is) .none kVf_law_is dcf_law_is pmf_law_is anf_law_is cdf_law_is ctf_law_is), slf_law_is⟩)
    (kf_law_is : codeIn K cdf_law_is "_law_is" = true)
    (qf_law_is : keepIn K (.ref f_law_is) = true)
    (af_law_words : nsIn K mainGlobals "_law_words" = some (some (.ref f_law_words)))
    (lf_law_words : K.lookup f_law_words = some ⟨ocf_law_words, odf_law_words, .func (fnOf "_law_words" "_law_words" (defArgs s_law_words) (defBody s_law_words) (defScope s_law_words) .none kVf_law_words dcf_law_words pmf_law_words anf_law_words cdf_law_words ctf_law_words), slf_law_words⟩)
    (kf_law_words : codeIn K cdf_law_words "_law_words" = true)
    (qf_law_words : keepIn K (.ref f_law_words) = true)
    (af_law_heads : nsIn K mainGlobals "_law_heads" = some (some (.ref f_law_heads)))
    (lf_law_heads : K.lookup f_law_heads = some ⟨ocf_law_heads, odf_law_heads, .func (fnOf "_law_heads" "_law_heads" (defArgs s_law_heads) (defBody s_law_heads) (defScope s_law_heads) .none kVf_law_heads dcf_law_heads pmf_law_heads anf_law_heads cdf_law_heads ctf_law_heads), slf_law_heads⟩)
    (kf_law_heads : codeIn K cdf_law_heads "_law_heads" = true)
    (qf_law_heads : keepIn K (.ref f_law_heads) = true)
    (af_law_drawn_term : nsIn K mainGlobals "_law_drawn_term" = some (some (.ref f_law_drawn_term)))
    (lf_law_drawn_term : K.lookup f_law_drawn_term = some ⟨ocf_law_drawn_term, odf_law_drawn_term, .func (fnOf "_law_drawn_term" "_law_drawn_term" (defArgs s_law_drawn_term) (defBody s_law_drawn_term) (defScope s_law_drawn_term) .none kVf_law_drawn_term dcf_law_drawn_term pmf_law_drawn_term anf_law_drawn_term cdf_law_drawn_term ctf_law_drawn_term), slf_law_drawn_term⟩)
    (kf_law_drawn_term : codeIn K cdf_law_drawn_term "_law_drawn_term" = true)
    (qf_law_drawn_term : keepIn K (.ref f_law_drawn_term) = true)
    (af_law_size : nsIn K mainGlobals "_law_size" = some (some (.ref f_law_size)))
    (lf_law_size : K.lookup f_law_size = some ⟨ocf_law_size, odf_law_size, .func (fnOf "_law_size" "_law_size" (defArgs s_law_size) (defBody s_law_size) (defScope s_law_size) .none kVf_law_size dcf_law_size pmf_law_size anf_law_size cdf_law_size ctf_law_size), slf_law_size⟩)
    (kf_law_size : codeIn K cdf_law_size "_law_size" = true)
    (qf_law_size : keepIn K (.ref f_law_size) = true)
    (af_law_unknowns : nsIn K mainGlobals "_law_unknowns" = some (some (.ref f_law_unknowns)))
    (lf_law_unknowns : K.lookup f_law_unknowns = some ⟨ocf_law_unknowns, odf_law_unknowns, .func (fnOf "_law_unknowns" "_law_unknowns" (defArgs s_law_unknowns) (defBody s_law_unknowns) (defScope s_law_unknowns) .none kVf_law_unknowns dcf_law_unknowns pmf_law_unknowns anf_law_unknowns cdf_law_unknowns ctf_law_unknowns), slf_law_unknowns⟩)
    (kf_law_unknowns : codeIn K cdf_law_unknowns "_law_unknowns" = true)
    (qf_law_unknowns : keepIn K (.ref f_law_unknowns) = true)
    (af_law_is_above : nsIn K mainGlobals "_law_is_above" = some (some (.ref f_law_is_above)))
    (lf_law_is_above : K.lookup f_law_is_above = some ⟨ocf_law_is_above, odf_law_is_above, .func (fnOf "_law_is_above" "_law_is_above" (defArgs s_law_is_above) (defBody s_law_is_above) (defScope s_law_is_above) .none kVf_law_is_above dcf_law_is_above pmf_law_is_above anf_law_is_above cdf_law_is_above ctf_law_is_above), slf_law_is_above⟩)
    (kf_law_is_above : codeIn K cdf_law_is_above "_law_is_above" = true)
    (qf_law_is_above : keepIn K (.ref f_law_is_above) = true)
    (af_law_drawn_law : nsIn K mainGlobals "_law_drawn_law" = some (some (.ref f_law_drawn_law)))
    (lf_law_drawn_law : K.lookup f_law_drawn_law = some ⟨ocf_law_drawn_law, odf_law_drawn_law, .func (fnOf "_law_drawn_law" "_law_drawn_law" (defArgs s_law_drawn_law) (defBody s_law_drawn_law) (defScope s_law_drawn_law) .none kVf_law_drawn_law dcf_law_drawn_law pmf_law_drawn_law anf_law_drawn_law cdf_law_drawn_law ctf_law_drawn_law), slf_law_drawn_law⟩)
    (kf_law_drawn_law : codeIn K cdf_law_drawn_law "_law_drawn_law" = true)
    (qf_law_drawn_law : keepIn K (.ref f_law_drawn_law) = true)
    (af_law_parts : nsIn K mainGlobals "_law_parts" = some (some (.ref f_law_parts)))
    (lf_law_parts : K.lookup f_law_parts = some ⟨ocf_law_parts, odf_law_parts, .func (fnOf "_law_parts" "_law_parts" (defArgs s_law_parts) (defBody s_law_parts) (defScope s_law_parts) .none kVf_law_parts dcf_law_parts pmf_law_parts anf_law_parts cdf_law_parts ctf_law_parts), slf_law_parts⟩)
    (kf_law_parts : codeIn K cdf_law_parts "_law_parts" = true)
    (qf_law_parts : keepIn K (.ref f_law_parts) = true)
    (af_law_made : nsIn K mainGlobals "_law_made" = some (some (.ref f_law_made)))
    (lf_law_made : K.lookup f_law_made = some ⟨ocf_law_made, odf_law_made, .func (fnOf "_law_made" "_law_made" (defArgs s_law_made) (defBody s_law_made) (defScope s_law_made) .none kVf_law_made dcf_law_made pmf_law_made anf_law_made cdf_law_made ctf_law_made), slf_law_made⟩)
    (kf_law_made : codeIn K cdf_law_made "_law_made" = true)
    (qf_law_made : keepIn K (.ref f_law_made) = true)
    (af_law_stands : nsIn K mainGlobals "_law_stands" = some (some (.ref f_law_stands)))
    (lf_law_stands : K.lookup f_law_stands = some ⟨ocf_law_stands, odf_law_stands, .func (fnOf "_law_stands" "_law_stands" (defArgs s_law_stands) (defBody s_law_stands) (defScope s_law_stands) .none kVf_law_stands dcf_law_stands pmf_law_stands anf_law_stands cdf_law_stands ctf_law_stands), slf_law_stands⟩)
    (kf_law_stands : codeIn K cdf_law_stands "_law_stands" = true)
    (qf_law_stands : keepIn K (.ref f_law_stands) = true)
    (af_law_others : nsIn K mainGlobals "_law_others" = some (some (.ref f_law_others)))
    (lf_law_others : K.lookup f_law_others = some ⟨ocf_law_others, odf_law_others, .func (fnOf "_law_others" "_law_others" (defArgs s_law_others) (defBody s_law_others) (defScope s_law_others) .none kVf_law_others dcf_law_others pmf_law_others anf_law_others cdf_law_others ctf_law_others), slf_law_others⟩)
    (kf_law_others : codeIn K cdf_law_others "_law_others" = true)
    (qf_law_others : keepIn K (.ref f_law_others) = true)
    (af_law_is_known_right : nsIn K mainGlobals "_law_is_known_right" = some (some (.ref f_law_is_known_right)))
    (lf_law_is_known_right : K.lookup f_law_is_known_right = some ⟨ocf_law_is_known_right, odf_law_is_known_right, .func (fnOf "_law_is_known_right" "_law_is_known_right" (defArgs s_law_is_known_right) (defBody s_law_is_known_right) (defScope s_law_is_known_right) .none kVf_law_is_known_right dcf_law_is_known_right pmf_law_is_known_right anf_law_is_known_right cdf_law_is_known_right ctf_law_is_known_right), slf_law_is_known_right⟩)
    (kf_law_is_known_right : codeIn K cdf_law_is_known_right "_law_is_known_right" = true)
    (qf_law_is_known_right : keepIn K (.ref f_law_is_known_right) = true)
    (af_law : nsIn K mainGlobals "law" = some (some (.ref f_law)))
    (lf_law : K.lookup f_law = some ⟨ocf_law, odf_law, .func (fnOf "law" "law" (defArgs s_law) (defBody s_law) (defScope s_law) .none kVf_law dcf_law pmf_law anf_law cdf_law ctf_law), slf_law⟩)
    (kf_law : codeIn K cdf_law "law" = true)
    (qf_law : keepIn K (.ref f_law) = true)
    (gLETTERS : nsIn K mainGlobals "LETTERS" = some (some (.str "abcdefghijklmnopqrstuvwxyz" tLETTERS)))
    (gMOST_LETTERS : nsIn K mainGlobals "MOST_LETTERS" = some (some (.int 8 tMOST_LETTERS)))
    (gMOST_NUMBER : nsIn K mainGlobals "MOST_NUMBER" = some (some (.int 999 tMOST_NUMBER)))
    (gUNKNOWN : nsIn K mainGlobals "UNKNOWN" = some (some (.str "?" tUNKNOWN)))
    (gMOST_KINDS : nsIn K mainGlobals "MOST_KINDS" = some (some (.int 4 tMOST_KINDS)))
    (gMOST_WORDS : nsIn K mainGlobals "MOST_WORDS" = some (some (.int 4 tMOST_WORDS)))
    (gMOST_HEADS : nsIn K mainGlobals "MOST_HEADS" = some (some (.int 12 tMOST_HEADS)))
    (gMOST_LAWS : nsIn K mainGlobals "MOST_LAWS" = some (some (.int 16 tMOST_LAWS)))
    (gMOST_LAW_PARTS : nsIn K mainGlobals "MOST_LAW_PARTS" = some (some (.int 30 tMOST_LAW_PARTS)))
    (gMOST_SHAPE : nsIn K mainGlobals "MOST_SHAPE" = some (some (.int 3 tMOST_SHAPE)))
    (z_len : nsIn K mainGlobals "len" = some none)
    (z_int : nsIn K mainGlobals "int" = some none)
    (z_abs : nsIn K mainGlobals "abs" = some none)
    (z_range : nsIn K mainGlobals "range" = some none)
    (z_isinstance : nsIn K mainGlobals "isinstance" = some none)
    (z_all : nsIn K mainGlobals "all" = some none)
    (z_any : nsIn K mainGlobals "any" = some none)
    (z_sum : nsIn K mainGlobals "sum" = some none)
    (z_list : nsIn K mainGlobals "list" = some none)
    (z_set : nsIn K mainGlobals "set" = some none)
    (z_enumerate : nsIn K mainGlobals "enumerate" = some none)
    (z_zip : nsIn K mainGlobals "zip" = some none)
    (z_tuple : nsIn K mainGlobals "tuple" = some none)
    (z_dict : nsIn K mainGlobals "dict" = some none)
    (z_sorted : nsIn K mainGlobals "sorted" = some none)
    (z_str : nsIn K mainGlobals "str" = some none)
    (z_bool : nsIn K mainGlobals "bool" = some none)
    (n_Order_rank : findIn K (.ref COrder) "rank" = some none)
    (n_Order_found : findIn K (.ref COrder) "found" = some none)
    (n_Shape_sealed : findIn K (.ref CShape) "sealed" = some none)
    (n_Shape_word_kinds : findIn K (.ref CShape) "word_kinds" = some none)
    (n_Shape_lots : findIn K (.ref CShape) "lots" = some none)
    (n_Shape_heads : findIn K (.ref CShape) "heads" = some none)
    (n_Shape_rank : findIn K (.ref CShape) "rank" = some none)
    (n_Door_shape : findIn K (.ref CDoor) "shape" = some none)
    (n_Door_words : findIn K (.ref CDoor) "words" = some none)
    (n_Door_sealed : findIn K (.ref CDoor) "sealed" = some none)
    (n_Door_heads : findIn K (.ref CDoor) "heads" = some none)
    (n_Door_laws : findIn K (.ref CDoor) "laws" = some none)
    (n_Door_meeting : findIn K (.ref CDoor) "meeting" = some none)
    (e_ne : findIn K (.ref CDoor) "__ne__" = some (some (.builtin "object.__ne__")))
    (e_ob : mroIn K CDoor (.type "object") = some true)
    (e_sN : subIn K (.type "NoneType") (.ref CDoor) = some false)
    (e_kN : kitOne K (.type "NoneType") (.ref CDoor) = some false)
    (e_sI : subIn K (.type "int") (.ref CDoor) = some false)
    (e_kI : kitOne K (.type "int") (.ref CDoor) = some false)
    (e_sS : subIn K (.type "str") (.ref CDoor) = some false)
    (e_kS : kitOne K (.type "str") (.ref CDoor) = some false)
    (e_sL : subIn K (.type "list") (.ref CDoor) = some false)
    (e_kL : kitOne K (.type "list") (.ref CDoor) = some false)
    (e_sT : subIn K (.type "tuple") (.ref CDoor) = some false)
    (e_kT : kitOne K (.type "tuple") (.ref CDoor) = some false)
    (e_kD : kitOne K (.ref CDoor) (.ref CDoor) = some true)
    (e_ha : findIn K (.ref CDoor) "__class__" = some (some (.builtin "object.__class__")))
    (e_hn : specialIn K (.builtin "object.__class__") "__get__" = some (some (.builtin "getset_descriptor.__get__")))
    (e_ht : takesIn K (.builtin "object.__class__") = some true) :
    ∃ T : Tx K mg, DoorFacts K T.cDoor.C T.f_Door_eq.f := by
  refine ⟨{
    cOrder := ⟨COrder, mg_of X G aOrder, ⟨pgOrder, hdOrder, poOrder, saOrder⟩, mkOrder, kpOrder⟩
    cShape := ⟨CShape, mg_of X G aShape, ⟨pgShape, hdShape, poShape, saShape⟩, mkShape, kpShape⟩
    cDoor := ⟨CDoor, mg_of X G aDoor, ⟨pgDoor, hdDoor, poDoor, saDoor⟩, mkDoor, kpDoor⟩
    f_is_integer := ⟨f_is_integer, _, fun_mk (st := s_is_integer) lf_is_integer kf_is_integer qf_is_integer, mg_of X G af_is_integer, (fun_mk (st := s_is_integer) lf_is_integer kf_is_integer qf_is_integer).binds fun _ _ _ _ _ _ us hl => match us, hl with | [_], _ => rfl⟩
    f_is_within := ⟨f_is_within, _, fun_mk (st := s_is_within) lf_is_within kf_is_within qf_is_within, mg_of X G af_is_within, (fun_mk (st := s_is_within) lf_is_within kf_is_within qf_is_within).binds fun _ _ _ _ _ _ us hl => match us, hl with | [_, _, _], _ => rfl⟩
    f_is_name := ⟨f_is_name, _, fun_mk (st := s_is_name) lf_is_name kf_is_name qf_is_name, mg_of X G af_is_name, (fun_mk (st := s_is_name) lf_is_name kf_is_name qf_is_name).binds fun _ _ _ _ _ _ us hl => match us, hl with | [_], _ => rfl⟩
    f_is_tuple := ⟨f_is_tuple, _, fun_mk (st := s_is_tuple) lf_is_tuple kf_is_tuple qf_is_tuple, mg_of X G af_is_tuple, (fun_mk (st := s_is_tuple) lf_is_tuple kf_is_tuple qf_is_tuple).binds fun _ _ _ _ _ _ us hl => match us, hl with | [_, _, _], _ => rfl⟩
    f_are_unlike := ⟨f_are_unlike, _, fun_mk (st := s_are_unlike) lf_are_unlike kf_are_unlike qf_are_unlike, mg_of X G af_are_unlike, (fun_mk (st := s_are_unlike) lf_are_unlike kf_are_unlike qf_are_unlike).binds fun _ _ _ _ _ _ us hl => match us, hl with | [_], _ => rfl⟩
    f_is_unknown := ⟨f_is_unknown, _, fun_mk (st := s_is_unknown) lf_is_unknown kf_is_unknown qf_is_unknown, mg_of X G af_is_unknown, (fun_mk (st := s_is_unknown) lf_is_unknown kf_is_unknown qf_is_unknown).binds fun _ _ _ _ _ _ us hl => match us, hl with | [_], _ => rfl⟩
    f_is_word := ⟨f_is_word, _, fun_mk (st := s_is_word) lf_is_word kf_is_word qf_is_word, mg_of X G af_is_word, (fun_mk (st := s_is_word) lf_is_word kf_is_word qf_is_word).binds fun _ _ _ _ _ _ us hl => match us, hl with | [_], _ => rfl⟩
    f_is_called := ⟨f_is_called, _, fun_mk (st := s_is_called) lf_is_called kf_is_called qf_is_called, mg_of X G af_is_called, (fun_mk (st := s_is_called) lf_is_called kf_is_called qf_is_called).binds fun _ _ _ _ _ _ us hl => match us, hl with | [_], _ => rfl⟩
    f_size_of := ⟨f_size_of, _, fun_mk (st := s_size_of) lf_size_of kf_size_of qf_size_of, mg_of X G af_size_of, (fun_mk (st := s_size_of) lf_size_of kf_size_of qf_size_of).binds fun _ _ _ _ _ _ us hl => match us, hl with | [_], _ => rfl⟩
    f_parts_of := ⟨f_parts_of, _, fun_mk (st := s_parts_of) lf_parts_of kf_parts_of qf_parts_of, mg_of X G af_parts_of, (fun_mk (st := s_parts_of) lf_parts_of kf_parts_of qf_parts_of).binds fun _ _ _ _ _ _ us hl => match us, hl with | [_], _ => rfl⟩
    f_numbers_in := ⟨f_numbers_in, _, fun_mk (st := s_numbers_in) lf_numbers_in kf_numbers_in qf_numbers_in, mg_of X G af_numbers_in, (fun_mk (st := s_numbers_in) lf_numbers_in kf_numbers_in qf_numbers_in).binds fun _ _ _ _ _ _ us hl => match us, hl with | [_], _ => rfl⟩
    f_Order_init := ⟨f_Order_init, _, fun_mk (st := s_Order_init) lf_Order_init kf_Order_init qf_Order_init, ⟨af_Order_init, nf_Order_init, qf_Order_init⟩, (fun_mk (st := s_Order_init) lf_Order_init kf_Order_init qf_Order_init).binds fun _ _ _ _ _ _ us hl => match us, hl with | [_, _], _ => rfl⟩
    f_Order_is_greater := ⟨f_Order_is_greater, _, fun_mk (st := s_Order_is_greater) lf_Order_is_greater kf_Order_is_greater qf_Order_is_greater, ⟨af_Order_is_greater, nf_Order_is_greater, qf_Order_is_greater⟩, (fun_mk (st := s_Order_is_greater) lf_Order_is_greater kf_Order_is_greater qf_Order_is_greater).binds fun _ _ _ _ _ _ us hl => match us, hl with | [_, _, _], _ => rfl⟩
    f_Order_looked := ⟨f_Order_looked, _, fun_mk (st := s_Order_looked) lf_Order_looked kf_Order_looked qf_Order_looked, ⟨af_Order_looked, nf_Order_looked, qf_Order_looked⟩, (fun_mk (st := s_Order_looked) lf_Order_looked kf_Order_looked qf_Order_looked).binds fun _ _ _ _ _ _ us hl => match us, hl with | [_, _, _], _ => rfl⟩
    f_Order_goes_ahead := ⟨f_Order_goes_ahead, _, fun_mk (st := s_Order_goes_ahead) lf_Order_goes_ahead kf_Order_goes_ahead qf_Order_goes_ahead, ⟨af_Order_goes_ahead, nf_Order_goes_ahead, qf_Order_goes_ahead⟩, (fun_mk (st := s_Order_goes_ahead) lf_Order_goes_ahead kf_Order_goes_ahead qf_Order_goes_ahead).binds fun _ _ _ _ _ _ us hl => match us, hl with | [_, _, _], _ => rfl⟩
    f_are_words := ⟨f_are_words, _, fun_mk (st := s_are_words) lf_are_words kf_are_words qf_are_words, mg_of X G af_are_words, (fun_mk (st := s_are_words) lf_are_words kf_are_words qf_are_words).binds fun _ _ _ _ _ _ us hl => match us, hl with | [_], _ => rfl⟩
    f_are_sealed := ⟨f_are_sealed, _, fun_mk (st := s_are_sealed) lf_are_sealed kf_are_sealed qf_are_sealed, mg_of X G af_are_sealed, (fun_mk (st := s_are_sealed) lf_are_sealed kf_are_sealed qf_are_sealed).binds fun _ _ _ _ _ _ us hl => match us, hl with | [_, _], _ => rfl⟩
    f_are_heads := ⟨f_are_heads, _, fun_mk (st := s_are_heads) lf_are_heads kf_are_heads qf_are_heads, mg_of X G af_are_heads, (fun_mk (st := s_are_heads) lf_are_heads kf_are_heads qf_are_heads).binds fun _ _ _ _ _ _ us hl => match us, hl with | [_, _, _], _ => rfl⟩
    f_Shape_init := ⟨f_Shape_init, _, fun_mk (st := s_Shape_init) lf_Shape_init kf_Shape_init qf_Shape_init, ⟨af_Shape_init, nf_Shape_init, qf_Shape_init⟩, (fun_mk (st := s_Shape_init) lf_Shape_init kf_Shape_init qf_Shape_init).binds fun _ _ _ _ _ _ us hl => match us, hl with | [_, _, _, _], _ => rfl⟩
    f_Shape_kind_of := ⟨f_Shape_kind_of, _, fun_mk (st := s_Shape_kind_of) lf_Shape_kind_of kf_Shape_kind_of qf_Shape_kind_of, ⟨af_Shape_kind_of, nf_Shape_kind_of, qf_Shape_kind_of⟩, (fun_mk (st := s_Shape_kind_of) lf_Shape_kind_of kf_Shape_kind_of qf_Shape_kind_of).binds fun _ _ _ _ _ _ us hl => match us, hl with | [_, _], _ => rfl⟩
    f_Shape_is_asker := ⟨f_Shape_is_asker, _, fun_mk (st := s_Shape_is_asker) lf_Shape_is_asker kf_Shape_is_asker qf_Shape_is_asker, ⟨af_Shape_is_asker, nf_Shape_is_asker, qf_Shape_is_asker⟩, (fun_mk (st := s_Shape_is_asker) lf_Shape_is_asker kf_Shape_is_asker qf_Shape_is_asker).binds fun _ _ _ _ _ _ us hl => match us, hl with | [_, _], _ => rfl⟩
    f_Shape_told := ⟨f_Shape_told, _, fun_mk (st := s_Shape_told) lf_Shape_told kf_Shape_told qf_Shape_told, ⟨af_Shape_told, nf_Shape_told, qf_Shape_told⟩, (fun_mk (st := s_Shape_told) lf_Shape_told kf_Shape_told qf_Shape_told).binds fun _ _ _ _ _ _ us hl => match us, hl with | [_, _, _, _], _ => rfl⟩
    f_Shape_told_together := ⟨f_Shape_told_together, _, fun_mk (st := s_Shape_told_together) lf_Shape_told_together kf_Shape_told_together qf_Shape_told_together, ⟨af_Shape_told_together, nf_Shape_told_together, qf_Shape_told_together⟩, (fun_mk (st := s_Shape_told_together) lf_Shape_told_together kf_Shape_told_together qf_Shape_told_together).binds fun _ _ _ _ _ _ us hl => match us, hl with | [_, _], _ => rfl⟩
    f_Shape_told_beside := ⟨f_Shape_told_beside, _, fun_mk (st := s_Shape_told_beside) lf_Shape_told_beside kf_Shape_told_beside qf_Shape_told_beside, ⟨af_Shape_told_beside, nf_Shape_told_beside, qf_Shape_told_beside⟩, (fun_mk (st := s_Shape_told_beside) lf_Shape_told_beside kf_Shape_told_beside qf_Shape_told_beside).binds fun _ _ _ _ _ _ us hl => match us, hl with | [_, _, _], _ => rfl⟩
    f_Shape_kind_by := ⟨f_Shape_kind_by, _, fun_mk (st := s_Shape_kind_by) lf_Shape_kind_by kf_Shape_kind_by qf_Shape_kind_by, ⟨af_Shape_kind_by, nf_Shape_kind_by, qf_Shape_kind_by⟩, (fun_mk (st := s_Shape_kind_by) lf_Shape_kind_by kf_Shape_kind_by qf_Shape_kind_by).binds fun _ _ _ _ _ _ us hl => match us, hl with | [_, _, _], _ => rfl⟩
    f_is_law := ⟨f_is_law, _, fun_mk (st := s_is_law) lf_is_law kf_is_law qf_is_law, mg_of X G af_is_law, (fun_mk (st := s_is_law) lf_is_law kf_is_law qf_is_law).binds fun _ _ _ _ _ _ us hl => match us, hl with | [_, _], _ => rfl⟩
    f_Door_init := ⟨f_Door_init, _, fun_mk (st := s_Door_init) lf_Door_init kf_Door_init qf_Door_init, ⟨af_Door_init, nf_Door_init, qf_Door_init⟩, (fun_mk (st := s_Door_init) lf_Door_init kf_Door_init qf_Door_init).binds fun _ _ _ _ _ _ us hl => match us, hl with | [_, _, _, _, _], _ => rfl⟩
    f_Door_eq := ⟨f_Door_eq, _, fun_mk (st := s_Door_eq) lf_Door_eq kf_Door_eq qf_Door_eq, ⟨af_Door_eq, nf_Door_eq, qf_Door_eq⟩, (fun_mk (st := s_Door_eq) lf_Door_eq kf_Door_eq qf_Door_eq).binds fun _ _ _ _ _ _ us hl => match us, hl with | [_, _], _ => rfl⟩
    f_law_hand := ⟨f_law_hand, _, fun_mk (st := s_law_hand) lf_law_hand kf_law_hand qf_law_hand, mg_of X G af_law_hand, (fun_mk (st := s_law_hand) lf_law_hand kf_law_hand qf_law_hand).binds fun _ _ _ _ _ _ us hl => match us, hl with | [_], _ => rfl⟩
    f_law_draw := ⟨f_law_draw, _, fun_mk (st := s_law_draw) lf_law_draw kf_law_draw qf_law_draw, mg_of X G af_law_draw, (fun_mk (st := s_law_draw) lf_law_draw kf_law_draw qf_law_draw).binds fun _ _ _ _ _ _ us hl => match us, hl with | [_, _], _ => rfl⟩
    f_law_some := ⟨f_law_some, _, fun_mk (st := s_law_some) lf_law_some kf_law_some qf_law_some, mg_of X G af_law_some, (fun_mk (st := s_law_some) lf_law_some kf_law_some qf_law_some).binds fun _ _ _ _ _ _ us hl => match us, hl with | [_, _], _ => rfl⟩
    f_law_is := ⟨f_law_is, _, fun_mk (st := s_law_is) lf_law_is kf_law_is qf_law_is, mg_of X G af_law_is, (fun_mk (st := s_law_is) lf_law_is kf_law_is qf_law_is).binds fun _ _ _ _ _ _ us hl => match us, hl with | [_, _], _ => rfl⟩
    f_law_words := ⟨f_law_words, _, fun_mk (st := s_law_words) lf_law_words kf_law_words qf_law_words, mg_of X G af_law_words, (fun_mk (st := s_law_words) lf_law_words kf_law_words qf_law_words).binds fun _ _ _ _ _ _ us hl => match us, hl with | [_], _ => rfl⟩
    f_law_heads := ⟨f_law_heads, _, fun_mk (st := s_law_heads) lf_law_heads kf_law_heads qf_law_heads, mg_of X G af_law_heads, (fun_mk (st := s_law_heads) lf_law_heads kf_law_heads qf_law_heads).binds fun _ _ _ _ _ _ us hl => match us, hl with | [_, _, _], _ => rfl⟩
    f_law_drawn_term := ⟨f_law_drawn_term, _, fun_mk (st := s_law_drawn_term) lf_law_drawn_term kf_law_drawn_term qf_law_drawn_term, mg_of X G af_law_drawn_term, (fun_mk (st := s_law_drawn_term) lf_law_drawn_term kf_law_drawn_term qf_law_drawn_term).binds fun _ _ _ _ _ _ us hl => match us, hl with | [_, _, _, _, _, _], _ => rfl⟩
    f_law_size := ⟨f_law_size, _, fun_mk (st := s_law_size) lf_law_size kf_law_size qf_law_size, mg_of X G af_law_size, (fun_mk (st := s_law_size) lf_law_size kf_law_size qf_law_size).binds fun _ _ _ _ _ _ us hl => match us, hl with | [_], _ => rfl⟩
    f_law_unknowns := ⟨f_law_unknowns, _, fun_mk (st := s_law_unknowns) lf_law_unknowns kf_law_unknowns qf_law_unknowns, mg_of X G af_law_unknowns, (fun_mk (st := s_law_unknowns) lf_law_unknowns kf_law_unknowns qf_law_unknowns).binds fun _ _ _ _ _ _ us hl => match us, hl with | [_], _ => rfl⟩
    f_law_is_above := ⟨f_law_is_above, _, fun_mk (st := s_law_is_above) lf_law_is_above kf_law_is_above qf_law_is_above, mg_of X G af_law_is_above, (fun_mk (st := s_law_is_above) lf_law_is_above kf_law_is_above qf_law_is_above).binds fun _ _ _ _ _ _ us hl => match us, hl with | [_, _, _], _ => rfl⟩
    f_law_drawn_law := ⟨f_law_drawn_law, _, fun_mk (st := s_law_drawn_law) lf_law_drawn_law kf_law_drawn_law qf_law_drawn_law, mg_of X G af_law_drawn_law, (fun_mk (st := s_law_drawn_law) lf_law_drawn_law kf_law_drawn_law qf_law_drawn_law).binds fun _ _ _ _ _ _ us hl => match us, hl with | [_, _], _ => rfl⟩
    f_law_parts := ⟨f_law_parts, _, fun_mk (st := s_law_parts) lf_law_parts kf_law_parts qf_law_parts, mg_of X G af_law_parts, (fun_mk (st := s_law_parts) lf_law_parts kf_law_parts qf_law_parts).binds fun _ _ _ _ _ _ us hl => match us, hl with | [_], _ => rfl⟩
    f_law_made := ⟨f_law_made, _, fun_mk (st := s_law_made) lf_law_made kf_law_made qf_law_made, mg_of X G af_law_made, (fun_mk (st := s_law_made) lf_law_made kf_law_made qf_law_made).binds fun _ _ _ _ _ _ us hl => match us, hl with | [_], _ => rfl⟩
    f_law_stands := ⟨f_law_stands, _, fun_mk (st := s_law_stands) lf_law_stands kf_law_stands qf_law_stands, mg_of X G af_law_stands, (fun_mk (st := s_law_stands) lf_law_stands kf_law_stands qf_law_stands).binds fun _ _ _ _ _ _ us hl => match us, hl with | [_, _], _ => rfl⟩
    f_law_others := ⟨f_law_others, _, fun_mk (st := s_law_others) lf_law_others kf_law_others qf_law_others, mg_of X G af_law_others, (fun_mk (st := s_law_others) lf_law_others kf_law_others qf_law_others).binds fun _ _ _ _ _ _ us hl => match us, hl with | [_, _], _ => rfl⟩
    f_law_is_known_right := ⟨f_law_is_known_right, _, fun_mk (st := s_law_is_known_right) lf_law_is_known_right kf_law_is_known_right qf_law_is_known_right, mg_of X G af_law_is_known_right, (fun_mk (st := s_law_is_known_right) lf_law_is_known_right kf_law_is_known_right qf_law_is_known_right).binds fun _ _ _ _ _ _ us hl => match us, hl with | [], _ => rfl⟩
    f_law := ⟨f_law, _, fun_mk (st := s_law) lf_law kf_law qf_law, mg_of X G af_law, (fun_mk (st := s_law) lf_law kf_law qf_law).binds fun _ _ _ _ _ _ us hl => match us, hl with | [_], _ => rfl⟩
    gLETTERS := ⟨_, mg_of X G gLETTERS, _, rfl⟩
    gMOST_LETTERS := ⟨_, mg_of X G gMOST_LETTERS, _, rfl⟩
    gMOST_NUMBER := ⟨_, mg_of X G gMOST_NUMBER, _, rfl⟩
    gUNKNOWN := ⟨_, mg_of X G gUNKNOWN, _, rfl⟩
    gMOST_KINDS := ⟨_, mg_of X G gMOST_KINDS, _, rfl⟩
    gMOST_WORDS := ⟨_, mg_of X G gMOST_WORDS, _, rfl⟩
    gMOST_HEADS := ⟨_, mg_of X G gMOST_HEADS, _, rfl⟩
    gMOST_LAWS := ⟨_, mg_of X G gMOST_LAWS, _, rfl⟩
    gMOST_LAW_PARTS := ⟨_, mg_of X G gMOST_LAW_PARTS, _, rfl⟩
    gMOST_SHAPE := ⟨_, mg_of X G gMOST_SHAPE, _, rfl⟩
    z_len := mg_none_of X G z_len
    z_int := mg_none_of X G z_int
    z_abs := mg_none_of X G z_abs
    z_range := mg_none_of X G z_range
    z_isinstance := mg_none_of X G z_isinstance
    z_all := mg_none_of X G z_all
    z_any := mg_none_of X G z_any
    z_sum := mg_none_of X G z_sum
    z_list := mg_none_of X G z_list
    z_set := mg_none_of X G z_set
    z_enumerate := mg_none_of X G z_enumerate
    z_zip := mg_none_of X G z_zip
    z_tuple := mg_none_of X G z_tuple
    z_dict := mg_none_of X G z_dict
    z_sorted := mg_none_of X G z_sorted
    z_str := mg_none_of X G z_str
    z_bool := mg_none_of X G z_bool
    n_Order_rank := n_Order_rank
    n_Order_found := n_Order_found
    n_Shape_sealed := n_Shape_sealed
    n_Shape_word_kinds := n_Shape_word_kinds
    n_Shape_lots := n_Shape_lots
    n_Shape_heads := n_Shape_heads
    n_Shape_rank := n_Shape_rank
    n_Door_shape := n_Door_shape
    n_Door_words := n_Door_words
    n_Door_sealed := n_Door_sealed
    n_Door_heads := n_Door_heads
    n_Door_laws := n_Door_laws
    n_Door_meeting := n_Door_meeting }, ⟨af_Door_eq, e_ne, nf_Door_eq, e_ob, e_sN, e_sI, e_sS, e_sL, e_sT⟩, e_kN, e_kI, e_kS, e_kL, e_kT, e_kD, e_ha, e_hn, e_ht⟩
theorem given {P : Program} {w : World} {K : Frag} {mg : Str → Option Value} {fa : Addr} (found : ∃ T : Tx K mg, DoorFacts K T.cDoor.C T.f_Door_eq.f) (hfa : mg "law" = some (.ref fa)) :
    ∃ fd : FuncData, (∀ (s : Shared) (v : Value), BindsTo s fd ⟨[v], []⟩ [("script", v)]) ∧ ∀ base : Heap, K.In base → base.Ns mainGlobals mg → FnOk P w K mg base CX0 72 fa fd ["script"] (spLaw K) := by
  obtain ⟨T, DF⟩ := found
  have same := T.f_law.g.symm.trans hfa
  obtain rfl : T.f_law.f = fa := by
    injection same with same
    injection same
  refine ⟨T.f_law.fd, fun s v => ?_, fun base _ _ => ok_law T DF⟩
  obtain ⟨_, _, _, _, _, _, _, _, _, shape, _, _⟩ := T.f_law.F.ex
  rw [shape]
  exact .of_eq rfl
end Dr
section Head
open PySem PySem.W PyProof.Rows
set_option maxRecDepth 100000 in
set_option maxHeartbeats 0 in
theorem PySem.Challenge.cw_doorhouses_k01_whole_doors_made_holds : PySem.Challenge.rw_doorhouses_k01_whole_doors_made.Holds := by
  w_on; o_law; k_head; (case hw => w_witness2)
  k_fill
  refine L2.walk_ofK (l := PySem.Challenge.rw_doorhouses_k01_whole_doors_made) (n := 63) (k := 72) (x := "script") (CX := L2.CX0) (sp := Dr.spLaw) rfl (by decide) rfl ⟨rfl, by decide, by decide⟩ (fun w h Y => PySem.W.kIn_of Y) ?F ?S ?X
  case S =>
    intro K H a ns few _ hS
    exact Dr.spLaw_of ⟨a, ns, rfl, hS, few, fun _ => rfl⟩
  case X => exact fun _ _ _ _ z => z
  case F =>
    intro w mg fa h KX G hmg
    refine Dr.given ?E hmg
    refine' Dr.all_mk KX G ?aOrder ?pgOrder ?hdOrder ?poOrder ?saOrder ?mkOrder ?kpOrder ?aShape ?pgShape ?hdShape ?poShape ?saShape ?mkShape ?kpShape ?aDoor ?pgDoor ?hdDoor ?poDoor ?saDoor ?mkDoor ?kpDoor ?af_is_integer ?lf_is_integer ?kf_is_integer ?qf_is_integer ?af_is_within ?lf_is_within ?kf_is_within ?qf_is_within ?af_is_name ?lf_is_name ?kf_is_name ?qf_is_name ?af_is_tuple ?lf_is_tuple ?kf_is_tuple ?qf_is_tuple ?af_are_unlike ?lf_are_unlike ?kf_are_unlike ?qf_are_unlike ?af_is_unknown ?lf_is_unknown ?kf_is_unknown ?qf_is_unknown ?af_is_word ?lf_is_word ?kf_is_word ?qf_is_word ?af_is_called ?lf_is_called ?kf_is_called ?qf_is_called ?af_size_of ?lf_size_of ?kf_size_of ?qf_size_of ?af_parts_of ?lf_parts_of ?kf_parts_of ?qf_parts_of ?af_numbers_in ?lf_numbers_in ?kf_numbers_in ?qf_numbers_in ?af_Order_init ?lf_Order_init ?kf_Order_init ?qf_Order_init ?nf_Order_init ?af_Order_is_greater ?lf_Order_is_greater ?kf_Order_is_greater ?qf_Order_is_greater ?nf_Order_is_greater ?af_Order_looked ?lf_Order_looked ?kf_Order_looked ?qf_Order_looked ?nf_Order_looked ?af_Order_goes_ahead ?lf_Order_goes_ahead ?kf_Order_goes_ahead ?qf_Order_goes_ahead ?nf_Order_goes_ahead ?af_are_words ?lf_are_words ?kf_are_words ?qf_are_words ?af_are_sealed ?lf_are_sealed ?kf_are_sealed ?qf_are_sealed ?af_are_heads ?lf_are_heads ?kf_are_heads ?qf_are_heads ?af_Shape_init ?lf_Shape_init ?kf_Shape_init ?qf_Shape_init ?nf_Shape_init ?af_Shape_kind_of ?lf_Shape_kind_of ?kf_Shape_kind_of ?qf_Shape_kind_of ?nf_Shape_kind_of ?af_Shape_is_asker ?lf_Shape_is_asker ?kf_Shape_is_asker ?qf_Shape_is_asker ?nf_Shape_is_asker ?af_Shape_told ?lf_Shape_told ?kf_Shape_told ?qf_Shape_told ?nf_Shape_told ?af_Shape_told_together ?lf_Shape_told_together ?kf_Shape_told_together ?qf_Shape_told_together ?nf_Shape_told_together ?af_Shape_told_beside ?lf_Shape_told_beside ?kf_Shape_told_beside ?qf_Shape_told_beside ?nf_Shape_told_beside ?af_Shape_kind_by ?lf_Shape_kind_by ?kf_Shape_kind_by ?qf_Shape_kind_by ?nf_Shape_kind_by ?af_is_law ?lf_is_law ?kf_is_law ?qf_is_law ?af_Door_init ?lf_Door_init ?kf_Door_init ?qf_Door_init ?nf_Door_init ?af_Door_eq ?lf_Door_eq ?kf_Door_eq ?qf_Door_eq ?nf_Door_eq ?af_law_hand ?lf_law_hand ?kf_law_hand ?qf_law_hand ?af_law_draw ?lf_law_draw ?kf_law_draw ?qf_law_draw ?af_law_some ?lf_law_some ?kf_law_some ?qf_law_some ?af_law_is ?lf_law_is ?kf_law_is ?qf_law_is ?af_law_words ?lf_law_words ?kf_law_words ?qf_law_words ?af_law_heads ?lf_law_heads ?kf_law_heads ?qf_law_heads ?af_law_drawn_term ?lf_law_drawn_term ?kf_law_drawn_term ?qf_law_drawn_term ?af_law_size ?lf_law_size ?kf_law_size ?qf_law_size ?af_law_unknowns ?lf_law_unknowns ?kf_law_unknowns ?qf_law_unknowns ?af_law_is_above ?lf_law_is_above ?kf_law_is_above ?qf_law_is_above ?af_law_drawn_law ?lf_law_drawn_law ?kf_law_drawn_law ?qf_law_drawn_law ?af_law_parts ?lf_law_parts ?kf_law_parts ?qf_law_parts ?af_law_made ?lf_law_made ?kf_law_made ?qf_law_made ?af_law_stands ?lf_law_stands ?kf_law_stands ?qf_law_stands ?af_law_others ?lf_law_others ?kf_law_others ?qf_law_others ?af_law_is_known_right ?lf_law_is_known_right ?kf_law_is_known_right ?qf_law_is_known_right ?af_law ?lf_law ?kf_law ?qf_law ?gLETTERS ?gMOST_LETTERS ?gMOST_NUMBER ?gUNKNOWN ?gMOST_KINDS ?gMOST_WORDS ?gMOST_HEADS ?gMOST_LAWS ?gMOST_LAW_PARTS ?gMOST_SHAPE ?z_len ?z_int ?z_abs ?z_range ?z_isinstance ?z_all ?z_any ?z_sum ?z_list ?z_set ?z_enumerate ?z_zip ?z_tuple ?z_dict ?z_sorted ?z_str ?z_bool ?n_Order_rank ?n_Order_found ?n_Shape_sealed ?n_Shape_word_kinds ?n_Shape_lots ?n_Shape_heads ?n_Shape_rank ?n_Door_shape ?n_Door_words ?n_Door_sealed ?n_Door_heads ?n_Door_laws ?n_Door_meeting ?e_ne ?e_ob ?e_sN ?e_kN ?e_sI ?e_kI ?e_sS ?e_kS ?e_sL ?e_kL ?e_sT ?e_kT ?e_kD ?e_ha ?e_hn ?e_ht
    (case aOrder => k_is)
    (case pgOrder => first | k_is | kernel_rfl)
    (case hdOrder => first | k_is | kernel_rfl)
    (case poOrder => first | k_is | kernel_rfl)
    (case saOrder => first | k_is | kernel_rfl)
    (case mkOrder => first | k_is | kernel_rfl)
    (case kpOrder => first | k_is | kernel_rfl)
    (case aShape => k_is)
    (case pgShape => first | k_is | kernel_rfl)
    (case hdShape => first | k_is | kernel_rfl)
    (case poShape => first | k_is | kernel_rfl)
    (case saShape => first | k_is | kernel_rfl)
    (case mkShape => first | k_is | kernel_rfl)
    (case kpShape => first | k_is | kernel_rfl)
    (case aDoor => k_is)
    (case pgDoor => first | k_is | kernel_rfl)
    (case hdDoor => first | k_is | kernel_rfl)
    (case poDoor => first | k_is | kernel_rfl)
    (case saDoor => first | k_is | kernel_rfl)
    (case mkDoor => first | k_is | kernel_rfl)
    (case kpDoor => first | k_is | kernel_rfl)
    (case af_is_integer => k_is)
    (case lf_is_integer => k_is)
    (case kf_is_integer => k_is)
    (case qf_is_integer => k_is)
    (case af_is_within => k_is)
    (case lf_is_within => k_is)
    (case kf_is_within => k_is)
    (case qf_is_within => k_is)
    (case af_is_name => k_is)
    (case lf_is_name => k_is)
    (case kf_is_name => k_is)
    (case qf_is_name => k_is)
    (case af_is_tuple => k_is)
    (case lf_is_tuple => k_is)
    (case kf_is_tuple => k_is)
    (case qf_is_tuple => k_is)
    (case af_are_unlike => k_is)
    (case lf_are_unlike => k_is)
    (case kf_are_unlike => k_is)
    (case qf_are_unlike => k_is)
    (case af_is_unknown => k_is)
    (case lf_is_unknown => k_is)
    (case kf_is_unknown => k_is)
    (case qf_is_unknown => k_is)
    (case af_is_word => k_is)
    (case lf_is_word => k_is)
    (case kf_is_word => k_is)
    (case qf_is_word => k_is)
    (case af_is_called => k_is)
    (case lf_is_called => k_is)
    (case kf_is_called => k_is)
    (case qf_is_called => k_is)
    (case af_size_of => k_is)
    (case lf_size_of => k_is)
    (case kf_size_of => k_is)
    (case qf_size_of => k_is)
    (case af_parts_of => k_is)
    (case lf_parts_of => k_is)
    (case kf_parts_of => k_is)
    (case qf_parts_of => k_is)
    (case af_numbers_in => k_is)
    (case lf_numbers_in => k_is)
    (case kf_numbers_in => k_is)
    (case qf_numbers_in => k_is)
    (case af_Order_init => k_is)
    (case lf_Order_init => k_is)
    (case kf_Order_init => k_is)
    (case qf_Order_init => k_is)
    (case nf_Order_init => first | k_is | kernel_rfl)
    (case af_Order_is_greater => k_is)
    (case lf_Order_is_greater => k_is)
    (case kf_Order_is_greater => k_is)
    (case qf_Order_is_greater => k_is)
    (case nf_Order_is_greater => first | k_is | kernel_rfl)
    (case af_Order_looked => k_is)
    (case lf_Order_looked => k_is)
    (case kf_Order_looked => k_is)
    (case qf_Order_looked => k_is)
    (case nf_Order_looked => first | k_is | kernel_rfl)
    (case af_Order_goes_ahead => k_is)
    (case lf_Order_goes_ahead => k_is)
    (case kf_Order_goes_ahead => k_is)
    (case qf_Order_goes_ahead => k_is)
    (case nf_Order_goes_ahead => first | k_is | kernel_rfl)
    (case af_are_words => k_is)
    (case lf_are_words => k_is)
    (case kf_are_words => k_is)
    (case qf_are_words => k_is)
    (case af_are_sealed => k_is)
    (case lf_are_sealed => k_is)
    (case kf_are_sealed => k_is)
    (case qf_are_sealed => k_is)
    (case af_are_heads => k_is)
    (case lf_are_heads => k_is)
    (case kf_are_heads => k_is)
    (case qf_are_heads => k_is)
    (case af_Shape_init => k_is)
    (case lf_Shape_init => k_is)
    (case kf_Shape_init => k_is)
    (case qf_Shape_init => k_is)
    (case nf_Shape_init => first | k_is | kernel_rfl)
    (case af_Shape_kind_of => k_is)
    (case lf_Shape_kind_of => k_is)
    (case kf_Shape_kind_of => k_is)
    (case qf_Shape_kind_of => k_is)
    (case nf_Shape_kind_of => first | k_is | kernel_rfl)
    (case af_Shape_is_asker => k_is)
    (case lf_Shape_is_asker => k_is)
    (case kf_Shape_is_asker => k_is)
    (case qf_Shape_is_asker => k_is)
    (case nf_Shape_is_asker => first | k_is | kernel_rfl)
    (case af_Shape_told => k_is)
    (case lf_Shape_told => k_is)
    (case kf_Shape_told => k_is)
    (case qf_Shape_told => k_is)
    (case nf_Shape_told => first | k_is | kernel_rfl)
    (case af_Shape_told_together => k_is)
    (case lf_Shape_told_together => k_is)
    (case kf_Shape_told_together => k_is)
    (case qf_Shape_told_together => k_is)
    (case nf_Shape_told_together => first | k_is | kernel_rfl)
    (case af_Shape_told_beside => k_is)
    (case lf_Shape_told_beside => k_is)
    (case kf_Shape_told_beside => k_is)
    (case qf_Shape_told_beside => k_is)
    (case nf_Shape_told_beside => first | k_is | kernel_rfl)
    (case af_Shape_kind_by => k_is)
    (case lf_Shape_kind_by => k_is)
    (case kf_Shape_kind_by => k_is)
    (case qf_Shape_kind_by => k_is)
    (case nf_Shape_kind_by => first | k_is | kernel_rfl)
    (case af_is_law => k_is)
    (case lf_is_law => k_is)
    (case kf_is_law => k_is)
    (case qf_is_law => k_is)
    (case af_Door_init => k_is)
    (case lf_Door_init => k_is)
    (case kf_Door_init => k_is)
    (case qf_Door_init => k_is)
    (case nf_Door_init => first | k_is | kernel_rfl)
    (case af_Door_eq => k_is)
    (case lf_Door_eq => k_is)
    (case kf_Door_eq => k_is)
    (case qf_Door_eq => k_is)
    (case nf_Door_eq => first | k_is | kernel_rfl)
    (case af_law_hand => k_is)
    (case lf_law_hand => k_is)
    (case kf_law_hand => k_is)
    (case qf_law_hand => k_is)
    (case af_law_draw => k_is)
    (case lf_law_draw => k_is)
    (case kf_law_draw => k_is)
    (case qf_law_draw => k_is)
    (case af_law_some => k_is)
    (case lf_law_some => k_is)
    (case kf_law_some => k_is)
    (case qf_law_some => k_is)
    (case af_law_is => k_is)
    (case lf_law_is => k_is)
    (case kf_law_is => k_is)
    (case qf_law_is => k_is)
    (case af_law_words => k_is)
    (case lf_law_words => k_is)
    (case kf_law_words => k_is)
    (case qf_law_words => k_is)
    (case af_law_heads => k_is)
    (case lf_law_heads => k_is)
    (case kf_law_heads => k_is)
    (case qf_law_heads => k_is)
    (case af_law_drawn_term => k_is)
    (case lf_law_drawn_term => k_is)
    (case kf_law_drawn_term => k_is)
    (case qf_law_drawn_term => k_is)
    (case af_law_size => k_is)
    (case lf_law_size => k_is)
    (case kf_law_size => k_is)
    (case qf_law_size => k_is)
    (case af_law_unknowns => k_is)
    (case lf_law_unknowns => k_is)
    (case kf_law_unknowns => k_is)
    (case qf_law_unknowns => k_is)
    (case af_law_is_above => k_is)
    (case lf_law_is_above => k_is)
    (case kf_law_is_above => k_is)
    (case qf_law_is_above => k_is)
    (case af_law_drawn_law => k_is)
    (case lf_law_drawn_law => k_is)
    (case kf_law_drawn_law => k_is)
    (case qf_law_drawn_law => k_is)
    (case af_law_parts => k_is)
    (case lf_law_parts => k_is)
    (case kf_law_parts => k_is)
    (case qf_law_parts => k_is)
    (case af_law_made => k_is)
    (case lf_law_made => k_is)
    (case kf_law_made => k_is)
    (case qf_law_made => k_is)
    (case af_law_stands => k_is)
    (case lf_law_stands => k_is)
    (case kf_law_stands => k_is)
    (case qf_law_stands => k_is)
    (case af_law_others => k_is)
    (case lf_law_others => k_is)
    (case kf_law_others => k_is)
    (case qf_law_others => k_is)
    (case af_law_is_known_right => k_is)
    (case lf_law_is_known_right => k_is)
    (case kf_law_is_known_right => k_is)
    (case qf_law_is_known_right => k_is)
    (case af_law => k_is)
    (case lf_law => k_is)
    (case kf_law => k_is)
    (case qf_law => k_is)
    (case gLETTERS => k_is)
    (case gMOST_LETTERS => k_is)
    (case gMOST_NUMBER => k_is)
    (case gUNKNOWN => k_is)
    (case gMOST_KINDS => k_is)
    (case gMOST_WORDS => k_is)
    (case gMOST_HEADS => k_is)
    (case gMOST_LAWS => k_is)
    (case gMOST_LAW_PARTS => k_is)
    (case gMOST_SHAPE => k_is)
    (case z_len => k_is)
    (case z_int => k_is)
    (case z_abs => k_is)
    (case z_range => k_is)
    (case z_isinstance => k_is)
    (case z_all => k_is)
    (case z_any => k_is)
    (case z_sum => k_is)
    (case z_list => k_is)
    (case z_set => k_is)
    (case z_enumerate => k_is)
    (case z_zip => k_is)
    (case z_tuple => k_is)
    (case z_dict => k_is)
    (case z_sorted => k_is)
    (case z_str => k_is)
    (case z_bool => k_is)
    (case n_Order_rank => k_is)
    (case n_Order_found => k_is)
    (case n_Shape_sealed => k_is)
    (case n_Shape_word_kinds => k_is)
    (case n_Shape_lots => k_is)
    (case n_Shape_heads => k_is)
    (case n_Shape_rank => k_is)
    (case n_Door_shape => k_is)
    (case n_Door_words => k_is)
    (case n_Door_sealed => k_is)
    (case n_Door_heads => k_is)
    (case n_Door_laws => k_is)
    (case n_Door_meeting => k_is)
    (case e_ne => first | k_is | kernel_rfl)
    (case e_ob => first | k_is | kernel_rfl)
    (case e_sN => first | k_is | kernel_rfl)
    (case e_kN => first | k_is | kernel_rfl)
    (case e_sI => first | k_is | kernel_rfl)
    (case e_kI => first | k_is | kernel_rfl)
    (case e_sS => first | k_is | kernel_rfl)
    (case e_kS => first | k_is | kernel_rfl)
    (case e_sL => first | k_is | kernel_rfl)
    (case e_kL => first | k_is | kernel_rfl)
    (case e_sT => first | k_is | kernel_rfl)
    (case e_kT => first | k_is | kernel_rfl)
    (case e_kD => first | k_is | kernel_rfl)
    (case e_ha => first | k_is | kernel_rfl)
    (case e_hn => first | k_is | kernel_rfl)
    (case e_ht => first | k_is | kernel_rfl)
end Head
#print axioms PySem.Challenge.cw_doorhouses_k01_whole_doors_made_holds
