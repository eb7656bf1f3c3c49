import PyProof.Rows.All
import Wide.All
import OpenK.AllK
import Wide.FinOn
import HandS.ForMost
import HandS.Wide
import HandS.TupMul
import HandS.TupAny
import KE.KeyNested
import KE.KDictKeyed
import HandS.IsInst
import HandS.Flow
import HandS.Style
import KE.DataEq
import KE.LtData
import KE.DataCmp
import HandS.Conv
import HandS.Deep
import HandS.Comp
import HandS.Iter
import KE.KDictCopyH
import HandS.EndBits
import KE.DataMinMax
import KE.DataFind
import KE.SortData
import HandS.DictEq
import HandS.More
import KE.GoesMore
import KE.GoesEnum
import KE.KDictDisplayH
import KE.KTupSum
import HandS.SetFor
import HandS.Strs
import HandS.TupSets
import PyProof.SeqIndex
import KE.KDictPairs
import KE.KRevSl
import PySem.Challenge.RW_neveratrest_k22_whole_choices_that_must
set_option Elab.async false
set_option linter.all false
set_option maxRecDepth 100000
set_option maxHeartbeats 4000000
namespace DL
open PySem L2 PySem.Spec PyProof.Rows

/-! ### tuples whose objects have no dict -/
def SqN (K : PySem.W.Frag) (H : Hp) (a : Addr) (vs : List V) : Prop :=
  (∃ ob, H a = some (.frz ob (.tup vs)) ∧ ob.dict = none) ∨
    ∃ (ob : Obj) (its : Array Value) (n : Nat), K.lookup a = some ob ∧ ob.cls = .type "tuple" ∧ ob.dict = none ∧ ob.data = .seq its n ∧ its.size ≤ sizeLine ∧ Vals vs its.toList
theorem SqN.sqT {K : PySem.W.Frag} {H : Hp} {a : Addr} {vs : List V} (h : SqN K H a vs) : SqT K H a vs := by
  rcases h with ⟨ob, h, _⟩ | ⟨ob, its, n, h1, h2, h3, h4, h5, h6⟩
  · exact .inl (.inr ⟨ob, h⟩)
  · exact .inr ⟨ob, its, n, h1, h2, h4, h5, h6⟩
theorem SqN.of {K : PySem.W.Frag} {H : Hp} {a : Addr} {ob : Obj} {vs : List V} (hd : ob.dict = none) : SqN K (upd H a (.frz ob (.tup vs))) a vs := .inl ⟨ob, upd_same, hd⟩
theorem SqN.none {K : PySem.W.Frag} {H : Hp} {a : Addr} {vs : List V} {X : Cx} {pins : List (Addr × Obj)} {σ : L2.St} {s : Shared} (I : Inv X pins σ H s) (hK : K = X.K) (h : SqN K H a vs) : ∃ ob, s.heap.get? a = some ob ∧ ob.dict = .none := by
  subst hK
  rcases h with ⟨ob, h, hd⟩ | ⟨ob, its, n, h1, h2, h3, h4, h5, h6⟩
  · exact ⟨ob, (I.hok a _ h).1, hd⟩
  · exact ⟨ob, I.kIn a ob h1, h3⟩
/-- a new tuple -/
def NewT (H : Hp) (vs : List V) (Q : VK) : Prop := ∀ (p : Addr) (ob : Obj), H p = none → ob.dict = none → Q (.ref p) (upd H p (.frz ob (.tup vs)))
section
variable {X : Cx} {pins : List (Addr × Obj)} {σ : L2.St} {H : Hp} {s : Shared}
theorem lay_tup {vs : List V} {us : List Value} {n : Nat} {Q : VK} (I : Inv X pins σ H s) (r : Vals vs us) (hz : vs.length ≤ sizeLine) (q : NewT H vs Q) :
    EP X pins σ Q (.ref s.heap.objs.size) { s with heap := s.heap.push { cls := .type "tuple", data := .seq us.toArray n } } := by
  have hat : (s.heap.push { cls := .type "tuple", data := .seq us.toArray n }).get? s.heap.objs.size = some { cls := .type "tuple", data := .seq us.toArray n } := Heap.get?_push_size _ rfl
  have hnew : ObjOk X.prog X.w (upd H s.heap.objs.size (.frz { cls := .type "tuple", data := .seq us.toArray n } (.tup vs))) (s.heap.push { cls := .type "tuple", data := .seq us.toArray n }) s.heap.objs.size (.frz { cls := .type "tuple", data := .seq us.toArray n } (.tup vs)) :=
    ⟨hat, hz, us, r, ⟨_, hat, rfl, n, rfl⟩⟩
  exact ⟨.ref s.heap.objs.size, _, I.laid (t' := s.toks) (fun c oc ec => Heap.get?_push_of_some _ ec) (Nat.le_refl _) hnew, rfl, q _ _ (I.hok.fresh (Nat.le_refl _)) rfl⟩
def tTupN (t : TA) : TE := fun σ H Q => t σ H fun vs H1 => vs.length ≤ sizeLine ∧ NewT H1 vs Q
theorem pe_tupN {es : List Expr} {pos : Pos} {t : TA} {x1} (ha : PA X es t) : PE X (.Tuple es x1 pos) (tTupN t) := ⟨fun pn s0 σ0 H0 Q0 I0 h0 => by
  refine wpAny_Tuple_spliced (thn (ha.run pos pn s0 σ0 H0 _ I0 h0) fun us s2 ⟨vs, H2, I2, rv, hz, hq⟩ => ⟨rv.length ▸ hz, ?_⟩)
  exact lay_tup I2 rv hz hq⟩
/-- t + u -/
def rCatN (K : PySem.W.Frag) : R2 := fun x y H Q => ∃ a b vs ws, x = .ref a ∧ y = .ref b ∧ SqT K H a vs ∧ SqT K H b ws ∧ vs.length + ws.length ≤ sizeLine ∧
  (vs = [] → Q (.ref b) H) ∧ (vs ≠ [] → ws = [] → Q (.ref a) H) ∧ (vs ≠ [] → ws ≠ [] → NewT H (vs ++ ws) Q)
theorem op_catN : OpR X (binaryOp .Add) (rCatN X.K) := by
  intro pn s0 σ0 H0 x0 y0 v0 u0 Q0 I0 ex ey hh
  obtain ⟨a, b, vs, ws, rfl, rfl, ha, hb, hz, q0, q1, q2⟩ := hh
  by_cases h1 : vs = [] ∨ ws = []
  · refine op_catA pn s0 σ0 H0 _ _ v0 u0 Q0 I0 ex ey ⟨a, b, vs, ws, rfl, rfl, ha, hb, hz, q0, q1, fun e1 e2 => ?_⟩
    rcases h1 with h1 | h1
    · exact (e1 h1).elim
    · exact (e2 h1).elim
  · have n1 : vs ≠ [] := fun e => h1 (.inl e)
    have n2 : ws ≠ [] := fun e => h1 (.inr e)
    cases ex
    cases ey
    obtain ⟨us, rv, pv, _⟩ := I0.tuple ha
    obtain ⟨us2, rw2, pw, _⟩ := I0.tuple hb
    refine HT.cat_tup pv pw (fun e => n1 (rv.nil_iff.mp e)) (fun e => (n2 (rw2.nil_iff.mp e)).elim) (fun _ => ?_) (by rw [← rv.length, ← rw2.length]; exact hz)
    exact lay_tup I0 (rv.append rw2) (by rw [List.length_append]; exact hz) (q2 n1 n2)
/-- t[lo:hi] -/
def rSlN (K : PySem.W.Frag) : V → Option Int → Option Int → Hp → VK → Prop := fun x lo hi H Q => ∃ a vs, x = .ref a ∧ SqT K H a vs ∧
  (HT.sIx vs.length 0 lo = 0 ∧ HT.sIx vs.length vs.length hi = vs.length → Q (.ref a) H) ∧ (¬ (HT.sIx vs.length 0 lo = 0 ∧ HT.sIx vs.length vs.length hi = vs.length) → NewT H (cutV vs lo hi) Q)
theorem sl_tupN : SlR X (rSlN X.K) := by
  intro pn s0 σ0 H0 x0 v0 vl vu lo hi sl Q0 I0 ex hs pl pu hh
  obtain ⟨a, vs, rfl, hx, q1, q2⟩ := hh
  by_cases hw : HT.sIx vs.length 0 lo = 0 ∧ HT.sIx vs.length vs.length hi = vs.length
  · exact sl_tupA pn s0 σ0 H0 _ v0 vl vu lo hi sl Q0 I0 ex hs pl pu ⟨a, vs, rfl, hx, q1, fun h => (h hw).elim⟩
  · cases ex
    obtain ⟨us, rv, ht, hz⟩ := I0.tuple hx
    have hl : us.toArray.size = vs.length := by rw [List.size_toArray, rv.length]
    refine ⟨"tuple", _, PyProof.Rows.slot_tuple_getitem.lookup, ht.typeIs, ?_⟩
    refine HT.getItem_tuple_cut ht hs pl pu (hl ▸ hw) ?_ (hl ▸ hz)
    rw [hl]
    exact lay_tup I0 ((rv.drop (HT.sIx vs.length 0 lo)).take (HT.sIx vs.length vs.length hi - HT.sIx vs.length 0 lo)) (Nat.le_trans (cutV_length vs lo hi) hz) (q2 hw)
/-- tuple(x) -/
theorem call_tupleN : CallR X (.type "tuple") (fun xs H Q => ∃ p vs, xs = [.ref p] ∧ ((SqL X.K H p vs ∧ NewT H vs Q) ∨ (SqT X.K H p vs ∧ Q (.ref p) H))) := by
  intro pn s0 σ0 H0 xs us Q0 I0 r hh
  obtain ⟨p, vs, rfl, hh⟩ := hh
  rcases hh with ⟨hq, q⟩ | ⟨hq, q⟩
  · obtain ⟨u, rfl, rx⟩ := vals1 r
    cases rx
    obtain ⟨its, rv, pl, hz⟩ := I0.list hq
    have hl : its.toArray.size ≤ sizeLine := by rw [List.size_toArray, ← rv.length]; exact hz
    refine call_tuple_list pl.isList (fun h2 kp => ?_) hl
    exact lay_tup (I0.kept (t' := s0.toks) kp) rv hz q
  · exact call_tuple_of pn s0 σ0 H0 _ us Q0 I0 r ⟨p, vs, rfl, .inr ⟨hq, q⟩⟩
/-- t * k, 2 <= k -/
def rRepP (K : PySem.W.Frag) : R2 := fun x y H Q => ∃ a k vs, x = .ref a ∧ y = .int k ∧ SqT K H a vs ∧ vs ≠ [] ∧ 2 ≤ k ∧ k ≤ 1000 ∧ vs.length ≤ 1000 ∧ NewT H (List.replicate k.toNat vs).flatten Q
theorem op_repP : OpR X (binaryOp .Mult) (rRepP X.K) := by
  intro pn s0 σ0 H0 x0 y0 v0 u0 Q0 I0 ex ey hh
  obtain ⟨a, k, vs, rfl, rfl, hT, hne, k1, k2, hz, q⟩ := hh
  cases ex
  obtain ⟨tk, rfl⟩ := ey
  obtain ⟨us, rv, ⟨⟨cc, od, dat, sl⟩, hob, hcl, n, hdt⟩, _⟩ := I0.tuple hT
  dsimp only at hcl hdt
  subst hcl hdt
  have lv : us.length = vs.length := rv.length.symm
  have hun : us ≠ [] := fun e => hne (List.eq_nil_of_length_eq_zero (by rw [← lv, e]; rfl))
  have hem : us.toArray.isEmpty = false := by
    rcases us with _ | ⟨z, zs⟩
    · exact (hun rfl).elim
    · rfl
  have sz : us.toArray.size = vs.length := by rw [List.size_toArray, lv]
  have mz : ((us.toArray.size : Nat) : Int) * k ≤ 1000000 := by
    rw [sz]
    refine Int.le_trans (Int.mul_le_mul_of_nonneg_right (c := k) (show ((vs.length : Nat) : Int) ≤ 1000 by omega) (by omega)) (by omega)
  have nz : k.toNat * vs.length ≤ 1000000 := Nat.mul_le_mul (show k.toNat ≤ 1000 by omega) hz
  have fz : (List.replicate k.toNat us).flatten.length ≤ sizeLine := by
    rw [PyProof.Rows.lm_len_rep_flat, lv, sizeLine_eq]; omega
  have d0 : (decide (k < -(2 ^ 63)) || decide (k ≥ 2 ^ 63)) = false := Bool.or_eq_false_iff.mpr ⟨decide_eq_false (by omega), decide_eq_false (by omega)⟩
  have d1 : (us.toArray.isEmpty || k == 1) = false := Bool.or_eq_false_iff.mpr ⟨hem, beq_eq_false_iff_ne.mpr (by omega)⟩
  have d2 : (decide (k ≤ 0) || us.toArray.isEmpty) = false := Bool.or_eq_false_iff.mpr ⟨decide_eq_false (by omega), hem⟩
  have d4 : Builtin.Tuple.tupleTooMany (((us.toArray.size : Nat) : Int) * k) = false := by
    unfold Builtin.Tuple.tupleTooMany
    exact decide_eq_false (by rw [sizeLine_eq]; omega)
  have hmul := tuple_mulW a us.toArray n od sl k tk d0 d1 d2 (by omega) d4 (by rw [size_rep, List.size_toArray]; exact fz)
  rw [size_rep] at hmul
  exact wpAny_binaryOp_repeat_ref (T := "tuple") (U := "int") (by decide) ⟨_, hob, rfl⟩ (fun sx => typeIs_int sx k tk) noFill_tuple_mul F.fills_int_mul F.slot_int_rmul repeat_tuple F.slot_int_index.lookup
    (call_meets F.slot_int_rmul (typeIs_int s0 k tk) F.entry_int_rmul (F.args_int_rmul_2 _ _) (int_rmul_tuple k tk a us.toArray n od sl)
      ⟨hob, rfl, ⟨_, hob, rfl⟩, call_meets F.slot_tuple_mul ⟨_, hob, rfl⟩ F.entry_tuple_mul (F.args_tuple_mul_2 _ _) hmul
        ⟨hob, lay_tup I0 (rv.rep k.toNat) (by rw [PyProof.Rows.lm_len_rep_flat, sizeLine_eq]; omega) q⟩⟩)
end
end DL

namespace DL
open PySem L2

/-! ### data as trees -/
inductive D where
  | non | bl (b : Bool) | int (i : Int) | str (x : Str)
  | tup (xs : List D) | tuz (xs : List D) | lst (xs : List D) | frl (xs : List D) | dic (kvs : List (D × D)) | set (xs : List D)
/-- a slot: nothing known; a value that stays as it is; a list or dict of this frame's own; one lent by the caller (or walked): its slot stays -/
inductive S where
  | no | sh (d : D) | ow (d : D) | io (d : D)
abbrev Env := List S
abbrev EM := Env → Option (D × Env)
abbrev AM := Env → Option (List D × Env)
abbrev BM := Env → Option (Bool × Env)
inductive Out where
  | nx | bk | rt (d : D)
abbrev SM := Env → Option (Out × Env)

mutual
/-- a tree as a key: True is 1 -/
def keyN : D → Option NestedKey
  | .non => some .none
  | .bl b => some (.num (if b = true then 1 else 0))
  | .int i => some (.num i)
  | .str x => some (.text x)
  | .tup xs => match keyNs xs with
    | some ks => some (.tup ks)
    | none => none
  | _ => none
def keyNs : List D → Option (List NestedKey)
  | [] => some []
  | x :: xs => match keyN x, keyNs xs with
    | some k, some ks => some (k :: ks)
    | _, _ => none
end

/-- what a run leans on -/
structure Gd where
  P : Program
  w : World
  K : PySem.W.Frag
abbrev _root_.L2.Cx.G (X : Cx) : Gd := ⟨X.prog, X.w, X.K⟩

/-- a dict's object, as it stands -/
def rawD (a : Addr) (es : Array DictEntry) (ep : Nat) : HO := .ext fun h => (∃ o, h.get? a = some o ∧ o.ExactDict ∧ o.data = .dict es ep) ∧ (a == sysModules) = false ∧ es.size ≤ sizeLine

/-! ### how a tree lies in the heap -/
mutual
inductive Rep (K : Gd) (F : Hp) : D → V → Prop
  | non : Rep K F .non .non
  | bl (b : Bool) : Rep K F (.bl b) (.bl b)
  | int (i : Int) : Rep K F (.int i) (.int i)
  | str (x : Str) : Rep K F (.str x) (.str x)
  | tup {a : Addr} {vs : List V} {ds : List D} : SqN K.K F a vs → RepL K F ds vs → Rep K F (.tup ds) (.ref a)
  | tuz {a : Addr} {vs : List V} {ds : List D} : SqT K.K F a vs → RepL K F ds vs → Rep K F (.tuz ds) (.ref a)
  | lst {a : Addr} {vs : List V} {ds : List D} : F a = some (.lst vs) → RepL K F ds vs → Rep K F (.lst ds) (.ref a)
  | frl {a : Addr} {vs : List V} {ds : List D} : SqL K.K F a vs → RepL K F ds vs → Rep K F (.frl ds) (.ref a)
  | dic {a : Addr} {es : Array DictEntry} {ep : Nat} {ds : List (D × D)} : F a = some (rawD a es ep) → RepKV K F ds es.toList → (ds.map fun p => keyN p.1).Nodup → Rep K F (.dic ds) (.ref a)
inductive RepL (K : Gd) (F : Hp) : List D → List V → Prop
  | nil : RepL K F [] []
  | cons {d : D} {v : V} {ds : List D} {vs : List V} : Rep K F d v → RepL K F ds vs → RepL K F (d :: ds) (v :: vs)
inductive RepKV (K : Gd) (F : Hp) : List (D × D) → List DictEntry → Prop
  | nil : RepKV K F [] []
  | cons {k d : D} {n : NestedKey} {kv v : V} {e : DictEntry} {ds : List (D × D)} {es : List DictEntry} : keyN k = some n → e.hash = n.hash K.w → Rep K F k kv → RelV kv e.key → Rep K F d v → RelV v e.val → RepKV K F ds es → RepKV K F ((k, d) :: ds) (e :: es)
end

theorem Same.sqT {K : PySem.W.Frag} {H H' : Hp} {a : Addr} {xs : List V} (e : Same H H') (h : SqT K H a xs) : SqT K H' a xs := by
  rcases h with (h | ⟨o, h⟩) | h
  · exact .inl (.inl (e _ _ h))
  · exact .inl (.inr ⟨o, e _ _ h⟩)
  · exact .inr h

theorem Same.sqN {K : PySem.W.Frag} {H H' : Hp} {a : Addr} {xs : List V} (e : Same H H') (h : SqN K H a xs) : SqN K H' a xs := by
  rcases h with ⟨o, h, d⟩ | h
  · exact .inl ⟨o, e _ _ h, d⟩
  · exact .inr h

mutual
theorem Rep.mono {K : Gd} {F F' : Hp} (e : Same F F') : ∀ {d : D} {v : V}, Rep K F d v → Rep K F' d v
  | _, _, .non => .non
  | _, _, .bl b => .bl b
  | _, _, .int i => .int i
  | _, _, .str x => .str x
  | _, _, .tup h r => .tup (Same.sqN e h) (RepL.mono e r)
  | _, _, .tuz h r => .tuz (Same.sqT e h) (RepL.mono e r)
  | _, _, .lst h r => .lst (e _ _ h) (RepL.mono e r)
  | _, _, .frl h r => .frl (e.seq h) (RepL.mono e r)
  | _, _, .dic h r n => .dic (e _ _ h) (RepKV.mono e r) n
theorem RepL.mono {K : Gd} {F F' : Hp} (e : Same F F') : ∀ {d : List D} {v : List V}, RepL K F d v → RepL K F' d v
  | _, _, .nil => .nil
  | _, _, .cons h r => .cons (Rep.mono e h) (RepL.mono e r)
theorem RepKV.mono {K : Gd} {F F' : Hp} (e : Same F F') : ∀ {d : List (D × D)} {v : List DictEntry}, RepKV K F d v → RepKV K F' d v
  | _, _, .nil => .nil
  | _, _, .cons k1 k2 h1 h2 h3 h4 r => .cons k1 k2 (Rep.mono e h1) h2 (Rep.mono e h3) h4 (RepKV.mono e r)
end

section
variable {K : Gd} {F : Hp}
theorem RepL.length : ∀ {ds : List D} {vs : List V}, RepL K F ds vs → ds.length = vs.length
  | _, _, .nil => rfl
  | _, _, .cons _ r => by rw [List.length_cons, List.length_cons, RepL.length r]
theorem RepL.append : ∀ {ds es : List D} {vs us : List V}, RepL K F ds vs → RepL K F es us → RepL K F (ds ++ es) (vs ++ us)
  | _, _, _, _, .nil, s => s
  | _, _, _, _, .cons h r, s => .cons h (RepL.append r s)
theorem RepL.get : ∀ {ds : List D} {vs : List V} {i : Nat} {d : D}, RepL K F ds vs → ds[i]? = some d → ∃ v, vs[i]? = some v ∧ Rep K F d v
  | _, _, _, _, .nil, e => by simp at e
  | _, _, 0, _, .cons h _, e => by simp at e; subst e; exact ⟨_, rfl, h⟩
  | _, _, i + 1, d, .cons _ r, e => by
    obtain ⟨v, h1, h2⟩ := RepL.get (i := i) (d := d) r (by simpa using e)
    exact ⟨v, by simpa using h1, h2⟩
theorem RepL.getV : ∀ {ds : List D} {vs : List V} {i : Nat} {v : V}, RepL K F ds vs → vs[i]? = some v → ∃ d, ds[i]? = some d ∧ Rep K F d v
  | _, _, _, _, .nil, e => by simp at e
  | _, _, 0, _, .cons h _, e => by simp at e; subst e; exact ⟨_, rfl, h⟩
  | _, _, i + 1, v, .cons _ r, e => by
    obtain ⟨d, h1, h2⟩ := RepL.getV (i := i) (v := v) r (by simpa using e)
    exact ⟨d, by simpa using h1, h2⟩
theorem RepL.take : ∀ {ds : List D} {vs : List V} (n : Nat), RepL K F ds vs → RepL K F (ds.take n) (vs.take n)
  | _, _, 0, _ => .nil
  | _, _, _ + 1, .nil => .nil
  | _, _, n + 1, .cons h r => .cons h (RepL.take n r)
theorem RepL.drop : ∀ {ds : List D} {vs : List V} (n : Nat), RepL K F ds vs → RepL K F (ds.drop n) (vs.drop n)
  | _, _, 0, r => r
  | _, _, _ + 1, .nil => .nil
  | _, _, n + 1, .cons _ r => RepL.drop n r
theorem RepL.set {d : D} {v : V} (h : Rep K F d v) : ∀ {ds : List D} {vs : List V} (n : Nat), RepL K F ds vs → RepL K F (ds.set n d) (vs.set n v)
  | _, _, _, .nil => .nil
  | _, _, 0, .cons _ r => .cons h r
  | _, _, n + 1, .cons q r => .cons q (RepL.set h n r)
theorem RepL.reverse : ∀ {ds : List D} {vs : List V}, RepL K F ds vs → RepL K F ds.reverse vs.reverse
  | _, _, .nil => .nil
  | _, _, .cons h r => by rw [List.reverse_cons, List.reverse_cons]; exact RepL.append (RepL.reverse r) (.cons h .nil)
theorem RepL.dropLast : ∀ {ds : List D} {vs : List V}, RepL K F ds vs → RepL K F ds.dropLast vs.dropLast
  | _, _, .nil => .nil
  | _, _, .cons _ .nil => .nil
  | _, _, .cons h (.cons q r) => .cons h (RepL.dropLast (.cons q r))
end

/-- what an own object at a holds -/
inductive At (K : Gd) (F H : Hp) : D → Addr → Prop
  | lst {a : Addr} {vs : List V} {ds : List D} : H a = some (.lst vs) → RepL K F ds vs → At K F H (.lst ds) a
  | dic {a : Addr} {es : Array DictEntry} {ep : Nat} {ds : List (D × D)} : H a = some (rawD a es ep) → RepKV K F ds es.toList → (ds.map fun p => keyN p.1).Nodup → At K F H (.dic ds) a

theorem At.mono {K : Gd} {F F' H H' : Hp} {d : D} {a : Addr} (e : Same F F') (eh : H' a = H a) (h : At K F H d a) : At K F' H' d a := by
  cases h with
  | lst h r => exact .lst (eh.trans h) (r.mono e)
  | dic h r n => exact .dic (eh.trans h) (r.mono e) n
theorem At.some {K : Gd} {F H : Hp} {d : D} {a : Addr} (h : At K F H d a) : ∃ o, H a = some o ∧ Mut (some o) := by
  cases h with
  | lst h r => exact ⟨_, h, True.intro⟩
  | dic h r n => exact ⟨_, h, True.intro⟩
/-- laid to rest -/
theorem At.rep {K : Gd} {F H : Hp} {d : D} {a : Addr} (h : At K F H d a) (e : Same F H) : ∀ {F' : Hp}, Same F F' → F' a = H a → Rep K F' d (.ref a) := by
  intro F' s e'
  cases h with
  | lst h r => exact .lst (e'.trans h) (r.mono s)
  | dic h r n => exact .dic (e'.trans h) (r.mono s) n

/-- a slot that holds an own (or lent) object -/
def Own (s : Option S) (d : D) : Prop := s = some (.ow d) ∨ s = some (.io d)

/-- slots that stay: lent, at these addresses -/
abbrev Pins := Nat → Option Addr

structure Ok (K : Gd) (B F : Hp) (Z : Pins) (η : Env) (σ : St) (H : Hp) : Prop where
  ff : Same F H
  bb : Same B H
  bf : ∀ a o, B a = some o → F a = none
  len : η.length = σ.length
  sh : ∀ (i : Nat) (d : D), η[i]? = some (.sh d) → ∃ v, σ[i]? = some (some v) ∧ Rep K F d v
  ow : ∀ (i : Nat) (d : D), Own η[i]? d → ∃ a, σ[i]? = some (some (.ref a)) ∧ F a = none ∧ B a = none ∧ At K F H d a
  io : ∀ (i : Nat) (a : Addr), Z i = some a → (∃ d, η[i]? = some (.io d)) ∧ σ[i]? = some (some (.ref a))
  sep : ∀ (i j : Nat) (a : Addr) (d e : D), Own η[i]? d → Own η[j]? e → σ[i]? = some (some (.ref a)) → σ[j]? = some (some (.ref a)) → i = j

theorem Same.upd {H : Hp} {p : Addr} {o : HO} (h : H p = none) : Same H (upd H p o) := fun b x e => by
  rw [upd_ne (ne_of_none e h)]; exact e

section
variable {K : Gd} {B F F' : Hp} {Z : Pins} {η : Env} {σ : St} {H H' : Hp} {p : Addr} {o : HO}
theorem Ok.free (ok : Ok K B F Z η σ H) (h : H p = none) : F p = none := ok.ff.free h
/-- a new object, frozen at once -/
theorem Ok.newF (ok : Ok K B F Z η σ H) (h : H p = none) : Ok K B (upd F p o) Z η σ (upd H p o) where
  ff := fun b x e => by
    by_cases hb : b = p
    · subst hb; rw [upd_same] at e ⊢; exact e
    · rw [upd_ne hb] at e ⊢; exact ok.ff b x e
  bb := fun b x e => by rw [upd_ne (ne_of_none (ok.bb _ _ e) h)]; exact ok.bb b x e
  bf := fun b x e => by rw [upd_ne (ne_of_none (ok.bb _ _ e) h)]; exact ok.bf b x e
  len := ok.len
  sh := fun i d e => let ⟨v, h1, h2⟩ := ok.sh i d e; ⟨v, h1, h2.mono (Same.upd (ok.free h))⟩
  ow := fun i d e => by
    obtain ⟨a, h1, h2, h3, h4⟩ := ok.ow i d e
    obtain ⟨x, hx, _⟩ := h4.some
    have ne : a ≠ p := ne_of_none hx h
    exact ⟨a, h1, by rw [upd_ne ne]; exact h2, h3, h4.mono (Same.upd (ok.free h)) (upd_ne ne)⟩
  io := ok.io
  sep := ok.sep
/-- a new object, not frozen -/
theorem Ok.newH (ok : Ok K B F Z η σ H) (h : H p = none) : Ok K B F Z η σ (upd H p o) where
  ff := fun b x e => by rw [upd_ne (ne_of_none (ok.ff _ _ e) h)]; exact ok.ff b x e
  bb := fun b x e => by rw [upd_ne (ne_of_none (ok.bb _ _ e) h)]; exact ok.bb b x e
  bf := ok.bf
  len := ok.len
  sh := ok.sh
  ow := fun i d e => by
    obtain ⟨a, h1, h2, h3, h4⟩ := ok.ow i d e
    obtain ⟨x, hx, _⟩ := h4.some
    have ne : a ≠ p := ne_of_none hx h
    exact ⟨a, h1, h2, h3, h4.mono (Same.refl _) (upd_ne ne)⟩
  io := ok.io
  sep := ok.sep
/-- freezing an object that no slot owns -/
theorem Ok.freeze (ok : Ok K B F Z η σ H) (hB : B p = none) (hF : F p = none) (hn : ∀ (i : Nat) (d : D), Own η[i]? d → σ[i]? ≠ some (some (.ref p))) (ho : H p = some o) : Ok K B (upd F p o) Z η σ H where
  ff := fun b x e => by
    by_cases hb : b = p
    · subst hb; rw [upd_same] at e; rw [ho]; exact e
    · rw [upd_ne hb] at e; exact ok.ff b x e
  bb := ok.bb
  bf := fun b x e => by
    by_cases hb : b = p
    · subst hb; rw [hB] at e; cases e
    · rw [upd_ne hb]; exact ok.bf b x e
  len := ok.len
  sh := fun i d e => let ⟨v, h1, h2⟩ := ok.sh i d e; ⟨v, h1, h2.mono (Same.upd hF)⟩
  ow := fun i d e => by
    obtain ⟨a, h1, h2, h3, h4⟩ := ok.ow i d e
    have ne : a ≠ p := fun z => hn i d e (by rw [h1, z])
    exact ⟨a, h1, by rw [upd_ne ne]; exact h2, h3, h4.mono (Same.upd hF) rfl⟩
  io := ok.io
  sep := ok.sep
end

theorem own_set_ne {η : Env} {i j : Nat} {s : S} {d : D} (h : i ≠ j) : Own (η.set j s)[i]? d ↔ Own η[i]? d := by
  rw [List.getElem?_set_ne (Ne.symm h)]
theorem getElem?_set_some {α : Type} {l : List α} {i j : Nat} {x y : α} (h : (l.set j x)[i]? = some y) : (i = j ∧ j < l.length ∧ y = x) ∨ (i ≠ j ∧ l[i]? = some y) := by
  by_cases e : i = j
  · subst e
    by_cases hl : i < l.length
    · rw [List.getElem?_set_self hl] at h; exact .inl ⟨rfl, hl, (Option.some.inj h).symm⟩
    · rw [List.getElem?_eq_none (by simpa using hl)] at h; cases h
  · rw [List.getElem?_set_ne (Ne.symm e)] at h; exact .inr ⟨e, h⟩
theorem own_set {η : Env} {i j : Nat} {s : S} {d : D} (h : Own (η.set j s)[i]? d) : (i = j ∧ j < η.length ∧ (s = .ow d ∨ s = .io d)) ∨ (i ≠ j ∧ Own η[i]? d) := by
  rcases h with h | h
  · rcases getElem?_set_some h with ⟨a, b, c⟩ | ⟨a, b⟩
    · exact .inl ⟨a, b, .inl c.symm⟩
    · exact .inr ⟨a, .inl b⟩
  · rcases getElem?_set_some h with ⟨a, b, c⟩ | ⟨a, b⟩
    · exact .inl ⟨a, b, .inr c.symm⟩
    · exact .inr ⟨a, .inr b⟩

/-- a slot that is not lent -/
def notIo : Option S → Bool
  | some (.io _) => false
  | _ => true

section
variable {K : Gd} {B F F' : Hp} {Z : Pins} {η : Env} {σ : St} {H H' : Hp} {p : Addr} {o : HO} {i : Nat}
/-- a slot stored: a frozen value -/
theorem Ok.setShZ (ok : Ok K B F Z η σ H) {d : D} {v : V} (hi : i < η.length) (hz : Z i = none) (r : Rep K F d v) : Ok K B F Z (η.set i (.sh d)) (σ.set i (some v)) H where
  ff := ok.ff
  bb := ok.bb
  bf := ok.bf
  len := by rw [List.length_set, List.length_set]; exact ok.len
  sh := fun j e h => by
    rcases getElem?_set_some h with ⟨a, b, c⟩ | ⟨a, b⟩
    · subst a; cases c
      exact ⟨v, by rw [List.getElem?_set_self (by rw [← ok.len]; exact b)], r⟩
    · obtain ⟨v', h1, h2⟩ := ok.sh j e b
      exact ⟨v', by rw [List.getElem?_set_ne (Ne.symm a)]; exact h1, h2⟩
  ow := fun j e h => by
    rcases own_set h with ⟨a, b, c⟩ | ⟨a, b⟩
    · rcases c with c | c <;> cases c
    · obtain ⟨x, h1, h2⟩ := ok.ow j e b
      exact ⟨x, by rw [List.getElem?_set_ne (Ne.symm a)]; exact h1, h2⟩
  io := fun j a h => by
    obtain ⟨⟨e, h1⟩, h2⟩ := ok.io j a h
    have ne : j ≠ i := fun z => by rw [z, hz] at h; cases h
    exact ⟨⟨e, by rw [List.getElem?_set_ne (Ne.symm ne)]; exact h1⟩, by rw [List.getElem?_set_ne (Ne.symm ne)]; exact h2⟩
  sep := fun j k x d e h1 h2 h3 h4 => by
    rcases own_set h1 with ⟨a, b, c⟩ | ⟨a, b⟩
    · rcases c with c | c <;> cases c
    · rcases own_set h2 with ⟨a', b', c'⟩ | ⟨a', b'⟩
      · rcases c' with c | c <;> cases c
      · rw [List.getElem?_set_ne (Ne.symm a)] at h3
        rw [List.getElem?_set_ne (Ne.symm a')] at h4
        exact ok.sep j k x d e b b' h3 h4
/-- a slot stored: an own object -/
theorem Ok.setOwZ (ok : Ok K B F Z η σ H) {d : D} (hi : i < η.length) (hz : Z i = none) (hB : B p = none) (hF : F p = none) (hA : At K F H d p) (ho : ∀ (i : Nat) (d : D), Own η[i]? d → σ[i]? ≠ some (some (.ref p))) :
    Ok K B F Z (η.set i (.ow d)) (σ.set i (some (.ref p))) H where
  ff := ok.ff
  bb := ok.bb
  bf := ok.bf
  len := by rw [List.length_set, List.length_set]; exact ok.len
  sh := fun j e h => by
    rcases getElem?_set_some h with ⟨a, b, c⟩ | ⟨a, b⟩
    · cases c
    · obtain ⟨v', h1, h2⟩ := ok.sh j e b
      exact ⟨v', by rw [List.getElem?_set_ne (Ne.symm a)]; exact h1, h2⟩
  ow := fun j e h => by
    rcases own_set h with ⟨a, b, c⟩ | ⟨a, b⟩
    · subst a
      rcases c with c | c
      · cases c; exact ⟨p, by rw [List.getElem?_set_self (by rw [← ok.len]; exact b)], hF, hB, hA⟩
      · cases c
    · obtain ⟨x, h1, h2⟩ := ok.ow j e b
      exact ⟨x, by rw [List.getElem?_set_ne (Ne.symm a)]; exact h1, h2⟩
  io := fun j a h => by
    obtain ⟨⟨e, h1⟩, h2⟩ := ok.io j a h
    have ne : j ≠ i := fun z => by rw [z, hz] at h; cases h
    exact ⟨⟨e, by rw [List.getElem?_set_ne (Ne.symm ne)]; exact h1⟩, by rw [List.getElem?_set_ne (Ne.symm ne)]; exact h2⟩
  sep := fun j k x d e h1 h2 h3 h4 => by
    rcases own_set h1 with ⟨a, b, c⟩ | ⟨a, b⟩
    · rcases own_set h2 with ⟨a', b', c'⟩ | ⟨a', b'⟩
      · rw [a, a']
      · subst a
        rw [List.getElem?_set_self (by rw [← ok.len]; exact b)] at h3
        rw [List.getElem?_set_ne (Ne.symm a')] at h4
        cases h3
        exact absurd h4 (ho k e b')
    · rcases own_set h2 with ⟨a', b', c'⟩ | ⟨a', b'⟩
      · subst a'
        rw [List.getElem?_set_self (by rw [← ok.len]; exact b')] at h4
        rw [List.getElem?_set_ne (Ne.symm a)] at h3
        cases h4
        exact absurd h3 (ho j d b)
      · rw [List.getElem?_set_ne (Ne.symm a)] at h3
        rw [List.getElem?_set_ne (Ne.symm a')] at h4
        exact ok.sep j k x d e b b' h3 h4
/-- a slot forgotten (its value, if any, may be another one) -/
theorem Ok.setNoZ (ok : Ok K B F Z η σ H) {ov : Option V} (hz : Z i = none) : Ok K B F Z (η.set i .no) (σ.set i ov) H where
  ff := ok.ff
  bb := ok.bb
  bf := ok.bf
  len := by rw [List.length_set, List.length_set]; exact ok.len
  sh := fun j e h => by
    rcases getElem?_set_some h with ⟨a, b, c⟩ | ⟨a, b⟩
    · cases c
    · obtain ⟨v', h1, h2⟩ := ok.sh j e b
      exact ⟨v', by rw [List.getElem?_set_ne (Ne.symm a)]; exact h1, h2⟩
  ow := fun j e h => by
    rcases own_set h with ⟨a, b, c⟩ | ⟨a, b⟩
    · rcases c with c | c <;> cases c
    · obtain ⟨x, h1, h2⟩ := ok.ow j e b
      exact ⟨x, by rw [List.getElem?_set_ne (Ne.symm a)]; exact h1, h2⟩
  io := fun j a h => by
    obtain ⟨⟨e, h1⟩, h2⟩ := ok.io j a h
    have ne : j ≠ i := fun z => by rw [z, hz] at h; cases h
    exact ⟨⟨e, by rw [List.getElem?_set_ne (Ne.symm ne)]; exact h1⟩, by rw [List.getElem?_set_ne (Ne.symm ne)]; exact h2⟩
  sep := fun j k x d e h1 h2 h3 h4 => by
    rcases own_set h1 with ⟨a, b, c⟩ | ⟨a, b⟩
    · rcases c with c | c <;> cases c
    · rcases own_set h2 with ⟨a', b', c'⟩ | ⟨a', b'⟩
      · rcases c' with c | c <;> cases c
      · rw [List.getElem?_set_ne (Ne.symm a)] at h3
        rw [List.getElem?_set_ne (Ne.symm a')] at h4
        exact ok.sep j k x d e b b' h3 h4
theorem Ok.zn (ok : Ok K B F Z η σ H) (hn : ∀ d, η[i]? ≠ some (.io d)) : Z i = none := by
  cases e : Z i with
  | none => rfl
  | some a => obtain ⟨⟨d, h⟩, _⟩ := ok.io i a e; exact absurd h (hn d)
theorem Ok.setSh (ok : Ok K B F Z η σ H) {d : D} {v : V} (hi : i < η.length) (hn : ∀ d, η[i]? ≠ some (.io d)) (r : Rep K F d v) : Ok K B F Z (η.set i (.sh d)) (σ.set i (some v)) H := ok.setShZ hi (ok.zn hn) r
theorem Ok.setOw (ok : Ok K B F Z η σ H) {d : D} (hi : i < η.length) (hn : ∀ d, η[i]? ≠ some (.io d)) (hB : B p = none) (hF : F p = none) (hA : At K F H d p) (ho : ∀ (i : Nat) (d : D), Own η[i]? d → σ[i]? ≠ some (some (.ref p))) :
    Ok K B F Z (η.set i (.ow d)) (σ.set i (some (.ref p))) H := ok.setOwZ hi (ok.zn hn) hB hF hA ho
theorem Ok.setNo (ok : Ok K B F Z η σ H) {ov : Option V} (hn : ∀ d, η[i]? ≠ some (.io d)) : Ok K B F Z (η.set i .no) (σ.set i ov) H := ok.setNoZ (ok.zn hn)
theorem set_getElem? {α : Type} {l : List α} {i : Nat} {x : α} (h : l[i]? = some x) : l.set i x = l := by
  apply List.ext_getElem?
  intro j
  by_cases e : j = i
  · subst e
    rw [List.getElem?_set_self (List.getElem?_eq_some_iff.mp h).1, h]
  · rw [List.getElem?_set_ne (Ne.symm e)]
theorem Ok.forget (ok : Ok K B F Z η σ H) (hn : ∀ d, η[i]? ≠ some (.io d)) : Ok K B F Z (η.set i .no) σ H := by
  by_cases hi : i < σ.length
  · have e : σ[i]? = some σ[i] := List.getElem?_eq_getElem hi
    have := ok.setNo (i := i) (ov := σ[i]) hn
    rwa [set_getElem? e] at this
  · have : η.set i .no = η := List.set_eq_of_length_le (by rw [ok.len]; omega)
    rw [this]; exact ok
/-- an own slot laid to rest -/
theorem Ok.rest (ok : Ok K B F Z η σ H) {d : D} (h : η[i]? = some (.ow d)) : ∃ (F' : Hp) (v : V), Same F F' ∧ σ[i]? = some (some v) ∧ Rep K F' d v ∧ Ok K B F' Z (η.set i (.sh d)) σ H := by
  obtain ⟨a, h1, h2, h3, h4⟩ := ok.ow i d (.inl h)
  obtain ⟨o, ho, _⟩ := h4.some
  have hi : i < η.length := (List.getElem?_eq_some_iff.mp h).1
  have hni : ∀ d, η[i]? ≠ some (.io d) := fun d' e => by rw [h] at e; cases e
  have okn : Ok K B F Z (η.set i .no) σ H := ok.forget hni
  have okf := okn.freeze h3 h2 (fun j e hj hs => by
    rcases own_set hj with ⟨a', b', c⟩ | ⟨a', b'⟩
    · rcases c with c | c <;> cases c
    · exact a' (ok.sep j i a e d b' (.inl h) hs h1)) ho
  have sm : Same F (upd F a o) := Same.upd h2
  have rp : Rep K (upd F a o) d (.ref a) := h4.rep ok.ff sm (by rw [upd_same, ho])
  refine ⟨_, .ref a, sm, h1, rp, ?_⟩
  have q := okf.setSh (i := i) (d := d) (v := .ref a) (by rw [List.length_set]; exact hi) (fun d' e => by rcases getElem?_set_some e with ⟨_, _, c⟩ | ⟨a', _⟩; cases c; exact a' rfl) rp
  rw [List.set_set, set_getElem? h1] at q
  exact q
end
end DL

namespace DL
open PySem L2

/-! ### views: what may be read just now -/
inductive View (K : Gd) (F H : Hp) : D → V → Prop
  | rep {d : D} {v : V} : Rep K F d v → View K F H d v
  | at {d : D} {a : Addr} : At K F H d a → View K F H d (.ref a)
inductive ViewL (K : Gd) (F H : Hp) : List D → List V → Prop
  | nil : ViewL K F H [] []
  | cons {d : D} {v : V} {ds : List D} {vs : List V} : View K F H d v → ViewL K F H ds vs → ViewL K F H (d :: ds) (v :: vs)
section
variable {K : Gd} {F H : Hp}
theorem View.int {i : Int} {v : V} (h : View K F H (.int i) v) : v = .int i := by
  cases h with
  | rep h => cases h; rfl
  | «at» h => cases h
theorem View.bl {i : Bool} {v : V} (h : View K F H (.bl i) v) : v = .bl i := by
  cases h with
  | rep h => cases h; rfl
  | «at» h => cases h
theorem View.str {i : Str} {v : V} (h : View K F H (.str i) v) : v = .str i := by
  cases h with
  | rep h => cases h; rfl
  | «at» h => cases h
theorem View.non {v : V} (h : View K F H .non v) : v = .non := by
  cases h with
  | rep h => cases h; rfl
  | «at» h => cases h
theorem View.tup {ds : List D} {v : V} (h : View K F H (.tup ds) v) (s : Same F H) : ∃ a vs, v = .ref a ∧ SqT K.K H a vs ∧ RepL K F ds vs := by
  cases h with
  | rep h => cases h with | tup h r => exact ⟨_, _, rfl, Same.sqT s h.sqT, r⟩
  | «at» h => cases h
theorem View.tupN {ds : List D} {v : V} (h : View K F H (.tup ds) v) (s : Same F H) : ∃ a vs, v = .ref a ∧ SqN K.K H a vs ∧ RepL K F ds vs := by
  cases h with
  | rep h => cases h with | tup h r => exact ⟨_, _, rfl, Same.sqN s h, r⟩
  | «at» h => cases h
theorem View.tuz {ds : List D} {v : V} (h : View K F H (.tuz ds) v) (s : Same F H) : ∃ a vs, v = .ref a ∧ SqT K.K H a vs ∧ RepL K F ds vs := by
  cases h with
  | rep h => cases h with | tuz h r => exact ⟨_, _, rfl, Same.sqT s h, r⟩
  | «at» h => cases h
theorem View.tupF {ds : List D} {v : V} (h : View K F H (.tup ds) v) : Rep K F (.tup ds) v := by
  cases h with
  | rep h => exact h
  | «at» h => cases h
theorem View.lst {ds : List D} {v : V} (h : View K F H (.lst ds) v) (s : Same F H) : ∃ a vs, v = .ref a ∧ H a = some (.lst vs) ∧ RepL K F ds vs := by
  cases h with
  | rep h => cases h with | lst h r => exact ⟨_, _, rfl, s _ _ h, r⟩
  | «at» h => cases h with | lst h r => exact ⟨_, _, rfl, h, r⟩
theorem View.frl {ds : List D} {v : V} (h : View K F H (.frl ds) v) (s : Same F H) : ∃ a vs, v = .ref a ∧ SqL K.K H a vs ∧ RepL K F ds vs := by
  cases h with
  | rep h => cases h with | frl h r => exact ⟨_, _, rfl, s.seq h, r⟩
  | «at» h => cases h
theorem View.dic {ds : List (D × D)} {v : V} (h : View K F H (.dic ds) v) (s : Same F H) : ∃ a es ep, v = .ref a ∧ H a = some (rawD a es ep) ∧ RepKV K F ds es.toList ∧ (ds.map fun p => keyN p.1).Nodup := by
  cases h with
  | rep h => cases h with | dic h r n => exact ⟨_, _, _, rfl, s _ _ h, r, n⟩
  | «at» h => cases h with | dic h r n => exact ⟨_, _, _, rfl, h, r, n⟩
theorem View.set {ds : List D} {v : V} (h : View K F H (.set ds) v) : False := by
  cases h with
  | rep h => cases h
  | «at» h => cases h
end

/-! ### as the library's data -/
mutual
def toPy : D → PyData
  | .non => .none
  | .bl b => .bool b
  | .int i => .int i
  | .str x => .str x
  | .tup xs => .tuple (toPys xs)
  | .lst xs => .list (toPys xs)
  | .frl _ => .dict []
  | .tuz _ => .dict []
  | .dic _ => .dict []
  | .set _ => .dict []
def toPys : List D → List PyData
  | [] => []
  | x :: xs => toPy x :: toPys xs
end
theorem toPys_map : ∀ xs : List D, toPys xs = xs.map toPy
  | [] => rfl
  | x :: xs => by rw [toPys, List.map_cons, toPys_map xs]
def plainD (d : D) : Bool := (toPy d).plain

section
variable {X : Cx} {pins : List (Addr × Obj)} {σ : L2.St} {H F : Hp} {s : Shared}
mutual
theorem Rep.reads (I : Inv X pins σ H s) (e : Same F H) : ∀ (d : D) (v : V) (u : Value), (toPy d).plain = true → Rep X.G F d v → RelV v u → ∃ as, PySem.Reads s.heap u (toPy d) as
  | .non, _, _, _, h, r => by cases h; cases r; exact ⟨_, PySem.Reads.none⟩
  | .bl b, _, _, _, h, r => by cases h; cases r; exact ⟨_, PySem.Reads.bool b⟩
  | .int i, _, _, _, h, r => by cases h; obtain ⟨t, rfl⟩ := r; exact ⟨_, PySem.Reads.int i t⟩
  | .str x, _, _, _, h, r => by cases h; obtain ⟨t, rfl⟩ := r; exact ⟨_, PySem.Reads.str x t⟩
  | .lst ds, _, _, p, h, r => by
    cases h with
    | lst hs ha =>
      cases r
      obtain ⟨its, rv, ⟨o, n, ho, hc, _, hd⟩, _⟩ := I.list (SqL.of (e _ _ hs))
      obtain ⟨as, hr⟩ := RepL.reads I e ds _ its p ha rv
      exact ⟨_, PySem.Reads.list ho hc hd hr⟩
  | .tup ds, _, _, p, h, r => by
    cases h with
    | tup hs ha =>
      cases r
      obtain ⟨its, rv, ⟨o, ho, hc, n, hd⟩, _⟩ := I.tuple (Same.sqT e hs.sqT)
      obtain ⟨as, hr⟩ := RepL.reads I e ds _ its p ha rv
      exact ⟨_, PySem.Reads.tuple ho hc hd hr⟩
  | .dic _, _, _, p, h, _ => by simp [toPy, PyData.plain] at p
  | .frl _, _, _, p, h, _ => by simp [toPy, PyData.plain] at p
  | .tuz _, _, _, p, h, _ => by simp [toPy, PyData.plain] at p
  | .set _, _, _, p, h, _ => by simp [toPy, PyData.plain] at p
theorem RepL.reads (I : Inv X pins σ H s) (e : Same F H) : ∀ (ds : List D) (vs : List V) (us : List Value), PyData.plainAll (toPys ds) = true → RepL X.G F ds vs → Vals vs us → ∃ as, PySem.ReadsAll s.heap us (toPys ds) as
  | [], _, _, _, h, r => by cases h; cases r; exact ⟨_, PySem.ReadsAll.nil⟩
  | d :: ds, _, _, p, h, r => by
    cases h with
    | cons h1 h2 =>
      cases r with
      | cons r1 r2 =>
        simp only [toPys, PyData.plainAll, Bool.and_eq_true] at p
        obtain ⟨as, q1⟩ := Rep.reads I e d _ _ p.1 h1 r1
        obtain ⟨bs, q2⟩ := RepL.reads I e ds _ _ p.2 h2 r2
        exact ⟨_, PySem.ReadsAll.cons q1 q2⟩
end
theorem View.reads (I : Inv X pins σ H s) (e : Same F H) {d : D} {v : V} {u : Value} (p : (toPy d).plain = true) (h : View X.G F H d v) (r : RelV v u) : ∃ as, PySem.Reads s.heap u (toPy d) as := by
  cases h with
  | rep h => exact Rep.reads I e d v u p h r
  | «at» h =>
    cases h with
    | @lst a vs ds ha hr =>
      cases r
      obtain ⟨its, rv, ⟨o, n, ho, hc, _, hd⟩, _⟩ := I.list (SqL.of ha)
      obtain ⟨as, hr⟩ := RepL.reads I e ds _ its p hr rv
      exact ⟨_, PySem.Reads.list ho hc hd hr⟩
    | dic => simp [toPy, PyData.plain] at p
end

/-! ### judgements: PE, PT with a reading by a plain function -/
abbrev VM := Env → Option (Env × (Env → Option D))
abbrev VAM := Env → Option (Env × (Env → Option (List D)))

def tD (K : Gd) (m : EM) : TE := fun σ H Q => ∃ (B F : Hp) (Z : Pins) (η : Env) (d : D) (η' : Env), Ok K B F Z η σ H ∧ m η = some (d, η') ∧
  ∀ (v : V) (H' F' : Hp), Same F F' → Ok K B F' Z η' σ H' → Rep K F' d v → Q v H'
def tO (K : Gd) (m : EM) : TE := fun σ H Q => ∃ (B F : Hp) (Z : Pins) (η : Env) (d : D) (η' : Env), Ok K B F Z η σ H ∧ m η = some (d, η') ∧
  ∀ (p : Addr) (H' F' : Hp), Same F F' → Ok K B F' Z η' σ H' → B p = none → F' p = none → At K F' H' d p → (∀ (i : Nat) (e : D), Own η'[i]? e → σ[i]? ≠ some (some (.ref p))) → Q (.ref p) H'
def tV (K : Gd) (m : VM) : TE := fun σ H Q => ∃ (B F : Hp) (Z : Pins) (η η' : Env) (post : Env → Option D), Ok K B F Z η σ H ∧ m η = some (η', post) ∧
  ∀ (v : V) (H' F' : Hp), Same F F' → Ok K B F' Z η' σ H' →
    (∀ (F2 : Hp) (η2 : Env) (H2 : Hp) (d : D), Same F' F2 → Ok K B F2 Z η2 σ H2 → post η2 = some d → View K F2 H2 d v) → Q v H'
def tVA (K : Gd) (m : VAM) : TA := fun σ H Q => ∃ (B F : Hp) (Z : Pins) (η η' : Env) (post : Env → Option (List D)), Ok K B F Z η σ H ∧ m η = some (η', post) ∧
  ∀ (v : List V) (H' F' : Hp), Same F F' → Ok K B F' Z η' σ H' →
    (∀ (F2 : Hp) (η2 : Env) (H2 : Hp) (d : List D), Same F' F2 → Ok K B F2 Z η2 σ H2 → post η2 = some d → ViewL K F2 H2 d v) → Q v H'
def tDA (K : Gd) (m : AM) : TA := fun σ H Q => ∃ (B F : Hp) (Z : Pins) (η : Env) (d : List D) (η' : Env), Ok K B F Z η σ H ∧ m η = some (d, η') ∧
  ∀ (v : List V) (H' F' : Hp), Same F F' → Ok K B F' Z η' σ H' → RepL K F' d v → Q v H'
def tBt (K : Gd) (m : BM) : TT := fun σ H Q => ∃ (B F : Hp) (Z : Pins) (η : Env) (d : Bool) (η' : Env), Ok K B F Z η σ H ∧ m η = some (d, η') ∧
  ∀ (H' F' : Hp), Same F F' → Ok K B F' Z η' σ H' → Q d H'

section
variable {X : Cx} {e : Expr} {t t' : TE}
theorem weakE (h : PE X e t) (w : ∀ σ H Q, t' σ H Q → t σ H Q) : PE X e t' := ⟨fun pins s σ H Q I q => h.run pins s σ H Q I (w σ H Q q)⟩
theorem weakT {t t' : TT} (h : PT X e t) (w : ∀ σ H Q, t' σ H Q → t σ H Q) : PT X e t' := ⟨fun pins s σ H Q I q => h.run pins s σ H Q I (w σ H Q q)⟩
theorem weakW {t t' : TT} (h : PW X e t) (w : ∀ σ H Q, t' σ H Q → t σ H Q) : PW X e t' := ⟨fun wh pins s σ H Q I q => h.run wh pins s σ H Q I (w σ H Q q)⟩
theorem weakA {es : List Expr} {t t' : TA} (h : PA X es t) (w : ∀ σ H Q, t' σ H Q → t σ H Q) : PA X es t' := ⟨fun pos pins s σ H Q I q => h.run pos pins s σ H Q I (w σ H Q q)⟩
theorem weakOp {f : Value → Value → Sem Value} {r r' : R2} (h : OpR X f r) (w : ∀ x y H Q, r' x y H Q → r x y H Q) : OpR X f r' := fun pins s σ H x y v u Q I rx ry q => h pins s σ H x y v u Q I rx ry (w x y H Q q)
theorem weakIx {r r' : R2} (h : IxR X r) (w : ∀ x y H Q, r' x y H Q → r x y H Q) : IxR X r' := fun va sl pins s σ H x y v u Q I rx ry q => h va sl pins s σ H x y v u Q I rx ry (w x y H Q q)
theorem weakCall {f : Value} {r r' : List V → Hp → VK → Prop} (h : CallR X f r) (w : ∀ x H Q, r' x H Q → r x H Q) : CallR X f r' := fun pins s σ H x u Q I rx q => h pins s σ H x u Q I rx (w x H Q q)
end

/-! ### names, constants -/
def content (η : Env) (i : Nat) : Option D := match η[i]? with
  | some (.sh d) => some d
  | some (.ow d) => some d
  | some (.io d) => some d
  | _ => none
def cE (d : D) : EM := fun η => some (d, η)
/-- a name as a value: an own object is laid to rest -/
def varE (i : Nat) : EM := fun η => match η[i]? with
  | some (.sh d) => some (d, η)
  | some (.ow d) => some (d, η.set i (.sh d))
  | _ => none
/-- a name that is read on the spot -/
def nV (i : Nat) : VM := fun η => match content η i with
  | some _ => some (η, fun η2 => content η2 i)
  | none => none
def vE (m : EM) : VM := fun η => match m η with
  | some (d, η') => some (η', fun _ => some d)
  | none => none

section
variable {X : Cx} {e : Expr}
theorem pd_const {d : D} {v : V} (h : PE X e (tC v)) (r : ∀ K F, Rep K F d v) : PE X e (tD X.G (cE d)) := weakE h fun σ H Q ⟨B, F, Z, η, d', η', ok, hm, q⟩ => by
  cases hm
  exact q _ _ _ (Same.refl _) ok (r _ _)
theorem pd_int {i : Int} {j pos} : PE X (.Constant (.int i) j pos) (tD X.G (cE (.int i))) := pd_const pe_int fun _ _ => .int _
theorem pd_bl {i : Bool} {j pos} : PE X (.Constant (.bool i) j pos) (tD X.G (cE (.bl i))) := pd_const pe_bl fun _ _ => .bl _
theorem pd_str {i : Str} {j pos} : PE X (.Constant (.str i) j pos) (tD X.G (cE (.str i))) := pd_const pe_str fun _ _ => .str _
theorem pd_non {j pos} : PE X (.Constant .none j pos) (tD X.G (cE .non)) := pd_const pe_non fun _ _ => .non
theorem pd_var {i : Nat} (h : PE X e (tVar i)) : PE X e (tD X.G (varE i)) := weakE h fun σ H Q ⟨B, F, Z, η, d, η', ok, hm, q⟩ => by
  unfold varE at hm
  split at hm
  · next d' hd =>
    cases hm
    obtain ⟨v, h1, h2⟩ := ok.sh i _ hd
    exact ⟨v, h1, q _ _ _ (Same.refl _) ok h2⟩
  · next d' hd =>
    cases hm
    obtain ⟨F', v, h1, h2, h3, h4⟩ := ok.rest hd
    exact ⟨v, h2, q _ _ _ h1 h4 h3⟩
  · cases hm
theorem content_cases {η : Env} {i : Nat} {d : D} (h : content η i = some d) : η[i]? = some (.sh d) ∨ Own η[i]? d := by
  unfold content at h
  split at h
  · next d' hd => cases h; exact .inl hd
  · next d' hd => cases h; exact .inr (.inl hd)
  · next d' hd => cases h; exact .inr (.inr hd)
  · cases h
theorem Ok.content {K : Gd} {B F : Hp} {Z : Pins} {η : Env} {σ : L2.St} {H : Hp} (ok : Ok K B F Z η σ H) {i : Nat} {d : D} (h : content η i = some d) : ∃ v, σ[i]? = some (some v) ∧ View K F H d v := by
  rcases content_cases h with h | h
  · obtain ⟨v, h1, h2⟩ := ok.sh i d h
    exact ⟨v, h1, .rep h2⟩
  · obtain ⟨a, h1, _, _, h4⟩ := ok.ow i d h
    exact ⟨_, h1, .at h4⟩
theorem pv_name {i : Nat} (h : PE X e (tVar i)) : PE X e (tV X.G (nV i)) := weakE h fun σ H Q ⟨B, F, Z, η, η', post, ok, hm, q⟩ => by
  unfold nV at hm
  split at hm
  · next d' hd =>
    cases hm
    obtain ⟨v, h1, h2⟩ := ok.content hd
    refine ⟨v, h1, q _ _ _ (Same.refl _) ok fun F2 η2 H2 d s2 ok2 hp => ?_⟩
    obtain ⟨v', h3, h4⟩ := ok2.content hp
    rw [h1] at h3
    cases h3
    exact h4
  · cases hm
theorem pv_of {m : EM} (h : PE X e (tD X.G m)) : PE X e (tV X.G (vE m)) := weakE h fun σ H Q ⟨B, F, Z, η, η', post, ok, hm, q⟩ => by
  unfold vE at hm
  split at hm
  · next d η1 hd =>
    cases hm
    refine ⟨B, F, Z, η, d, η', ok, hd, fun v H' F' s1 ok1 r1 => q _ _ _ s1 ok1 fun F2 η2 H2 d s2 ok2 hp => ?_⟩
    cases hp
    exact .rep (r1.mono s2)
  · cases hm
/-- an own new object as a value: laid to rest at once -/
theorem pd_of_po {m : EM} (h : PE X e (tO X.G m)) : PE X e (tD X.G m) := weakE h fun σ H Q ⟨B, F, Z, η, d, η', ok, hm, q⟩ => by
  refine ⟨B, F, Z, η, d, η', ok, hm, fun p H' F' s1 ok1 hB hF hA hn => ?_⟩
  obtain ⟨o, ho, _⟩ := hA.some
  exact q _ _ _ (s1.trans (Same.upd hF)) (ok1.freeze hB hF hn ho) (hA.rep ok1.ff (Same.upd hF) (by rw [upd_same, ho]))
end

/-! ### lists of values -/
def nilA : AM := fun η => some ([], η)
def consA (a : EM) (r : AM) : AM := fun η => match a η with
  | some (d, η1) => match r η1 with
    | some (ds, η2) => some (d :: ds, η2)
    | none => none
  | none => none
def nilV : VAM := fun η => some (η, fun _ => some [])
def consV (a : VM) (r : VAM) : VAM := fun η => match a η with
  | some (η1, pa) => match r η1 with
    | some (η2, pr) => some (η2, fun η3 => match pa η3, pr η3 with
      | some d, some ds => some (d :: ds)
      | _, _ => none)
    | none => none
  | none => none
section
variable {X : Cx} {e : Expr} {es : List Expr}
theorem pda_nil : PA X [] (tDA X.G nilA) := weakA pa_nil fun σ H Q ⟨B, F, Z, η, d, η', ok, hm, q⟩ => by
  cases hm
  exact q _ _ _ (Same.refl _) ok .nil
theorem pda_cons {a : EM} {r : AM} (ha : PE X e (tD X.G a)) (hr : PA X es (tDA X.G r)) (hs : starEach (e :: es) X.env = (false, eval e X.env) :: starEach es X.env := by rfl) : PA X (e :: es) (tDA X.G (consA a r)) :=
  weakA (pa_cons ha hr hs) fun σ H Q ⟨B, F, Z, η, d, η', ok, hm, q⟩ => by
    unfold consA at hm
    split at hm
    · next d1 η1 h1 =>
      split at hm
      · next ds η2 h2 =>
        cases hm
        refine ⟨B, F, Z, η, d1, η1, ok, h1, fun v H1 F1 s1 ok1 r1 => ⟨B, F1, Z, η1, ds, η', ok1, h2, fun vs H2 F2 s2 ok2 r2 => ?_⟩⟩
        exact q _ _ _ (s1.trans s2) ok2 (.cons (r1.mono s2) r2)
      · cases hm
    · cases hm
theorem pva_nil : PA X [] (tVA X.G nilV) := weakA pa_nil fun σ H Q ⟨B, F, Z, η, η', post, ok, hm, q⟩ => by
  cases hm
  exact q _ _ _ (Same.refl _) ok fun F2 η2 H2 d s2 ok2 hp => by cases hp; exact .nil
theorem pva_cons {a : VM} {r : VAM} (ha : PE X e (tV X.G a)) (hr : PA X es (tVA X.G r)) (hs : starEach (e :: es) X.env = (false, eval e X.env) :: starEach es X.env := by rfl) : PA X (e :: es) (tVA X.G (consV a r)) :=
  weakA (pa_cons ha hr hs) fun σ H Q ⟨B, F, Z, η, η', post, ok, hm, q⟩ => by
    unfold consV at hm
    split at hm
    · next η1 pa h1 =>
      split at hm
      · next η2 pr h2 =>
        cases hm
        refine ⟨B, F, Z, η, η1, pa, ok, h1, fun v H1 F1 s1 ok1 r1 => ⟨B, F1, Z, η1, η', pr, ok1, h2, fun vs H2 F2 s2 ok2 r2 => ?_⟩⟩
        refine q _ _ _ (s1.trans s2) ok2 fun F3 η3 H3 d s3 ok3 hp => ?_
        dsimp only at hp
        split at hp
        · next d1 ds1 e1 e2 =>
          cases hp
          exact .cons (r1 F3 η3 H3 d1 (s2.trans s3) ok3 e1) (r2 F3 η3 H3 ds1 s3 ok3 e2)
        · cases hp
      · cases hm
    · cases hm
end

/-! ### results -/
/-- nothing new, or one new object that is frozen at once -/
def Res (F H F' H' : Hp) : Prop := (F' = F ∧ H' = H) ∨ ∃ p o, H p = none ∧ F' = upd F p o ∧ H' = upd H p o
theorem Res.same {F H : Hp} : Res F H F H := .inl ⟨rfl, rfl⟩
theorem Res.new {F H : Hp} {p : Addr} {o : HO} (h : H p = none) : Res F H (upd F p o) (upd H p o) := .inr ⟨p, o, h, rfl, rfl⟩
theorem Ok.res {K : Gd} {B F F' H' : Hp} {Z : Pins} {η : Env} {σ : L2.St} {H : Hp} (ok : Ok K B F Z η σ H) (r : Res F H F' H') : Ok K B F' Z η σ H' ∧ Same F F' := by
  rcases r with ⟨rfl, rfl⟩ | ⟨p, o, h, rfl, rfl⟩
  · exact ⟨ok, Same.refl _⟩
  · exact ⟨ok.newF h, Same.upd (ok.free h)⟩

/-! ### operators by values -/
def rOp (K : Gd) (g : D → D → Option D) : R2 := fun v w H Q => ∃ (x y z : D) (F : Hp), Same F H ∧ g x y = some z ∧ View K F H x v ∧ View K F H y w ∧ ∀ u F' H', Res F H F' H' → Rep K F' z u → Q u H'
def bin2 (g : D → D → Option D) (a b : VM) : EM := fun η => match a η with
  | some (η1, pa) => match b η1 with
    | some (η2, pb) => match pa η2 with
      | some x => match pb η2 with
        | some y => match g x y with
          | some z => some (z, η2)
          | none => none
        | none => none
      | none => none
    | none => none
  | none => none
theorem bin2_inv {g : D → D → Option D} {a b : VM} {η : Env} {z : D} {η2 : Env} (h : bin2 g a b η = some (z, η2)) :
    ∃ η1 pa pb x y, a η = some (η1, pa) ∧ b η1 = some (η2, pb) ∧ pa η2 = some x ∧ pb η2 = some y ∧ g x y = some z := by
  unfold bin2 at h
  split at h
  · next η1 pa h1 =>
    split at h
    · next η2' pb h2 =>
      split at h
      · next x h3 =>
        split at h
        · next y h4 =>
          split at h
          · next z' h5 => cases h; exact ⟨η1, pa, pb, x, y, h1, h2, h3, h4, h5⟩
          · cases h
        · cases h
      · cases h
    · cases h
  · cases h
def orOp (g h : D → D → Option D) : D → D → Option D := fun x y => match g x y with
  | some z => some z
  | none => h x y
section
variable {X : Cx} {a b : Expr} {pos : Pos}
theorem tOp_D {g : D → D → Option D} {ma mb : VM} (σ : L2.St) (H : Hp) (Q : VK) (h : tD X.G (bin2 g ma mb) σ H Q) : tOp (rOp X.G g) (tV X.G ma) (tV X.G mb) σ H Q := by
  obtain ⟨B, F, Z, η, d, η', ok, hm, q⟩ := h
  obtain ⟨η1, pa, pb, x, y, h1, h2, h3, h4, h5⟩ := bin2_inv hm
  refine ⟨B, F, Z, η, η1, pa, ok, h1, fun v H1 F1 s1 ok1 r1 => ⟨B, F1, Z, η1, η', pb, ok1, h2, fun w H2 F2 s2 ok2 r2 => ?_⟩⟩
  refine ⟨x, y, d, F2, ok2.ff, h5, r1 F2 _ H2 x s2 ok2 h3, r2 F2 _ H2 y (Same.refl _) ok2 h4, fun u F' H' rs rp => ?_⟩
  obtain ⟨ok3, s3⟩ := ok2.res rs
  exact q u H' F' ((s1.trans s2).trans s3) ok3 rp
theorem pd_op {op : Operator} {g : D → D → Option D} {ma mb : VM} (ho : OpR X (binaryOp op) (rOp X.G g)) (ha : PE X a (tV X.G ma)) (hb : PE X b (tV X.G mb)) : PE X (.BinOp a op b pos) (tD X.G (bin2 g ma mb)) :=
  weakE (pe_op ho ha hb) tOp_D
theorem pd_cmp {op : CmpOp} {g : D → D → Option D} {ma mb : VM} (ho : OpR X (compareOp op) (rOp X.G g)) (ha : PE X a (tV X.G ma)) (hb : PE X b (tV X.G mb)) (hm : behindInMarks op b = false) : PE X (.Compare a [op] [b] pos) (tD X.G (bin2 g ma mb)) :=
  weakE (pe_cmpR ho ha hb hm) tOp_D
def boolD (m : EM) : BM := fun η => match m η with
  | some (.bl b, η') => some (b, η')
  | _ => none
theorem boolD_inv {m : EM} {η : Env} {b : Bool} {η' : Env} (h : boolD m η = some (b, η')) : m η = some (.bl b, η') := by
  unfold boolD at h
  split at h
  · next b' η1 e => cases h; exact e
  · cases h
theorem tB_D {m : EM} {t : TE} (σ : L2.St) (H : Hp) (Q : Bool → Hp → Prop) (w : ∀ Q', tD X.G m σ H Q' → t σ H Q') (h : tBt X.G (boolD m) σ H Q) : t σ H fun x H1 => ∃ c, x = .bl c ∧ Q c H1 := by
  obtain ⟨B, F, Z, η, d, η', ok, hm, q⟩ := h
  exact w _ ⟨B, F, Z, η, .bl d, η', ok, boolD_inv hm, fun v H' F' s1 ok1 r1 => by cases r1; exact ⟨d, rfl, q _ _ s1 ok1⟩⟩
theorem pb_cmp {op : CmpOp} {g : D → D → Option D} {ma mb : VM} (ho : OpR X (compareOp op) (rOp X.G g)) (ha : PE X a (tV X.G ma)) (hb : PE X b (tV X.G mb)) (hm : behindInMarks op b = false) : PT X (.Compare a [op] [b] pos) (tBt X.G (boolD (bin2 g ma mb))) :=
  weakT (pt_cmpR ho ha hb hm) fun σ H Q h => tB_D σ H Q (fun Q' => tOp_D σ H Q') h
theorem op_or {f : Value → Value → Sem Value} {g h : D → D → Option D} (hg : OpR X f (rOp X.G g)) (hh : OpR X f (rOp X.G h)) : OpR X f (rOp X.G (orOp g h)) :=
  weakOp (OpR.or hg hh) fun v w H Q ⟨x, y, z, F, s, e, vx, vy, q⟩ => by
    unfold orOp at e
    split at e
    · next z' e' => cases e; exact .inl ⟨x, y, _, F, s, e', vx, vy, q⟩
    · exact .inr ⟨x, y, z, F, s, e, vx, vy, q⟩
/-- ints -/
theorem op_int {f : Value → Value → Sem Value} {C : Int → Int → Prop} {g : Int → Int → V} {k : D → D → Option D} (h : OpR X f (rI C g))
    (hk : ∀ x y z, k x y = some z → ∃ i j, x = .int i ∧ y = .int j ∧ C i j ∧ ∀ K F, Rep K F z (g i j)) : OpR X f (rOp X.G k) :=
  weakOp h fun v w H Q ⟨x, y, z, F, s, e, vx, vy, q⟩ => by
    obtain ⟨i, j, rfl, rfl, c, r⟩ := hk x y z e
    exact ⟨i, j, vx.int, vy.int, c, q _ _ _ Res.same (r _ _)⟩
theorem op_int0 {f : Value → Value → Sem Value} {g : Int → Int → V} {k : D → D → Option D} (h : OpR X f (rI0 g))
    (hk : ∀ x y z, k x y = some z → ∃ i j, x = .int i ∧ y = .int j ∧ ∀ K F, Rep K F z (g i j)) : OpR X f (rOp X.G k) :=
  weakOp h fun v w H Q ⟨x, y, z, F, s, e, vx, vy, q⟩ => by
    obtain ⟨i, j, rfl, rfl, r⟩ := hk x y z e
    exact ⟨i, j, vx.int, vy.int, q _ _ _ Res.same (r _ _)⟩
end
end DL

namespace DL
open PySem L2

/-! ### data that may be compared -/
mutual
/-- no dict, no set; not too deep -/
def okD : Nat → D → Bool
  | _, .non => true
  | _, .bl _ => true
  | _, .int _ => true
  | _, .str _ => true
  | 0, .tup _ => false
  | n + 1, .tup xs => okDs n xs
  | 0, .lst _ => false
  | n + 1, .lst xs => okDs n xs
  | _, .frl _ => false
  | _, .tuz _ => false
  | _, .dic _ => false
  | _, .set _ => false
def okDs : Nat → List D → Bool
  | _, [] => true
  | n, x :: xs => okD n x && okDs n xs
end
mutual
theorem okD_py : ∀ (n : Nat) (d : D), okD n d = true → (toPy d).plain = true ∧ (toPy d).depth ≤ n
  | n, .non, _ => ⟨rfl, by simp [toPy, PyData.depth]⟩
  | n, .bl _, _ => ⟨rfl, by simp [toPy, PyData.depth]⟩
  | n, .int _, _ => ⟨rfl, by simp [toPy, PyData.depth]⟩
  | n, .str _, _ => ⟨rfl, by simp [toPy, PyData.depth]⟩
  | 0, .tup _, h => by simp [okD] at h
  | n + 1, .tup xs, h => by
    have q := okDs_py n xs (by simpa [okD] using h)
    simp only [toPy, PyData.plain, PyData.depth]
    exact ⟨q.1, by omega⟩
  | 0, .lst _, h => by simp [okD] at h
  | n + 1, .lst xs, h => by
    have q := okDs_py n xs (by simpa [okD] using h)
    simp only [toPy, PyData.plain, PyData.depth]
    exact ⟨q.1, by omega⟩
  | 0, .frl _, h => by simp [okD] at h
  | _ + 1, .frl _, h => by simp [okD] at h
  | 0, .tuz _, h => by simp [okD] at h
  | _ + 1, .tuz _, h => by simp [okD] at h
  | 0, .dic _, h => by simp [okD] at h
  | _ + 1, .dic _, h => by simp [okD] at h
  | 0, .set _, h => by simp [okD] at h
  | _ + 1, .set _, h => by simp [okD] at h
theorem okDs_py : ∀ (n : Nat) (ds : List D), okDs n ds = true → PyData.plainAll (toPys ds) = true ∧ PyData.depthAll (toPys ds) ≤ n
  | n, [], _ => ⟨rfl, by simp [toPys, PyData.depthAll]⟩
  | n, x :: xs, h => by
    simp only [okDs, Bool.and_eq_true] at h
    have q1 := okD_py n x h.1
    have q2 := okDs_py n xs h.2
    simp only [toPys, PyData.plainAll, PyData.depthAll, Bool.and_eq_true]
    exact ⟨⟨q1.1, q2.1⟩, by omega⟩
end
def eqb (x y : D) : Bool := PyData.eqv (toPy x) (toPy y)

/-! ### operators -/
def addD : D → D → Option D
  | .int a, .int b => some (.int (a + b))
  | .str a, .str b => if a.length + b.length ≤ 16777216 then some (.str (a ++ b)) else none
  | .tup a, .tup b => if a.length + b.length ≤ 16777216 then some (.tup (a ++ b)) else none
  | .lst a, .lst b => if a.length + b.length ≤ 16777216 then some (.lst (a ++ b)) else none
  | _, _ => none
def subD : D → D → Option D
  | .int a, .int b => some (.int (a - b))
  | _, _ => none
def mulD : D → D → Option D
  | .int a, .int b => if a.natAbs.log2 + b.natAbs.log2 < 1000000 then some (.int (a * b)) else none
  | .lst a, .int b => if -(2 ^ 63) ≤ b ∧ b < 2 ^ 63 ∧ a.length * b.toNat ≤ 16777216 then some (.lst (List.replicate b.toNat a).flatten) else none
  | _, _ => none
def fdivD : D → D → Option D
  | .int a, .int b => if 0 < b ∧ b.natAbs.log2 < 9000 then some (.int (a / b)) else if b ≠ 0 ∧ b.natAbs < 1073741824 then some (.int (a.fdiv b)) else none
  | _, _ => none
def modD : D → D → Option D
  | .int a, .int b => if 0 < b then some (.int (a % b)) else if b ≠ 0 then some (.int (a.fmod b)) else none
  | _, _ => none
def powD : D → D → Option D
  | .int a, .int b => if 0 ≤ b ∧ b ≤ 1000000 ∧ a.natAbs < 2 ^ 64 then some (.int (a ^ b.toNat)) else none
  | _, _ => none
def shlD : D → D → Option D
  | .int a, .int b => if 0 ≤ b ∧ b ≤ 1000000 ∧ a.natAbs < 2 ^ 64 then some (.int (a * 2 ^ b.toNat)) else none
  | _, _ => none
def eqD (x y : D) : Option D := if okD 60 x && okD 60 y then some (.bl (eqb x y)) else none
def neD (x y : D) : Option D := if okD 60 x && okD 60 y then some (.bl (!eqb x y)) else none
def isNone : D → Bool
  | .non => true
  | _ => false
def ordD (f : PyData → PyData → Bool) (x y : D) : Option D := if okD 60 x && okD 60 y && PySem.W.alike (toPy x) (toPy y) && !isNone x then some (.bl (f (toPy x) (toPy y))) else none
def ltD : D → D → Option D
  | .int a, .int b => some (.bl (decide (a < b)))
  | x, y => ordD (fun a b => PySem.W.dataLt a b) x y
def gtD : D → D → Option D
  | .int a, .int b => some (.bl (decide (b < a)))
  | x, y => ordD (fun a b => PySem.W.dataLt b a) x y
def leD : D → D → Option D
  | .int a, .int b => some (.bl (decide (a ≤ b)))
  | x, y => ordD (fun a b => !PySem.W.dataLt b a) x y
def geD : D → D → Option D
  | .int a, .int b => some (.bl (decide (b ≤ a)))
  | x, y => ordD (fun a b => !PySem.W.dataLt a b) x y
def isD : D → D → Option D
  | x, .non => some (.bl (isNone x))
  | _, _ => none
def isnD : D → D → Option D
  | x, .non => some (.bl (!isNone x))
  | _, _ => none
def notB : D → Option D
  | .bl b => some (.bl (!b))
  | _ => none
theorem line_eq {n : Nat} (h : n ≤ 16777216) : n ≤ sizeLine := by rw [sizeLine_eq]; exact h

section
variable {X : Cx}
theorem op_add' : OpR X (binaryOp .Add) (rOp X.G addD) :=
  weakOp (OpR.or op_add (OpR.or op_add_str (OpR.or op_catN op_cat))) fun v w H Q ⟨x, y, z, F, s, e, vx, vy, q⟩ => by
    unfold addD at e
    split at e
    · next a b =>
      cases e
      exact .inl ⟨a, b, vx.int, vy.int, q _ _ _ Res.same (.int _)⟩
    · next a b =>
      split at e
      · next hl =>
        cases e
        exact .inr (.inl ⟨a, b, vx.str, vy.str, line_eq hl, q _ _ _ Res.same (.str _)⟩)
      · cases e
    · next a b =>
      split at e
      · next hl =>
        cases e
        have fx := vx.tupF
        have fy := vy.tupF
        obtain ⟨p1, vs1, rfl, h1, r1⟩ := vx.tup s
        obtain ⟨p2, vs2, rfl, h2, r2⟩ := vy.tup s
        refine .inr (.inr (.inl ⟨p1, p2, vs1, vs2, rfl, rfl, h1, h2, line_eq (by rw [← r1.length, ← r2.length]; exact hl), fun h => ?_, fun _ h => ?_, fun _ _ p ob hp hd => ?_⟩))
        · subst h
          cases r1
          exact q _ _ _ Res.same fy
        · subst h
          cases r2
          rw [List.append_nil] at q
          exact q _ _ _ Res.same fx
        · have hF := s.free hp
          exact q _ _ _ (Res.new hp) (.tup (SqN.of hd) ((r1.append r2).mono (Same.upd hF)))
      · cases e
    · next a b =>
      split at e
      · next hl =>
        cases e
        obtain ⟨p1, vs1, rfl, h1, r1⟩ := vx.lst s
        obtain ⟨p2, vs2, rfl, h2, r2⟩ := vy.lst s
        refine .inr (.inr (.inr ⟨p1, p2, vs1, vs2, rfl, rfl, h1, h2, line_eq (by rw [← r1.length, ← r2.length]; exact hl), fun p hp => ?_⟩))
        have hF := s.free hp
        exact q _ _ _ (Res.new hp) (.lst upd_same ((r1.append r2).mono (Same.upd hF)))
      · cases e
    · cases e
theorem op_sub' : OpR X (binaryOp .Sub) (rOp X.G subD) := op_int0 op_sub fun x y z e => by
  unfold subD at e
  split at e
  · next a b => cases e; exact ⟨a, b, rfl, rfl, fun _ _ => .int _⟩
  · cases e
theorem op_mod' : OpR X (binaryOp .Mod) (rOp X.G modD) := by
  refine weakOp (OpR.or op_mod op_modN) fun v w H Q ⟨x, y, z, F, s, e, vx, vy, q⟩ => ?_
  unfold modD at e
  split at e
  · next a b =>
    split at e
    · next h => cases e; exact .inl ⟨a, b, vx.int, vy.int, h, q _ _ _ Res.same (.int _)⟩
    · split at e
      · next h => cases e; exact .inr ⟨a, b, vx.int, vy.int, h, q _ _ _ Res.same (.int _)⟩
      · cases e
  · cases e
theorem op_fdiv' : OpR X (binaryOp .FloorDiv) (rOp X.G fdivD) := by
  refine weakOp (OpR.or op_fdivW op_fdivN) fun v w H Q ⟨x, y, z, F, s, e, vx, vy, q⟩ => ?_
  unfold fdivD at e
  split at e
  · next a b =>
    split at e
    · next h => cases e; exact .inl ⟨a, b, vx.int, vy.int, h, q _ _ _ Res.same (.int _)⟩
    · split at e
      · next h => cases e; exact .inr ⟨a, b, vx.int, vy.int, h, q _ _ _ Res.same (.int _)⟩
      · cases e
  · cases e
theorem op_pow' : OpR X (binaryOp .Pow) (rOp X.G powD) := op_int op_pow fun x y z e => by
  unfold powD at e
  split at e
  · next a b =>
    split at e
    · next h => cases e; exact ⟨a, b, rfl, rfl, h, fun _ _ => .int _⟩
    · cases e
  · cases e
theorem op_shl' : OpR X (binaryOp .LShift) (rOp X.G shlD) := op_int op_shl fun x y z e => by
  unfold shlD at e
  split at e
  · next a b =>
    split at e
    · next h => cases e; exact ⟨a, b, rfl, rfl, h, fun _ _ => .int _⟩
    · cases e
  · cases e
/-- int * int alone (a list times an int wants a list of one's own: not here) -/
def mulI : D → D → Option D
  | .int a, .int b => if a.natAbs.log2 + b.natAbs.log2 < 1000000 then some (.int (a * b)) else none
  | _, _ => none
theorem op_mul' : OpR X (binaryOp .Mult) (rOp X.G mulI) := op_int op_mulW fun x y z e => by
  unfold mulI at e
  split at e
  · next a b =>
    split at e
    · next h => cases e; exact ⟨a, b, rfl, rfl, h, fun _ _ => .int _⟩
    · cases e
  · cases e
end

/-! ### comparisons -/
section
variable {X : Cx}
theorem op_eq' (hu : X.A.units + 64 < cLine) : OpR X (compareOp .Eq) (rOp X.G eqD) := by
  intro pins s σ H x y v u Q I rx ry h
  obtain ⟨a, b, z, F, sm, e, vx, vy, q⟩ := h
  unfold eqD at e
  split at e
  · next h =>
    cases e
    rw [Bool.and_eq_true] at h
    have pa := okD_py _ _ h.1
    have pb := okD_py _ _ h.2
    obtain ⟨as, ra⟩ := vx.reads I sm pa.1 rx
    obtain ⟨bs, rb⟩ := vy.reads I sm pb.1 ry
    exact PySem.SeqAt.eq_plain ra rb pa.1 pb.1 (by omega) ⟨.bl _, H, I, rfl, q _ _ _ Res.same (.bl _)⟩
  · cases e
theorem op_ne' (hu : X.A.units + 64 < cLine) : OpR X (compareOp .NotEq) (rOp X.G neD) := by
  intro pins s σ H x y v u Q I rx ry h
  obtain ⟨a, b, z, F, sm, e, vx, vy, q⟩ := h
  unfold neD at e
  split at e
  · next h =>
    cases e
    rw [Bool.and_eq_true] at h
    have pa := okD_py _ _ h.1
    have pb := okD_py _ _ h.2
    obtain ⟨as, ra⟩ := vx.reads I sm pa.1 rx
    obtain ⟨bs, rb⟩ := vy.reads I sm pb.1 ry
    exact PySem.SeqAt.ne_plain ra rb pa.1 pb.1 (by omega) ⟨.bl _, H, I, rfl, q _ _ _ Res.same (.bl _)⟩
  · cases e
theorem notNone_py {x : D} (h : isNone x = false) : toPy x ≠ .none := by
  cases x <;> first | (simp [isNone] at h; done) | (simp [toPy])
theorem ordD_inv {f : PyData → PyData → Bool} {x y z : D} (h : ordD f x y = some z) :
    ((toPy x).plain = true ∧ (toPy x).depth ≤ 60) ∧ ((toPy y).plain = true ∧ (toPy y).depth ≤ 60) ∧ PySem.W.alike (toPy x) (toPy y) = true ∧ toPy x ≠ .none ∧ z = .bl (f (toPy x) (toPy y)) := by
  unfold ordD at h
  split at h
  · next h' =>
    cases h
    simp only [Bool.and_eq_true, Bool.not_eq_true'] at h'
    exact ⟨okD_py _ _ h'.1.1.1, okD_py _ _ h'.1.1.2, h'.1.2, notNone_py h'.2, rfl⟩
  · cases h
theorem op_ord {op : CmpOp} {f : PyData → PyData → Bool}
    (rule : ∀ (A : Around) (E : Value → Shared → Prop) (s : Shared) (a b : Value) (da db : PyData) (as bs : List Addr) (Q : Value → Shared → Prop), Reads s.heap a da as → Reads s.heap b db bs → PySem.W.alike da db = true → da ≠ .none →
      A.units + min da.depth db.depth < cLine → Q (.bool (f da db)) s → wpAny (model X.prog X.w) A (compareOp op a b) Q E s) (hu : X.A.units + 64 < cLine) : OpR X (compareOp op) (rOp X.G (ordD f)) := by
  intro pins s σ H x y v u Q I rx ry h
  obtain ⟨a, b, z, F, sm, e, vx, vy, q⟩ := h
  obtain ⟨pa, pb, al, nn, rfl⟩ := ordD_inv e
  obtain ⟨as, ra⟩ := vx.reads I sm pa.1 rx
  obtain ⟨bs, rb⟩ := vy.reads I sm pb.1 ry
  exact rule _ _ _ _ _ _ _ _ _ _ ra rb al nn (by omega) ⟨.bl _, H, I, rfl, q _ _ _ Res.same (.bl _)⟩
theorem op_lt' (hu : X.A.units + 64 < cLine) : OpR X (compareOp .Lt) (rOp X.G ltD) :=
  weakOp (OpR.or op_lt (op_ord (f := fun a b => PySem.W.dataLt a b) (fun _ _ _ _ _ _ _ _ _ _ ra rb al nn hu q => PySem.W.lt_data ra rb al nn hu q) hu)) fun v w H Q ⟨x, y, z, F, s, e, vx, vy, q⟩ => by
    unfold ltD at e
    split at e
    · next a b => cases e; exact .inl ⟨a, b, vx.int, vy.int, q _ _ _ Res.same (.bl _)⟩
    · exact .inr ⟨x, y, z, F, s, e, vx, vy, q⟩
theorem op_gt' (hu : X.A.units + 64 < cLine) : OpR X (compareOp .Gt) (rOp X.G gtD) :=
  weakOp (OpR.or op_gt (op_ord (f := fun a b => PySem.W.dataLt b a) (fun _ _ _ _ _ _ _ _ _ _ ra rb al nn hu q => PySem.W.gt_data ra rb al nn hu q) hu)) fun v w H Q ⟨x, y, z, F, s, e, vx, vy, q⟩ => by
    unfold gtD at e
    split at e
    · next a b => cases e; exact .inl ⟨a, b, vx.int, vy.int, q _ _ _ Res.same (.bl _)⟩
    · exact .inr ⟨x, y, z, F, s, e, vx, vy, q⟩
theorem op_le' (hu : X.A.units + 64 < cLine) : OpR X (compareOp .LtE) (rOp X.G leD) :=
  weakOp (OpR.or op_le (op_ord (f := fun a b => !PySem.W.dataLt b a) (fun _ _ _ _ _ _ _ _ _ _ ra rb al nn hu q => PySem.W.le_data ra rb al nn hu q) hu)) fun v w H Q ⟨x, y, z, F, s, e, vx, vy, q⟩ => by
    unfold leD at e
    split at e
    · next a b => cases e; exact .inl ⟨a, b, vx.int, vy.int, q _ _ _ Res.same (.bl _)⟩
    · exact .inr ⟨x, y, z, F, s, e, vx, vy, q⟩
theorem op_ge' (hu : X.A.units + 64 < cLine) : OpR X (compareOp .GtE) (rOp X.G geD) :=
  weakOp (OpR.or op_ge (op_ord (f := fun a b => !PySem.W.dataLt a b) (fun _ _ _ _ _ _ _ _ _ _ ra rb al nn hu q => PySem.W.ge_data ra rb al nn hu q) hu)) fun v w H Q ⟨x, y, z, F, s, e, vx, vy, q⟩ => by
    unfold geD at e
    split at e
    · next a b => cases e; exact .inl ⟨a, b, vx.int, vy.int, q _ _ _ Res.same (.bl _)⟩
    · exact .inr ⟨x, y, z, F, s, e, vx, vy, q⟩
theorem View.isNone {K : Gd} {F H : Hp} {x : D} {v : V} (h : View K F H x v) : decide (v = .non) = DL.isNone x := by
  cases h with
  | rep h => cases h <;> first | rfl | simp [DL.isNone]
  | «at» h => cases h <;> simp [DL.isNone]
theorem op_is' : OpR X (compareOp .Is) (rOp X.G isD) := weakOp op_isN fun v w H Q ⟨x, y, z, F, s, e, vx, vy, q⟩ => by
  unfold isD at e
  split at e
  · cases e; exact ⟨vy.non, by rw [vx.isNone]; exact q _ _ _ Res.same (.bl _)⟩
  · cases e
theorem op_isn' : OpR X (compareOp .IsNot) (rOp X.G isnD) := weakOp op_notN fun v w H Q ⟨x, y, z, F, s, e, vx, vy, q⟩ => by
  unfold isnD at e
  split at e
  · cases e; exact ⟨vy.non, by rw [vx.isNone]; exact q _ _ _ Res.same (.bl _)⟩
  · cases e
end
end DL
namespace DL
open PySem

/-! ### keys of several kinds in one dict -/
/-- the entries es hold the keys ns -/
structure EntK (w : World) (h : Heap) (es : Array DictEntry) (ns : List NestedKey) : Prop where
  len : ns.length = es.size
  at_ : ∀ (i : Nat) (e : DictEntry) (n : NestedKey), es[i]? = some e → ns[i]? = some n → e.hash = n.hash w ∧ NestedIs h n e.key ∧ n.depth ≤ 8
section
variable {prog : Program} {w : World} {A : Around} {E : Value → Shared → Prop} {s : Shared} {d : Addr} {o : Obj} {es : Array DictEntry} {ep : Nat} {ns : List NestedKey} {k : NestedKey} {u : Value}
theorem EntK.get {h : Heap} (hE : EntK w h es ns) {i : Nat} {e : DictEntry} (he : es[i]? = some e) : ∃ n, ns[i]? = some n ∧ e.hash = n.hash w ∧ NestedIs h n e.key ∧ n.depth ≤ 8 := by
  have hi : i < ns.length := by rw [hE.len]; exact (Array.getElem?_eq_some_iff.mp he).1
  exact ⟨ns[i], List.getElem?_eq_getElem hi, hE.at_ i e _ he (List.getElem?_eq_getElem hi)⟩
/-- where keys of this hash stand -/
abbrev plc (es : Array DictEntry) (h : Int) : List Nat := placesWithHash es.size (fun i => es[i]?.map (·.hash)) h
theorem mem_plc {h : Int} {i : Nat} : i ∈ plc es h ↔ ∃ e, es[i]? = some e ∧ e.hash = h := by
  unfold plc placesWithHash
  rw [List.mem_filter, List.mem_range]
  constructor
  · rintro ⟨h1, h2⟩
    have h3 : (es[i]?.map (·.hash) == some h) = true := h2
    rw [Array.getElem?_eq_getElem h1] at h3
    exact ⟨_, Array.getElem?_eq_getElem h1, by simpa using h3⟩
  · rintro ⟨e, h1, h2⟩
    exact ⟨(Array.getElem?_eq_some_iff.mp h1).1, by show (es[i]?.map (·.hash) == some h) = true; rw [h1]; simp [h2]⟩
theorem tell_mix {kk : NestedKey} {st : List Value} {Q : Bool → Shared → Prop} (hk : NestedIs s.heap kk u) (h8 : kk.depth ≤ 8) (hs : ∀ v ∈ st, ∃ n, NestedIs s.heap n v ∧ n.depth ≤ 8) (h : Q false s) : wpAny (model prog w) A (tableMayTell u st) Q E s := by
  unfold tableMayTell
  by_cases hz : st.isEmpty = true
  · rw [if_pos hz]; exact wpAny_pure h
  · rw [if_neg hz]
    refine wpAny_bind (quiet_key kk u 8 s hk h8 A E _ ?_)
    simp only [Bool.not_true, Bool.false_eq_true, if_false]
    refine wpAny_bind (wpAny_forIn_list _ (fun more r s' => (s = s' ∧ r = (none, ())) ∧ ∀ v ∈ more, ∃ n, NestedIs s.heap n v ∧ n.depth ≤ 8) _ ?_ ?_ _ _ ⟨⟨rfl, rfl⟩, hs⟩)
    · rintro v more r _ ⟨⟨rfl, rfl⟩, hm⟩
      obtain ⟨n, hn, hn8⟩ := hm v List.mem_cons_self
      refine wpAny_bind (quiet_key n v 8 _ hn hn8 A E _ ?_)
      simp only [Bool.not_true, Bool.false_eq_true, if_false]
      exact wpAny_pure ⟨⟨rfl, rfl⟩, fun v hv => hm v (List.mem_cons_of_mem _ hv)⟩
    · rintro r s' ⟨⟨rfl, rfl⟩, _⟩
      exact wpAny_pure h
theorem wp_ite {α : Type} {M : Model} {A : Around} {Q : α → Shared → Prop} {E : Value → Shared → Prop} {s : Shared} {c : Prop} [Decidable c] {a b : Sem α} (ha : c → wpAny M A a Q E s) (hb : ¬ c → wpAny M A b Q E s) : wpAny M A (if c then a else b) Q E s := by
  by_cases h : c
  · rw [if_pos h]; exact ha h
  · rw [if_neg h]; exact hb h
theorem find_mix {Q : Option Nat → Shared → Prop} (hu : A.units + 8 < cLine) (hk : NestedIs s.heap k u) (h8 : k.depth ≤ 8) (hs : ∀ x t, u ≠ .str x t) (ho : s.heap.get? d = some o) (hd : o.data = .dict es ep) (hE : EntK w s.heap es ns) (hn : ns.Nodup)
    (h0 : k ∉ ns → Q none s) (h1 : ∀ j : Nat, ns[j]? = some k → Q (some j) s) : wpAny (model prog w) A (dictFind d u (k.hash w)) Q E s := by
  have hst : ∀ v ∈ (plc es (k.hash w)).filterMap (fun i => es[i]?.map (·.key)), ∃ n, NestedIs s.heap n v ∧ n.depth ≤ 8 := fun v hv => by
    obtain ⟨i, hi, e⟩ := List.mem_filterMap.mp hv
    obtain ⟨en, h2, _⟩ := mem_plc.mp hi
    rw [h2] at e
    cases e
    obtain ⟨n, _, _, h4, h5⟩ := hE.get h2
    exact ⟨n, h4, h5⟩
  have hno : (∀ i ∈ plc es (k.hash w), ns[i]? ≠ some k) → k ∉ ns := fun h hm => by
    obtain ⟨i, hi⟩ := List.getElem?_of_mem hm
    have hl : i < es.size := by rw [← hE.len]; exact (List.getElem?_eq_some_iff.mp hi).1
    obtain ⟨n, e1, e2, _⟩ := hE.get (Array.getElem?_eq_getElem hl)
    rw [hi] at e1
    cases e1
    exact h i (mem_plc.mpr ⟨_, Array.getElem?_eq_getElem hl, e2⟩) hi
  have huni : ∀ i j, ns[i]? = some k → ns[j]? = some k → i = j := fun i j hi hj => (List.getElem?_inj (List.getElem?_eq_some_iff.mp hi).1 hn).mp (hi.trans hj.symm)
  unfold dictFind
  try with_reducible refine wpAny_holding ?_
  refine wpAny_bind (wpAny_dictEntries ho hd ?_)
  have hk2 := hk
  obtain ⟨k0, hk0⟩ : ∃ k0, k0 = k := ⟨_, rfl⟩
  rw [← hk0] at hk
  cases hk with
  | text x t => exact (hs _ _ rfl).elim
  | @tup a o2 vs n2 ks g1 g2 g3 g4 =>
    dsimp only
    rw [if_neg (show ¬ ((Value.ref a :: _).all carriedByValue) = true from fun z => by rw [List.all_cons, Bool.and_eq_true] at z; exact nomatch z.1)]
    rw [if_neg (show ¬ (es.any fun e => e.key == Value.ref a && e.hash != NestedKey.hash w k) = true from fun z => by
      rw [Array.any_eq_true] at z
      obtain ⟨i, hi, z⟩ := z
      rw [Bool.and_eq_true] at z
      obtain ⟨n, q1, q2, q3, q4⟩ := hE.get (Array.getElem?_eq_getElem hi)
      have hka : es[i].key = Value.ref a := by simpa using z.1
      rw [hka] at q3
      have := NestedIs.inj _ _ _ q3 hk2
      subst this
      have := z.2
      rw [q2] at this
      simp at this)]
    refine wp_ite (fun _ => ?_) (fun _ => ?_)
    · refine wpAny_bind (wpAny_pure ?_)
      rw [Bool.false_and]
      rw [if_neg Bool.false_ne_true]

      refine wpAny_bind (wpAny_forIn_list _ (fun more b s' => (s = s' ∧ b.1 = none) ∧ ∃ pre, pre ++ more = plc es (NestedKey.hash w k) ∧ ((b.2 = none ∧ ∀ i ∈ pre, ns[i]? ≠ some k) ∨ ∃ j : Nat, j ∈ pre ∧ b.2 = some j ∧ ns[j]? = some k)) _ ?_ ?_ _ _ ⟨⟨rfl, rfl⟩, [], rfl, .inl ⟨rfl, fun _ h => nomatch h⟩⟩)
      · rintro x more ⟨b1, b2⟩ s' ⟨⟨hs', hb⟩, pre, hpre, hcase⟩
        subst hs'
        dsimp only at hb hcase
        subst hb
        obtain ⟨e, e1, e2⟩ := mem_plc.mp (show x ∈ plc es (NestedKey.hash w k) by rw [← hpre]; exact List.mem_append_right _ List.mem_cons_self)
        obtain ⟨n, n1, n2, n3, n4⟩ := EntK.get hE e1
        have hnd : (plc es (NestedKey.hash w k)).Nodup := List.Pairwise.filter _ List.nodup_range
        have hxp : x ∉ pre := fun hx => by
          rw [← hpre, List.nodup_append] at hnd
          exact hnd.2.2 x hx x List.mem_cons_self rfl
        rw [e1]
        dsimp only
        rw [if_pos (show (e.hash == NestedKey.hash w k) = true by rw [e2]; exact beq_self_eq_true _)]
        refine wpAny_bind (wpAny_dictEpoch ho hd (wpAny_bind (eqAt_key n k _ _ e.key _ n3 hk2 (by omega) _ _ _ _ (wpAny_bind (wpAny_dictEpoch ho hd ?_)))))
        rw [if_neg (show ¬ (ep != ep) = true from fun z => by rw [bne_self_eq_false] at z; exact nomatch z)]
        have hpre2 : (pre ++ [x]) ++ more = plc es (NestedKey.hash w k) := (List.append_assoc _ _ _).trans hpre
        by_cases hq : n = k
        · subst hq
          rw [NestedKey.beq_self, if_pos rfl]
          rcases hcase with ⟨hb, hp⟩ | ⟨j, hjp, hb, hj⟩
          · subst hb
            rw [if_neg (show ¬ (none : Option Nat).isSome = true from fun z => nomatch z)]
            refine wpAny_bind (wpAny_rule ?_)
            split
            · exact wpAny_pure (wpAny_pure (h1 x n1))
            · exact wpAny_pure ⟨⟨rfl, rfl⟩, pre ++ [x], hpre2, .inr ⟨x, List.mem_append_right _ List.mem_cons_self, rfl, n1⟩⟩
          · exact (hxp (by rw [← huni j x hj n1]; exact hjp)).elim
        · have hf : NestedKey.beq n k = false := by rw [← NestedKey.decide_eq]; exact decide_eq_false hq
          have hnx : ns[x]? ≠ some k := by rw [n1]; exact fun z => hq (Option.some.inj z)
          rw [hf]; rw [if_neg Bool.false_ne_true]
          refine wpAny_bind (wpAny_rule ?_)
          refine wpAny_pure ⟨⟨rfl, rfl⟩, pre ++ [x], hpre2, ?_⟩
          rcases hcase with ⟨hb, hp⟩ | ⟨j, hjp, hb, hj⟩
          · refine .inl ⟨hb, fun i hi => ?_⟩
            rcases List.mem_append.mp hi with hi | hi
            · exact hp i hi
            · rw [List.mem_singleton.mp hi]; exact hnx
          · exact .inr ⟨j, List.mem_append_left _ hjp, hb, hj⟩
      · rintro ⟨b1, b2⟩ s' ⟨⟨hs', hb⟩, pre, hpre, hcase⟩
        subst hs'
        dsimp only at hb hcase
        subst hb
        rw [List.append_nil] at hpre
        subst hpre
        rcases hcase with ⟨hb, hp⟩ | ⟨j, hjp, hb, hj⟩
        · subst hb; exact wpAny_pure (h0 (hno hp))
        · subst hb; exact wpAny_pure (h1 j hj)
    · refine wpAny_bind (tell_mix hk2 h8 hst ?_)
      rw [Bool.false_and]
      rw [if_neg Bool.false_ne_true]

      refine wpAny_bind (wpAny_forIn_list _ (fun more b s' => (s = s' ∧ b.1 = none) ∧ ∃ pre, pre ++ more = plc es (NestedKey.hash w k) ∧ ((b.2 = none ∧ ∀ i ∈ pre, ns[i]? ≠ some k) ∨ ∃ j : Nat, j ∈ pre ∧ b.2 = some j ∧ ns[j]? = some k)) _ ?_ ?_ _ _ ⟨⟨rfl, rfl⟩, [], rfl, .inl ⟨rfl, fun _ h => nomatch h⟩⟩)
      · rintro x more ⟨b1, b2⟩ s' ⟨⟨hs', hb⟩, pre, hpre, hcase⟩
        subst hs'
        dsimp only at hb hcase
        subst hb
        obtain ⟨e, e1, e2⟩ := mem_plc.mp (show x ∈ plc es (NestedKey.hash w k) by rw [← hpre]; exact List.mem_append_right _ List.mem_cons_self)
        obtain ⟨n, n1, n2, n3, n4⟩ := EntK.get hE e1
        have hnd : (plc es (NestedKey.hash w k)).Nodup := List.Pairwise.filter _ List.nodup_range
        have hxp : x ∉ pre := fun hx => by
          rw [← hpre, List.nodup_append] at hnd
          exact hnd.2.2 x hx x List.mem_cons_self rfl
        rw [e1]
        dsimp only
        rw [if_pos (show (e.hash == NestedKey.hash w k) = true by rw [e2]; exact beq_self_eq_true _)]
        refine wpAny_bind (wpAny_dictEpoch ho hd (wpAny_bind (eqAt_key n k _ _ e.key _ n3 hk2 (by omega) _ _ _ _ (wpAny_bind (wpAny_dictEpoch ho hd ?_)))))
        rw [if_neg (show ¬ (ep != ep) = true from fun z => by rw [bne_self_eq_false] at z; exact nomatch z)]
        have hpre2 : (pre ++ [x]) ++ more = plc es (NestedKey.hash w k) := (List.append_assoc _ _ _).trans hpre
        by_cases hq : n = k
        · subst hq
          rw [NestedKey.beq_self, if_pos rfl]
          rcases hcase with ⟨hb, hp⟩ | ⟨j, hjp, hb, hj⟩
          · subst hb
            rw [if_neg (show ¬ (none : Option Nat).isSome = true from fun z => nomatch z)]
            refine wpAny_bind (wpAny_rule ?_)
            split
            · exact wpAny_pure (wpAny_pure (h1 x n1))
            · exact wpAny_pure ⟨⟨rfl, rfl⟩, pre ++ [x], hpre2, .inr ⟨x, List.mem_append_right _ List.mem_cons_self, rfl, n1⟩⟩
          · exact (hxp (by rw [← huni j x hj n1]; exact hjp)).elim
        · have hf : NestedKey.beq n k = false := by rw [← NestedKey.decide_eq]; exact decide_eq_false hq
          have hnx : ns[x]? ≠ some k := by rw [n1]; exact fun z => hq (Option.some.inj z)
          rw [hf]; rw [if_neg Bool.false_ne_true]
          refine wpAny_bind (wpAny_rule ?_)
          refine wpAny_pure ⟨⟨rfl, rfl⟩, pre ++ [x], hpre2, ?_⟩
          rcases hcase with ⟨hb, hp⟩ | ⟨j, hjp, hb, hj⟩
          · refine .inl ⟨hb, fun i hi => ?_⟩
            rcases List.mem_append.mp hi with hi | hi
            · exact hp i hi
            · rw [List.mem_singleton.mp hi]; exact hnx
          · exact .inr ⟨j, List.mem_append_left _ hjp, hb, hj⟩
      · rintro ⟨b1, b2⟩ s' ⟨⟨hs', hb⟩, pre, hpre, hcase⟩
        subst hs'
        dsimp only at hb hcase
        subst hb
        rw [List.append_nil] at hpre
        subst hpre
        rcases hcase with ⟨hb, hp⟩ | ⟨j, hjp, hb, hj⟩
        · subst hb; exact wpAny_pure (h0 (hno hp))
        · subst hb; exact wpAny_pure (h1 j hj)
  | int i t =>

    dsimp only
    refine wp_ite (fun _ => ?_) (fun _ => ?_)
    · unfold dictWalkPlain
      refine wpAny_bind (wpAny_forIn_list _ (fun more b s' => (s = s' ∧ b = (none, ())) ∧ ∃ pre, pre ++ more = plc es (NestedKey.hash w k) ∧ ∀ i ∈ pre, ns[i]? ≠ some k) _ ?_ ?_ _ _ ⟨⟨rfl, rfl⟩, [], rfl, fun _ h => nomatch h⟩)
      · rintro x more b s' ⟨⟨hs', hb⟩, pre, hpre, hp⟩
        subst hs'
        subst hb
        obtain ⟨e, e1, e2⟩ := mem_plc.mp (show x ∈ plc es (NestedKey.hash w k) by rw [← hpre]; exact List.mem_append_right _ List.mem_cons_self)
        obtain ⟨n, n1, n2, n3, n4⟩ := EntK.get hE e1
        rw [e1]
        dsimp only
        rw [if_pos (show (e.hash == NestedKey.hash w k) = true by rw [e2]; exact beq_self_eq_true _)]
        refine wpAny_bind (wpAny_dictEpoch ho hd (wpAny_bind (eqAt_key n k _ _ e.key _ n3 hk2 (by omega) _ _ _ _ (wpAny_bind (wpAny_dictEpoch ho hd ?_)))))
        rw [if_neg (show ¬ (ep != ep) = true from fun z => by rw [bne_self_eq_false] at z; exact nomatch z)]
        have hpre2 : (pre ++ [x]) ++ more = plc es (NestedKey.hash w k) := (List.append_assoc _ _ _).trans hpre
        by_cases hq : n = k
        · subst hq
          rw [NestedKey.beq_self, if_pos rfl]
          refine wpAny_bind (wpAny_rule ?_)
          exact wpAny_pure (wpAny_pure (h1 x n1))
        · have hf : NestedKey.beq n k = false := by rw [← NestedKey.decide_eq]; exact decide_eq_false hq
          have hnx : ns[x]? ≠ some k := by rw [n1]; exact fun z => hq (Option.some.inj z)
          rw [hf]; rw [if_neg Bool.false_ne_true]
          refine wpAny_bind (wpAny_rule ?_)
          refine wpAny_pure ⟨⟨rfl, rfl⟩, pre ++ [x], hpre2, fun i hi => ?_⟩
          rcases List.mem_append.mp hi with hi | hi
          · exact hp i hi
          · rw [List.mem_singleton.mp hi]; exact hnx
      · rintro b s' ⟨⟨hs', hb⟩, pre, hpre, hp⟩
        subst hs'
        subst hb
        rw [List.append_nil] at hpre
        subst hpre
        exact wpAny_pure (h0 (hno hp))
    · refine wp_ite (fun _ => ?_) (fun _ => ?_)
      · refine wpAny_bind (wpAny_pure ?_)
        rw [Bool.false_and]
        rw [if_neg Bool.false_ne_true]

        refine wpAny_bind (wpAny_forIn_list _ (fun more b s' => (s = s' ∧ b.1 = none) ∧ ∃ pre, pre ++ more = plc es (NestedKey.hash w k) ∧ ((b.2 = none ∧ ∀ i ∈ pre, ns[i]? ≠ some k) ∨ ∃ j : Nat, j ∈ pre ∧ b.2 = some j ∧ ns[j]? = some k)) _ ?_ ?_ _ _ ⟨⟨rfl, rfl⟩, [], rfl, .inl ⟨rfl, fun _ h => nomatch h⟩⟩)
        · rintro x more ⟨b1, b2⟩ s' ⟨⟨hs', hb⟩, pre, hpre, hcase⟩
          subst hs'
          dsimp only at hb hcase
          subst hb
          obtain ⟨e, e1, e2⟩ := mem_plc.mp (show x ∈ plc es (NestedKey.hash w k) by rw [← hpre]; exact List.mem_append_right _ List.mem_cons_self)
          obtain ⟨n, n1, n2, n3, n4⟩ := EntK.get hE e1
          have hnd : (plc es (NestedKey.hash w k)).Nodup := List.Pairwise.filter _ List.nodup_range
          have hxp : x ∉ pre := fun hx => by
            rw [← hpre, List.nodup_append] at hnd
            exact hnd.2.2 x hx x List.mem_cons_self rfl
          rw [e1]
          dsimp only
          rw [if_pos (show (e.hash == NestedKey.hash w k) = true by rw [e2]; exact beq_self_eq_true _)]
          refine wpAny_bind (wpAny_dictEpoch ho hd (wpAny_bind (eqAt_key n k _ _ e.key _ n3 hk2 (by omega) _ _ _ _ (wpAny_bind (wpAny_dictEpoch ho hd ?_)))))
          rw [if_neg (show ¬ (ep != ep) = true from fun z => by rw [bne_self_eq_false] at z; exact nomatch z)]
          have hpre2 : (pre ++ [x]) ++ more = plc es (NestedKey.hash w k) := (List.append_assoc _ _ _).trans hpre
          by_cases hq : n = k
          · subst hq
            rw [NestedKey.beq_self, if_pos rfl]
            rcases hcase with ⟨hb, hp⟩ | ⟨j, hjp, hb, hj⟩
            · subst hb
              rw [if_neg (show ¬ (none : Option Nat).isSome = true from fun z => nomatch z)]
              refine wpAny_bind (wpAny_rule ?_)
              split
              · exact wpAny_pure (wpAny_pure (h1 x n1))
              · exact wpAny_pure ⟨⟨rfl, rfl⟩, pre ++ [x], hpre2, .inr ⟨x, List.mem_append_right _ List.mem_cons_self, rfl, n1⟩⟩
            · exact (hxp (by rw [← huni j x hj n1]; exact hjp)).elim
          · have hf : NestedKey.beq n k = false := by rw [← NestedKey.decide_eq]; exact decide_eq_false hq
            have hnx : ns[x]? ≠ some k := by rw [n1]; exact fun z => hq (Option.some.inj z)
            rw [hf]; rw [if_neg Bool.false_ne_true]
            refine wpAny_bind (wpAny_rule ?_)
            refine wpAny_pure ⟨⟨rfl, rfl⟩, pre ++ [x], hpre2, ?_⟩
            rcases hcase with ⟨hb, hp⟩ | ⟨j, hjp, hb, hj⟩
            · refine .inl ⟨hb, fun i hi => ?_⟩
              rcases List.mem_append.mp hi with hi | hi
              · exact hp i hi
              · rw [List.mem_singleton.mp hi]; exact hnx
            · exact .inr ⟨j, List.mem_append_left _ hjp, hb, hj⟩
        · rintro ⟨b1, b2⟩ s' ⟨⟨hs', hb⟩, pre, hpre, hcase⟩
          subst hs'
          dsimp only at hb hcase
          subst hb
          rw [List.append_nil] at hpre
          subst hpre
          rcases hcase with ⟨hb, hp⟩ | ⟨j, hjp, hb, hj⟩
          · subst hb; exact wpAny_pure (h0 (hno hp))
          · subst hb; exact wpAny_pure (h1 j hj)
      · refine wpAny_bind (tell_mix hk2 h8 hst ?_)
        rw [Bool.false_and]
        rw [if_neg Bool.false_ne_true]

        refine wpAny_bind (wpAny_forIn_list _ (fun more b s' => (s = s' ∧ b.1 = none) ∧ ∃ pre, pre ++ more = plc es (NestedKey.hash w k) ∧ ((b.2 = none ∧ ∀ i ∈ pre, ns[i]? ≠ some k) ∨ ∃ j : Nat, j ∈ pre ∧ b.2 = some j ∧ ns[j]? = some k)) _ ?_ ?_ _ _ ⟨⟨rfl, rfl⟩, [], rfl, .inl ⟨rfl, fun _ h => nomatch h⟩⟩)
        · rintro x more ⟨b1, b2⟩ s' ⟨⟨hs', hb⟩, pre, hpre, hcase⟩
          subst hs'
          dsimp only at hb hcase
          subst hb
          obtain ⟨e, e1, e2⟩ := mem_plc.mp (show x ∈ plc es (NestedKey.hash w k) by rw [← hpre]; exact List.mem_append_right _ List.mem_cons_self)
          obtain ⟨n, n1, n2, n3, n4⟩ := EntK.get hE e1
          have hnd : (plc es (NestedKey.hash w k)).Nodup := List.Pairwise.filter _ List.nodup_range
          have hxp : x ∉ pre := fun hx => by
            rw [← hpre, List.nodup_append] at hnd
            exact hnd.2.2 x hx x List.mem_cons_self rfl
          rw [e1]
          dsimp only
          rw [if_pos (show (e.hash == NestedKey.hash w k) = true by rw [e2]; exact beq_self_eq_true _)]
          refine wpAny_bind (wpAny_dictEpoch ho hd (wpAny_bind (eqAt_key n k _ _ e.key _ n3 hk2 (by omega) _ _ _ _ (wpAny_bind (wpAny_dictEpoch ho hd ?_)))))
          rw [if_neg (show ¬ (ep != ep) = true from fun z => by rw [bne_self_eq_false] at z; exact nomatch z)]
          have hpre2 : (pre ++ [x]) ++ more = plc es (NestedKey.hash w k) := (List.append_assoc _ _ _).trans hpre
          by_cases hq : n = k
          · subst hq
            rw [NestedKey.beq_self, if_pos rfl]
            rcases hcase with ⟨hb, hp⟩ | ⟨j, hjp, hb, hj⟩
            · subst hb
              rw [if_neg (show ¬ (none : Option Nat).isSome = true from fun z => nomatch z)]
              refine wpAny_bind (wpAny_rule ?_)
              split
              · exact wpAny_pure (wpAny_pure (h1 x n1))
              · exact wpAny_pure ⟨⟨rfl, rfl⟩, pre ++ [x], hpre2, .inr ⟨x, List.mem_append_right _ List.mem_cons_self, rfl, n1⟩⟩
            · exact (hxp (by rw [← huni j x hj n1]; exact hjp)).elim
          · have hf : NestedKey.beq n k = false := by rw [← NestedKey.decide_eq]; exact decide_eq_false hq
            have hnx : ns[x]? ≠ some k := by rw [n1]; exact fun z => hq (Option.some.inj z)
            rw [hf]; rw [if_neg Bool.false_ne_true]
            refine wpAny_bind (wpAny_rule ?_)
            refine wpAny_pure ⟨⟨rfl, rfl⟩, pre ++ [x], hpre2, ?_⟩
            rcases hcase with ⟨hb, hp⟩ | ⟨j, hjp, hb, hj⟩
            · refine .inl ⟨hb, fun i hi => ?_⟩
              rcases List.mem_append.mp hi with hi | hi
              · exact hp i hi
              · rw [List.mem_singleton.mp hi]; exact hnx
            · exact .inr ⟨j, List.mem_append_left _ hjp, hb, hj⟩
        · rintro ⟨b1, b2⟩ s' ⟨⟨hs', hb⟩, pre, hpre, hcase⟩
          subst hs'
          dsimp only at hb hcase
          subst hb
          rw [List.append_nil] at hpre
          subst hpre
          rcases hcase with ⟨hb, hp⟩ | ⟨j, hjp, hb, hj⟩
          · subst hb; exact wpAny_pure (h0 (hno hp))
          · subst hb; exact wpAny_pure (h1 j hj)
  | none =>

    dsimp only
    refine wp_ite (fun _ => ?_) (fun _ => ?_)
    · unfold dictWalkPlain
      refine wpAny_bind (wpAny_forIn_list _ (fun more b s' => (s = s' ∧ b = (none, ())) ∧ ∃ pre, pre ++ more = plc es (NestedKey.hash w k) ∧ ∀ i ∈ pre, ns[i]? ≠ some k) _ ?_ ?_ _ _ ⟨⟨rfl, rfl⟩, [], rfl, fun _ h => nomatch h⟩)
      · rintro x more b s' ⟨⟨hs', hb⟩, pre, hpre, hp⟩
        subst hs'
        subst hb
        obtain ⟨e, e1, e2⟩ := mem_plc.mp (show x ∈ plc es (NestedKey.hash w k) by rw [← hpre]; exact List.mem_append_right _ List.mem_cons_self)
        obtain ⟨n, n1, n2, n3, n4⟩ := EntK.get hE e1
        rw [e1]
        dsimp only
        rw [if_pos (show (e.hash == NestedKey.hash w k) = true by rw [e2]; exact beq_self_eq_true _)]
        refine wpAny_bind (wpAny_dictEpoch ho hd (wpAny_bind (eqAt_key n k _ _ e.key _ n3 hk2 (by omega) _ _ _ _ (wpAny_bind (wpAny_dictEpoch ho hd ?_)))))
        rw [if_neg (show ¬ (ep != ep) = true from fun z => by rw [bne_self_eq_false] at z; exact nomatch z)]
        have hpre2 : (pre ++ [x]) ++ more = plc es (NestedKey.hash w k) := (List.append_assoc _ _ _).trans hpre
        by_cases hq : n = k
        · subst hq
          rw [NestedKey.beq_self, if_pos rfl]
          refine wpAny_bind (wpAny_rule ?_)
          exact wpAny_pure (wpAny_pure (h1 x n1))
        · have hf : NestedKey.beq n k = false := by rw [← NestedKey.decide_eq]; exact decide_eq_false hq
          have hnx : ns[x]? ≠ some k := by rw [n1]; exact fun z => hq (Option.some.inj z)
          rw [hf]; rw [if_neg Bool.false_ne_true]
          refine wpAny_bind (wpAny_rule ?_)
          refine wpAny_pure ⟨⟨rfl, rfl⟩, pre ++ [x], hpre2, fun i hi => ?_⟩
          rcases List.mem_append.mp hi with hi | hi
          · exact hp i hi
          · rw [List.mem_singleton.mp hi]; exact hnx
      · rintro b s' ⟨⟨hs', hb⟩, pre, hpre, hp⟩
        subst hs'
        subst hb
        rw [List.append_nil] at hpre
        subst hpre
        exact wpAny_pure (h0 (hno hp))
    · refine wp_ite (fun _ => ?_) (fun _ => ?_)
      · refine wpAny_bind (wpAny_pure ?_)
        rw [Bool.false_and]
        rw [if_neg Bool.false_ne_true]

        refine wpAny_bind (wpAny_forIn_list _ (fun more b s' => (s = s' ∧ b.1 = none) ∧ ∃ pre, pre ++ more = plc es (NestedKey.hash w k) ∧ ((b.2 = none ∧ ∀ i ∈ pre, ns[i]? ≠ some k) ∨ ∃ j : Nat, j ∈ pre ∧ b.2 = some j ∧ ns[j]? = some k)) _ ?_ ?_ _ _ ⟨⟨rfl, rfl⟩, [], rfl, .inl ⟨rfl, fun _ h => nomatch h⟩⟩)
        · rintro x more ⟨b1, b2⟩ s' ⟨⟨hs', hb⟩, pre, hpre, hcase⟩
          subst hs'
          dsimp only at hb hcase
          subst hb
          obtain ⟨e, e1, e2⟩ := mem_plc.mp (show x ∈ plc es (NestedKey.hash w k) by rw [← hpre]; exact List.mem_append_right _ List.mem_cons_self)
          obtain ⟨n, n1, n2, n3, n4⟩ := EntK.get hE e1
          have hnd : (plc es (NestedKey.hash w k)).Nodup := List.Pairwise.filter _ List.nodup_range
          have hxp : x ∉ pre := fun hx => by
            rw [← hpre, List.nodup_append] at hnd
            exact hnd.2.2 x hx x List.mem_cons_self rfl
          rw [e1]
          dsimp only
          rw [if_pos (show (e.hash == NestedKey.hash w k) = true by rw [e2]; exact beq_self_eq_true _)]
          refine wpAny_bind (wpAny_dictEpoch ho hd (wpAny_bind (eqAt_key n k _ _ e.key _ n3 hk2 (by omega) _ _ _ _ (wpAny_bind (wpAny_dictEpoch ho hd ?_)))))
          rw [if_neg (show ¬ (ep != ep) = true from fun z => by rw [bne_self_eq_false] at z; exact nomatch z)]
          have hpre2 : (pre ++ [x]) ++ more = plc es (NestedKey.hash w k) := (List.append_assoc _ _ _).trans hpre
          by_cases hq : n = k
          · subst hq
            rw [NestedKey.beq_self, if_pos rfl]
            rcases hcase with ⟨hb, hp⟩ | ⟨j, hjp, hb, hj⟩
            · subst hb
              rw [if_neg (show ¬ (none : Option Nat).isSome = true from fun z => nomatch z)]
              refine wpAny_bind (wpAny_rule ?_)
              split
              · exact wpAny_pure (wpAny_pure (h1 x n1))
              · exact wpAny_pure ⟨⟨rfl, rfl⟩, pre ++ [x], hpre2, .inr ⟨x, List.mem_append_right _ List.mem_cons_self, rfl, n1⟩⟩
            · exact (hxp (by rw [← huni j x hj n1]; exact hjp)).elim
          · have hf : NestedKey.beq n k = false := by rw [← NestedKey.decide_eq]; exact decide_eq_false hq
            have hnx : ns[x]? ≠ some k := by rw [n1]; exact fun z => hq (Option.some.inj z)
            rw [hf]; rw [if_neg Bool.false_ne_true]
            refine wpAny_bind (wpAny_rule ?_)
            refine wpAny_pure ⟨⟨rfl, rfl⟩, pre ++ [x], hpre2, ?_⟩
            rcases hcase with ⟨hb, hp⟩ | ⟨j, hjp, hb, hj⟩
            · refine .inl ⟨hb, fun i hi => ?_⟩
              rcases List.mem_append.mp hi with hi | hi
              · exact hp i hi
              · rw [List.mem_singleton.mp hi]; exact hnx
            · exact .inr ⟨j, List.mem_append_left _ hjp, hb, hj⟩
        · rintro ⟨b1, b2⟩ s' ⟨⟨hs', hb⟩, pre, hpre, hcase⟩
          subst hs'
          dsimp only at hb hcase
          subst hb
          rw [List.append_nil] at hpre
          subst hpre
          rcases hcase with ⟨hb, hp⟩ | ⟨j, hjp, hb, hj⟩
          · subst hb; exact wpAny_pure (h0 (hno hp))
          · subst hb; exact wpAny_pure (h1 j hj)
      · refine wpAny_bind (tell_mix hk2 h8 hst ?_)
        rw [Bool.false_and]
        rw [if_neg Bool.false_ne_true]

        refine wpAny_bind (wpAny_forIn_list _ (fun more b s' => (s = s' ∧ b.1 = none) ∧ ∃ pre, pre ++ more = plc es (NestedKey.hash w k) ∧ ((b.2 = none ∧ ∀ i ∈ pre, ns[i]? ≠ some k) ∨ ∃ j : Nat, j ∈ pre ∧ b.2 = some j ∧ ns[j]? = some k)) _ ?_ ?_ _ _ ⟨⟨rfl, rfl⟩, [], rfl, .inl ⟨rfl, fun _ h => nomatch h⟩⟩)
        · rintro x more ⟨b1, b2⟩ s' ⟨⟨hs', hb⟩, pre, hpre, hcase⟩
          subst hs'
          dsimp only at hb hcase
          subst hb
          obtain ⟨e, e1, e2⟩ := mem_plc.mp (show x ∈ plc es (NestedKey.hash w k) by rw [← hpre]; exact List.mem_append_right _ List.mem_cons_self)
          obtain ⟨n, n1, n2, n3, n4⟩ := EntK.get hE e1
          have hnd : (plc es (NestedKey.hash w k)).Nodup := List.Pairwise.filter _ List.nodup_range
          have hxp : x ∉ pre := fun hx => by
            rw [← hpre, List.nodup_append] at hnd
            exact hnd.2.2 x hx x List.mem_cons_self rfl
          rw [e1]
          dsimp only
          rw [if_pos (show (e.hash == NestedKey.hash w k) = true by rw [e2]; exact beq_self_eq_true _)]
          refine wpAny_bind (wpAny_dictEpoch ho hd (wpAny_bind (eqAt_key n k _ _ e.key _ n3 hk2 (by omega) _ _ _ _ (wpAny_bind (wpAny_dictEpoch ho hd ?_)))))
          rw [if_neg (show ¬ (ep != ep) = true from fun z => by rw [bne_self_eq_false] at z; exact nomatch z)]
          have hpre2 : (pre ++ [x]) ++ more = plc es (NestedKey.hash w k) := (List.append_assoc _ _ _).trans hpre
          by_cases hq : n = k
          · subst hq
            rw [NestedKey.beq_self, if_pos rfl]
            rcases hcase with ⟨hb, hp⟩ | ⟨j, hjp, hb, hj⟩
            · subst hb
              rw [if_neg (show ¬ (none : Option Nat).isSome = true from fun z => nomatch z)]
              refine wpAny_bind (wpAny_rule ?_)
              split
              · exact wpAny_pure (wpAny_pure (h1 x n1))
              · exact wpAny_pure ⟨⟨rfl, rfl⟩, pre ++ [x], hpre2, .inr ⟨x, List.mem_append_right _ List.mem_cons_self, rfl, n1⟩⟩
            · exact (hxp (by rw [← huni j x hj n1]; exact hjp)).elim
          · have hf : NestedKey.beq n k = false := by rw [← NestedKey.decide_eq]; exact decide_eq_false hq
            have hnx : ns[x]? ≠ some k := by rw [n1]; exact fun z => hq (Option.some.inj z)
            rw [hf]; rw [if_neg Bool.false_ne_true]
            refine wpAny_bind (wpAny_rule ?_)
            refine wpAny_pure ⟨⟨rfl, rfl⟩, pre ++ [x], hpre2, ?_⟩
            rcases hcase with ⟨hb, hp⟩ | ⟨j, hjp, hb, hj⟩
            · refine .inl ⟨hb, fun i hi => ?_⟩
              rcases List.mem_append.mp hi with hi | hi
              · exact hp i hi
              · rw [List.mem_singleton.mp hi]; exact hnx
            · exact .inr ⟨j, List.mem_append_left _ hjp, hb, hj⟩
        · rintro ⟨b1, b2⟩ s' ⟨⟨hs', hb⟩, pre, hpre, hcase⟩
          subst hs'
          dsimp only at hb hcase
          subst hb
          rw [List.append_nil] at hpre
          subst hpre
          rcases hcase with ⟨hb, hp⟩ | ⟨j, hjp, hb, hj⟩
          · subst hb; exact wpAny_pure (h0 (hno hp))
          · subst hb; exact wpAny_pure (h1 j hj)
  | bool e =>

    dsimp only
    refine wp_ite (fun _ => ?_) (fun _ => ?_)
    · unfold dictWalkPlain
      refine wpAny_bind (wpAny_forIn_list _ (fun more b s' => (s = s' ∧ b = (none, ())) ∧ ∃ pre, pre ++ more = plc es (NestedKey.hash w k) ∧ ∀ i ∈ pre, ns[i]? ≠ some k) _ ?_ ?_ _ _ ⟨⟨rfl, rfl⟩, [], rfl, fun _ h => nomatch h⟩)
      · rintro x more b s' ⟨⟨hs', hb⟩, pre, hpre, hp⟩
        subst hs'
        subst hb
        obtain ⟨e, e1, e2⟩ := mem_plc.mp (show x ∈ plc es (NestedKey.hash w k) by rw [← hpre]; exact List.mem_append_right _ List.mem_cons_self)
        obtain ⟨n, n1, n2, n3, n4⟩ := EntK.get hE e1
        rw [e1]
        dsimp only
        rw [if_pos (show (e.hash == NestedKey.hash w k) = true by rw [e2]; exact beq_self_eq_true _)]
        refine wpAny_bind (wpAny_dictEpoch ho hd (wpAny_bind (eqAt_key n k _ _ e.key _ n3 hk2 (by omega) _ _ _ _ (wpAny_bind (wpAny_dictEpoch ho hd ?_)))))
        rw [if_neg (show ¬ (ep != ep) = true from fun z => by rw [bne_self_eq_false] at z; exact nomatch z)]
        have hpre2 : (pre ++ [x]) ++ more = plc es (NestedKey.hash w k) := (List.append_assoc _ _ _).trans hpre
        by_cases hq : n = k
        · subst hq
          rw [NestedKey.beq_self, if_pos rfl]
          refine wpAny_bind (wpAny_rule ?_)
          exact wpAny_pure (wpAny_pure (h1 x n1))
        · have hf : NestedKey.beq n k = false := by rw [← NestedKey.decide_eq]; exact decide_eq_false hq
          have hnx : ns[x]? ≠ some k := by rw [n1]; exact fun z => hq (Option.some.inj z)
          rw [hf]; rw [if_neg Bool.false_ne_true]
          refine wpAny_bind (wpAny_rule ?_)
          refine wpAny_pure ⟨⟨rfl, rfl⟩, pre ++ [x], hpre2, fun i hi => ?_⟩
          rcases List.mem_append.mp hi with hi | hi
          · exact hp i hi
          · rw [List.mem_singleton.mp hi]; exact hnx
      · rintro b s' ⟨⟨hs', hb⟩, pre, hpre, hp⟩
        subst hs'
        subst hb
        rw [List.append_nil] at hpre
        subst hpre
        exact wpAny_pure (h0 (hno hp))
    · refine wp_ite (fun _ => ?_) (fun _ => ?_)
      · refine wpAny_bind (wpAny_pure ?_)
        rw [Bool.false_and]
        rw [if_neg Bool.false_ne_true]

        refine wpAny_bind (wpAny_forIn_list _ (fun more b s' => (s = s' ∧ b.1 = none) ∧ ∃ pre, pre ++ more = plc es (NestedKey.hash w k) ∧ ((b.2 = none ∧ ∀ i ∈ pre, ns[i]? ≠ some k) ∨ ∃ j : Nat, j ∈ pre ∧ b.2 = some j ∧ ns[j]? = some k)) _ ?_ ?_ _ _ ⟨⟨rfl, rfl⟩, [], rfl, .inl ⟨rfl, fun _ h => nomatch h⟩⟩)
        · rintro x more ⟨b1, b2⟩ s' ⟨⟨hs', hb⟩, pre, hpre, hcase⟩
          subst hs'
          dsimp only at hb hcase
          subst hb
          obtain ⟨e, e1, e2⟩ := mem_plc.mp (show x ∈ plc es (NestedKey.hash w k) by rw [← hpre]; exact List.mem_append_right _ List.mem_cons_self)
          obtain ⟨n, n1, n2, n3, n4⟩ := EntK.get hE e1
          have hnd : (plc es (NestedKey.hash w k)).Nodup := List.Pairwise.filter _ List.nodup_range
          have hxp : x ∉ pre := fun hx => by
            rw [← hpre, List.nodup_append] at hnd
            exact hnd.2.2 x hx x List.mem_cons_self rfl
          rw [e1]
          dsimp only
          rw [if_pos (show (e.hash == NestedKey.hash w k) = true by rw [e2]; exact beq_self_eq_true _)]
          refine wpAny_bind (wpAny_dictEpoch ho hd (wpAny_bind (eqAt_key n k _ _ e.key _ n3 hk2 (by omega) _ _ _ _ (wpAny_bind (wpAny_dictEpoch ho hd ?_)))))
          rw [if_neg (show ¬ (ep != ep) = true from fun z => by rw [bne_self_eq_false] at z; exact nomatch z)]
          have hpre2 : (pre ++ [x]) ++ more = plc es (NestedKey.hash w k) := (List.append_assoc _ _ _).trans hpre
          by_cases hq : n = k
          · subst hq
            rw [NestedKey.beq_self, if_pos rfl]
            rcases hcase with ⟨hb, hp⟩ | ⟨j, hjp, hb, hj⟩
            · subst hb
              rw [if_neg (show ¬ (none : Option Nat).isSome = true from fun z => nomatch z)]
              refine wpAny_bind (wpAny_rule ?_)
              split
              · exact wpAny_pure (wpAny_pure (h1 x n1))
              · exact wpAny_pure ⟨⟨rfl, rfl⟩, pre ++ [x], hpre2, .inr ⟨x, List.mem_append_right _ List.mem_cons_self, rfl, n1⟩⟩
            · exact (hxp (by rw [← huni j x hj n1]; exact hjp)).elim
          · have hf : NestedKey.beq n k = false := by rw [← NestedKey.decide_eq]; exact decide_eq_false hq
            have hnx : ns[x]? ≠ some k := by rw [n1]; exact fun z => hq (Option.some.inj z)
            rw [hf]; rw [if_neg Bool.false_ne_true]
            refine wpAny_bind (wpAny_rule ?_)
            refine wpAny_pure ⟨⟨rfl, rfl⟩, pre ++ [x], hpre2, ?_⟩
            rcases hcase with ⟨hb, hp⟩ | ⟨j, hjp, hb, hj⟩
            · refine .inl ⟨hb, fun i hi => ?_⟩
              rcases List.mem_append.mp hi with hi | hi
              · exact hp i hi
              · rw [List.mem_singleton.mp hi]; exact hnx
            · exact .inr ⟨j, List.mem_append_left _ hjp, hb, hj⟩
        · rintro ⟨b1, b2⟩ s' ⟨⟨hs', hb⟩, pre, hpre, hcase⟩
          subst hs'
          dsimp only at hb hcase
          subst hb
          rw [List.append_nil] at hpre
          subst hpre
          rcases hcase with ⟨hb, hp⟩ | ⟨j, hjp, hb, hj⟩
          · subst hb; exact wpAny_pure (h0 (hno hp))
          · subst hb; exact wpAny_pure (h1 j hj)
      · refine wpAny_bind (tell_mix hk2 h8 hst ?_)
        rw [Bool.false_and]
        rw [if_neg Bool.false_ne_true]

        refine wpAny_bind (wpAny_forIn_list _ (fun more b s' => (s = s' ∧ b.1 = none) ∧ ∃ pre, pre ++ more = plc es (NestedKey.hash w k) ∧ ((b.2 = none ∧ ∀ i ∈ pre, ns[i]? ≠ some k) ∨ ∃ j : Nat, j ∈ pre ∧ b.2 = some j ∧ ns[j]? = some k)) _ ?_ ?_ _ _ ⟨⟨rfl, rfl⟩, [], rfl, .inl ⟨rfl, fun _ h => nomatch h⟩⟩)
        · rintro x more ⟨b1, b2⟩ s' ⟨⟨hs', hb⟩, pre, hpre, hcase⟩
          subst hs'
          dsimp only at hb hcase
          subst hb
          obtain ⟨e, e1, e2⟩ := mem_plc.mp (show x ∈ plc es (NestedKey.hash w k) by rw [← hpre]; exact List.mem_append_right _ List.mem_cons_self)
          obtain ⟨n, n1, n2, n3, n4⟩ := EntK.get hE e1
          have hnd : (plc es (NestedKey.hash w k)).Nodup := List.Pairwise.filter _ List.nodup_range
          have hxp : x ∉ pre := fun hx => by
            rw [← hpre, List.nodup_append] at hnd
            exact hnd.2.2 x hx x List.mem_cons_self rfl
          rw [e1]
          dsimp only
          rw [if_pos (show (e.hash == NestedKey.hash w k) = true by rw [e2]; exact beq_self_eq_true _)]
          refine wpAny_bind (wpAny_dictEpoch ho hd (wpAny_bind (eqAt_key n k _ _ e.key _ n3 hk2 (by omega) _ _ _ _ (wpAny_bind (wpAny_dictEpoch ho hd ?_)))))
          rw [if_neg (show ¬ (ep != ep) = true from fun z => by rw [bne_self_eq_false] at z; exact nomatch z)]
          have hpre2 : (pre ++ [x]) ++ more = plc es (NestedKey.hash w k) := (List.append_assoc _ _ _).trans hpre
          by_cases hq : n = k
          · subst hq
            rw [NestedKey.beq_self, if_pos rfl]
            rcases hcase with ⟨hb, hp⟩ | ⟨j, hjp, hb, hj⟩
            · subst hb
              rw [if_neg (show ¬ (none : Option Nat).isSome = true from fun z => nomatch z)]
              refine wpAny_bind (wpAny_rule ?_)
              split
              · exact wpAny_pure (wpAny_pure (h1 x n1))
              · exact wpAny_pure ⟨⟨rfl, rfl⟩, pre ++ [x], hpre2, .inr ⟨x, List.mem_append_right _ List.mem_cons_self, rfl, n1⟩⟩
            · exact (hxp (by rw [← huni j x hj n1]; exact hjp)).elim
          · have hf : NestedKey.beq n k = false := by rw [← NestedKey.decide_eq]; exact decide_eq_false hq
            have hnx : ns[x]? ≠ some k := by rw [n1]; exact fun z => hq (Option.some.inj z)
            rw [hf]; rw [if_neg Bool.false_ne_true]
            refine wpAny_bind (wpAny_rule ?_)
            refine wpAny_pure ⟨⟨rfl, rfl⟩, pre ++ [x], hpre2, ?_⟩
            rcases hcase with ⟨hb, hp⟩ | ⟨j, hjp, hb, hj⟩
            · refine .inl ⟨hb, fun i hi => ?_⟩
              rcases List.mem_append.mp hi with hi | hi
              · exact hp i hi
              · rw [List.mem_singleton.mp hi]; exact hnx
            · exact .inr ⟨j, List.mem_append_left _ hjp, hb, hj⟩
        · rintro ⟨b1, b2⟩ s' ⟨⟨hs', hb⟩, pre, hpre, hcase⟩
          subst hs'
          dsimp only at hb hcase
          subst hb
          rw [List.append_nil] at hpre
          subst hpre
          rcases hcase with ⟨hb, hp⟩ | ⟨j, hjp, hb, hj⟩
          · subst hb; exact wpAny_pure (h0 (hno hp))
          · subst hb; exact wpAny_pure (h1 j hj)

theorem hash_mix {Q : Int → Shared → Prop} (hu : A.units + 8 < cLine) (hk : NestedIs s.heap k u) (h8 : k.depth ≤ 8) (h : Q (k.hash w) { s with toks := s.toks + k.draws }) : wpAny (model prog w) A (pyHash u) Q E s := pyHash_key k u A s Q hk (by omega) h
theorem get_mix {Q : Option Value → Shared → Prop} (hu : A.units + 8 < cLine) (hk : NestedIs s.heap k u) (h8 : k.depth ≤ 8) (hs : ∀ x t, u ≠ .str x t) (ho : s.heap.get? d = some o) (hd : o.data = .dict es ep) (hE : EntK w s.heap es ns) (hn : ns.Nodup)
    (h0 : k ∉ ns → Q none { s with toks := s.toks + k.draws }) (h1 : ∀ (j : Nat) (e : DictEntry), ns[j]? = some k → es[j]? = some e → Q (some e.val) { s with toks := s.toks + k.draws }) : wpAny (model prog w) A (dictGet d u) Q E s := by
  unfold dictGet
  try with_reducible refine wpAny_holding ?_
  refine wpAny_bind (hash_mix hu hk h8 (wpAny_bind (find_mix (s := { s with toks := s.toks + k.draws }) hu hk h8 hs ho hd hE hn ?_ ?_)))
  · exact fun q => wpAny_pure (h0 q)
  · intro j hj
    have hl : j < es.size := by rw [← hE.len]; exact (List.getElem?_eq_some_iff.mp hj).1
    have hej := Array.getElem?_eq_getElem hl
    refine wpAny_bind (wpAny_dictEntries (s := { s with toks := s.toks + k.draws }) ho hd ?_)
    rw [hej]
    exact wpAny_pure (h1 j _ hj hej)
theorem put_mix {v : Value} {Q : Unit → Shared → Prop} (hu : A.units + 8 < cLine) (hk : NestedIs s.heap k u) (h8 : k.depth ≤ 8) (hs : ∀ x t, u ≠ .str x t) (ho : s.heap.get? d = some o) (hd : o.data = .dict es ep) (hE : EntK w s.heap es ns) (hn : ns.Nodup) (hz : es.size ≤ sizeLine)
    (h0 : k ∉ ns → ∀ h' o', h'.get? d = some o' → (o.ExactDict → o'.ExactDict) → o'.data = .dict (es.push ⟨k.hash w, u, v⟩) (ep + 1) → Heap.SameBut d s.heap h' → Q () { s with heap := h', toks := s.toks + k.draws })
    (h1 : ∀ j : Nat, ns[j]? = some k → ∀ h' o', h'.get? d = some o' → (o.ExactDict → o'.ExactDict) → o'.data = .dict (es.modify j fun e => { e with val := v }) ep → Heap.SameBut d s.heap h' → Q () { s with heap := h', toks := s.toks + k.draws }) :
    wpAny (model prog w) A (dictSet d u v) Q E s := by
  unfold dictSet
  try with_reducible refine wpAny_holding ?_
  refine wpAny_bind (hash_mix hu hk h8 ?_)
  unfold dictSetHashed
  try with_reducible refine wpAny_holding ?_
  refine wpAny_bind (find_mix (s := { s with toks := s.toks + k.draws }) hu hk h8 hs ho hd hE hn ?_ ?_)
  · intro q
    refine wpAny_bind (wpAny_rule ?_)
    refine wpAny_updateDictKeys (hz := hz) (s := { s with toks := s.toks + k.draws }) ho hd ?_
    exact h0 q _ _ (Heap.get?_update_self _ ho (Obj.isFreed_of_dict (Obj.data_mapDictKeys hd _))) (fun x => x.mapDictKeys _) (Obj.data_mapDictKeys hd _) (Heap.SameBut.update ..)
  · intro j hj
    refine wpAny_bind (wpAny_rule (wpAny_bind ?_))
    refine wpAny_updateDict (s := { s with toks := s.toks + k.draws }) ho hd ?_
    refine wpAny_point ?_
    exact h1 j hj _ _ (Heap.get?_update_self _ ho (Obj.isFreed_of_dict (Obj.data_mapDict hd _))) (fun x => x.mapDict _) (Obj.data_mapDict hd _) (Heap.SameBut.update ..)
theorem getItem_mix {Q : Value → Shared → Prop} (hu : A.units + 9 < cLine) (hx : o.ExactDict) (hk : NestedIs s.heap k u) (h8 : k.depth ≤ 8) (hs : ∀ x t, u ≠ .str x t) (ho : s.heap.get? d = some o) (hd : o.data = .dict es ep) (hE : EntK w s.heap es ns) (hn : ns.Nodup)
    (hin : k ∈ ns) (h1 : ∀ (j : Nat) (e : DictEntry), ns[j]? = some k → es[j]? = some e → Q e.val { s with toks := s.toks + k.draws }) : wpAny (model prog w) A (getItem (.ref d) u) Q E s := by
  have hT : s.TypeIs (.ref d) "dict" := ⟨o, ho, hx.1⟩
  unfold getItem
  try with_reducible refine wpAny_holding ?_
  refine wpAny_bind (wpAny_sequenceKey hT (by decide) ?_)
  refine wpAny_bind (wpAny_callSpecial?_slot (name := Str.ofString "__getitem__") hT slot_dict_getitem
    (wpAny_call_entry slot_dict_getitem hT entry_dict_getitem ?_ (args_dict_getitem _ _)))
  show wpAny _ _ (dictGet d u >>= _) _ _ s
  refine wpAny_bind (get_mix (by show A.units + 1 + 8 < cLine; omega) hk h8 hs ho hd hE hn (fun q => (q hin).elim) fun j e hj he => ?_)
  exact wpAny_pure ⟨_, rfl, wpAny_pure (h1 j e hj he)⟩
theorem contains_mix {Q : Bool → Shared → Prop} (hu : A.units + 9 < cLine) (hS : (d == sysModules) = false) (hx : o.ExactDict) (hk : NestedIs s.heap k u) (h8 : k.depth ≤ 8) (hs : ∀ x t, u ≠ .str x t) (ho : s.heap.get? d = some o) (hd : o.data = .dict es ep) (hE : EntK w s.heap es ns) (hn : ns.Nodup)
    (h : Q (decide (k ∈ ns)) { s with toks := s.toks + k.draws }) : wpAny (model prog w) A (contains (.ref d) u) Q E s := by
  have hT : s.TypeIs (.ref d) "dict" := ⟨o, ho, hx.1⟩
  refine wpAny_contains_slot hT PySem.F.slot_dict_contains ?_
  refine call_meetsIn PySem.F.slot_dict_contains hT PySem.F.entry_dict_contains (PySem.F.args_dict_contains_2 _ _) (S := fun A' R s' => A' = A ∧ s' = s ∧ R (.ok (.ret (.bool (decide (k ∈ ns))))) { s with toks := s.toks + k.draws }) (fun A' R s' hS2 => ?_) ⟨rfl, rfl, wpAny_truthy_bool h⟩
  obtain ⟨rfl, rfl, hq⟩ := hS2
  show wpAny _ _ (dictGet d u >>= _) _ _ _
  refine wpAny_bind (get_mix (by show _ + 1 + 8 < cLine; omega) hk h8 hs ho hd hE hn (fun q => ?_) fun j e hj he => ?_)
  · rw [decide_eq_false q] at hq
    show wpAny _ _ (Builtin.Dict.pendingKey? d u >>= _) _ _ _
    exact wpAny_bind (wpAny_pendingKey_other hS (wpAny_pure hq))
  · rw [decide_eq_true (List.mem_of_getElem? hj)] at hq
    show wpAny _ _ (ret (.bool true)) _ _ _
    exact wpAny_pure hq
theorem in_mix {Q : Value → Shared → Prop} (hu : A.units + 9 < cLine) (hS : (d == sysModules) = false) (hx : o.ExactDict) (hk : NestedIs s.heap k u) (h8 : k.depth ≤ 8) (hs : ∀ x t, u ≠ .str x t) (ho : s.heap.get? d = some o) (hd : o.data = .dict es ep) (hE : EntK w s.heap es ns) (hn : ns.Nodup)
    (h : Q (.bool (decide (k ∈ ns))) { s with toks := s.toks + k.draws }) : wpAny (model prog w) A (compareOp .In u (.ref d)) Q E s := by
  show wpAny _ _ (do return .bool (← contains (.ref d) u)) Q E s
  exact wpAny_bind (contains_mix hu hS hx hk h8 hs ho hd hE hn (wpAny_pure h))
theorem notIn_mix {Q : Value → Shared → Prop} (hu : A.units + 9 < cLine) (hS : (d == sysModules) = false) (hx : o.ExactDict) (hk : NestedIs s.heap k u) (h8 : k.depth ≤ 8) (hs : ∀ x t, u ≠ .str x t) (ho : s.heap.get? d = some o) (hd : o.data = .dict es ep) (hE : EntK w s.heap es ns) (hn : ns.Nodup)
    (h : Q (.bool (!decide (k ∈ ns))) { s with toks := s.toks + k.draws }) : wpAny (model prog w) A (compareOp .NotIn u (.ref d)) Q E s := by
  show wpAny _ _ (do return .bool (!(← contains (.ref d) u))) Q E s
  exact wpAny_bind (contains_mix hu hS hx hk h8 hs ho hd hE hn (wpAny_pure h))
theorem setItem_mix {v : Value} {Q : Unit → Shared → Prop} (hu : A.units + 9 < cLine) (hx : o.ExactDict) (hk : NestedIs s.heap k u) (h8 : k.depth ≤ 8) (hs : ∀ x t, u ≠ .str x t) (ho : s.heap.get? d = some o) (hd : o.data = .dict es ep) (hE : EntK w s.heap es ns) (hn : ns.Nodup) (hz : es.size ≤ sizeLine)
    (h0 : k ∉ ns → ∀ h' o', h'.get? d = some o' → (o.ExactDict → o'.ExactDict) → o'.data = .dict (es.push ⟨k.hash w, u, v⟩) (ep + 1) → Heap.SameBut d s.heap h' → Q () { s with heap := h', toks := s.toks + k.draws })
    (h1 : ∀ j : Nat, ns[j]? = some k → ∀ h' o', h'.get? d = some o' → (o.ExactDict → o'.ExactDict) → o'.data = .dict (es.modify j fun e => { e with val := v }) ep → Heap.SameBut d s.heap h' → Q () { s with heap := h', toks := s.toks + k.draws }) :
    wpAny (model prog w) A (setItem (.ref d) u v) Q E s := by
  have hT : s.TypeIs (.ref d) "dict" := ⟨o, ho, hx.1⟩
  unfold setItem
  try with_reducible refine wpAny_holding ?_
  refine wpAny_bind (wpAny_sequenceKey hT (by decide) ?_)
  refine wpAny_bind (wpAny_callSpecial?_slot (name := Str.ofString "__setitem__") hT slot_dict_setitem
    (wpAny_call_entry slot_dict_setitem hT entry_dict_setitem ?_ (args_dict_setitem _ _ _)))
  show wpAny _ _ (Builtin.Dict.notOrdered "__setitem__" ⟨[.ref d, u, v], []⟩ >>= _) _ _ s
  refine wpAny_bind (wpAny_notOrdered_dict hT ?_)
  show wpAny _ _ (dictSet d u v >>= _) _ _ s
  refine wpAny_bind (put_mix (by show A.units + 1 + 8 < cLine; omega) hk h8 hs ho hd hE hn hz (fun q h' o' e1 e2 e3 e4 => ?_) fun j q h' o' e1 e2 e3 e4 => ?_)
  · exact wpAny_pure ⟨.none, rfl, wpAny_pure (h0 q h' o' e1 e2 e3 e4)⟩
  · exact wpAny_pure ⟨.none, rfl, wpAny_pure (h1 j q h' o' e1 e2 e3 e4)⟩
theorem getM_mix {x : Value} {more : List Value} {Q : Value → Shared → Prop} (hm : (more = [] ∧ x = .none) ∨ more = [x]) (hu : A.units + 9 < cLine) (hS : (d == sysModules) = false) (hx : o.ExactDict) (hk : NestedIs s.heap k u) (h8 : k.depth ≤ 8) (hs : ∀ x t, u ≠ .str x t) (ho : s.heap.get? d = some o) (hd : o.data = .dict es ep) (hE : EntK w s.heap es ns) (hn : ns.Nodup)
    (h0 : k ∉ ns → Q x { s with toks := s.toks + k.draws }) (h1 : ∀ (j : Nat) (e : DictEntry), ns[j]? = some k → es[j]? = some e → Q e.val { s with toks := s.toks + k.draws }) : wpAny (model prog w) A (call (.builtin "dict.get") (.ref d :: u :: more)) Q E s := by
  have hT : s.TypeIs (.ref d) "dict" := ⟨o, ho, hx.1⟩
  rcases hm with ⟨rfl, rfl⟩ | rfl
  · refine call_meetsIn PySem.F.slot_dict_get hT PySem.F.entry_dict_get (PySem.F.args_dict_get_2 _ _) (S := fun A' R s' => A' = A ∧ s' = s ∧ (k ∉ ns → R (.ok (.ret .none)) { s with toks := s.toks + k.draws }) ∧ ∀ (j : Nat) (e : DictEntry), ns[j]? = some k → es[j]? = some e → R (.ok (.ret e.val)) { s with toks := s.toks + k.draws }) (fun A' R s' hS2 => ?_) ⟨rfl, rfl, h0, h1⟩
    obtain ⟨rfl, rfl, q0, q1⟩ := hS2
    show wpAny _ _ (dictGet d u >>= _) _ _ _
    refine wpAny_bind (get_mix (by show _ + 1 + 8 < cLine; omega) hk h8 hs ho hd hE hn (fun q => ?_) fun j e hj he => ?_)
    · show wpAny _ _ (Builtin.Dict.missed d u >>= _) _ _ _
      exact wpAny_bind (wpAny_missed_other hS (wpAny_pure (q0 q)))
    · exact wpAny_pure (q1 j e hj he)
  · refine call_meetsIn PySem.F.slot_dict_get hT PySem.F.entry_dict_get (PySem.F.args_dict_get_3 _ _ _) (S := fun A' R s' => A' = A ∧ s' = s ∧ (k ∉ ns → R (.ok (.ret x)) { s with toks := s.toks + k.draws }) ∧ ∀ (j : Nat) (e : DictEntry), ns[j]? = some k → es[j]? = some e → R (.ok (.ret e.val)) { s with toks := s.toks + k.draws }) (fun A' R s' hS2 => ?_) ⟨rfl, rfl, h0, h1⟩
    obtain ⟨rfl, rfl, q0, q1⟩ := hS2
    show wpAny _ _ (dictGet d u >>= _) _ _ _
    refine wpAny_bind (get_mix (by show _ + 1 + 8 < cLine; omega) hk h8 hs ho hd hE hn (fun q => ?_) fun j e hj he => ?_)
    · show wpAny _ _ (Builtin.Dict.missed d u >>= _) _ _ _
      exact wpAny_bind (wpAny_missed_other hS (wpAny_pure (q0 q)))
    · exact wpAny_pure (q1 j e hj he)
end
end DL

namespace DL
open PySem L2

/-! ### dicts -/
def keyEq (a b : D) : Bool := decide (keyN a = keyN b)
def lookD (kvs : List (D × D)) (k : D) : Option D := (kvs.find? fun kv => keyEq kv.1 k).map (·.2)
def putD (kvs : List (D × D)) (k v : D) : List (D × D) :=
  if (kvs.any fun kv => keyEq kv.1 k) = true then kvs.map (fun kv => if keyEq kv.1 k = true then (kv.1, v) else kv) else kvs ++ [(k, v)]
def dropD (kvs : List (D × D)) (k : D) : List (D × D) := kvs.filter fun kv => !keyEq kv.1 k
/-- an int or a text -/
def scalK : D → Bool
  | .int _ => true
  | .str _ => true
  | _ => false
/-- a tuple that may be a key -/
def tupK : D → Bool
  | .tup xs => match keyN (.tup xs) with
    | some n => decide (n.depth ≤ 8)
    | none => false
  | _ => false
/-- k and all keys are of one kind -/
def homog (k : D) (kvs : List (D × D)) : Bool := (scalK k && kvs.all fun kv => scalK kv.1) || (tupK k && kvs.all fun kv => tupK kv.1)
theorem homog_cases {k : D} {kvs : List (D × D)} (h : homog k kvs = true) : (scalK k = true ∧ (kvs.all fun kv => scalK kv.1) = true) ∨ (tupK k = true ∧ (kvs.all fun kv => tupK kv.1) = true) := by
  unfold homog at h
  rw [Bool.or_eq_true, Bool.and_eq_true, Bool.and_eq_true] at h
  exact h

def keyS : D → Key
  | .int i => .inl i
  | .str x => .inr x
  | _ => .inl 0
theorem scal_keyN {k : D} (h : scalK k = true) : keyN k = some (match keyS k with | .inl i => .num i | .inr x => .text x) := by
  cases k <;> first | rfl | (simp [scalK] at h)
theorem scal_eq {a b : D} (ha : scalK a = true) (hb : scalK b = true) : keyEq a b = decide (keyS a = keyS b) := by
  cases a <;> first | (simp [scalK] at ha; done) | skip
  all_goals cases b <;> first | (simp [scalK] at hb; done) | simp [keyEq, keyN, keyS]
theorem scal_rep {G : Gd} {F : Hp} {k : D} {v : V} (h : scalK k = true) (r : Rep G F k v) : v = kV (keyS k) := by
  cases r <;> first | rfl | (simp [scalK] at h)
theorem scal_hash {w : World} {k : D} {n : NestedKey} (h : scalK k = true) (e : keyN k = some n) : n.hash w = keyH w (keyS k) := by
  cases k <;> first | (simp [scalK] at h; done) | (simp [keyN] at e; subst e; rfl)

/-- the two readings of a table: scalar keys -/
inductive RS (G : Gd) (F : Hp) : List (D × D) → List (Key × Value) → Prop
  | nil : RS G F [] []
  | cons {k d : D} {v : V} {c : Key} {u : Value} {ds : List (D × D)} {kvs : List (Key × Value)} : scalK k = true → keyS k = c → Rep G F d v → RelV v u → RS G F ds kvs → RS G F ((k, d) :: ds) ((c, u) :: kvs)
theorem RS.of {G : Gd} {F : Hp} : ∀ {ds : List (D × D)} {es : List DictEntry}, RepKV G F ds es → (ds.all fun kv => scalK kv.1) = true →
    ∃ kvs, RS G F ds kvs ∧ Pairs (mixKind G.P G.w) es kvs ∧ ∀ e ∈ es, ∃ k, (mixKind G.P G.w).is k e.key = true ∧ e.hash = (mixKind G.P G.w).hash k
  | _, _, .nil, _ => ⟨[], .nil, .nil, fun e h => nomatch h⟩
  | _, _, @RepKV.cons _ _ k d n kv v e ds es k1 k2 h1 h2 h3 h4 r, h => by
    rw [List.all_cons, Bool.and_eq_true] at h
    obtain ⟨kvs, q1, q2, q3⟩ := RS.of r h.2
    have ek := scal_rep h.1 h1
    subst ek
    have hi : (mixKind G.P G.w).is (keyS k) e.key = true := kV_is h2
    refine ⟨(keyS k, e.val) :: kvs, .cons h.1 rfl h3 h4 q1, .cons hi rfl q2, fun x hx => ?_⟩
    rcases List.mem_cons.mp hx with rfl | hx
    · exact ⟨keyS k, hi, by rw [k2, scal_hash h.1 k1]; rfl⟩
    · exact q3 x hx
theorem keyIs_relV {k : Key} {u : Value} (h : keyIs k u = true) : RelV (kV k) u := by
  obtain ⟨i, t, rfl, rfl⟩ | ⟨x, t, rfl, rfl⟩ := keyIs_shape h
  · exact ⟨t, rfl⟩
  · exact ⟨t, rfl⟩
theorem scal_repK {G : Gd} {F : Hp} {k : D} (h : scalK k = true) : Rep G F k (kV (keyS k)) := by
  cases k <;> first | (simp [scalK] at h; done) | exact .int _ | exact .str _
theorem RS.back {G : Gd} {F : Hp} : ∀ {ds : List (D × D)} {kvs : List (Key × Value)} {es : List DictEntry}, RS G F ds kvs → Pairs (mixKind G.P G.w) es kvs →
    (∀ e ∈ es, ∃ k, (mixKind G.P G.w).is k e.key = true ∧ e.hash = (mixKind G.P G.w).hash k) → RepKV G F ds es
  | _, _, _, .nil, .nil, _ => .nil
  | _, _, _, @RS.cons _ _ k d v c u ds kvs h1 h2 h3 h4 r, @Pairs.cons _ _ _ _ _ e (_, _) es _ p1 p2 pr, hk => by
    subst h2
    have hr := RS.back r pr fun x hx => hk x (List.mem_cons_of_mem _ hx)
    obtain ⟨c', hc, hh⟩ := hk e List.mem_cons_self
    have ec : c' = keyS k := (mixKind G.P G.w).inj _ _ _ hc p1
    subst ec
    refine .cons (scal_keyN h1) ?_ (scal_repK h1) (keyIs_relV p1) h3 (by rw [p2]; exact h4) hr
    rw [hh]
    exact (scal_hash h1 (scal_keyN h1)).symm
theorem RS.look {G : Gd} {F : Hp} {k : D} (hk : scalK k = true) : ∀ {ds : List (D × D)} {kvs : List (Key × Value)}, RS G F ds kvs →
    match lookD ds k with
    | some d => ∃ v u, valueAt kvs (keyS k) = some u ∧ Rep G F d v ∧ RelV v u
    | none => valueAt kvs (keyS k) = none
  | _, _, .nil => rfl
  | _, _, @RS.cons _ _ k' d v c u ds kvs h1 h2 h3 h4 r => by
    subst h2
    have ih := RS.look hk r
    by_cases e : keyS k' = keyS k
    · have e1 : lookD ((k', d) :: ds) k = some d := by simp [lookD, List.find?_cons, scal_eq h1 hk, e]
      have e2 : valueAt ((keyS k', u) :: kvs) (keyS k) = some u := by simp [valueAt, List.find?_cons, e]
      rw [e1]
      exact ⟨v, u, e2, h3, h4⟩
    · have e1 : lookD ((k', d) :: ds) k = lookD ds k := by simp [lookD, List.find?_cons, scal_eq h1 hk, e]
      have e2 : valueAt ((keyS k', u) :: kvs) (keyS k) = valueAt kvs (keyS k) := by simp [valueAt, List.find?_cons, e]
      rw [e1, e2]
      exact ih
theorem RS.any {G : Gd} {F : Hp} {k : D} (hk : scalK k = true) : ∀ {ds : List (D × D)} {kvs : List (Key × Value)}, RS G F ds kvs → (ds.any fun kv => keyEq kv.1 k) = kvs.any fun kv => decide (kv.1 = keyS k)
  | _, _, .nil => rfl
  | _, _, @RS.cons _ _ k' d v c u ds kvs h1 h2 h3 h4 r => by
    subst h2
    rw [List.any_cons, List.any_cons, RS.any hk r, scal_eq h1 hk]
theorem RS.repl {G : Gd} {F : Hp} {k d' : D} {v' : V} {u' : Value} (hk : scalK k = true) (r' : Rep G F d' v') (ru : RelV v' u') : ∀ {ds : List (D × D)} {kvs : List (Key × Value)}, RS G F ds kvs →
    RS G F (ds.map fun kv => if keyEq kv.1 k = true then (kv.1, d') else kv) (kvs.map fun kv => if kv.1 = keyS k then (kv.1, u') else kv)
  | _, _, .nil => .nil
  | _, _, @RS.cons _ _ k' d v c u ds kvs h1 h2 h3 h4 r => by
    subst h2
    rw [List.map_cons, List.map_cons]
    by_cases e : keyS k' = keyS k
    · rw [if_pos (by rw [scal_eq h1 hk]; exact decide_eq_true e), if_pos e]
      exact .cons h1 rfl r' ru (RS.repl hk r' ru r)
    · rw [if_neg (by rw [scal_eq h1 hk]; simp [e]), if_neg e]
      exact .cons h1 rfl h3 h4 (RS.repl hk r' ru r)
theorem RS.snoc {G : Gd} {F : Hp} {k d' : D} {v' : V} {u' : Value} (hk : scalK k = true) (r' : Rep G F d' v') (ru : RelV v' u') : ∀ {ds : List (D × D)} {kvs : List (Key × Value)}, RS G F ds kvs → RS G F (ds ++ [(k, d')]) (kvs ++ [(keyS k, u')])
  | _, _, .nil => .cons hk rfl r' ru .nil
  | _, _, .cons h1 h2 h3 h4 r => .cons h1 h2 h3 h4 (RS.snoc hk r' ru r)
theorem RS.put {G : Gd} {F : Hp} {k d' : D} {v' : V} {u' : Value} (hk : scalK k = true) (r' : Rep G F d' v') (ru : RelV v' u') {ds : List (D × D)} {kvs : List (Key × Value)} (r : RS G F ds kvs) : RS G F (putD ds k d') (stored kvs (keyS k) u') := by
  unfold putD stored
  rw [RS.any hk r]
  split
  · exact RS.repl hk r' ru r
  · exact RS.snoc hk r' ru r
theorem RS.length {G : Gd} {F : Hp} : ∀ {ds : List (D × D)} {kvs : List (Key × Value)}, RS G F ds kvs → ds.length = kvs.length
  | _, _, .nil => rfl
  | _, _, .cons _ _ _ _ r => by rw [List.length_cons, List.length_cons, RS.length r]
theorem RepKV.length {G : Gd} {F : Hp} : ∀ {ds : List (D × D)} {es : List DictEntry}, RepKV G F ds es → ds.length = es.length
  | _, _, .nil => rfl
  | _, _, .cons _ _ _ _ _ _ r => by rw [List.length_cons, List.length_cons, RepKV.length r]
theorem RS.nodup {G : Gd} {F : Hp} : ∀ {ds : List (D × D)} {kvs : List (Key × Value)}, RS G F ds kvs → (ds.map fun p => keyN p.1).Nodup → (kvs.map (·.1)).Nodup
  | _, _, .nil, _ => List.nodup_nil
  | _, _, @RS.cons _ _ k' d v c u ds kvs h1 h2 h3 h4 r, h => by
    subst h2
    rw [List.map_cons, List.nodup_cons] at h ⊢
    refine ⟨fun hm => h.1 ?_, RS.nodup r h.2⟩
    have : ∀ {ds : List (D × D)} {kvs : List (Key × Value)}, RS G F ds kvs → keyS k' ∈ kvs.map (·.1) → keyN k' ∈ ds.map fun p => keyN p.1 := by
      intro ds kvs r hm
      induction r with
      | nil => cases hm
      | @cons k2 d2 v2 c2 u2 ds2 kvs2 g1 g2 g3 g4 r2 ih =>
        subst g2
        rw [List.map_cons] at hm ⊢
        rcases List.mem_cons.mp hm with e | hm
        · have : keyN k' = keyN k2 := by rw [scal_keyN h1, scal_keyN g1, e]
          rw [this]
          exact List.mem_cons_self
        · exact List.mem_cons_of_mem _ (ih hm)
    exact this r hm
theorem putD_nodup {k v : D} {ds : List (D × D)} (h : (ds.map fun p => keyN p.1).Nodup) : ((putD ds k v).map fun p => keyN p.1).Nodup := by
  unfold putD
  split
  · rw [List.map_map]
    have : ((fun p : D × D => keyN p.1) ∘ fun kv => if keyEq kv.1 k = true then (kv.1, v) else kv) = fun p => keyN p.1 := by
      funext kv
      show keyN (if keyEq kv.1 k = true then (kv.1, v) else kv).1 = keyN kv.1
      split <;> rfl
    rw [this]
    exact h
  · next hn =>
    rw [List.map_append, List.nodup_append]
    refine ⟨h, by simp, fun a ha b hb e => hn ?_⟩
    subst e
    simp only [List.map_cons, List.map_nil, List.mem_singleton] at hb
    subst hb
    obtain ⟨p, hp, e⟩ := List.mem_map.mp ha
    exact List.any_eq_true.mpr ⟨p, hp, decide_eq_true e⟩
theorem putD_length (ds : List (D × D)) (k v : D) : (putD ds k v).length ≤ ds.length + 1 := by
  unfold putD
  split
  · rw [List.length_map]; omega
  · rw [List.length_append, List.length_singleton]; omega
theorem putD_scal {k v : D} (hk : scalK k = true) {ds : List (D × D)} (h : (ds.all fun kv => scalK kv.1) = true) : ((putD ds k v).all fun kv => scalK kv.1) = true := by
  unfold putD
  split
  · rw [List.all_map]
    rw [List.all_eq_true] at h ⊢
    intro x hx
    show scalK (if keyEq x.1 k = true then (x.1, v) else x).1 = true
    split <;> exact h x hx
  · rw [List.all_append, h]; simp [hk]

/-! #### keys that are tuples -/
section
variable {X : Cx} {pins : List (Addr × Obj)} {σ : L2.St} {H F : Hp} {s : Shared}
mutual
theorem Rep.nested (I : Inv X pins σ H s) (e : Same F H) : ∀ (d : D) (v : V) (u : Value) (n : NestedKey), keyN d = some n → Rep X.G F d v → RelV v u → NestedIs s.heap n u
  | .non, _, _, _, k, h, r => by cases h; cases r; simp [keyN] at k; subst k; exact .none
  | .bl b, _, _, _, k, h, r => by cases h; cases r; simp only [keyN, Option.some.injEq] at k; subst k; exact .bool rfl
  | .int i, _, _, _, k, h, r => by cases h; obtain ⟨t, rfl⟩ := r; simp [keyN] at k; subst k; exact .int i t
  | .str x, _, _, _, k, h, r => by cases h; obtain ⟨t, rfl⟩ := r; simp [keyN] at k; subst k; exact .text x t
  | .tup ds, _, _, _, k, h, r => by
    cases h with
    | tup hs ha =>
      cases r
      rw [keyN] at k
      split at k
      · next ks hks =>
        cases k
        obtain ⟨its, rv, ⟨o, ho, hc, n, hd⟩, _⟩ := I.tuple (Same.sqT e hs.sqT)
        exact .tup ho hc hd (RepL.nested I e ds _ its ks hks ha rv)
      · cases k
  | .lst _, _, _, _, k, h, _ => by simp [keyN] at k
  | .frl _, _, _, _, k, h, _ => by simp [keyN] at k
  | .tuz _, _, _, _, k, h, _ => by simp [keyN] at k
  | .dic _, _, _, _, k, h, _ => by simp [keyN] at k
  | .set _, _, _, _, k, h, _ => by simp [keyN] at k
theorem RepL.nested (I : Inv X pins σ H s) (e : Same F H) : ∀ (ds : List D) (vs : List V) (us : List Value) (ks : List NestedKey), keyNs ds = some ks → RepL X.G F ds vs → Vals vs us → NestedAll s.heap ks us
  | [], _, _, _, k, h, r => by cases h; cases r; simp [keyNs] at k; subst k; exact .nil
  | d :: ds, _, _, _, k, h, r => by
    cases h with
    | cons h1 h2 =>
      cases r with
      | cons r1 r2 =>
        rw [keyNs] at k
        split at k
        · next k1 k2 e1 e2 =>
          cases k
          exact .cons (Rep.nested I e d _ _ k1 e1 h1 r1) (RepL.nested I e ds _ _ k2 e2 h2 r2)
        · cases k
end
end
theorem tupK_inv {k : D} (h : tupK k = true) : ∃ xs n, k = .tup xs ∧ keyN k = some n ∧ n.depth ≤ 8 := by
  cases k with
  | tup xs =>
    simp only [tupK] at h
    split at h
    · next n e => exact ⟨xs, n, rfl, e, of_decide_eq_true h⟩
    · cases h
  | _ => simp [tupK] at h
theorem tup_ref {G : Gd} {F : Hp} {xs : List D} {v : V} (r : Rep G F (.tup xs) v) : ∃ a, v = .ref a := by cases r; exact ⟨_, rfl⟩

/-- the two readings: keys that are tuples -/
inductive RT (G : Gd) (F : Hp) : List (D × D) → List (NestedKey × Addr × Value) → Prop
  | nil : RT G F [] []
  | cons {k d : D} {n : NestedKey} {b : Addr} {v : V} {u : Value} {ds : List (D × D)} {xs : List (NestedKey × Addr × Value)} : tupK k = true → keyN k = some n → Rep G F k (.ref b) → Rep G F d v → RelV v u → RT G F ds xs → RT G F ((k, d) :: ds) ((n, b, u) :: xs)
theorem RT.of {G : Gd} {F : Hp} : ∀ {ds : List (D × D)} {es : List DictEntry}, RepKV G F ds es → (ds.all fun kv => tupK kv.1) = true → ∃ xs, RT G F ds xs ∧ es = xs.map (entryOfKey (nestedKind G.P G.w))
  | _, _, .nil, _ => ⟨[], .nil, rfl⟩
  | _, _, @RepKV.cons _ _ k d n kv v e ds es k1 k2 h1 h2 h3 h4 r, h => by
    rw [List.all_cons, Bool.and_eq_true] at h
    obtain ⟨xs, q1, q2⟩ := RT.of r h.2
    obtain ⟨ys, m, rfl, em, hd⟩ := tupK_inv h.1
    obtain ⟨b, rfl⟩ := tup_ref h1
    have h2' : e.key = .ref b := h2
    refine ⟨(n, b, e.val) :: xs, .cons h.1 k1 h1 h3 h4 q1, ?_⟩
    rw [List.map_cons, q2]
    congr 1
    obtain ⟨eh, ek, ev⟩ := e
    simp only at h2' k2
    subst h2' k2
    rfl
theorem RT.back {G : Gd} {F : Hp} : ∀ {ds : List (D × D)} {xs : List (NestedKey × Addr × Value)}, RT G F ds xs → RepKV G F ds (xs.map (entryOfKey (nestedKind G.P G.w)))
  | _, _, .nil => .nil
  | _, _, .cons h1 h2 h3 h4 h5 r => .cons h2 rfl h3 rfl h4 h5 (RT.back r)
theorem RT.isAll {X : Cx} {pins : List (Addr × Obj)} {σ : L2.St} {H F : Hp} {s : Shared} (I : Inv X pins σ H s) (e : Same F H) : ∀ {ds : List (D × D)} {xs : List (NestedKey × Addr × Value)}, RT X.G F ds xs → ∀ x ∈ xs, (nestedKind X.prog X.w).is s.heap x.1 x.2.1
  | _, _, .nil => fun x hx => nomatch hx
  | _, _, .cons h1 h2 h3 h4 h5 r => fun x hx => by
    rcases List.mem_cons.mp hx with rfl | hx
    · obtain ⟨ys, m, rfl, em, hd⟩ := tupK_inv h1
      rw [h2] at em
      cases em
      exact ⟨Rep.nested I e _ _ _ _ h2 h3 rfl, hd⟩
    · exact RT.isAll I e r x hx
theorem tup_eq {a b : D} {n m : NestedKey} (ha : keyN a = some n) (hb : keyN b = some m) : keyEq a b = decide (n = m) := by
  unfold keyEq
  rw [ha, hb]
  simp
theorem RT.look {G : Gd} {F : Hp} {k : D} {n : NestedKey} (hk : keyN k = some n) : ∀ {ds : List (D × D)} {xs : List (NestedKey × Addr × Value)}, RT G F ds xs →
    match lookD ds k with
    | some d => ∃ v p, atKey xs n = some p ∧ Rep G F d v ∧ RelV v p.2
    | none => atKey xs n = none
  | _, _, .nil => rfl
  | _, _, @RT.cons _ _ k' d m b v u ds xs h1 h2 h3 h4 h5 r => by
    have ih := RT.look hk r
    by_cases e : m = n
    · have e1 : lookD ((k', d) :: ds) k = some d := by simp [lookD, List.find?_cons, tup_eq h2 hk, e]
      have e2 : atKey ((m, b, u) :: xs) n = some (b, u) := by simp [atKey, List.find?_cons, e]
      rw [e1]
      exact ⟨v, (b, u), e2, h4, h5⟩
    · have e1 : lookD ((k', d) :: ds) k = lookD ds k := by simp [lookD, List.find?_cons, tup_eq h2 hk, e]
      have e2 : atKey ((m, b, u) :: xs) n = atKey xs n := by simp [atKey, List.find?_cons, e]
      rw [e1, e2]
      exact ih
theorem RT.anyK {G : Gd} {F : Hp} {k : D} {n : NestedKey} (hk : keyN k = some n) : ∀ {ds : List (D × D)} {xs : List (NestedKey × Addr × Value)}, RT G F ds xs → (ds.any fun kv => keyEq kv.1 k) = (atKey xs n).isSome
  | _, _, .nil => rfl
  | _, _, @RT.cons _ _ k' d m b v u ds xs h1 h2 h3 h4 h5 r => by
    rw [List.any_cons, RT.anyK hk r, tup_eq h2 hk]
    by_cases e : m = n
    · simp [atKey, List.find?_cons, e]
    · simp [atKey, List.find?_cons, e]
theorem RT.repl {G : Gd} {F : Hp} {k d' : D} {n : NestedKey} {v' : V} {u' : Value} (hk : keyN k = some n) (r' : Rep G F d' v') (ru : RelV v' u') : ∀ {ds : List (D × D)} {xs : List (NestedKey × Addr × Value)}, RT G F ds xs →
    RT G F (ds.map fun kv => if keyEq kv.1 k = true then (kv.1, d') else kv) (xs.map (putAt n u'))
  | _, _, .nil => .nil
  | _, _, @RT.cons _ _ k' d m b v u ds xs h1 h2 h3 h4 h5 r => by
    rw [List.map_cons, List.map_cons]
    by_cases e : m = n
    · rw [if_pos (by rw [tup_eq h2 hk]; exact decide_eq_true e)]
      have : putAt n u' (m, b, u) = (m, b, u') := by simp [putAt, e]
      rw [this]
      exact .cons h1 h2 h3 r' ru (RT.repl hk r' ru r)
    · rw [if_neg (by rw [tup_eq h2 hk]; simp [e])]
      have : putAt n u' (m, b, u) = (m, b, u) := by simp [putAt, e]
      rw [this]
      exact .cons h1 h2 h3 h4 h5 (RT.repl hk r' ru r)
theorem RT.snoc {G : Gd} {F : Hp} {k d' : D} {n : NestedKey} {b : Addr} {v' : V} {u' : Value} (ht : tupK k = true) (hk : keyN k = some n) (rk : Rep G F k (.ref b)) (r' : Rep G F d' v') (ru : RelV v' u') : ∀ {ds : List (D × D)} {xs : List (NestedKey × Addr × Value)}, RT G F ds xs →
    RT G F (ds ++ [(k, d')]) (xs ++ [(n, b, u')])
  | _, _, .nil => .cons ht hk rk r' ru .nil
  | _, _, .cons h1 h2 h3 h4 h5 r => .cons h1 h2 h3 h4 h5 (RT.snoc ht hk rk r' ru r)
theorem RT.put {G : Gd} {F : Hp} {k d' : D} {n : NestedKey} {b : Addr} {v' : V} {u' : Value} (ht : tupK k = true) (hk : keyN k = some n) (rk : Rep G F k (.ref b)) (r' : Rep G F d' v') (ru : RelV v' u') {ds : List (D × D)} {xs : List (NestedKey × Addr × Value)} (r : RT G F ds xs) :
    RT G F (putD ds k d') (storedH xs n b u') := by
  unfold putD storedH
  rw [RT.anyK hk r]
  split
  · exact RT.repl hk r' ru r
  · exact RT.snoc ht hk rk r' ru r
theorem RT.length {G : Gd} {F : Hp} : ∀ {ds : List (D × D)} {xs : List (NestedKey × Addr × Value)}, RT G F ds xs → ds.length = xs.length
  | _, _, .nil => rfl
  | _, _, .cons _ _ _ _ _ r => by rw [List.length_cons, List.length_cons, RT.length r]
theorem RT.nodup {G : Gd} {F : Hp} : ∀ {ds : List (D × D)} {xs : List (NestedKey × Addr × Value)}, RT G F ds xs → (ds.map fun p => keyN p.1).Nodup → (xs.map (·.1)).Nodup
  | _, _, .nil, _ => List.nodup_nil
  | _, _, @RT.cons _ _ k' d m b v u ds xs h1 h2 h3 h4 h5 r, h => by
    rw [List.map_cons, List.nodup_cons] at h ⊢
    refine ⟨fun hm => h.1 ?_, RT.nodup r h.2⟩
    have : ∀ {ds : List (D × D)} {xs : List (NestedKey × Addr × Value)}, RT G F ds xs → m ∈ xs.map (·.1) → keyN k' ∈ ds.map fun p => keyN p.1 := by
      intro ds xs r hm
      induction r with
      | nil => cases hm
      | @cons k2 d2 n2 b2 v2 u2 ds2 xs2 g1 g2 g3 g4 g5 r2 ih =>
        rw [List.map_cons] at hm ⊢
        rcases List.mem_cons.mp hm with e | hm
        · have : keyN k' = keyN k2 := by rw [h2, g2, e]
          rw [this]
          exact List.mem_cons_self
        · exact List.mem_cons_of_mem _ (ih hm)
    exact this r hm

/-! #### the heap's dict -/
section
variable {X : Cx} {pins : List (Addr × Obj)} {σ : L2.St} {H F : Hp} {s : Shared} {a : Addr} {es : Array DictEntry} {ep : Nat} {ds : List (D × D)}
theorem rawD_at (I : Inv X pins σ H s) (h : H a = some (rawD a es ep)) : (∃ o, s.heap.get? a = some o ∧ o.ExactDict ∧ o.data = .dict es ep) ∧ (a == sysModules) = false ∧ es.size ≤ sizeLine := (I.hok a _ h).1
theorem rawD_ok {P : Program} {w : World} {H' : Hp} {h' : Heap} {o : Obj} (ho : h'.get? a = some o) (hx : o.ExactDict) (hd : o.data = .dict es ep) (hs : (a == sysModules) = false) (hz : es.size ≤ sizeLine) : ObjOk P w H' h' a (rawD a es ep) :=
  ⟨⟨⟨o, ho, hx, hd⟩, hs, hz⟩, ⟨o, ho⟩, fun h1 h2 ⟨⟨o1, e1, e2, e3⟩, e4, e5⟩ k => ⟨⟨o1, k o1 e1, e2, e3⟩, e4, e5⟩⟩
theorem dictS (I : Inv X pins σ H s) (e : Same F H) (h : H a = some (rawD a es ep)) (r : RepKV X.G F ds es.toList) (nd : (ds.map fun p => keyN p.1).Nodup) (hs : (ds.all fun kv => scalK kv.1) = true) :
    ∃ kvs, RS X.G F ds kvs ∧ s.heap.DictOf (mixKind X.prog X.w) a kvs := by
  obtain ⟨⟨o, ho, hx, hd⟩, _, _⟩ := rawD_at I h
  obtain ⟨kvs, q1, q2, q3⟩ := RS.of r hs
  exact ⟨kvs, q1, o, es, ep, ho, hx, hd, fun x hx => q3 x (Array.mem_toList_iff.mpr hx), q2, RS.nodup q1 nd⟩
theorem dictT (I : Inv X pins σ H s) (e : Same F H) (h : H a = some (rawD a es ep)) (r : RepKV X.G F ds es.toList) (nd : (ds.map fun p => keyN p.1).Nodup) (hs : (ds.all fun kv => tupK kv.1) = true) :
    ∃ xs, RT X.G F ds xs ∧ s.heap.DictOfH (nestedKind X.prog X.w) a xs := by
  obtain ⟨⟨o, ho, hx, hd⟩, _, _⟩ := rawD_at I h
  obtain ⟨xs, q1, q2⟩ := RT.of r hs
  exact ⟨xs, q1, o, es, ep, ho, hx, hd, q2, RT.isAll I e q1, RT.nodup q1 nd⟩
end
/-! #### keys of several kinds -/
def keyOk (k : D) : Bool := match keyN k with
  | some n => decide (n.depth ≤ 8)
  | none => false
def noStr : D → Bool
  | .str _ => false
  | _ => true
def mixB (k : D) (kvs : List (D × D)) : Bool := keyOk k && noStr k && kvs.all fun kv => keyOk kv.1
theorem keyOk_inv {k : D} (h : keyOk k = true) : ∃ n, keyN k = some n ∧ n.depth ≤ 8 := by
  unfold keyOk at h
  split at h
  · next n e => exact ⟨n, e, of_decide_eq_true h⟩
  · cases h
theorem mixB_inv {k : D} {kvs : List (D × D)} (h : mixB k kvs = true) : (∃ n, keyN k = some n ∧ n.depth ≤ 8) ∧ noStr k = true ∧ ∀ kv ∈ kvs, ∃ n, keyN kv.1 = some n ∧ n.depth ≤ 8 := by
  unfold mixB at h
  rw [Bool.and_eq_true, Bool.and_eq_true, List.all_eq_true] at h
  exact ⟨keyOk_inv h.1.1, h.1.2, fun kv hkv => keyOk_inv (h.2 kv hkv)⟩
def nsOf (ds : List (D × D)) : List NestedKey := ds.map fun p => (keyN p.1).getD .none
theorem noStr_val {G : Gd} {F : Hp} {k : D} {y : V} {u : Value} (h : noStr k = true) (r : Rep G F k y) (ry : RelV y u) : ∀ x t, u ≠ .str x t := by
  intro x t e
  subst e
  cases r <;> first | (simp [noStr] at h; done) | (simp [RelV] at ry; done) | skip
  all_goals (first | (obtain ⟨t, h⟩ := ry; cases h; done) | (cases ry; done))
section
variable {ds : List (D × D)} {k d : D} {n : NestedKey}
theorem nsOf_at {i : Nat} {m : NestedKey} (hall : ∀ kv ∈ ds, ∃ n, keyN kv.1 = some n ∧ n.depth ≤ 8) (h : (nsOf ds)[i]? = some m) : ∃ p, ds[i]? = some p ∧ keyN p.1 = some m := by
  unfold nsOf at h
  rw [List.getElem?_map] at h
  rcases e : ds[i]? with _ | p
  · rw [e] at h; cases h
  · rw [e] at h
    obtain ⟨q, hq, _⟩ := hall p (List.mem_of_getElem? e)
    refine ⟨p, rfl, ?_⟩
    have h2 : (keyN p.1).getD .none = m := Option.some.inj h
    rw [hq] at h2 ⊢
    exact congrArg some h2
theorem nsOf_nodup (hall : ∀ kv ∈ ds, ∃ n, keyN kv.1 = some n ∧ n.depth ≤ 8) (nd : (ds.map fun p => keyN p.1).Nodup) : (nsOf ds).Nodup := by
  unfold nsOf
  rw [List.nodup_iff_pairwise_ne, List.pairwise_map] at nd ⊢
  refine List.Pairwise.imp_of_mem (fun {a b} ha hb hab e => ?_) nd
  obtain ⟨x, hx, _⟩ := hall a ha
  obtain ⟨y, hy, _⟩ := hall b hb
  rw [hx, hy] at e hab
  exact hab (congrArg some e)
theorem look_at {j : Nat} {p : D × D} (nd : (ds.map fun p => keyN p.1).Nodup) (h : ds[j]? = some p) (hk : keyN p.1 = keyN k) : lookD ds k = some p.2 := by
  induction ds generalizing j with
  | nil => cases h
  | cons q ds ih =>
    rw [List.map_cons, List.nodup_cons] at nd
    unfold lookD
    rw [List.find?_cons]
    cases j with
    | zero =>
      simp only [List.getElem?_cons_zero, Option.some.injEq] at h
      subst h
      have : keyEq q.1 k = true := decide_eq_true hk
      rw [this]; rfl
    | succ j =>
      simp only [List.getElem?_cons_succ] at h
      have : keyEq q.1 k = false := decide_eq_false fun e => nd.1 (by rw [e, ← hk]; exact List.mem_map.mpr ⟨p, List.mem_of_getElem? h, rfl⟩)
      rw [this]
      exact ih nd.2 h
theorem look_not (hall : ∀ kv ∈ ds, ∃ n, keyN kv.1 = some n ∧ n.depth ≤ 8) (hk : keyN k = some n) (h : n ∉ nsOf ds) : lookD ds k = none ∧ (ds.any fun kv => keyEq kv.1 k) = false := by
  have hf : ∀ kv ∈ ds, keyEq kv.1 k = false := fun kv hkv => decide_eq_false fun e => h (by
    unfold nsOf
    refine List.mem_map.mpr ⟨kv, hkv, ?_⟩
    rw [e, hk]; rfl)
  constructor
  · unfold lookD
    rw [List.find?_eq_none.mpr fun kv hkv => by rw [hf kv hkv]; exact Bool.false_ne_true]; rfl
  · rw [List.any_eq_false]
    intro kv hkv
    rw [hf kv hkv]; exact Bool.false_ne_true
theorem look_in (hall : ∀ kv ∈ ds, ∃ n, keyN kv.1 = some n ∧ n.depth ≤ 8) (nd : (ds.map fun p => keyN p.1).Nodup) (hk : keyN k = some n) : (lookD ds k).isSome = decide (n ∈ nsOf ds) := by
  by_cases h : n ∈ nsOf ds
  · obtain ⟨i, hi⟩ := List.getElem?_of_mem h
    obtain ⟨p, h1, h2⟩ := nsOf_at hall hi
    rw [look_at (k := k) nd h1 (by rw [h2, hk]), decide_eq_true h]; rfl
  · rw [(look_not hall hk h).1, decide_eq_false h]; rfl
theorem put_ids (h : (ds.any fun kv => keyEq kv.1 k) = false) : (ds.map fun kv => if keyEq kv.1 k = true then (kv.1, d) else kv) = ds := by
  rw [List.any_eq_false] at h
  conv => rhs; rw [← List.map_id ds]
  refine List.map_congr_left fun kv hkv => ?_
  rw [if_neg (h kv hkv)]; rfl
end
section
variable {X : Cx} {pins : List (Addr × Obj)} {σ : L2.St} {H F : Hp} {s : Shared} {a : Addr} {es : Array DictEntry} {ep : Nat} {ds : List (D × D)} {k d : D}
theorem RepKV.entL (I : Inv X pins σ H s) (e : Same F H) : ∀ {ds : List (D × D)} {es : List DictEntry}, RepKV X.G F ds es → ∀ (i : Nat) (en : DictEntry) (p : D × D), es[i]? = some en → ds[i]? = some p →
    (∀ n, keyN p.1 = some n → en.hash = n.hash X.w ∧ NestedIs s.heap n en.key) ∧ ∃ v, Rep X.G F p.2 v ∧ RelV v en.val
  | _, _, .nil, _, _, _, h, _ => by cases h
  | _, _, .cons k1 k2 h1 h2 h3 h4 r, 0, en, p, h, h' => by
    simp only [List.getElem?_cons_zero, Option.some.injEq] at h h'
    subst h h'
    exact ⟨fun n hn => by
      rw [hn] at k1; cases k1
      exact ⟨k2, Rep.nested I e _ _ _ _ hn h1 h2⟩, _, h3, h4⟩
  | _, _, .cons k1 k2 h1 h2 h3 h4 r, i + 1, en, p, h, h' => by
    simp only [List.getElem?_cons_succ] at h h'
    exact RepKV.entL I e r i en p h h'
theorem RepKV.entK (I : Inv X pins σ H s) (e : Same F H) (r : RepKV X.G F ds es.toList) (hall : ∀ kv ∈ ds, ∃ n, keyN kv.1 = some n ∧ n.depth ≤ 8) : EntK X.w s.heap es (nsOf ds) where
  len := by unfold nsOf; rw [List.length_map, r.length, Array.length_toList]
  at_ := fun i en n h1 h2 => by
    obtain ⟨p, h3, h4⟩ := nsOf_at hall h2
    rw [← Array.getElem?_toList] at h1
    obtain ⟨q1, q2⟩ := (RepKV.entL I e r i en p h1 h3).1 n h4
    obtain ⟨m, hm, h8⟩ := hall p (List.mem_of_getElem? h3)
    rw [h4] at hm; cases hm
    exact ⟨q1, q2, h8⟩
theorem RepKV.snoc {G : Gd} {n : NestedKey} {y x : V} {u r' : Value} (kn : keyN k = some n) (rk : Rep G F k y) (ry : RelV y u) (rd : Rep G F d x) (rx : RelV x r') : ∀ {ds : List (D × D)} {es : List DictEntry}, RepKV G F ds es → RepKV G F (ds ++ [(k, d)]) (es ++ [⟨n.hash G.w, u, r'⟩])
  | _, _, .nil => .cons kn rfl rk ry rd rx .nil
  | _, _, .cons k1 k2 h1 h2 h3 h4 r => .cons k1 k2 h1 h2 h3 h4 (RepKV.snoc kn rk ry rd rx r)
theorem RepKV.modi {G : Gd} {x : V} {r' : Value} (rd : Rep G F d x) (rx : RelV x r') : ∀ {ds : List (D × D)} {es : List DictEntry} (j : Nat) {p : D × D}, RepKV G F ds es → (ds.map fun p => keyN p.1).Nodup → ds[j]? = some p → keyN p.1 = keyN k →
    RepKV G F (ds.map fun kv => if keyEq kv.1 k = true then (kv.1, d) else kv) (es.modify j fun e => { e with val := r' })
  | _, _, _, _, .nil, _, h, _ => by cases h
  | _, _, 0, p, @RepKV.cons _ _ k' d' n kv v e ds es k1 k2 h1 h2 h3 h4 r, nd, h, hk => by
    simp only [List.getElem?_cons_zero, Option.some.injEq] at h
    subst h
    rw [List.map_cons, List.nodup_cons] at nd
    rw [List.map_cons, if_pos (show keyEq (k', d').1 k = true from decide_eq_true hk), put_ids (by
      rw [List.any_eq_false]
      intro q hq z
      exact nd.1 (by rw [hk, ← of_decide_eq_true z]; exact List.mem_map.mpr ⟨q, hq, rfl⟩))]
    exact .cons k1 k2 h1 h2 rd rx r
  | _, _, j + 1, p, @RepKV.cons _ _ k' d' n kv v e ds es k1 k2 h1 h2 h3 h4 r, nd, h, hk => by
    simp only [List.getElem?_cons_succ] at h
    rw [List.map_cons, List.nodup_cons] at nd
    rw [List.map_cons, if_neg (show ¬ keyEq (k', d').1 k = true from fun z => nd.1 (by rw [of_decide_eq_true z, ← hk]; exact List.mem_map.mpr ⟨p, List.mem_of_getElem? h, rfl⟩))]
    exact .cons k1 k2 h1 h2 h3 h4 (RepKV.modi rd rx j r nd.2 h hk)
end
/-- what a look-up may find -/
def getD' (kvs : List (D × D)) (k : D) : Option (Option D) := if homog k kvs = true then some (lookD kvs k) else if mixB k kvs = true then some (lookD kvs k) else none

section
variable {X : Cx} {pins : List (Addr × Obj)} {σ : L2.St} {H F : Hp} {s : Shared} {a : Addr} {es : Array DictEntry} {ep : Nat} {ds : List (D × D)} {k : D} {y : V} {u : Value} {A : Around} {E : Value → Shared → Prop}
theorem dd_get {d : D} {Q : Value → Shared → Prop} (hu : A.units + 10 < cLine) (I : Inv X pins σ H s) (e : Same F H) (h : H a = some (rawD a es ep)) (r : RepKV X.G F ds es.toList) (nd : (ds.map fun p => keyN p.1).Nodup)
    (rk : Rep X.G F k y) (ry : RelV y u) (g : getD' ds k = some (some d)) (hq : ∀ v w' s', Inv X pins σ H s' → Rep X.G F d v → RelV v w' → Q w' s') : wpAny (model X.prog X.w) A (getItem (.ref a) u) Q E s := by
  unfold getD' at g
  split at g
  · next hh =>
    have gl : lookD ds k = some d := Option.some.inj g
    rcases homog_cases hh with ⟨hk, hh⟩ | hh
    · obtain ⟨kvs, q1, dd⟩ := dictS I e h r nd hh
      have ql := RS.look hk q1
      rw [gl] at ql
      obtain ⟨v, w', e1, r1, r2⟩ := ql
      have ey := scal_rep hk rk
      subst ey
      exact wpAny_getItem_of (kV_is ry) dd.mapOf e1 (hq v _ _ (I.tok _) r1 r2)
    · obtain ⟨xs, q1, dd⟩ := dictT I e h r nd hh.2
      obtain ⟨ys, n, rfl, en, hd⟩ := tupK_inv hh.1
      have ql := RT.look en q1
      rw [gl] at ql
      obtain ⟨v, p, e1, r1, r2⟩ := ql
      obtain ⟨b, rfl⟩ := tup_ref rk
      cases (show u = Value.ref b from ry)
      exact wpAny_getItem_heap (knd := nestedKind X.prog X.w) (by show A.in1.units + 8 < cLine; show A.units + 1 + 8 < cLine; omega) ⟨Rep.nested I e _ _ _ _ en rk rfl, hd⟩ dd e1 (hq v _ _ (I.tok _) r1 r2)
  · split at g
    · next hm =>
      have gl : lookD ds k = some d := Option.some.inj g
      obtain ⟨⟨n, hn, h8⟩, hns, hall⟩ := mixB_inv hm
      obtain ⟨⟨o, ho, hx, hd⟩, _, _⟩ := rawD_at I h
      refine getItem_mix (by omega) hx (Rep.nested I e _ _ _ _ hn rk ry) h8 (noStr_val hns rk ry) ho hd (RepKV.entK I e r hall) (nsOf_nodup hall nd) ?_ fun j en hj hen => ?_
      · have := look_in hall nd hn
        rw [gl] at this
        exact of_decide_eq_true this.symm
      · obtain ⟨p, h3, h4⟩ := nsOf_at hall hj
        rw [look_at (k := k) nd h3 (by rw [h4, hn])] at gl
        cases gl
        rw [← Array.getElem?_toList] at hen
        obtain ⟨_, v, q1, q2⟩ := RepKV.entL I e r j en p hen h3
        exact hq v _ _ (I.tok _) q1 q2
    · cases g
theorem dd_in {o : Option D} {Q : Value → Shared → Prop} (hu : A.units + 10 < cLine) (I : Inv X pins σ H s) (e : Same F H) (h : H a = some (rawD a es ep)) (r : RepKV X.G F ds es.toList) (nd : (ds.map fun p => keyN p.1).Nodup)
    (rk : Rep X.G F k y) (ry : RelV y u) (g : getD' ds k = some o) (hq : ∀ s', Inv X pins σ H s' → Q (.bool o.isSome) s') : wpAny (model X.prog X.w) A (compareOp .In u (.ref a)) Q E s := by
  have hS := (rawD_at I h).2.1
  unfold getD' at g
  split at g
  · next hh =>
    have gl : lookD ds k = o := Option.some.inj g
    rcases homog_cases hh with ⟨hk, hh⟩ | hh
    · obtain ⟨kvs, q1, dd⟩ := dictS I e h r nd hh
      have ql := RS.look hk q1
      have ey := scal_rep hk rk
      subst ey
      refine wpAny_in_of (kV_is ry) hS dd.mapOf ?_
      have : (valueAt kvs (keyS k)).isSome = o.isSome := by
        rw [gl] at ql
        cases o with
        | none => rw [ql]; rfl
        | some d => obtain ⟨v, w', e1, _⟩ := ql; rw [e1]; rfl
      rw [this]
      exact hq _ (I.tok _)
    · obtain ⟨xs, q1, dd⟩ := dictT I e h r nd hh.2
      obtain ⟨ys, n, rfl, en, hd⟩ := tupK_inv hh.1
      have ql := RT.look en q1
      obtain ⟨b, rfl⟩ := tup_ref rk
      cases (show u = Value.ref b from ry)
      refine wpAny_in_heap (knd := nestedKind X.prog X.w) (by show A.units + 1 + 8 < cLine; omega) ⟨Rep.nested I e _ _ _ _ en rk rfl, hd⟩ hS dd ?_
      have : (atKey xs n).isSome = o.isSome := by
        rw [gl] at ql
        cases o with
        | none => rw [ql]; rfl
        | some d => obtain ⟨v, w', e1, _⟩ := ql; rw [e1]; rfl
      rw [this]
      exact hq _ (I.tok _)
  · split at g
    · next hm =>
      have gl : lookD ds k = o := Option.some.inj g
      obtain ⟨⟨n, hn, h8⟩, hns, hall⟩ := mixB_inv hm
      obtain ⟨⟨o, ho, hx, hd⟩, _, _⟩ := rawD_at I h
      refine in_mix (by omega) hS hx (Rep.nested I e _ _ _ _ hn rk ry) h8 (noStr_val hns rk ry) ho hd (RepKV.entK I e r hall) (nsOf_nodup hall nd) ?_
      rw [← look_in hall nd hn, gl]
      exact hq _ (I.tok _)
    · cases g
theorem dd_notIn {o : Option D} {Q : Value → Shared → Prop} (hu : A.units + 10 < cLine) (I : Inv X pins σ H s) (e : Same F H) (h : H a = some (rawD a es ep)) (r : RepKV X.G F ds es.toList) (nd : (ds.map fun p => keyN p.1).Nodup)
    (rk : Rep X.G F k y) (ry : RelV y u) (g : getD' ds k = some o) (hq : ∀ s', Inv X pins σ H s' → Q (.bool (!o.isSome)) s') : wpAny (model X.prog X.w) A (compareOp .NotIn u (.ref a)) Q E s := by
  have hS := (rawD_at I h).2.1
  unfold getD' at g
  split at g
  · next hh =>
    have gl : lookD ds k = o := Option.some.inj g
    rcases homog_cases hh with ⟨hk, hh⟩ | hh
    · obtain ⟨kvs, q1, dd⟩ := dictS I e h r nd hh
      have ql := RS.look hk q1
      have ey := scal_rep hk rk
      subst ey
      refine wpAny_notIn_of (kV_is ry) hS dd.mapOf ?_
      have : (valueAt kvs (keyS k)).isSome = o.isSome := by
        rw [gl] at ql
        cases o with
        | none => rw [ql]; rfl
        | some d => obtain ⟨v, w', e1, _⟩ := ql; rw [e1]; rfl
      rw [this]
      exact hq _ (I.tok _)
    · obtain ⟨xs, q1, dd⟩ := dictT I e h r nd hh.2
      obtain ⟨ys, n, rfl, en, hd⟩ := tupK_inv hh.1
      have ql := RT.look en q1
      obtain ⟨b, rfl⟩ := tup_ref rk
      cases (show u = Value.ref b from ry)
      refine PyProof.Rows.wpAny_notIn_heap (knd := nestedKind X.prog X.w) (by show A.units + 1 + 8 < cLine; omega) ⟨Rep.nested I e _ _ _ _ en rk rfl, hd⟩ hS dd ?_
      have : (atKey xs n).isSome = o.isSome := by
        rw [gl] at ql
        cases o with
        | none => rw [ql]; rfl
        | some d => obtain ⟨v, w', e1, _⟩ := ql; rw [e1]; rfl
      rw [this]
      exact hq _ (I.tok _)
  · split at g
    · next hm =>
      have gl : lookD ds k = o := Option.some.inj g
      obtain ⟨⟨n, hn, h8⟩, hns, hall⟩ := mixB_inv hm
      obtain ⟨⟨o, ho, hx, hd⟩, _, _⟩ := rawD_at I h
      refine notIn_mix (by omega) hS hx (Rep.nested I e _ _ _ _ hn rk ry) h8 (noStr_val hns rk ry) ho hd (RepKV.entK I e r hall) (nsOf_nodup hall nd) ?_
      rw [← look_in hall nd hn, gl]
      exact hq _ (I.tok _)
    · cases g
/-- d[k] = v: the new object at a -/
theorem dd_put {d : D} {x : V} {r' : Value} {Q : Unit → Shared → Prop} (hu : A.units + 10 < cLine) (I : Inv X pins σ H s) (e : Same F H) (h : H a = some (rawD a es ep)) (r : RepKV X.G F ds es.toList) (nd : (ds.map fun p => keyN p.1).Nodup)
    (rk : Rep X.G F k y) (ry : RelV y u) (rd : Rep X.G F d x) (rx : RelV x r') (g : homog k ds = true ∨ mixB k ds = true) (hl : ds.length < 16777216)
    (hq : ∀ es' ep' s', Inv X pins σ (upd H a (rawD a es' ep')) s' → RepKV X.G F (putD ds k d) es'.toList → Q () s') : wpAny (model X.prog X.w) A (setItem (.ref a) u r') Q E s := by
  have hS := (rawD_at I h).2.1
  have hz : sizeLine = 16777216 := sizeLine_eq
  have mu : Mut (H a) := by rw [h]; exact True.intro
  have hpl := putD_length ds k d
  rcases g with g | hm
  rotate_left
  · obtain ⟨⟨n, hn, h8⟩, hns, hall⟩ := mixB_inv hm
    obtain ⟨⟨o, ho, hx, hd⟩, _, hzz⟩ := rawD_at I h
    have hle : es.toList.length = es.size := Array.length_toList
    have hln := r.length
    refine setItem_mix (by omega) hx (Rep.nested I e _ _ _ _ hn rk ry) h8 (noStr_val hns rk ry) ho hd (RepKV.entK I e r hall) (nsOf_nodup hall nd) (by omega) (fun q h' o' e1 e2 e3 e4 => ?_) fun j hj h' o' e1 e2 e3 e4 => ?_
    · have hp : putD ds k d = ds ++ [(k, d)] := by
        unfold putD
        rw [if_neg (by rw [(look_not hall hn q).2]; exact Bool.false_ne_true)]
      have q3 : RepKV X.G F (putD ds k d) (es.push ⟨n.hash X.w, u, r'⟩).toList := by
        rw [hp, Array.toList_push]
        exact RepKV.snoc hn rk ry rd rx r
      exact hq _ _ _ (d_write I mu e4 ⟨o', e1⟩ (rawD_ok e1 (e2 hx) e3 hS (by rw [Array.size_push]; omega))) q3
    · obtain ⟨p, h3, h4⟩ := nsOf_at hall hj
      have hp : putD ds k d = ds.map fun kv => if keyEq kv.1 k = true then (kv.1, d) else kv := by
        unfold putD
        rw [if_pos (List.any_eq_true.mpr ⟨p, List.mem_of_getElem? h3, decide_eq_true (by rw [h4, hn])⟩)]
      have q3 : RepKV X.G F (putD ds k d) (es.modify j fun e => { e with val := r' }).toList := by
        rw [hp, Array.toList_modify]
        exact RepKV.modi rd rx j r nd h3 (by rw [h4, hn])
      exact hq _ _ _ (d_write I mu e4 ⟨o', e1⟩ (rawD_ok e1 (e2 hx) e3 hS (by rw [Array.size_modify]; omega))) q3
  rcases homog_cases g with ⟨hk, g⟩ | g
  · obtain ⟨kvs, q1, dd⟩ := dictS I e h r nd g
    have ey := scal_rep hk rk
    subst ey
    refine wpAny_setItem_pairs (hsz := by rw [← q1.length]; omega) (kV_is ry) dd fun h' dd' hs => ?_
    obtain ⟨o', es', ep', ho', hx', hd', hks, hps, hnd⟩ := dd'
    have q2 := RS.put hk rd rx q1
    have q3 : RepKV X.G F (putD ds k d) es'.toList := RS.back q2 hps fun z hz => hks z (Array.mem_toList_iff.mp hz)
    have q4 : es'.size ≤ sizeLine := by
      have := q3.length
      have e2 : es'.toList.length = es'.size := Array.length_toList
      omega
    exact hq es' ep' _ (d_write I mu hs ⟨o', ho'⟩ (rawD_ok ho' hx' hd' hS q4)) q3
  · obtain ⟨xs, q1, dd⟩ := dictT I e h r nd g.2
    obtain ⟨ys, n, rfl, en, hdp⟩ := tupK_inv g.1
    obtain ⟨b, rfl⟩ := tup_ref rk
    cases (show u = Value.ref b from ry)
    refine wpAny_setItem_heap (knd := nestedKind X.prog X.w) (hsz := by rw [← q1.length]; omega) (by show A.units + 1 + 8 < cLine; omega) ⟨Rep.nested I e _ _ _ _ en rk rfl, hdp⟩ dd fun h' dd' hs => ?_
    obtain ⟨o', es', ep', ho', hx', hd', hes, his, hnd⟩ := dd'
    have q2 := RT.put g.1 en rk rd rx q1
    have q3 : RepKV X.G F (putD ds (.tup ys) d) es'.toList := by rw [hes]; exact RT.back q2
    have q4 : es'.size ≤ sizeLine := by
      have := q3.length
      have e2 : es'.toList.length = es'.size := Array.length_toList
      omega
    exact hq es' ep' _ (d_write I mu hs ⟨o', ho'⟩ (rawD_ok ho' hx' hd' hS q4)) q3
end
end DL

namespace DL
open PySem L2

/-! ### in, not in -/
def inD : D → D → Option D
  | x, .lst ys => if okD 58 x && okDs 58 ys then some (.bl (ys.any fun y => eqb y x)) else none
  | x, .tup ys => if okD 58 x && okDs 58 ys then some (.bl (ys.any fun y => eqb y x)) else none
  | x, .dic kvs => match getD' kvs x with
    | some o => some (.bl o.isSome)
    | none => none
  | .str x, .str y => some (.bl (!(Builtin.Str.occurrences y x 0 y.length 1).isEmpty))
  | _, _ => none
def ninD (x y : D) : Option D := match inD x y with
  | some (.bl b) => some (.bl (!b))
  | _ => none
theorem getD'_rep {K : Gd} {F H : Hp} {k : D} {v : V} {kvs : List (D × D)} {o : Option D} (h : getD' kvs k = some o) (r : View K F H k v) : Rep K F k v := by
  cases r with
  | rep r => exact r
  | «at» r =>
    unfold getD' at h
    split at h
    · next h2 =>
      rcases homog_cases h2 with ⟨h, _⟩ | ⟨h, _⟩
      · cases r <;> simp [scalK] at h
      · cases r <;> simp [tupK] at h
    · split at h
      · next h2 =>
        obtain ⟨⟨n, hn, _⟩, _⟩ := mixB_inv h2
        cases r <;> simp [keyN] at hn
      · cases h
section
variable {X : Cx}
theorem op_in' (hu : X.A.units + 64 < cLine) : OpR X (compareOp .In) (rOp X.G inD) := by
  intro pins s σ H x y v u Q I rx ry h
  obtain ⟨a, b, z, F, sm, e, vx, vy, q⟩ := h
  have fin : ∀ k s', Inv X pins σ H s' → z = .bl k → EP X pins σ Q (.bool k) s' := fun k s' I' ez => by
    subst ez
    exact ⟨.bl k, H, I', rfl, q _ _ _ Res.same (.bl _)⟩
  unfold inD at e
  split at e
  · next ys =>
    split at e
    · next h =>
      cases e
      rw [Bool.and_eq_true] at h
      have pa := okD_py _ _ h.1
      have pb := okDs_py _ _ h.2
      obtain ⟨as, ra⟩ := vx.reads I sm pa.1 rx
      obtain ⟨bs, rb⟩ := vy.reads I sm (d := .lst ys) (by simpa [toPy, PyData.plain] using pb.1) ry
      refine PySem.SeqAt.in_list_data rb ra pb.1 pa.1 (by omega) (fin _ _ I ?_)
      rw [toPys_map, List.any_map]
      rfl
    · cases e
  · next ys =>
    split at e
    · next h =>
      cases e
      rw [Bool.and_eq_true] at h
      have pa := okD_py _ _ h.1
      have pb := okDs_py _ _ h.2
      obtain ⟨as, ra⟩ := vx.reads I sm pa.1 rx
      obtain ⟨bs, rb⟩ := vy.reads I sm (d := .tup ys) (by simpa [toPy, PyData.plain] using pb.1) ry
      refine PySem.SeqAt.in_tuple_data rb ra pb.1 pa.1 (by omega) (fin _ _ I ?_)
      rw [toPys_map, List.any_map]
      rfl
    · cases e
  · next kvs =>
    split at e
    · next o ho =>
      cases e
      obtain ⟨p, es, ep, rfl, hp, r, nd⟩ := vy.dic sm
      cases ry
      exact dd_in (by omega) I sm hp r nd (getD'_rep ho vx) rx ho fun s' I' => fin _ _ I' rfl
    · cases e
  · next i j =>
    cases e
    cases vx.str
    cases vy.str
    obtain ⟨t, rfl⟩ := rx
    obtain ⟨t', rfl⟩ := ry
    exact PyProof.Rows.in_str (fin _ _ I rfl)
  · cases e
theorem op_nin' (hu : X.A.units + 64 < cLine) : OpR X (compareOp .NotIn) (rOp X.G ninD) := by
  intro pins s σ H x y v u Q I rx ry h
  obtain ⟨a, b, z, F, sm, e0, vx, vy, q⟩ := h
  unfold ninD at e0
  split at e0
  next k e =>
    cases e0
    have fin : ∀ k' s', Inv X pins σ H s' → k' = !k → EP X pins σ Q (.bool k') s' := fun k' s' I' ez => by
      subst ez
      exact ⟨.bl _, H, I', rfl, q _ _ _ Res.same (.bl _)⟩
    unfold inD at e
    split at e
    · next ys =>
      split at e
      · next h =>
        cases e
        rw [Bool.and_eq_true] at h
        have pa := okD_py _ _ h.1
        have pb := okDs_py _ _ h.2
        obtain ⟨as, ra⟩ := vx.reads I sm pa.1 rx
        obtain ⟨bs, rb⟩ := vy.reads I sm (d := .lst ys) (by simpa [toPy, PyData.plain] using pb.1) ry
        refine PySem.SeqAt.notIn_list_data rb ra pb.1 pa.1 (by omega) (fin _ _ I ?_)
        rw [toPys_map, List.any_map]
        rfl
      · cases e
    · next ys =>
      split at e
      · next h =>
        cases e
        rw [Bool.and_eq_true] at h
        have pa := okD_py _ _ h.1
        have pb := okDs_py _ _ h.2
        obtain ⟨as, ra⟩ := vx.reads I sm pa.1 rx
        obtain ⟨bs, rb⟩ := vy.reads I sm (d := .tup ys) (by simpa [toPy, PyData.plain] using pb.1) ry
        refine PySem.SeqAt.notIn_tuple_data rb ra pb.1 pa.1 (by omega) (fin _ _ I ?_)
        rw [toPys_map, List.any_map]
        rfl
      · cases e
    · next kvs =>
      split at e
      · next o ho =>
        cases e
        obtain ⟨p, es, ep, rfl, hp, r, nd⟩ := vy.dic sm
        cases ry
        exact dd_notIn (by omega) I sm hp r nd (getD'_rep ho vx) rx ho fun s' I' => fin _ _ I' rfl
      · cases e
    · next i j =>
      cases e
      cases vx.str
      cases vy.str
      obtain ⟨t, rfl⟩ := rx
      obtain ⟨t', rfl⟩ := ry
      exact PyProof.Rows.notIn_str (fin _ _ I rfl)
    · cases e
  · cases e0
end

/-! ### and, or, not, if else -/
def andE (a b : EM) : EM := fun η => match a η with
  | some (.bl true, η') => b η'
  | some (.bl false, η') => some (.bl false, η')
  | _ => none
def orE (a b : EM) : EM := fun η => match a η with
  | some (.bl true, η') => some (.bl true, η')
  | some (.bl false, η') => b η'
  | _ => none
def notE (a : EM) : EM := fun η => match a η with
  | some (.bl b, η') => some (.bl (!b), η')
  | _ => none
def ifE (c : BM) (a b : EM) : EM := fun η => match c η with
  | some (true, η') => a η'
  | some (false, η') => b η'
  | none => none
def andB (a b : BM) : BM := fun η => match a η with
  | some (true, η') => b η'
  | some (false, η') => some (false, η')
  | none => none
def orB (a b : BM) : BM := fun η => match a η with
  | some (true, η') => some (true, η')
  | some (false, η') => b η'
  | none => none
def notBM (a : BM) : BM := fun η => match a η with
  | some (b, η') => some (!b, η')
  | none => none
section
variable {X : Cx} {a b c : Expr} {rest : List Expr} {pos : Pos} {ma mb : EM} {na nb nc : BM}
theorem pd_one {op} (h : PE X a (tD X.G ma)) : PE X (.BoolOp op [a] pos) (tD X.G ma) := pe_one h
theorem pd_and (ha : PE X a (tD X.G ma)) (hb : PE X (.BoolOp .And (b :: rest) pos) (tD X.G mb)) : PE X (.BoolOp .And (a :: b :: rest) pos) (tD X.G (andE ma mb)) :=
  weakE (pe_and ha hb) fun σ H Q ⟨B, F, Z, η, d, η', ok, hm, q⟩ => by
    unfold andE at hm
    split at hm
    · next η1 h1 =>
      refine ⟨B, F, Z, η, _, η1, ok, h1, fun v H1 F1 s1 ok1 r1 => ?_⟩
      cases r1
      refine ⟨true, rfl, ?_⟩
      refine iteT ?_
      exact ⟨B, F1, Z, η1, d, η', ok1, hm, fun v H2 F2 s2 ok2 r2 => q v H2 F2 (s1.trans s2) ok2 r2⟩
    · next η1 h1 =>
      cases hm
      refine ⟨B, F, Z, η, _, _, ok, h1, fun v H1 F1 s1 ok1 r1 => ?_⟩
      cases r1
      exact ⟨false, rfl, q _ _ _ s1 ok1 (.bl _)⟩
    · cases hm
theorem pd_or (ha : PE X a (tD X.G ma)) (hb : PE X (.BoolOp .Or (b :: rest) pos) (tD X.G mb)) : PE X (.BoolOp .Or (a :: b :: rest) pos) (tD X.G (orE ma mb)) :=
  weakE (pe_or ha hb) fun σ H Q ⟨B, F, Z, η, d, η', ok, hm, q⟩ => by
    unfold orE at hm
    split at hm
    · next η1 h1 =>
      cases hm
      refine ⟨B, F, Z, η, _, _, ok, h1, fun v H1 F1 s1 ok1 r1 => ?_⟩
      cases r1
      exact ⟨true, rfl, q _ _ _ s1 ok1 (.bl _)⟩
    · next η1 h1 =>
      refine ⟨B, F, Z, η, _, η1, ok, h1, fun v H1 F1 s1 ok1 r1 => ?_⟩
      cases r1
      refine ⟨false, rfl, ?_⟩
      refine iteF ?_
      exact ⟨B, F1, Z, η1, d, η', ok1, hm, fun v H2 F2 s2 ok2 r2 => q v H2 F2 (s1.trans s2) ok2 r2⟩
    · cases hm
theorem pd_not (ha : PE X a (tD X.G ma)) : PE X (.UnaryOp .Not a pos) (tD X.G (notE ma)) :=
  weakE (pe_not ha) fun σ H Q ⟨B, F, Z, η, d, η', ok, hm, q⟩ => by
    unfold notE at hm
    split at hm
    · next b η1 h1 =>
      cases hm
      refine ⟨B, F, Z, η, _, _, ok, h1, fun v H1 F1 s1 ok1 r1 => ?_⟩
      cases r1
      exact ⟨_, rfl, q _ _ _ s1 ok1 (.bl _)⟩
    · cases hm
theorem pd_ifExp (hc : PT X c (tBt X.G nc)) (ha : PE X a (tD X.G ma)) (hb : PE X b (tD X.G mb)) : PE X (.IfExp c a b pos) (tD X.G (ifE nc ma mb)) :=
  weakE (pe_ifExp hc ha hb) fun σ H Q ⟨B, F, Z, η, d, η', ok, hm, q⟩ => by
    unfold ifE at hm
    split at hm
    · next η1 h1 =>
      refine ⟨B, F, Z, η, _, η1, ok, h1, fun H1 F1 s1 ok1 => ?_⟩
      refine iteT ?_
      exact ⟨B, F1, Z, η1, d, η', ok1, hm, fun v H2 F2 s2 ok2 r2 => q v H2 F2 (s1.trans s2) ok2 r2⟩
    · next η1 h1 =>
      refine ⟨B, F, Z, η, _, η1, ok, h1, fun H1 F1 s1 ok1 => ?_⟩
      refine iteF ?_
      exact ⟨B, F1, Z, η1, d, η', ok1, hm, fun v H2 F2 s2 ok2 r2 => q v H2 F2 (s1.trans s2) ok2 r2⟩
    · cases hm
/-- a test by its value, a bool -/
theorem pb_val (h : PE X a (tD X.G ma)) (he : ∀ whole, isTrue a X.env whole = (do let v ← whole; standAt a.pos; holding [v] (truthy v)) := by intro _; rfl) : PT X a (tBt X.G (boolD ma)) :=
  weakT (pt_val h he) fun σ H Q h => tB_D σ H Q (fun Q' q => q) h
theorem pw_and1' (ha : PT X a (tBt X.G na)) : PW X (.BoolOp .And [a] pos) (tBt X.G na) := pw_and1 ha
theorem pw_or1' (ha : PT X a (tBt X.G na)) : PW X (.BoolOp .Or [a] pos) (tBt X.G na) := pw_or1 ha
theorem pw_and' (ha : PT X a (tBt X.G na)) (hb : PW X (.BoolOp .And (b :: rest) pos) (tBt X.G nb)) : PW X (.BoolOp .And (a :: b :: rest) pos) (tBt X.G (andB na nb)) :=
  weakW (pw_and ha hb) fun σ H Q ⟨B, F, Z, η, d, η', ok, hm, q⟩ => by
    unfold andB at hm
    split at hm
    · next η1 h1 =>
      refine ⟨B, F, Z, η, _, η1, ok, h1, fun H1 F1 s1 ok1 => ?_⟩
      refine iteT ?_
      exact ⟨B, F1, Z, η1, d, η', ok1, hm, fun H2 F2 s2 ok2 => q H2 F2 (s1.trans s2) ok2⟩
    · next η1 h1 =>
      cases hm
      exact ⟨B, F, Z, η, _, _, ok, h1, fun H1 F1 s1 ok1 => q _ _ s1 ok1⟩
    · cases hm
theorem pw_or' (ha : PT X a (tBt X.G na)) (hb : PW X (.BoolOp .Or (b :: rest) pos) (tBt X.G nb)) : PW X (.BoolOp .Or (a :: b :: rest) pos) (tBt X.G (orB na nb)) :=
  weakW (pw_or ha hb) fun σ H Q ⟨B, F, Z, η, d, η', ok, hm, q⟩ => by
    unfold orB at hm
    split at hm
    · next η1 h1 =>
      cases hm
      exact ⟨B, F, Z, η, _, _, ok, h1, fun H1 F1 s1 ok1 => q _ _ s1 ok1⟩
    · next η1 h1 =>
      refine ⟨B, F, Z, η, _, η1, ok, h1, fun H1 F1 s1 ok1 => ?_⟩
      refine iteF ?_
      exact ⟨B, F1, Z, η1, d, η', ok1, hm, fun H2 F2 s2 ok2 => q H2 F2 (s1.trans s2) ok2⟩
    · cases hm
theorem pb_of (h : PW X a (tBt X.G na)) : PT X a (tBt X.G na) := h.pt
theorem pb_not (ha : PT X a (tBt X.G na)) : PT X (.UnaryOp .Not a pos) (tBt X.G (notBM na)) :=
  weakT (pt_not ha) fun σ H Q ⟨B, F, Z, η, d, η', ok, hm, q⟩ => by
    unfold notBM at hm
    split at hm
    · next b η1 h1 =>
      cases hm
      exact ⟨B, F, Z, η, _, _, ok, h1, fun H1 F1 s1 ok1 => q _ _ s1 ok1⟩
    · cases hm
end

/-! ### displays -/
def tupE (a : AM) : EM := fun η => match a η with
  | some (ds, η') => if ds.length ≤ 1000 then some (.tup ds, η') else none
  | none => none
def lstE (a : AM) : EM := fun η => match a η with
  | some (ds, η') => if ds.length ≤ 1000 then some (.lst ds, η') else none
  | none => none
theorem Ok.notNew {K : Gd} {B F : Hp} {Z : Pins} {η : Env} {σ : L2.St} {H : Hp} (ok : Ok K B F Z η σ H) {p : Addr} (h : H p = none) (i : Nat) (d : D) (hi : Own η[i]? d) : σ[i]? ≠ some (some (.ref p)) := fun e => by
  obtain ⟨a, h1, _, _, h4⟩ := ok.ow i d hi
  obtain ⟨o, ho, _⟩ := h4.some
  rw [h1] at e
  cases e
  rw [h] at ho
  cases ho
theorem Ok.bnone {K : Gd} {B F : Hp} {Z : Pins} {η : Env} {σ : L2.St} {H : Hp} (ok : Ok K B F Z η σ H) {p : Addr} (h : H p = none) : B p = none := ok.bb.free h
section
variable {X : Cx} {es : List Expr} {pos : Pos} {ma : AM}
theorem line1000 {n : Nat} (h : n ≤ 1000) : n ≤ sizeLine := by rw [sizeLine_eq]; omega
theorem pd_tup {x1} (h : PA X es (tDA X.G ma)) : PE X (.Tuple es x1 pos) (tD X.G (tupE ma)) := weakE (pe_tupN h) fun σ H Q ⟨B, F, Z, η, d, η', ok, hm, q⟩ => by
  unfold tupE at hm
  split at hm
  · next ds η1 h1 =>
    split at hm
    · next hl =>
      cases hm
      refine ⟨B, F, Z, η, ds, _, ok, h1, fun vs H1 F1 s1 ok1 r1 => ⟨by rw [← r1.length]; exact line1000 hl, fun p ob hp hd => ?_⟩⟩
      exact q _ _ _ (s1.trans (Same.upd (ok1.free hp))) (ok1.newF hp) (.tup (SqN.of hd) (r1.mono (Same.upd (ok1.free hp))))
    · cases hm
  · cases hm
theorem po_lst (h : PA X es (tDA X.G ma)) : PE X (.List es pos) (tO X.G (lstE ma)) := weakE (pe_lst h) fun σ H Q ⟨B, F, Z, η, d, η', ok, hm, q⟩ => by
  unfold lstE at hm
  split at hm
  · next ds η1 h1 =>
    split at hm
    · next hl =>
      cases hm
      refine ⟨B, F, Z, η, ds, _, ok, h1, fun vs H1 F1 s1 ok1 r1 => ⟨by rw [← r1.length]; exact line1000 hl, fun p hp => ?_⟩⟩
      exact q _ _ _ s1 (ok1.newH hp) (ok1.bnone hp) (ok1.free hp) (.lst upd_same r1) fun i e hi => ok1.notNew hp i e hi
    · cases hm
  · cases hm
end

/-! ### subscripts -/
def strAt (z : Str) (i : Int) : Option D := match atI z.cps.toList i with
  | some c => some (.str ⟨#[c]⟩)
  | none => none
def idxD : D → D → Option D
  | .lst xs, .int i => atI xs i
  | .frl xs, .int i => atI xs i
  | .tup xs, .int i => atI xs i
  | .str z, .int i => if z.length ≤ 16777216 then strAt z i else none
  | .dic kvs, k => match getD' kvs k with
    | some (some d) => some d
    | _ => none
  | _, _ => none
theorem RepL.atI {K : Gd} {F : Hp} {ds : List D} {vs : List V} {i : Int} {d : D} (r : RepL K F ds vs) (h : L2.atI ds i = some d) : ∃ v, L2.atI vs i = some v ∧ Rep K F d v := by
  unfold L2.atI at h ⊢
  rw [← r.length]
  cases e : ixN ds.length i with
  | none => rw [e] at h; cases h
  | some j =>
    rw [e] at h
    exact r.get h
section
variable {X : Cx} {a b : Expr} {pos : Pos} {ma mb : VM}
theorem ix_dict (hu : X.A.units + 64 < cLine) : IxR X (fun x y H Q => ∃ (F : Hp) (p : Addr) (es : Array DictEntry) (ep : Nat) (ds : List (D × D)) (k d : D), x = .ref p ∧ Same F H ∧ H p = some (rawD p es ep) ∧ RepKV X.G F ds es.toList ∧ (ds.map fun q => keyN q.1).Nodup ∧ Rep X.G F k y ∧
    getD' ds k = some (some d) ∧ ∀ v, Rep X.G F d v → Q v H) := by
  intro value slice pins s σ H x y v u Q I rx ry h hs
  obtain ⟨F, p, es, ep, ds, k, d, rfl, sm, hp, r, nd, rk, g, q⟩ := h
  cases rx
  have T : s.TypeIs (.ref p) "dict" := by
    obtain ⟨⟨o, ho, hx, hd⟩, _, _⟩ := rawD_at I hp
    exact ⟨o, ho, hx.1⟩
  unfold PyProof.Rows.subscriptTail
  refine wpAny_bind ?_
  rw [getitemInPython_of_ne T.not_modules]
  refine wpAny_bind (wpAny_specialOf T PySem.F.slot_dict_getitem.lookup ?_)
  have fin : wpAny (model X.prog X.w) X.A (subscripted slice false (.ref p) u) (fun r s₃ => wpAny (model X.prog X.w) X.A (letTemporaryGo value (.ref p) r >>= fun _ => pure r) (EP X pins σ Q) X.xe s₃) X.xe s := by
    rw [hs]
    exact wpAny_operating (thn (dd_get (by omega) I sm hp r nd rk ry g fun v' w' s' I' r1 r2 => (show EP X pins σ Q w' s' from ⟨v', H, I', r2, q v' r1⟩)) fun r s₃ h₃ => wpAny_bind (wpAny_letTemporaryGo (wpAny_pure h₃)))
  first
    | exact wpAny_pure (wpAny_bind fin)
    | exact wpAny_bind (wpAny_pure (wpAny_bind fin))
    | exact wpAny_bind fin
theorem ix_any (hu : X.A.units + 64 < cLine) : IxR X (rOp X.G idxD) :=
  weakIx (IxR.or ix_list (IxR.or ix_tup (IxR.or ix_str (ix_dict hu)))) fun v w H Q ⟨x, y, z, F, s, e, vx, vy, q⟩ => by
    unfold idxD at e
    split at e
    · next xs i =>
      obtain ⟨p, vs, rfl, hp, r⟩ := vx.lst s
      obtain ⟨v', h1, h2⟩ := r.atI e
      exact .inl ⟨p, vs, i, v', rfl, vy.int, SqL.of hp, h1, q _ _ _ Res.same h2⟩
    · next xs i =>
      obtain ⟨p, vs, rfl, hp, r⟩ := vx.frl s
      obtain ⟨v', h1, h2⟩ := r.atI e
      exact .inl ⟨p, vs, i, v', rfl, vy.int, hp, h1, q _ _ _ Res.same h2⟩
    · next xs i =>
      obtain ⟨p, vs, rfl, hp, r⟩ := vx.tup s
      obtain ⟨v', h1, h2⟩ := r.atI e
      exact .inr (.inl ⟨p, vs, i, v', rfl, vy.int, hp, h1, q _ _ _ Res.same h2⟩)
    · next t i =>
      split at e
      · next hl =>
        unfold strAt at e
        split at e
        · next c hc => cases e; exact .inr (.inr (.inl ⟨t, i, c, vx.str, vy.int, line_eq hl, hc, q _ _ _ Res.same (.str _)⟩))
        · cases e
      · cases e
    · next k kvs =>
      split at e
      · next d hd =>
        cases e
        obtain ⟨p, es, ep, rfl, hp, r, nd⟩ := vx.dic s
        exact .inr (.inr (.inr ⟨F, p, es, ep, kvs, y, z, rfl, s, hp, r, nd, getD'_rep hd vy, hd, fun v' r' => q _ _ _ Res.same r'⟩))
      · cases e
    · cases e
theorem pd_ix (hu : X.A.units + 64 < cLine) (ha : PE X a (tV X.G ma)) (hb : PE X b (tV X.G mb)) (hs : PlainIx b) : PE X (.Subscript a b pos) (tD X.G (bin2 idxD ma mb)) :=
  weakE (pe_ix (ix_any hu) ha hb hs) tOp_D
end

/-! ### slices -/
abbrev OM := Env → Option (Option Int × Env)
def noO : OM := fun η => some (none, η)
def someO (m : EM) : OM := fun η => match m η with
  | some (.int i, η') => some (some i, η')
  | _ => none
def tOt (K : Gd) (m : OM) : TO := fun σ H Q => ∃ (B F : Hp) (Z : Pins) (η : Env) (d : Option Int) (η' : Env), Ok K B F Z η σ H ∧ m η = some (d, η') ∧
  ∀ (H' F' : Hp), Same F F' → Ok K B F' Z η' σ H' → Q d H'
def cutA {α : Type} (xs : List α) (lo hi : Option Int) : List α := (xs.drop (HT.sIx xs.length 0 lo)).take (HT.sIx xs.length xs.length hi - HT.sIx xs.length 0 lo)
theorem cutA_V (xs : List V) (lo hi : Option Int) : cutV xs lo hi = cutA xs lo hi := rfl
theorem RepL.cut {K : Gd} {F : Hp} {ds : List D} {vs : List V} (lo hi : Option Int) (r : RepL K F ds vs) : RepL K F (cutA ds lo hi) (cutA vs lo hi) := by
  unfold cutA
  rw [r.length]
  exact (r.drop _).take _
def sliceD (x : D) (lo hi : Option Int) : Option D := match x with
  | .tup xs => some (.tup (cutA xs lo hi))
  | .lst xs => some (.lst (cutA xs lo hi))
  | .str z => if z.length ≤ 16777216 then some (.str (cutS z lo hi)) else none
  | _ => none
def sliceE (a : VM) (lo hi : OM) : EM := fun η => match a η with
  | some (η1, pa) => match lo η1 with
    | some (l, η2) => match hi η2 with
      | some (u, η3) => match pa η3 with
        | some x => match sliceD x l u with
          | some z => some (z, η3)
          | none => none
        | none => none
      | none => none
    | none => none
  | none => none
theorem sliceE_inv {a : VM} {lo hi : OM} {η : Env} {z : D} {η3 : Env} (h : sliceE a lo hi η = some (z, η3)) : ∃ η1 η2 pa l u x, a η = some (η1, pa) ∧ lo η1 = some (l, η2) ∧ hi η2 = some (u, η3) ∧ pa η3 = some x ∧ sliceD x l u = some z := by
  unfold sliceE at h
  split at h
  · next η1 pa h1 =>
    split at h
    · next l η2 h2 =>
      split at h
      · next u η3' h3 =>
        split at h
        · next x h4 =>
          split at h
          · next z' h5 => cases h; exact ⟨η1, η2, pa, l, u, x, h1, h2, h3, h4, h5⟩
          · cases h
        · cases h
      · cases h
    · cases h
  · cases h
section
variable {X : Cx} {a : Expr} {lo hi : Option Expr} {pos p2 : Pos} {ma : VM} {ml mh : OM}
theorem po_no : PO X none (tOt X.G noO) := ⟨fun pins s σ H Q I ⟨B, F, Z, η, d, η', ok, hm, q⟩ => po_none.run pins s σ H Q I (by cases hm; exact q _ _ (Same.refl _) ok)⟩
theorem po_sm {e : Expr} {m : EM} (h : PE X e (tD X.G m)) : PO X (some e) (tOt X.G (someO m)) := ⟨fun pins s σ H Q I ⟨B, F, Z, η, d, η', ok, hm, q⟩ => (po_some h).run pins s σ H Q I (by
  unfold someO at hm
  split at hm
  · next i η1 h1 =>
    cases hm
    exact ⟨B, F, Z, η, _, _, ok, h1, fun v H' F' s1 ok1 r1 => by cases r1; exact ⟨i, rfl, q _ _ s1 ok1⟩⟩
  · cases hm)⟩
theorem sl_any : SlR X (fun v lo hi H Q => ∃ (x z : D) (F : Hp), Same F H ∧ sliceD x lo hi = some z ∧ View X.G F H x v ∧ ∀ u F' H', Res F H F' H' → Rep X.G F' z u → Q u H') := by
  refine fun pins s σ H x v vl vu lo hi sl Q I rx hs pl pu h => (SlR.or sl_tupN (SlR.or sl_list sl_str)) pins s σ H x v vl vu lo hi sl Q I rx hs pl pu ?_
  obtain ⟨y, z, F, sm, e, vy, q⟩ := h
  unfold sliceD at e
  split at e
  · next xs =>
    cases e
    have fy := vy.tupF
    obtain ⟨p, vs, rfl, hp, r⟩ := vy.tup sm
    refine .inl ⟨p, vs, rfl, hp, fun hw => ?_, fun hw p' ob hp' hd => ?_⟩
    · have : cutA xs lo hi = xs := by
        unfold cutA
        rw [r.length, hw.1, hw.2, Nat.sub_zero, List.drop_zero, ← r.length, List.take_length]
      rw [this] at q
      exact q _ _ _ Res.same fy
    · exact q _ _ _ (Res.new hp') (.tup (SqN.of hd) ((r.cut lo hi).mono (Same.upd (sm.free hp'))))
  · next xs =>
    cases e
    obtain ⟨p, vs, rfl, hp, r⟩ := vy.lst sm
    exact .inr (.inl ⟨p, vs, rfl, SqL.of hp, fun p' hp' => q _ _ _ (Res.new hp') (.lst upd_same ((r.cut lo hi).mono (Same.upd (sm.free hp'))))⟩)
  · next t =>
    split at e
    · next hl => cases e; exact .inr (.inr ⟨t, vy.str, line_eq hl, q _ _ _ Res.same (.str _)⟩)
    · cases e
  · cases e
theorem pd_slice (ha : PE X a (tV X.G ma)) (hl : PO X lo (tOt X.G ml)) (hh : PO X hi (tOt X.G mh)) : PE X (.Subscript a (.Slice lo hi none p2) pos) (tD X.G (sliceE ma ml mh)) :=
  weakE (pe_slice sl_any ha hl hh) fun σ H Q ⟨B, F, Z, η, d, η', ok, hm, q⟩ => by
    obtain ⟨η1, η2, pa, l, u, x, h1, h2, h3, h4, h5⟩ := sliceE_inv hm
    refine ⟨B, F, Z, η, η1, pa, ok, h1, fun v H1 F1 s1 ok1 r1 => ⟨B, F1, Z, η1, l, η2, ok1, h2, fun H2 F2 s2 ok2 => ⟨B, F2, Z, η2, u, η', ok2, h3, fun H3 F3 s3 ok3 => ?_⟩⟩⟩
    refine ⟨x, d, F3, ok3.ff, h5, r1 F3 _ H3 x (s2.trans s3) ok3 h4, fun w F4 H4 rs rp => ?_⟩
    obtain ⟨ok4, s4⟩ := ok3.res rs
    exact q w H4 F4 (((s1.trans s2).trans s3).trans s4) ok4 rp
/-- xs[a:b] of a list, one's own -/
theorem po_slice (ha : PE X a (tV X.G ma)) (hl : PO X lo (tOt X.G ml)) (hh : PO X hi (tOt X.G mh)) : PE X (.Subscript a (.Slice lo hi none p2) pos) (tO X.G (fun η => match sliceE ma ml mh η with | some (.lst xs, η') => some (.lst xs, η') | _ => none)) :=
  weakE (pe_slice sl_list ha hl hh) fun σ H Q ⟨B, F, Z, η, d, η', ok, hm, q⟩ => by
    dsimp only at hm
    split at hm
    · next xs η'' hm' =>
      cases hm
      obtain ⟨η1, η2, pa, l, u, x, h1, h2, h3, h4, h5⟩ := sliceE_inv hm'
      refine ⟨B, F, Z, η, η1, pa, ok, h1, fun v H1 F1 s1 ok1 r1 => ⟨B, F1, Z, η1, l, η2, ok1, h2, fun H2 F2 s2 ok2 => ⟨B, F2, Z, η2, u, _, ok2, h3, fun H3 F3 s3 ok3 => ?_⟩⟩⟩
      have vw := r1 F3 _ H3 x (s2.trans s3) ok3 h4
      unfold sliceD at h5
      split at h5
      · cases h5
      · cases h5
        obtain ⟨p, vs, rfl, hp, r⟩ := vw.lst ok3.ff
        refine ⟨p, vs, rfl, SqL.of hp, fun p' hp' => ?_⟩
        exact q _ _ _ ((s1.trans s2).trans s3) (ok3.newH hp') (ok3.bnone hp') (ok3.free hp') (.lst upd_same (r.cut l u)) fun i e hi => ok3.notNew hp' i e hi
      · split at h5 <;> cases h5
      · cases h5
    · cases hm
/-- xs[::-1] of a list -/
def revD : D → Option D
  | .lst xs => some (.lst xs.reverse)
  | _ => none
def un1 (g : D → Option D) (a : VM) : EM := fun η => match a η with
  | some (η1, pa) => match pa η1 with
    | some x => match g x with
      | some z => some (z, η1)
      | none => none
    | none => none
  | none => none
theorem un1_inv {g : D → Option D} {a : VM} {η : Env} {z : D} {η1 : Env} (h : un1 g a η = some (z, η1)) : ∃ pa x, a η = some (η1, pa) ∧ pa η1 = some x ∧ g x = some z := by
  unfold un1 at h
  split at h
  · next η' pa h1 =>
    split at h
    · next x h2 =>
      split at h
      · next z' h3 => cases h; exact ⟨pa, x, h1, h2, h3⟩
      · cases h
    · cases h
  · cases h
theorem pd_rev {k : Nat} {p1 p2 p3 : Pos} (ha : PE X a (tV X.G ma)) : PE X (.Subscript a (.Slice none none (some (.UnaryOp .USub (.Constant (.int 1) k p1) p2)) p3) pos) (tD X.G (un1 revD ma)) :=
  weakE (pe_revL ha) fun σ H Q ⟨B, F, Z, η, d, η', ok, hm, q⟩ => by
    obtain ⟨pa, x, h1, h2, h3⟩ := un1_inv hm
    refine ⟨B, F, Z, η, η', pa, ok, h1, fun v H1 F1 s1 ok1 r1 => ?_⟩
    have vw := r1 F1 _ H1 x (Same.refl _) ok1 h2
    unfold revD at h3
    split at h3
    · cases h3
      obtain ⟨p, vs, rfl, hp, r⟩ := vw.lst ok1.ff
      refine ⟨p, vs, rfl, SqL.of hp, fun p' hp' => ?_⟩
      exact q _ _ _ (s1.trans (Same.upd (ok1.free hp'))) (ok1.newF hp') (.lst upd_same (r.reverse.mono (Same.upd (ok1.free hp'))))
    · cases h3
def negD : D → Option D
  | .int i => some (.int (-i))
  | _ => none
theorem pd_neg (ha : PE X a (tV X.G ma)) : PE X (.UnaryOp .USub a pos) (tD X.G (un1 negD ma)) :=
  weakE (pe_un un_neg ha) fun σ H Q ⟨B, F, Z, η, d, η', ok, hm, q⟩ => by
    obtain ⟨pa, x, h1, h2, h3⟩ := un1_inv hm
    refine ⟨B, F, Z, η, η', pa, ok, h1, fun v H1 F1 s1 ok1 r1 => ?_⟩
    have vw := r1 F1 _ H1 x (Same.refl _) ok1 h2
    unfold negD at h3
    split at h3
    · next i => cases h3; exact ⟨i, vw.int, q _ _ _ s1 ok1 (.int _)⟩
    · cases h3
end
end DL

namespace DL
open PySem L2

/-! ### statements -/
def setSlot (η : Env) (i : Nat) (s : S) : Option Env := match η[i]? with
  | some (.io _) => none
  | some _ => some (η.set i s)
  | none => none
theorem setSlot_inv {η η' : Env} {i : Nat} {s : S} (h : setSlot η i s = some η') : i < η.length ∧ (∀ d, η[i]? ≠ some (.io d)) ∧ η' = η.set i s := by
  unfold setSlot at h
  split at h
  · cases h
  · next x hx e =>
    cases h
    exact ⟨(List.getElem?_eq_some_iff.mp e).1, fun d e' => by rw [e] at e'; cases e'; exact hx d rfl, rfl⟩
  · cases h

def Post (K : Gd) (B : Hp) (Z : Pins) (F : Hp) (Dn : Ends) (η' : Env) : Out → Prop
  | .nx => ∀ (σ' : L2.St) (H' F' : Hp), Same F F' → Ok K B F' Z η' σ' H' → Dn.nx σ' H'
  | .bk => ∀ (σ' : L2.St) (H' F' : Hp), Same F F' → Ok K B F' Z η' σ' H' → Dn.bk σ' H'
  | .rt d => ∀ (v : V) (σ' : L2.St) (H' F' : Hp), Same F F' → Ok K B F' Z η' σ' H' → Rep K F' d v → Dn.rt v H'
theorem Post.mono {K : Gd} {B : Hp} {Z : Pins} {F F1 : Hp} {Dn : Ends} {η' : Env} {o : Out} (h : Post K B Z F Dn η' o) (s : Same F F1) : Post K B Z F1 Dn η' o := by
  cases o with
  | nx => exact fun σ' H' F' s' ok => h σ' H' F' (s.trans s') ok
  | bk => exact fun σ' H' F' s' ok => h σ' H' F' (s.trans s') ok
  | rt d => exact fun v σ' H' F' s' ok r => h v σ' H' F' (s.trans s') ok r
def tS (K : Gd) (m : SM) : TS := fun Dn σ H => ∃ (B F : Hp) (Z : Pins) (η : Env) (o : Out) (η' : Env), Ok K B F Z η σ H ∧ m η = some (o, η') ∧ Post K B Z F Dn η' o
theorem weakS {X : Cx} {st : Stmt} {t t' : TS} (h : PS X st t) (w : ∀ D σ H, t' D σ H → t D σ H) : PS X st t' := ⟨fun pins s σ H D I q => h.run pins s σ H D I (w D σ H q)⟩
theorem weakSs {X : Cx} {st : List Stmt} {t t' : TS} (h : PSs X st t) (w : ∀ D σ H, t' D σ H → t D σ H) : PSs X st t' := ⟨fun pins s σ H D I q => h.run pins s σ H D I (w D σ H q)⟩

def nopM : SM := fun η => some (.nx, η)
def failM : SM := fun _ => none
def failE : EM := fun _ => none
def seqM (a b : SM) : SM := fun η => match a η with
  | some (.nx, η1) => b η1
  | r => r
def exprS (m : EM) : SM := fun η => match m η with
  | some (_, η') => some (.nx, η')
  | none => none
def retM (m : EM) : SM := fun η => match m η with
  | some (d, η') => some (.rt d, η')
  | none => none
def ifM (c : BM) (a b : SM) : SM := fun η => match c η with
  | some (true, η') => a η'
  | some (false, η') => b η'
  | none => none
def setS (i : Nat) (m : EM) : SM := fun η => match m η with
  | some (d, η') => match setSlot η' i (.sh d) with
    | some η2 => some (.nx, η2)
    | none => none
  | none => none
def setO (i : Nat) (m : EM) : SM := fun η => match m η with
  | some (d, η') => match setSlot η' i (.ow d) with
    | some η2 => some (.nx, η2)
    | none => none
  | none => none
def brkM : SM := fun η => some (.bk, η)

section
variable {X : Cx} {st : Stmt} {rest : List Stmt} {e c : Expr} {a b : List Stmt} {pos pos' : Pos} {m m' : SM} {me : EM} {mb : BM}
theorem ss_nil : PSs X [] (tS X.G nopM) := weakSs pss_nil fun D σ H ⟨B, F, Z, η, o, η', ok, hm, q⟩ => by
  cases hm
  exact q σ H F (Same.refl _) ok
theorem ss_cons (h1 : PS X st (tS X.G m)) (h2 : PSs X rest (tS X.G m')) : PSs X (st :: rest) (tS X.G (seqM m m')) := weakSs (pss_cons h1 h2) fun D σ H ⟨B, F, Z, η, o, η', ok, hm, q⟩ => by
  unfold seqM at hm
  split at hm
  · next η1 h =>
    exact ⟨B, F, Z, η, .nx, η1, ok, h, fun σ' H' F' s ok' => ⟨B, F', Z, η1, o, η', ok', hm, q.mono s⟩⟩
  · next r hr =>
    refine ⟨B, F, Z, η, o, η', ok, hm, ?_⟩
    cases o with
    | nx => exact absurd hm (hr η')
    | bk => exact q
    | rt d => exact q
theorem ss_one (h1 : PS X st (tS X.G m)) : PSs X [st] (tS X.G m) := pss_one h1
theorem s_doc {x j} : PS X (.Expr (.Constant (.str x) j pos) pos') (tS X.G nopM) := weakS ps_doc fun D σ H ⟨B, F, Z, η, o, η', ok, hm, q⟩ => by
  cases hm
  exact q σ H F (Same.refl _) ok
theorem s_pass : PS X (.Pass pos) (tS X.G nopM) := weakS ps_pass fun D σ H ⟨B, F, Z, η, o, η', ok, hm, q⟩ => by
  cases hm
  exact q σ H F (Same.refl _) ok
theorem s_break : PS X (.Break pos) (tS X.G brkM) := weakS ps_break fun D σ H ⟨B, F, Z, η, o, η', ok, hm, q⟩ => by
  cases hm
  exact q σ H F (Same.refl _) ok
theorem s_never : PS X st (tS X.G failM) := weakS ps_never fun D σ H ⟨B, F, Z, η, o, η', ok, hm, q⟩ => by cases hm
theorem ss_never {sts : List Stmt} : PSs X sts (tS X.G failM) := weakSs pss_never fun D σ H ⟨B, F, Z, η, o, η', ok, hm, q⟩ => by cases hm
theorem pd_never {e : Expr} : PE X e (tD X.G failE) := ⟨fun pins s σ H Q I ⟨B, F, Z, η, d, η', ok, hm, q⟩ => by cases hm⟩
theorem pb_never {e : Expr} : PT X e (tBt X.G (fun _ => none)) := ⟨fun pins s σ H Q I ⟨B, F, Z, η, d, η', ok, hm, q⟩ => by cases hm⟩
theorem s_expr (he : PE X e (tD X.G me)) (hs : swapsWith e none pos.line X.env = pure false := by rfl) : PS X (.Expr e pos) (tS X.G (exprS me)) := weakS (ps_expr he hs) fun D σ H ⟨B, F, Z, η, o, η', ok, hm, q⟩ => by
  unfold exprS at hm
  split at hm
  · next d η1 h =>
    cases hm
    exact ⟨B, F, Z, η, d, _, ok, h, fun v H' F' s ok' r => q σ H' F' s ok'⟩
  · cases hm
theorem s_ret (he : PE X e (tD X.G me)) : PS X (.Return (some e) pos) (tS X.G (retM me)) := weakS (ps_ret he) fun D σ H ⟨B, F, Z, η, o, η', ok, hm, q⟩ => by
  unfold retM at hm
  split at hm
  · next d η1 h =>
    cases hm
    exact ⟨B, F, Z, η, d, _, ok, h, fun v H' F' s ok' r => q v σ H' F' s ok' r⟩
  · cases hm
theorem s_retN : PS X (.Return none pos) (tS X.G (retM (cE .non))) := weakS ps_retN fun D σ H ⟨B, F, Z, η, o, η', ok, hm, q⟩ => by
  cases hm
  exact q .non σ H F (Same.refl _) ok .non
theorem s_if (hc : PT X c (tBt X.G mb)) (ha : PSs X a (tS X.G m)) (hb : PSs X b (tS X.G m')) : PS X (.If c a b pos) (tS X.G (ifM mb m m')) := weakS (ps_if hc ha hb) fun D σ H ⟨B, F, Z, η, o, η', ok, hm, q⟩ => by
  unfold ifM at hm
  split at hm
  · next η1 h =>
    exact ⟨B, F, Z, η, true, η1, ok, h, fun H' F' s ok' => iteT ⟨B, F', Z, η1, o, η', ok', hm, q.mono s⟩⟩
  · next η1 h =>
    exact ⟨B, F, Z, η, false, η1, ok, h, fun H' F' s ok' => iteF ⟨B, F', Z, η1, o, η', ok', hm, q.mono s⟩⟩
  · cases hm
theorem setS_tg {i : Nat} (D : Ends) (σ : L2.St) (H : Hp) (h : tS X.G (setS i me) D σ H) : tAsg (tD X.G me) (gName i) D σ H := by
  obtain ⟨B, F, Z, η, o, η', ok, hm, q⟩ := h
  unfold setS at hm
  split at hm
  · next d η1 h =>
    split at hm
    · next η2 h2 =>
      cases hm
      obtain ⟨hi, hn, rfl⟩ := setSlot_inv h2
      exact ⟨B, F, Z, η, d, η1, ok, h, fun v H' F' s ok' r => q _ H' F' s (ok'.setSh hi hn r)⟩
    · cases hm
  · cases hm
theorem setO_tg {i : Nat} (D : Ends) (σ : L2.St) (H : Hp) (h : tS X.G (setO i me) D σ H) : tAsg (tO X.G me) (gName i) D σ H := by
  obtain ⟨B, F, Z, η, o, η', ok, hm, q⟩ := h
  unfold setO at hm
  split at hm
  · next d η1 h =>
    split at hm
    · next η2 h2 =>
      cases hm
      obtain ⟨hi, hn, rfl⟩ := setSlot_inv h2
      exact ⟨B, F, Z, η, d, η1, ok, h, fun p H' F' s ok' hB hF hA ho => q _ H' F' s (ok'.setOw hi hn hB hF hA ho)⟩
    · cases hm
  · cases hm
theorem s_set {i : Nat} {x : Str} (hN : X.N.Nodup) (hi : X.N[i]? = some x) (hx : Loc X.env.scope x) (he : PE X e (tD X.G me)) (hs : swapsWith e (some (.Name x pos')) pos.line X.env = pure false := by rfl) (hf : X.fn x = true ∨ X.env.scope.names.lookup x = some .local := by first | exact .inl rfl | exact .inr rfl | assumption) :
    PS X (.Assign [.Name x pos'] e pos) (tS X.G (setS i me)) := weakS (ps_set hN hi hx he hs hf) setS_tg
theorem s_setO {i : Nat} {x : Str} (hN : X.N.Nodup) (hi : X.N[i]? = some x) (hx : Loc X.env.scope x) (he : PE X e (tO X.G me)) (hs : swapsWith e (some (.Name x pos')) pos.line X.env = pure false := by rfl) (hf : X.fn x = true ∨ X.env.scope.names.lookup x = some .local := by first | exact .inl rfl | exact .inr rfl | assumption) :
    PS X (.Assign [.Name x pos'] e pos) (tS X.G (setO i me)) := weakS (ps_set hN hi hx he hs hf) setO_tg

/-! #### targets -/
abbrev TgM := D → Env → Option Env
def tG (K : Gd) (vs : List Nat) (g : TgM) : TG := fun v σ H Q => ∃ (B F : Hp) (Z : Pins) (η : Env) (d : D) (η' : Env), Ok K B F Z η σ H ∧ Rep K F d v ∧ g d η = some η' ∧ ∀ (σ' : L2.St) (H' F' : Hp), Same F F' → Ok K B F' Z η' σ' H' → wipe σ' vs = wipe σ vs → Q σ' H'
def tGs (K : Gd) (vs : List Nat) (g : List D → Env → Option Env) : TGs := fun us σ H Q => ∃ (B F : Hp) (Z : Pins) (η : Env) (ds : List D) (η' : Env), Ok K B F Z η σ H ∧ RepL K F ds us ∧ g ds η = some η' ∧ ∀ (σ' : L2.St) (H' F' : Hp), Same F F' → Ok K B F' Z η' σ' H' → wipe σ' vs = wipe σ vs → Q σ' H'
theorem weakG {tg : Expr} {t t' : TG} (h : PG X tg t) (w : ∀ v σ H Q, t' v σ H Q → t v σ H Q) : PG X tg t' := ⟨fun pins s σ H v u Q I r q => h.run pins s σ H v u Q I r (w v σ H Q q)⟩
theorem weakGs {tg : List Expr} {t t' : TGs} (h : PGs X tg t) (w : ∀ v σ H Q, t' v σ H Q → t v σ H Q) : PGs X tg t' := ⟨fun pins s σ H v u Q I r q => h.run pins s σ H v u Q I r (w v σ H Q q)⟩
def nameG (i : Nat) : TgM := fun d η => setSlot η i (.sh d)
def nilG : List D → Env → Option Env := fun ds η => match ds with
  | [] => some η
  | _ => none
def consG (g : TgM) (r : List D → Env → Option Env) : List D → Env → Option Env := fun ds η => match ds with
  | [] => none
  | d :: ds => match g d η with
    | some η1 => r ds η1
    | none => none
def tupG (n : Nat) (r : List D → Env → Option Env) : TgM := fun d η => match d with
  | .tup ds => if ds.length = n then r ds η else none
  | .tuz ds => if ds.length = n then r ds η else none
  | _ => none
theorem wipe_get {σ : L2.St} {i : Nat} : ∀ {vs : List Nat}, i ∈ vs → (wipe σ vs)[i]? = if i < σ.length then some none else none
  | [], h => nomatch h
  | v :: vs, h => by
    unfold wipe
    by_cases e : v = i
    · subst e
      by_cases hl : v < σ.length
      · rw [List.getElem?_set_self (by rw [wipe_length]; exact hl), if_pos hl]
      · rw [List.getElem?_eq_none (by rw [List.length_set, wipe_length]; omega), if_neg hl]
    · rw [List.getElem?_set_ne e]
      rcases List.mem_cons.mp h with h | h
      · exact absurd h.symm e
      · exact wipe_get h
theorem wipe_set {σ : L2.St} {i : Nat} {x : Option V} {vs : List Nat} (h : i ∈ vs) : wipe (σ.set i x) vs = wipe σ vs := by
  apply List.ext_getElem?
  intro j
  by_cases hj : j ∈ vs
  · rw [wipe_get hj, wipe_get hj, List.length_set]
  · rw [wipe_out hj, wipe_out hj, List.getElem?_set_ne (fun (z : i = j) => hj (by rw [← z]; exact h))]
theorem g_name {i : Nat} {x : Str} {vs : List Nat} (hv : i ∈ vs) (hN : X.N.Nodup) (hi : X.N[i]? = some x) (hx : Loc X.env.scope x) (hf : X.fn x = true ∨ X.env.scope.names.lookup x = some .local := by first | exact .inl rfl | exact .inr rfl | assumption) : PG X (.Name x pos) (tG X.G vs (nameG i)) :=
  weakG (pg_name hN hi hx hf) fun v σ H Q ⟨B, F, Z, η, d, η', ok, r, hm, q⟩ => by
    obtain ⟨hi, hn, rfl⟩ := setSlot_inv hm
    exact q _ H F (Same.refl _) (ok.setSh hi hn r) (wipe_set hv)
theorem gs_nil {vs : List Nat} : PGs X [] (tGs X.G vs nilG) := weakGs pgs_nil fun v σ H Q ⟨B, F, Z, η, ds, η', ok, r, hm, q⟩ => by
  unfold nilG at hm
  split at hm
  · cases hm
    cases r
    exact ⟨rfl, q σ H F (Same.refl _) ok rfl⟩
  · cases hm
theorem gs_cons {es : List Expr} {vs : List Nat} {g : TgM} {r : List D → Env → Option Env} (h1 : PG X e (tG X.G vs g)) (h2 : PGs X es (tGs X.G vs r))
    (hs : (assignEach (e :: es) X.env).map (·.2) = assign e X.env :: (assignEach es X.env).map (·.2) := by rfl) : PGs X (e :: es) (tGs X.G vs (consG g r)) := weakGs (pgs_cons h1 h2 hs) fun v σ H Q ⟨B, F, Z, η, ds, η', ok, rp, hm, q⟩ => by
  unfold consG at hm
  split at hm
  · cases hm
  · next d ds' =>
    split at hm
    · next η1 h =>
      cases rp with
      | cons r1 r2 => exact ⟨_, _, rfl, B, F, Z, η, d, η1, ok, r1, h, fun σ' H' F' s ok' w1 => ⟨B, F', Z, η1, ds', η', ok', r2.mono s, hm, fun σ2 H2 F2 s2 ok2 w2 => q σ2 H2 F2 (s.trans s2) ok2 (w2.trans w1)⟩⟩
    · cases hm
theorem g_tup {es : List Expr} {vs : List Nat} {k n : Nat} {r : List D → Env → Option Env} (hc : X.calm = true) (h : PGs X es (tGs X.G vs r))
    (hn : (assignEach es X.env).length = n := by rfl) (hst : (assignEach es X.env).findIdx? (·.1) = none := by rfl) : PG X (.Tuple es k pos) (tG X.G vs (tupG n r)) := weakG (pg_tup hc h hn hst) fun v σ H Q ⟨B, F, Z, η, d, η', ok, rp, hm, q⟩ => by
  unfold tupG at hm
  split at hm
  · next ds =>
    split at hm
    · next hl =>
      cases rp with
      | tup hs hr => exact ⟨_, _, rfl, Same.sqT ok.ff hs.sqT, by rw [← hr.length]; exact hl, B, F, Z, η, ds, η', ok, hr, hm, q⟩
    · cases hm
  · next ds =>
    split at hm
    · next hl =>
      cases rp with
      | tuz hs hr => exact ⟨_, _, rfl, Same.sqT ok.ff hs, by rw [← hr.length]; exact hl, B, F, Z, η, ds, η', ok, hr, hm, q⟩
    · cases hm
  · cases hm
def asgM (m : EM) (g : TgM) : SM := fun η => match m η with
  | some (d, η1) => match g d η1 with
    | some η2 => some (.nx, η2)
    | none => none
  | none => none
theorem s_asg {tg : Expr} {vs : List Nat} {g : TgM} (he : PE X e (tD X.G me)) (hg : PG X tg (tG X.G vs g)) (hs : swapsWithSole [tg] e pos.line X.env = pure false := by rfl) (hw : swappedStores [tg] e X.env = pure none := by rfl)
    (h1 : (assignEach [tg] X.env).map (·.2) = [assign tg X.env] := by rfl) : PS X (.Assign [tg] e pos) (tS X.G (asgM me g)) := weakS (ps_asg he hg hs hw h1) fun D σ H ⟨B, F, Z, η, o, η', ok, hm, q⟩ => by
  unfold asgM at hm
  split at hm
  · next d η1 h =>
    split at hm
    · next η2 h2 =>
      cases hm
      exact ⟨B, F, Z, η, d, η1, ok, h, fun v H' F' s ok' r => ⟨B, F', Z, η1, d, _, ok', r, h2, fun σ2 H2 F2 s2 ok2 _ => q σ2 H2 F2 (s.trans s2) ok2⟩⟩
    · cases hm
  · cases hm
/-- a, b = x, y with plain locals -/
def parM (i j : Nat) (m : AM) : SM := fun η => match m η with
  | some ([d, e], η1) => match setSlot η1 i (.sh d) with
    | some η2 => match setSlot η2 j (.sh e) with
      | some η3 => some (.nx, η3)
      | none => none
    | none => none
  | _ => none
theorem s_par {i j : Nat} {x y : Str} {a b : Expr} {ta : AM} {px py pt : Pos} {kt k2 pt2} (hc : X.calm = true) (hN : X.N.Nodup) (hi : X.N[i]? = some x) (hj : X.N[j]? = some y) (hij : i ≠ j)
    (hx : X.env.scope.names.lookup x = some .local) (hy : X.env.scope.names.lookup y = some .local) (ha : PA X [a, b] (tDA X.G ta))
    (hw : swappedStores [.Tuple [.Name x px, .Name y py] kt pt] (.Tuple [a, b] k2 pt2) X.env = pure (some [x, y]) := by rfl)
    (hs : swapsWithSole [.Tuple [.Name x px, .Name y py] kt pt] (.Tuple [a, b] k2 pt2) pos.line X.env = pure false := by rfl) :
    PS X (.Assign [.Tuple [.Name x px, .Name y py] kt pt] (.Tuple [a, b] k2 pt2) pos) (tS X.G (parM i j ta)) := weakS (ps_par hc hN hi hj hij hx hy ha hw hs) fun D σ H ⟨B, F, Z, η, o, η', ok, hm, q⟩ => by
  unfold parM at hm
  split at hm
  · next d e η1 h =>
    split at hm
    · next η2 h2 =>
      split at hm
      · next η3 h3 =>
        cases hm
        refine ⟨B, F, Z, η, [d, e], η1, ok, h, fun vs H' F' s ok' r => ?_⟩
        cases r with
        | cons r1 r2 =>
          cases r2 with
          | cons r2 r3 =>
            cases r3
            obtain ⟨hi1, hn1, rfl⟩ := setSlot_inv h2
            obtain ⟨hi2, hn2, rfl⟩ := setSlot_inv h3
            exact ⟨_, _, rfl, q _ H' F' s ((ok'.setSh hi1 hn1 r1).setSh hi2 hn2 r2)⟩
      · cases hm
    · cases hm
  · cases hm
def par3M (i j l : Nat) (m : AM) : SM := fun η => match m η with
  | some ([d, e, f], η1) => match setSlot η1 i (.sh d) with
    | some η2 => match setSlot η2 j (.sh e) with
      | some η3 => match setSlot η3 l (.sh f) with
        | some η4 => some (.nx, η4)
        | none => none
      | none => none
    | none => none
  | _ => none
end

/-! ### for -/
/-- what is walked: the items ds, whatever grows beside -/
structure IterOk (K : Gd) (J : It) (F : Hp) (ds : List D) : Prop where
  go : ∀ (i : Nat) (H : Hp), i < ds.length → Same F H → J.go i H
  stop : ∀ (H : Hp), Same F H → J.stop ds.length H
  yld : ∀ (i : Nat) (H : Hp) (x : V) (H' F2 : Hp), i < ds.length → Same F F2 → Same F2 H → J.yld i H x H' → ∃ d F2', ds[i]? = some d ∧ Res F2 H F2' H' ∧ Rep K F2' d x
abbrev IM := Env → Option (List D × Env)
def tI (K : Gd) (m : IM) : TI := fun σ H R => ∃ (B F : Hp) (Z : Pins) (η : Env) (ds : List D) (η' : Env), Ok K B F Z η σ H ∧ m η = some (ds, η') ∧ ∀ (J : It) (H' F' : Hp), Same F F' → Ok K B F' Z η' σ H' → IterOk K J F' ds → R J H'
theorem weakI {X : Cx} {tg it : Expr} {t t' : TI} (h : PI X tg it t) (w : ∀ σ H R, t' σ H R → t σ H R) : PI X tg it t' := ⟨fun pins s σ H R I q => h.run pins s σ H R I (w σ H R q)⟩
def forL (g : TgM) (b : SM) : List D → Env → Option (Out × Env)
  | [], η => some (.nx, η)
  | d :: ds, η => match g d η with
    | some η1 => match b η1 with
      | some (.nx, η2) => forL g b ds η2
      | some (.bk, η2) => some (.nx, η2)
      | r => r
    | none => none
def forM (it : IM) (g : TgM) (b : SM) : SM := fun η => match it η with
  | some (ds, η1) => forL g b ds η1
  | none => none
theorem s_for {X : Cx} {tg iter : Expr} {vs : List Nat} {body : List Stmt} {pos : Pos} {mi : IM} {g : TgM} {mb : SM} (hp : PassesOwn (model X.prog X.w) X.A X.env X.xe) (hc : X.calm = true) (hi : PI X tg iter (tI X.G mi)) (hg : PG X tg (tG X.G vs g)) (hb : PSs X body (tS X.G mb))
    (hs : ∀ x, foldedSetIterable iter X.env x = pure x := by intro _; rfl) : PS X (.For tg iter body [] pos) (tS X.G (forM mi g mb)) := weakS (ps_for hp hc hi hg hb hs) fun D σ H ⟨B, F, Z, η, o, ηe, ok, hm, q⟩ => by
  unfold forM at hm
  split at hm
  · next ds η1 h =>
    refine ⟨B, F, Z, η, ds, η1, ok, h, fun J H1 F1 s1 ok1 it => ?_⟩
    refine ⟨fun i m σ H => m = ds.length - i ∧ i ≤ ds.length ∧ ∃ F2 η2, Same F1 F2 ∧ Ok X.G B F2 Z η2 σ H ∧ forL g mb (ds.drop i) η2 = some (o, ηe), ⟨ds.length, by omega, Nat.zero_le _, F1, η1, Same.refl _, ok1, by rw [List.drop_zero]; exact hm⟩, ?_⟩
    rintro i m σ H ⟨rfl, hi, F2, η2, s2, ok2, hf⟩
    by_cases hlt : i < ds.length
    · rw [List.drop_eq_getElem_cons hlt] at hf
      unfold forL at hf
      split at hf
      · next η3 h3 =>
        refine .inr ⟨it.go i H hlt (s2.trans ok2.ff), fun σ' H' => ∃ F4 η4, Same F1 F4 ∧ Ok X.G B F4 Z η4 σ' H' ∧ forL g mb (ds.drop (i + 1)) η4 = some (o, ηe), fun σ' H' ⟨F4, η4, s4, ok4, hf4⟩ => ⟨_, by omega, rfl, hlt, F4, η4, s4, ok4, hf4⟩, fun x H' y => ?_⟩
        obtain ⟨d, F3, hd, rs, rp⟩ := it.yld i H x H' F2 hlt s2 ok2.ff y
        have ed : ds[i] = d := by rw [List.getElem?_eq_getElem hlt] at hd; exact Option.some.inj hd
        rw [ed] at h3
        obtain ⟨ok3, s3⟩ := ok2.res rs
        refine ⟨B, F3, Z, η2, d, η3, ok3, rp, h3, fun σ4 H4 F4 s4 ok4 _ => ?_⟩
        have s14 := (s2.trans s3).trans s4
        split at hf
        · next η5 h5 =>
          exact ⟨B, F4, Z, η3, .nx, η5, ok4, h5, fun σ6 H6 F6 s6 ok6 => ⟨F6, η5, s14.trans s6, ok6, hf⟩⟩
        · next η5 h5 =>
          cases hf
          exact ⟨B, F4, Z, η3, .bk, _, ok4, h5, fun σ6 H6 F6 s6 ok6 => q σ6 H6 F6 (((s1.trans s14)).trans s6) ok6⟩
        · next r hr1 hr2 =>
          cases o with
          | nx => exact absurd hf (hr1 ηe)
          | bk => exact absurd hf (hr2 ηe)
          | rt e => exact ⟨B, F4, Z, η3, .rt e, ηe, ok4, hf, fun v σ6 H6 F6 s6 ok6 r6 => q v σ6 H6 F6 ((s1.trans s14).trans s6) ok6 r6⟩
      · cases hf
    · have e : i = ds.length := by omega
      subst e
      rw [List.drop_length] at hf
      unfold forL at hf
      cases hf
      exact .inl ⟨it.stop H (s2.trans ok2.ff), q σ H F2 (s1.trans s2) ok2⟩
  · cases hm

/-! ### while -/
def whileL (c : BM) (b : SM) : Nat → Env → Option (Out × Env)
  | 0, _ => none
  | n + 1, η => match c η with
    | some (true, η1) => match b η1 with
      | some (.nx, η2) => whileL c b n η2
      | some (.bk, η2) => some (.nx, η2)
      | r => r
    | some (false, η1) => some (.nx, η1)
    | none => none
theorem s_while {X : Cx} {c : Expr} {body : List Stmt} {pos : Pos} {mc : BM} {mb : SM} (n : Nat) (hp : PassesOwn (model X.prog X.w) X.A X.env X.xe) (hc : PT X c (tBt X.G mc)) (hb : PSs X body (tS X.G mb)) : PS X (.While c body [] pos) (tS X.G (whileL mc mb n)) :=
  weakS (ps_while hp hc hb) fun D σ H ⟨B, F, Z, η, o, ηe, ok, hm, q⟩ => by
    refine ⟨fun m σ H => ∃ F2 η2, Same F F2 ∧ Ok X.G B F2 Z η2 σ H ∧ whileL mc mb m η2 = some (o, ηe), ⟨n, F, η, Same.refl _, ok, hm⟩, ?_⟩
    rintro m σ H ⟨F2, η2, s2, ok2, hw⟩
    cases m with
    | zero => cases hw
    | succ m =>
      unfold whileL at hw
      split at hw
      · next η3 h3 =>
        refine ⟨B, F2, Z, η2, true, η3, ok2, h3, fun H3 F3 s3 ok3 => ?_⟩
        refine iteT ⟨fun σ' H' => ∃ F4 η4, Same F F4 ∧ Ok X.G B F4 Z η4 σ' H' ∧ whileL mc mb m η4 = some (o, ηe), fun σ' H' ⟨F4, η4, s4, ok4, hw4⟩ => ⟨m, Nat.lt_succ_self _, F4, η4, s4, ok4, hw4⟩, ?_⟩
        split at hw
        · next η5 h5 => exact ⟨B, F3, Z, η3, .nx, η5, ok3, h5, fun σ6 H6 F6 s6 ok6 => ⟨F6, η5, (s2.trans s3).trans s6, ok6, hw⟩⟩
        · next η5 h5 =>
          cases hw
          exact ⟨B, F3, Z, η3, .bk, _, ok3, h5, fun σ6 H6 F6 s6 ok6 => q σ6 H6 F6 ((s2.trans s3).trans s6) ok6⟩
        · next r hr1 hr2 =>
          cases o with
          | nx => exact absurd hw (hr1 ηe)
          | bk => exact absurd hw (hr2 ηe)
          | rt e => exact ⟨B, F3, Z, η3, .rt e, ηe, ok3, hw, fun v σ6 H6 F6 s6 ok6 r6 => q v σ6 H6 F6 ((s2.trans s3).trans s6) ok6 r6⟩
      · next η3 h3 =>
        cases hw
        exact ⟨B, F2, Z, η2, false, _, ok2, h3, fun H3 F3 s3 ok3 => iteF (q σ H3 F3 (s2.trans s3) ok3)⟩
      · cases hw

/-! ### forgetting slots -/
def forgetL : List Nat → Env → Env
  | [], η => η
  | i :: is, η => forgetL is (match η[i]? with
    | some (.io _) => η
    | _ => η.set i .no)
theorem Ok.forgetL {K : Gd} {B F : Hp} {Z : Pins} {σ : L2.St} {H : Hp} : ∀ (is : List Nat) {η : Env}, Ok K B F Z η σ H → Ok K B F Z (forgetL is η) σ H
  | [], _, ok => ok
  | i :: is, η, ok => by
    unfold DL.forgetL
    split
    · exact Ok.forgetL is ok
    · next hn => exact Ok.forgetL is (ok.forget fun d e => hn d e)
/-- behind a block that ends as usual, or by break -/
def fgM (is : List Nat) (m : SM) : SM := fun η => match m η with
  | some (.nx, η') => some (.nx, forgetL is η')
  | some (.bk, η') => some (.bk, forgetL is η')
  | r => r
theorem fg_tS {K : Gd} {is : List Nat} {m : SM} (D : Ends) (σ : L2.St) (H : Hp) (h : tS K (fgM is m) D σ H) : tS K m D σ H := by
  obtain ⟨B, F, Z, η, o, η', ok, hm, q⟩ := h
  unfold fgM at hm
  split at hm
  · next η1 h => cases hm; exact ⟨B, F, Z, η, .nx, η1, ok, h, fun σ' H' F' s ok' => q σ' H' F' s (Ok.forgetL is ok')⟩
  · next η1 h => cases hm; exact ⟨B, F, Z, η, .bk, η1, ok, h, fun σ' H' F' s ok' => q σ' H' F' s (Ok.forgetL is ok')⟩
  · next r hr => exact ⟨B, F, Z, η, o, η', ok, hm, q⟩
theorem ss_fg {X : Cx} {sts : List Stmt} {m : SM} (is : List Nat) (h : PSs X sts (tS X.G m)) : PSs X sts (tS X.G (fgM is m)) := weakSs h fg_tS
theorem s_fg {X : Cx} {st : Stmt} {m : SM} (is : List Nat) (h : PS X st (tS X.G m)) : PS X st (tS X.G (fgM is m)) := weakS h fg_tS
end DL

namespace DL
open PySem L2

/-! ### a def's promise -/
abbrev Sem := List S → Option (D × Env)
def pinsOf (args : List S) (vs : List V) : Pins := fun i => match args[i]?, vs[i]? with
  | some (.io _), some (.ref a) => some a
  | _, _ => none
def spD (K : Gd) (n : Nat) (sem : Sem) : Sp := fun vs H Q _ => vs.length = n ∧ ∃ (B F : Hp) (args : List S) (d : D) (η' : Env),
  Ok K B F (pinsOf args vs) args (vs.map some) H ∧ sem args = some (d, η') ∧ ∀ (v : V) (H' F' : Hp), Same F F' → Same F' H' → Same B H' → (∀ a o, B a = some o → F' a = none) →
    (∀ (i : Nat) (d0 : D), args[i]? = some (.io d0) → ∃ d1 a, η'[i]? = some (.io d1) ∧ vs[i]? = some (.ref a) ∧ F' a = none ∧ B a = none ∧ At K F' H' d1 a) → Rep K F' d v → Q v H'
/-- the def's own slots behind its parameters -/
def ioS : S → S
  | .io d => .io d
  | _ => .no
/-- the lent objects as they stand at the end, in the parameters' places -/
def trimE (n : Nat) (η : Env) : Env := (η.take n).map ioS
def runF (n : Nat) (body : SM) : Sem := fun args => match body (args ++ List.replicate (n - args.length) .no) with
  | some (.rt d, η) => some (d, trimE args.length η)
  | some (.nx, η) => some (.non, trimE args.length η)
  | _ => none
theorem trimE_io {n i : Nat} {η : Env} {d : D} (h : η[i]? = some (.io d)) (hi : i < n) : (trimE n η)[i]? = some (.io d) := by
  unfold trimE
  rw [List.getElem?_map, List.getElem?_take_of_lt hi, h]
  rfl
theorem Ok.pad {K : Gd} {B F : Hp} {Z : Pins} {η : Env} {σ : L2.St} {H : Hp} (ok : Ok K B F Z η σ H) (n : Nat) : Ok K B F Z (η ++ List.replicate n .no) (σ ++ List.replicate n none) H := by
  have get : ∀ {i : Nat} {s : S}, (η ++ List.replicate n S.no)[i]? = some s → s ≠ .no → η[i]? = some s := fun {i s} h hs => by
    by_cases hi : i < η.length
    · rw [List.getElem?_append_left hi] at h; exact h
    · rw [List.getElem?_append_right (by omega), List.getElem?_replicate] at h
      split at h
      · cases h; exact absurd rfl hs
      · cases h
  have own : ∀ {i : Nat} {d : D}, Own (η ++ List.replicate n S.no)[i]? d → Own η[i]? d := fun {i d} h => by
    rcases h with h | h
    · exact .inl (get h (by intro z; cases z))
    · exact .inr (get h (by intro z; cases z))
  have lt : ∀ {i : Nat} {d : D}, Own η[i]? d → i < η.length := fun {i d} h => by
    rcases h with h | h <;> exact (List.getElem?_eq_some_iff.mp h).1
  have sg : ∀ {i : Nat}, i < η.length → (σ ++ List.replicate n none)[i]? = σ[i]? := fun {i} h => List.getElem?_append_left (by rw [← ok.len]; exact h)
  refine ⟨ok.ff, ok.bb, ok.bf, by simp [ok.len], fun i d h => ?_, fun i d h => ?_, fun i a h => ?_, fun i j a d e h1 h2 h3 h4 => ?_⟩
  · have h' := get h (by intro z; cases z)
    obtain ⟨v, h1, h2⟩ := ok.sh i d h'
    exact ⟨v, by rw [sg (List.getElem?_eq_some_iff.mp h').1]; exact h1, h2⟩
  · have h' := own h
    obtain ⟨a, h1, h2⟩ := ok.ow i d h'
    exact ⟨a, by rw [sg (lt h')]; exact h1, h2⟩
  · obtain ⟨⟨d, h1⟩, h2⟩ := ok.io i a h
    have hi := (List.getElem?_eq_some_iff.mp h1).1
    exact ⟨⟨d, by rw [List.getElem?_append_left hi]; exact h1⟩, by rw [sg hi]; exact h2⟩
  · have q1 := own h1
    have q2 := own h2
    rw [sg (lt q1)] at h3
    rw [sg (lt q2)] at h4
    exact ok.sep i j a d e q1 q2 h3 h4
theorem fn_ok {P : Program} {w : World} {K : PySem.W.Frag} {mg : Str → Option Value} {base : Heap} {x qual : Str} {st : Stmt} {f : Addr} {fd : FuncData} {N ps : List Str} {k : Nat} {body : SM}
    (F : Fun K x qual st f fd) (SC : FnScope N ps (defScope st))
    (h : ∀ (cdv : Value) (A : Around) (outer : List PySem.Env) (s : Shared) (H : Hp) (E : XK), Room k (A.deeper (PyProof.Rows.envOfC qual (defScope st) s.heap.objs.size f cdv)) →
      PSs (cxOf CX0 P w K mg base N qual (defScope st) f cdv A outer s H E).nox (defBody st) (tS ⟨P, w, K⟩ body)) :
    FnOk P w K mg base CX0 (k + 1) f fd ps (spD ⟨P, w, K⟩ ps.length (runF N.length body)) := by
  refine F.ok SC (fun vs H Q E h => h.1) fun cdv A outer s H vs Q E hr hsp => ⟨_, h cdv A outer s H E hr, ?_⟩
  obtain ⟨hl, B, F1, args, d, η', ok, hm, q⟩ := hsp
  have hal : args.length = vs.length := by rw [ok.len, List.length_map]
  have okp := ok.pad (N.length - args.length)
  rw [show vs.map some ++ List.replicate (N.length - args.length) none = L2.start N vs by unfold L2.start; rw [hal]] at okp
  have fin : ∀ (η1 : Env), η' = trimE args.length η1 → ∀ (v : V) (σ' : L2.St) (H' F' : Hp), Same F1 F' → Ok ⟨P, w, K⟩ B F' (pinsOf args vs) η1 σ' H' → Rep ⟨P, w, K⟩ F' d v → Q v H' := fun η1 he v σ' H' F' s' ok' r => by
    subst he
    refine q v H' F' s' ok'.ff ok'.bb ok'.bf (fun i d0 hi => ?_) r
    obtain ⟨a, h1, _, _, _⟩ := ok.ow i d0 (.inr hi)
    have hv : vs[i]? = some (.ref a) := by
      rw [List.getElem?_map] at h1
      cases e : vs[i]? with
      | none => rw [e] at h1; cases h1
      | some z => rw [e] at h1; cases h1; rfl
    have hz : pinsOf args vs i = some a := by simp [pinsOf, hi, hv]
    obtain ⟨⟨d1, h2⟩, h3⟩ := ok'.io i a hz
    obtain ⟨a', h4, h5, h6, h7⟩ := ok'.ow i d1 (.inr h2)
    rw [h3] at h4
    cases h4
    exact ⟨d1, a, trimE_io h2 (List.getElem?_eq_some_iff.mp hi).1, hv, h5, h6, h7⟩
  unfold runF at hm
  split at hm
  · next d' η1 hb =>
    cases hm
    exact ⟨B, F1, pinsOf args vs, _, .rt d, _, okp, hb, fun v σ' H' F' s' ok' r => fin _ rfl v σ' H' F' s' ok' r⟩
  · next η1 hb =>
    cases hm
    exact ⟨B, F1, pinsOf args vs, _, .nx, _, okp, hb, fun σ' H' F' s' ok' => fin _ rfl .non σ' H' F' s' ok' .non⟩
  · cases hm
/-- another plain function that says the same where it is asked -/
theorem fn_imp {P : Program} {w : World} {K : PySem.W.Frag} {mg : Str → Option Value} {base : Heap} {f : Addr} {fd : FuncData} {ps : List Str} {k n : Nat} {sem sem' : Sem} (F : FnOk P w K mg base CX0 k f fd ps (spD ⟨P, w, K⟩ n sem))
    (h : ∀ args r, sem' args = some r → sem args = some r) : FnOk P w K mg base CX0 k f fd ps (spD ⟨P, w, K⟩ n sem') :=
  F.imp fun vs H Q E ⟨hl, B, F1, args, d, η', ok, hm, q⟩ => ⟨hl, B, F1, args, d, η', ok, h _ _ hm, q⟩

/-! ### calls of one's own defs -/
inductive Arg where
  | val (d : D) | nm (i : Nat)
abbrev CM := Env → Option (List Arg × Env)
/-- an argument that is a name: lent, if it is an own object -/
def nilC : CM := fun η => some ([], η)
def consN (i : Nat) (r : CM) : CM := fun η => match η[i]? with
  | some (.sh d) => match r η with
    | some (as, η2) => some (.val d :: as, η2)
    | none => none
  | some (.ow _) | some (.io _) => match r η with
    | some (as, η2) => some (.nm i :: as, η2)
    | none => none
  | _ => none
def consC (m : EM) (r : CM) : CM := fun η => match m η with
  | some (d, η1) => match r η1 with
    | some (as, η2) => some (.val d :: as, η2)
    | none => none
  | none => none
inductive ArgRel (K : Gd) (F : Hp) (σ : L2.St) : List Arg → List V → Prop
  | nil : ArgRel K F σ [] []
  | val {d : D} {v : V} {as : List Arg} {vs : List V} : Rep K F d v → ArgRel K F σ as vs → ArgRel K F σ (.val d :: as) (v :: vs)
  | nm {i : Nat} {v : V} {as : List Arg} {vs : List V} : σ[i]? = some (some v) → ArgRel K F σ as vs → ArgRel K F σ (.nm i :: as) (v :: vs)
def tC (K : Gd) (m : CM) : TA := fun σ H Q => ∃ (B F : Hp) (Z : Pins) (η : Env) (as : List Arg) (η' : Env), Ok K B F Z η σ H ∧ m η = some (as, η') ∧
  ∀ (vs : List V) (H' F' : Hp), Same F F' → Ok K B F' Z η' σ H' → ArgRel K F' σ as vs → Q vs H'
theorem ArgRel.mono {K : Gd} {F F' : Hp} {σ : L2.St} (e : Same F F') : ∀ {as : List Arg} {vs : List V}, ArgRel K F σ as vs → ArgRel K F' σ as vs
  | _, _, .nil => .nil
  | _, _, .val r t => .val (r.mono e) (ArgRel.mono e t)
  | _, _, .nm h t => .nm h (ArgRel.mono e t)
section
variable {X : Cx} {e : Expr} {es : List Expr}
theorem ca_nil : PA X [] (tC X.G nilC) := weakA pa_nil fun σ H Q ⟨B, F, Z, η, as, η', ok, hm, q⟩ => by
  cases hm
  exact q _ _ _ (Same.refl _) ok .nil
theorem ca_val {m : EM} {r : CM} (ha : PE X e (tD X.G m)) (hr : PA X es (tC X.G r)) (hs : starEach (e :: es) X.env = (false, eval e X.env) :: starEach es X.env := by rfl) : PA X (e :: es) (tC X.G (consC m r)) :=
  weakA (pa_cons ha hr hs) fun σ H Q ⟨B, F, Z, η, as, η', ok, hm, q⟩ => by
    unfold consC at hm
    split at hm
    · next d η1 h1 =>
      split at hm
      · next as' η2 h2 =>
        cases hm
        exact ⟨B, F, Z, η, d, η1, ok, h1, fun v H1 F1 s1 ok1 r1 => ⟨B, F1, Z, η1, as', _, ok1, h2, fun vs H2 F2 s2 ok2 r2 => q _ _ _ (s1.trans s2) ok2 (.val (r1.mono s2) r2)⟩⟩
      · cases hm
    · cases hm
theorem ca_nm {i : Nat} {r : CM} (ha : PE X e (tVar i)) (hr : PA X es (tC X.G r)) (hs : starEach (e :: es) X.env = (false, eval e X.env) :: starEach es X.env := by rfl) : PA X (e :: es) (tC X.G (consN i r)) :=
  weakA (pa_cons ha hr hs) fun σ H Q ⟨B, F, Z, η, as, η', ok, hm, q⟩ => by
    unfold consN at hm
    split at hm
    · next d hd =>
      obtain ⟨v, h1, h2⟩ := ok.sh i d hd
      split at hm
      · next as' η2 h3 =>
        cases hm
        exact ⟨v, h1, B, F, Z, η, as', _, ok, h3, fun vs H2 F2 s2 ok2 r2 => q _ _ _ s2 ok2 (.val (h2.mono s2) r2)⟩
      · cases hm
    · next d hd =>
      obtain ⟨a, h1, _⟩ := ok.ow i d (.inl hd)
      split at hm
      · next as' η2 h3 =>
        cases hm
        exact ⟨_, h1, B, F, Z, η, as', _, ok, h3, fun vs H2 F2 s2 ok2 r2 => q _ _ _ s2 ok2 (.nm h1 r2)⟩
      · cases hm
    · next d hd =>
      obtain ⟨a, h1, _⟩ := ok.ow i d (.inr hd)
      split at hm
      · next as' η2 h3 =>
        cases hm
        exact ⟨_, h1, B, F, Z, η, as', _, ok, h3, fun vs H2 F2 s2 ok2 r2 => q _ _ _ s2 ok2 (.nm h1 r2)⟩
      · cases hm
    · cases hm
end
/-- the callee's parameters -/
def resolve (η : Env) : List Arg → Option (List S)
  | [] => some []
  | .val d :: as => match resolve η as with
    | some r => some (.sh d :: r)
    | none => none
  | .nm i :: as => match η[i]? with
    | some (.ow d) | some (.io d) => match resolve η as with
      | some r => some (.io d :: r)
      | none => none
    | _ => none
def nms : List Arg → List Nat
  | [] => []
  | .val _ :: as => nms as
  | .nm i :: as => i :: nms as
/-- what was lent comes back -/
def back (η : Env) : List Arg → Env → Env
  | [], _ => η
  | .val _ :: as, c => back η as c.tail
  | .nm i :: as, c => back (match η[i]?, c.head? with
    | some (.ow _), some (.io d) => η.set i (.ow d)
    | some (.io _), some (.io d) => η.set i (.io d)
    | _, _ => η) as c.tail
def callE (sem : Sem) (m : CM) : EM := fun η => match m η with
  | some (as, η1) => match resolve η1 as with
    | some args => if (nms as).Nodup then match sem args with
      | some (d, c) => some (d, back η1 as c)
      | none => none
      else none
    | none => none
  | none => none
theorem callE_inv {sem : Sem} {m : CM} {η : Env} {d : D} {η2 : Env} (h : callE sem m η = some (d, η2)) : ∃ as η1 args c, m η = some (as, η1) ∧ resolve η1 as = some args ∧ (nms as).Nodup ∧ sem args = some (d, c) ∧ η2 = back η1 as c := by
  unfold callE at h
  split at h
  · next as η1 h1 =>
    split at h
    · next args h2 =>
      split at h
      · next hn =>
        split at h
        · next d' c h3 => cases h; exact ⟨as, η1, args, c, h1, h2, hn, h3, rfl⟩
        · cases h
      · cases h
    · cases h
  · cases h

/-- the j-th argument is the i-th slot -/
def AtArg (as : List Arg) (j i : Nat) : Prop := as[j]? = some (.nm i)
theorem nms_mem : ∀ {as : List Arg} {i : Nat}, i ∈ nms as ↔ ∃ j, AtArg as j i
  | [], i => by simp [nms, AtArg]
  | .val d :: as, i => by
    rw [nms, nms_mem (as := as)]
    constructor
    · rintro ⟨j, h⟩; exact ⟨j + 1, h⟩
    · rintro ⟨j, h⟩
      cases j with
      | zero => cases h
      | succ j => exact ⟨j, h⟩
  | .nm k :: as, i => by
    rw [nms, List.mem_cons, nms_mem (as := as)]
    constructor
    · rintro (rfl | ⟨j, h⟩)
      · exact ⟨0, rfl⟩
      · exact ⟨j + 1, h⟩
    · rintro ⟨j, h⟩
      cases j with
      | zero => left; injection h with h; injection h with h; exact h.symm
      | succ j => right; exact ⟨j, h⟩
theorem nms_uniq : ∀ {as : List Arg} {i j k : Nat}, (nms as).Nodup → AtArg as j i → AtArg as k i → j = k
  | [], i, j, k, _, h, _ => by simp [AtArg] at h
  | .val d :: as, i, 0, k, _, h, _ => by cases h
  | .val d :: as, i, j + 1, 0, _, _, h => by cases h
  | .val d :: as, i, j + 1, k + 1, n, h1, h2 => by rw [nms_uniq (as := as) n h1 h2]
  | .nm m :: as, i, 0, 0, n, _, _ => rfl
  | .nm m :: as, i, 0, k + 1, n, h1, h2 => by
    injection h1 with h1; injection h1 with h1
    subst h1
    exact absurd (nms_mem.mpr ⟨k, h2⟩) (List.nodup_cons.mp n).1
  | .nm m :: as, i, j + 1, 0, n, h1, h2 => by
    injection h2 with h2; injection h2 with h2
    subst h2
    exact absurd (nms_mem.mpr ⟨j, h1⟩) (List.nodup_cons.mp n).1
  | .nm m :: as, i, j + 1, k + 1, n, h1, h2 => by rw [nms_uniq (as := as) (List.nodup_cons.mp n).2 h1 h2]

theorem resolve_get {η : Env} : ∀ {as : List Arg} {args : List S} {j : Nat} {s : S}, resolve η as = some args → args[j]? = some s → (∃ d, as[j]? = some (.val d) ∧ s = .sh d) ∨ ∃ i d, AtArg as j i ∧ Own η[i]? d ∧ s = .io d
  | [], _, j, s, h, e => by simp [resolve] at h; subst h; simp at e
  | .val d :: as, _, j, s, h, e => by
    rw [resolve] at h
    split at h
    · next r hr =>
      cases h
      cases j with
      | zero => cases e; exact .inl ⟨d, rfl, rfl⟩
      | succ j => exact resolve_get (as := as) hr e
    · cases h
  | .nm i :: as, _, j, s, h, e => by
    rw [resolve] at h
    split at h
    · next d hd =>
      split at h
      · next r hr =>
        cases h
        cases j with
        | zero => cases e; exact .inr ⟨i, d, rfl, .inl hd, rfl⟩
        | succ j => exact resolve_get (as := as) hr e
      · cases h
    · next d hd =>
      split at h
      · next r hr =>
        cases h
        cases j with
        | zero => cases e; exact .inr ⟨i, d, rfl, .inr hd, rfl⟩
        | succ j => exact resolve_get (as := as) hr e
      · cases h
    · cases h
theorem resolve_nm {η : Env} : ∀ {as : List Arg} {args : List S} {j i : Nat}, resolve η as = some args → AtArg as j i → ∃ d, Own η[i]? d ∧ args[j]? = some (.io d)
  | [], _, j, i, h, e => by simp [AtArg] at e
  | .val d :: as, _, j, i, h, e => by
    rw [resolve] at h
    split at h
    · next r hr =>
      cases h
      cases j with
      | zero => cases e
      | succ j => obtain ⟨d', g1, g2⟩ := resolve_nm (as := as) (j := j) hr e; exact ⟨d', g1, g2⟩
    · cases h
  | .nm k :: as, _, j, i, h, e => by
    rw [resolve] at h
    split at h
    · next d hd =>
      split at h
      · next r hr =>
        cases h
        cases j with
        | zero => injection e with e; injection e with e; subst e; exact ⟨d, .inl hd, rfl⟩
        | succ j => obtain ⟨d', g1, g2⟩ := resolve_nm (as := as) (j := j) hr e; exact ⟨d', g1, g2⟩
      · cases h
    · next d hd =>
      split at h
      · next r hr =>
        cases h
        cases j with
        | zero => injection e with e; injection e with e; subst e; exact ⟨d, .inr hd, rfl⟩
        | succ j => obtain ⟨d', g1, g2⟩ := resolve_nm (as := as) (j := j) hr e; exact ⟨d', g1, g2⟩
      · cases h
    · cases h
theorem resolve_len {η : Env} : ∀ {as : List Arg} {args : List S}, resolve η as = some args → args.length = as.length
  | [], _, h => by simp [resolve] at h; subst h; rfl
  | .val d :: as, _, h => by
    rw [resolve] at h
    split at h
    · next r hr => cases h; rw [List.length_cons, List.length_cons, resolve_len hr]
    · cases h
  | .nm i :: as, _, h => by
    rw [resolve] at h
    split at h
    · split at h
      · next r hr => cases h; rw [List.length_cons, List.length_cons, resolve_len hr]
      · cases h
    · split at h
      · next r hr => cases h; rw [List.length_cons, List.length_cons, resolve_len hr]
      · cases h
    · cases h
theorem ArgRel.len {K : Gd} {F : Hp} {σ : L2.St} : ∀ {as : List Arg} {vs : List V}, ArgRel K F σ as vs → as.length = vs.length
  | _, _, .nil => rfl
  | _, _, .val _ t => by rw [List.length_cons, List.length_cons, ArgRel.len t]
  | _, _, .nm _ t => by rw [List.length_cons, List.length_cons, ArgRel.len t]
theorem ArgRel.val_at {K : Gd} {F : Hp} {σ : L2.St} : ∀ {as : List Arg} {vs : List V} {j : Nat} {d : D}, ArgRel K F σ as vs → as[j]? = some (.val d) → ∃ v, vs[j]? = some v ∧ Rep K F d v
  | _, _, _, _, .nil, h => by simp at h
  | _, _, 0, _, .val r t, h => by injection h with h; injection h with h; subst h; exact ⟨_, rfl, r⟩
  | _, _, j + 1, _, .val r t, h => ArgRel.val_at (j := j) t h
  | _, _, 0, _, .nm r t, h => by injection h with h; cases h
  | _, _, j + 1, _, .nm r t, h => ArgRel.val_at (j := j) t h
theorem ArgRel.nm_at {K : Gd} {F : Hp} {σ : L2.St} : ∀ {as : List Arg} {vs : List V} {j i : Nat}, ArgRel K F σ as vs → AtArg as j i → ∃ v, vs[j]? = some v ∧ σ[i]? = some (some v)
  | _, _, _, _, .nil, h => by simp [AtArg] at h
  | _, _, 0, _, .val r t, h => by injection h with h; cases h
  | _, _, j + 1, _, .val r t, h => ArgRel.nm_at (j := j) t h
  | _, _, 0, _, .nm r t, h => by injection h with h; injection h with h; subst h; exact ⟨_, rfl, r⟩
  | _, _, j + 1, _, .nm r t, h => ArgRel.nm_at (j := j) t h

/-- what back does to a slot -/
theorem back_other {i : Nat} : ∀ {as : List Arg} {η : Env} {c : Env}, i ∉ nms as → (back η as c)[i]? = η[i]?
  | [], _, _, _ => rfl
  | .val d :: as, η, c, h => by rw [back]; exact back_other (as := as) h
  | .nm k :: as, η, c, h => by
    rw [nms, List.mem_cons, not_or] at h
    rw [back, back_other (as := as) h.2]
    split
    · rw [List.getElem?_set_ne (fun z => h.1 z.symm)]
    · rw [List.getElem?_set_ne (fun z => h.1 z.symm)]
    · rfl
theorem back_at {i : Nat} : ∀ {as : List Arg} {η : Env} {c : Env} {j : Nat} {d d1 : D}, (nms as).Nodup → AtArg as j i → Own η[i]? d → c[j]? = some (.io d1) →
    (η[i]? = some (.ow d) ∧ (back η as c)[i]? = some (.ow d1)) ∨ (η[i]? = some (.io d) ∧ (back η as c)[i]? = some (.io d1))
  | [], _, _, _, _, _, _, h, _, _ => by simp [AtArg] at h
  | .val e :: as, η, c, 0, _, _, n, h, o, hc => by cases h
  | .val e :: as, η, c, j + 1, d, d1, n, h, o, hc => by
    rw [back]
    exact back_at (as := as) (j := j) n h o (by rw [List.getElem?_tail]; exact hc)
  | .nm k :: as, η, c, 0, d, d1, n, h, o, hc => by
    injection h with h; injection h with h
    subst h
    have hn := (List.nodup_cons.mp n).1
    have hh : c.head? = some (.io d1) := by rw [List.head?_eq_getElem?]; exact hc
    have hi : k < η.length := by rcases o with o | o <;> exact (List.getElem?_eq_some_iff.mp o).1
    rw [back, back_other (as := as) hn]
    rcases o with o | o
    · left
      refine ⟨o, ?_⟩
      simp only [o, hh]
      rw [List.getElem?_set_self hi]
    · right
      refine ⟨o, ?_⟩
      simp only [o, hh]
      rw [List.getElem?_set_self hi]
  | .nm k :: as, η, c, j + 1, d, d1, n, h, o, hc => by
    have ne : i ≠ k := fun z => by
      subst z
      exact absurd (nms_mem.mpr ⟨j, h⟩) (List.nodup_cons.mp n).1
    have key : ∀ η' : Env, η'[i]? = η[i]? → (η[i]? = some (.ow d) ∧ (back η' as c.tail)[i]? = some (.ow d1)) ∨ (η[i]? = some (.io d) ∧ (back η' as c.tail)[i]? = some (.io d1)) := fun η' e => by
      have := back_at (as := as) (η := η') (c := c.tail) (j := j) (d := d) (d1 := d1) (List.nodup_cons.mp n).2 h (by rw [e]; exact o) (by rw [List.getElem?_tail]; exact hc)
      rw [e] at this
      exact this
    rw [back]
    apply key
    split
    · rw [List.getElem?_set_ne (fun z => ne z.symm)]
    · rw [List.getElem?_set_ne (fun z => ne z.symm)]
    · rfl
theorem back_len : ∀ {as : List Arg} {η : Env} {c : Env}, (back η as c).length = η.length
  | [], _, _ => rfl
  | .val d :: as, η, c => by rw [back]; exact back_len
  | .nm k :: as, η, c => by
    rw [back, back_len]
    split
    · rw [List.length_set]
    · rw [List.length_set]
    · rfl

open Classical in
/-- what the callee must leave alone: the caller's own objects that are not lent -/
noncomputable def guard (B : Hp) (η : Env) (σ : L2.St) (H : Hp) (as : List Arg) : Hp := fun a => if ∃ (i : Nat) (d : D), Own η[i]? d ∧ i ∉ nms as ∧ σ[i]? = some (some (.ref a)) then H a else B a
theorem guard_cases {B : Hp} {η : Env} {σ : L2.St} {H : Hp} {as : List Arg} {a : Addr} {o : HO} (h : guard B η σ H as a = some o) :
    (∃ (i : Nat) (d : D), Own η[i]? d ∧ i ∉ nms as ∧ σ[i]? = some (some (.ref a)) ∧ H a = some o) ∨ B a = some o := by
  unfold guard at h
  split at h
  · next hh => obtain ⟨i, d, h1, h2, h3⟩ := hh; exact .inl ⟨i, d, h1, h2, h3, h⟩
  · exact .inr h
theorem guard_own {B : Hp} {η : Env} {σ : L2.St} {H : Hp} {as : List Arg} {a : Addr} {i : Nat} {d : D} (h1 : Own η[i]? d) (h2 : i ∉ nms as) (h3 : σ[i]? = some (some (.ref a))) : guard B η σ H as a = H a := by
  unfold guard
  rw [if_pos ⟨i, d, h1, h2, h3⟩]
theorem guard_base {K : Gd} {B F : Hp} {Z : Pins} {η : Env} {σ : L2.St} {H : Hp} (ok : Ok K B F Z η σ H) {as : List Arg} {a : Addr} {o : HO} (h : B a = some o) : guard B η σ H as a = some o := by
  unfold guard
  split
  · next hh =>
    obtain ⟨i, d, h1, h2, h3⟩ := hh
    obtain ⟨a', e, _, hB, _⟩ := ok.ow i d h1
    rw [h3] at e
    cases e
    rw [hB] at h
    cases h
  · exact h
theorem guard_none {K : Gd} {B F : Hp} {Z : Pins} {η : Env} {σ : L2.St} {H : Hp} (ok : Ok K B F Z η σ H) {as : List Arg} {a : Addr} {i : Nat} {d : D} (h1 : Own η[i]? d) (h2 : i ∈ nms as) (h3 : σ[i]? = some (some (.ref a))) : guard B η σ H as a = none := by
  obtain ⟨a', e, _, hB, _⟩ := ok.ow i d h1
  rw [h3] at e
  cases e
  unfold guard
  split
  · next hh =>
    obtain ⟨j, d', g1, g2, g3⟩ := hh
    have := ok.sep i j a d d' h1 g1 h3 g3
    subst this
    exact absurd h2 g2
  · exact hB
theorem map_some {vs : List V} {j : Nat} {v : V} (h : vs[j]? = some v) : (vs.map some)[j]? = some (some v) := by rw [List.getElem?_map, h]; rfl

theorem call_sp {K : Gd} {B F : Hp} {Z : Pins} {η : Env} {σ : L2.St} {H : Hp} {as : List Arg} {vs : List V} {args : List S} {n : Nat} {sem : Sem} {d : D} {c : Env} {Q : VK}
    (ok : Ok K B F Z η σ H) (ar : ArgRel K F σ as vs) (hr : resolve η as = some args) (hn : (nms as).Nodup) (hm : sem args = some (d, c)) (hl : vs.length = n)
    (q : ∀ (v : V) (H' F' : Hp), Same F F' → Ok K B F' Z (back η as c) σ H' → Rep K F' d v → Q v H') (E : XK) : spD K n sem vs H Q E := by
  have lenA : args.length = vs.length := (resolve_len hr).trans ar.len
  -- a lent argument
  have lent : ∀ {j : Nat} {e : D}, Own args[j]? e → ∃ i a, AtArg as j i ∧ Own η[i]? e ∧ σ[i]? = some (some (.ref a)) ∧ vs[j]? = some (.ref a) ∧ F a = none ∧ B a = none ∧ At K F H e a := fun {j e} h => by
    rcases h with h | h
    · rcases resolve_get hr h with ⟨d', _, e'⟩ | ⟨i, d', _, _, e'⟩ <;> cases e'
    · rcases resolve_get hr h with ⟨d', _, e'⟩ | ⟨i, d', h1, h2, e'⟩
      · cases e'
      · cases e'
        obtain ⟨a, g1, g2, g3, g4⟩ := ok.ow i _ h2
        obtain ⟨v, k1, k2⟩ := ar.nm_at h1
        rw [g1] at k2
        cases k2
        exact ⟨i, a, h1, h2, g1, k1, g2, g3, g4⟩
  have okc : Ok K (guard B η σ H as) F (pinsOf args vs) args (vs.map some) H := by
    refine ⟨ok.ff, fun a o h => ?_, fun a o h => ?_, by rw [List.length_map]; exact lenA, fun j e h => ?_, fun j e h => ?_, fun j a h => ?_, fun j k a e e' h1 h2 h3 h4 => ?_⟩
    · rcases guard_cases h with ⟨i, d', _, _, _, h⟩ | h
      · exact h
      · exact ok.bb a o h
    · rcases guard_cases h with ⟨i, d', h1, _, h3, _⟩ | h
      · obtain ⟨a', g1, g2, _⟩ := ok.ow i d' h1
        rw [h3] at g1
        cases g1
        exact g2
      · exact ok.bf a o h
    · rcases resolve_get hr h with ⟨d', h1, e'⟩ | ⟨i, d', _, _, e'⟩
      · cases e'
        obtain ⟨v, k1, k2⟩ := ar.val_at h1
        exact ⟨v, map_some k1, k2⟩
      · cases e'
    · obtain ⟨i, a, h1, h2, h3, h4, h5, h6, h7⟩ := lent h
      exact ⟨a, map_some h4, h5, guard_none ok h2 (nms_mem.mpr ⟨j, h1⟩) h3, h7⟩
    · unfold pinsOf at h
      split at h
      · next d' a' h1 h2 => cases h; exact ⟨⟨d', h1⟩, map_some h2⟩
      · cases h
    · obtain ⟨i1, a1, g1, g2, g3, g4, _⟩ := lent h1
      obtain ⟨i2, a2, k1, k2, k3, k4, _⟩ := lent h2
      rw [map_some g4] at h3
      rw [map_some k4] at h4
      cases h3
      cases h4
      have := ok.sep i1 i2 a e e' g2 k2 g3 k3
      subst this
      exact nms_uniq hn g1 k1
  refine ⟨hl, guard B η σ H as, F, args, d, c, okc, hm, fun v H' F' s1 s2 s3 dis post rp => q v H' F' s1 ?_ rp⟩
  -- behind the call, a lent slot
  have after : ∀ {i : Nat} {e : D}, Own η[i]? e → i ∈ nms as → ∃ e1 a, ((η[i]? = some (.ow e) ∧ (back η as c)[i]? = some (.ow e1)) ∨ (η[i]? = some (.io e) ∧ (back η as c)[i]? = some (.io e1))) ∧ σ[i]? = some (some (.ref a)) ∧ F' a = none ∧ B a = none ∧ At K F' H' e1 a := fun {i e} h hmem => by
    obtain ⟨j, hj⟩ := nms_mem.mp hmem
    obtain ⟨e0, h0, hj0⟩ := resolve_nm hr hj
    obtain ⟨d1, a, p1, p2, p3, p4, p5⟩ := post j e0 hj0
    obtain ⟨v', k1, k2⟩ := ar.nm_at hj
    rw [p2] at k1
    cases k1
    obtain ⟨a', g1, _, g3, _⟩ := ok.ow i e h
    rw [k2] at g1
    cases g1
    exact ⟨d1, a, back_at hn hj h p1, k2, p3, g3, p5⟩
  have slotB : ∀ {i : Nat} {e : D}, Own (back η as c)[i]? e → ∃ e0, Own η[i]? e0 ∧ (i ∉ nms as → e = e0) := fun {i e} h => by
    by_cases hmem : i ∈ nms as
    · obtain ⟨j, hj⟩ := nms_mem.mp hmem
      obtain ⟨e0, h0, _⟩ := resolve_nm hr hj
      exact ⟨e0, h0, fun z => absurd hmem z⟩
    · rw [back_other hmem] at h
      exact ⟨e, h, fun _ => rfl⟩
  refine ⟨s2, fun a o h => s3 a o (guard_base ok h), fun a o h => dis a o (guard_base ok h), by rw [back_len]; exact ok.len, fun i e h => ?_, fun i e h => ?_, fun i a h => ?_, fun i j a e e' h1 h2 h3 h4 => ?_⟩
  · by_cases hmem : i ∈ nms as
    · obtain ⟨j, hj⟩ := nms_mem.mp hmem
      obtain ⟨e0, h0, _⟩ := resolve_nm hr hj
      obtain ⟨e1, a, k, _⟩ := after h0 hmem
      rcases k with ⟨_, k⟩ | ⟨_, k⟩ <;> (rw [k] at h; cases h)
    · rw [back_other hmem] at h
      obtain ⟨v', k1, k2⟩ := ok.sh i e h
      exact ⟨v', k1, k2.mono s1⟩
  · by_cases hmem : i ∈ nms as
    · obtain ⟨j, hj⟩ := nms_mem.mp hmem
      obtain ⟨e0, h0, _⟩ := resolve_nm hr hj
      obtain ⟨e1, a, k, k2, k3, k4, k5⟩ := after h0 hmem
      have : e = e1 := by
        rcases k with ⟨_, k⟩ | ⟨_, k⟩ <;> (rcases h with h | h <;> (rw [k] at h; cases h; try rfl))
      subst this
      exact ⟨a, k2, k3, k4, k5⟩
    · rw [back_other hmem] at h
      obtain ⟨a, k1, k2, k3, k4⟩ := ok.ow i e h
      obtain ⟨o, ho, _⟩ := k4.some
      have hg : guard B η σ H as a = some o := by rw [guard_own h hmem k1]; exact ho
      exact ⟨a, k1, dis a o hg, k3, k4.mono s1 ((s3 a o hg).trans ho.symm)⟩
  · obtain ⟨⟨e, k1⟩, k2⟩ := ok.io i a h
    refine ⟨?_, k2⟩
    by_cases hmem : i ∈ nms as
    · obtain ⟨e1, a', k, _⟩ := after (.inr k1) hmem
      rcases k with ⟨k, _⟩ | ⟨_, k⟩
      · rw [k1] at k; cases k
      · exact ⟨e1, k⟩
    · rw [back_other hmem]; exact ⟨e, k1⟩
  · obtain ⟨e0, g1, _⟩ := slotB h1
    obtain ⟨e0', g2, _⟩ := slotB h2
    exact ok.sep i j a e0 e0' g1 g2 h3 h4

section
variable {X : Cx} {k : Nat} {f : Addr} {fd : FuncData} {ps : List Str} {n : Nat} {sem : Sem} {x : Str} {p pos : Pos} {e : Expr} {es : List Expr} {m : CM}
/-- f(e, ..) -/
theorem pd_call (F : FnOk X.prog X.w X.K X.mg X.base CX0 k f fd ps (spD X.G n sem)) (hr : Room k X.A) (hg : Gl X x) (hm : X.mg x = some (.ref f)) (hk : PySem.W.keepIn X.K (.ref f) = true) (hb : Binds X.K fd ps [])
    (ha : PA X (e :: es) (tC X.G m)) (hlen : ∀ η as η', m η = some (as, η') → as.length = n) (hdb : (x == ("__debug__" : Str)) = false := by decide) (he : starEach (e :: es) X.env = (false, eval e X.env) :: starEach es X.env := by rfl) (hpl : (backTo pos (starEach es X.env)).any (·.1) = false := by rfl) :
    PE X (.Call (.Name x p) (e :: es) [] pos) (tD X.G (callE sem m)) :=
  weakE (pe_call F hr hg hm hk hb .nil pass0 ha hdb he hpl) fun σ H Q ⟨B, F1, Z, η, d, η', ok, hc, q⟩ => by
    obtain ⟨as, η1, args, c, h1, h2, h3, h4, rfl⟩ := callE_inv hc
    refine ⟨B, F1, Z, η, as, η1, ok, h1, fun vs H2 F2 s2 ok2 ar => ?_⟩
    show spD X.G n sem (vs ++ []) H2 Q E0
    rw [List.append_nil]
    exact call_sp ok2 ar h2 h3 h4 (by rw [← ar.len]; exact hlen _ _ _ h1) (fun v H' F' s' ok' r => q v H' F' (s2.trans s') ok' r) E0
end
theorem nilC_len {η : Env} {as : List Arg} {η' : Env} (h : nilC η = some (as, η')) : as.length = 0 := by cases h; rfl
theorem consC_len {m : EM} {r : CM} {n : Nat} (hr : ∀ η as η', r η = some (as, η') → as.length = n) (η : Env) (as : List Arg) (η' : Env) (h : consC m r η = some (as, η')) : as.length = n + 1 := by
  unfold consC at h
  split at h
  · split at h
    · next as' η2 h2 => cases h; rw [List.length_cons, hr _ _ _ h2]
    · cases h
  · cases h
theorem consN_len {i : Nat} {r : CM} {n : Nat} (hr : ∀ η as η', r η = some (as, η') → as.length = n) (η : Env) (as : List Arg) (η' : Env) (h : consN i r η = some (as, η')) : as.length = n + 1 := by
  unfold consN at h
  split at h
  · split at h
    · next as' η2 h2 => cases h; rw [List.length_cons, hr _ _ _ h2]
    · cases h
  · split at h
    · next as' η2 h2 => cases h; rw [List.length_cons, hr _ _ _ h2]
    · cases h
  · split at h
    · next as' η2 h2 => cases h; rw [List.length_cons, hr _ _ _ h2]
    · cases h
  · cases h
end DL

namespace DL
open PySem L2

/-! ### what is walked -/
def rangeD (lo hi : Int) : List D := (List.range (hi - lo).toNat).map fun (i : Nat) => D.int (lo + (i : Int))
def rangeC (lo c : Int) (n : Nat) : List D := (List.range n).map fun (i : Nat) => D.int (lo + (i : Int) * c)
theorem iter_range {K : Gd} {F : Hp} {lo : Int} {n : Nat} : IterOk K (Itr lo n) F ((List.range n).map fun (i : Nat) => D.int (lo + (i : Int))) where
  go := fun i H h _ => by show i < n; simpa using h
  stop := fun H _ => by show n ≤ _; simp
  yld := fun i H x H' F2 h s1 s2 y => by
    obtain ⟨rfl, rfl⟩ := y
    have hi : i < n := by simpa using h
    exact ⟨_, F2, by rw [List.getElem?_map, List.getElem?_range hi]; rfl, Res.same, .int _⟩
theorem iter_rangeC {K : Gd} {F : Hp} {lo c : Int} {n : Nat} : IterOk K (Itc lo c n) F (rangeC lo c n) where
  go := fun i H h _ => by show i < n; simpa [rangeC] using h
  stop := fun H _ => by show n ≤ _; simp [rangeC]
  yld := fun i H x H' F2 h s1 s2 y => by
    obtain ⟨rfl, rfl⟩ := y
    have hi : i < n := by simpa [rangeC] using h
    exact ⟨_, F2, by unfold rangeC; rw [List.getElem?_map, List.getElem?_range hi]; rfl, Res.same, .int _⟩
theorem iter_list {K : Gd} {F : Hp} {a : Addr} {vs : List V} {ds : List D} (h : SqL K.K F a vs) (r : RepL K F ds vs) : IterOk K (Itl K.K a) F ds where
  go := fun i H hi s => by
    obtain ⟨v, hv, _⟩ := r.get (List.getElem?_eq_getElem hi)
    exact ⟨vs, v, s.seq h, hv⟩
  stop := fun H s => ⟨vs, s.seq h, by rw [r.length]; exact Nat.le_refl _⟩
  yld := fun i H x H' F2 hi s1 s2 y => by
    obtain ⟨rfl, y⟩ := y
    have hx := y vs (s2.seq (s1.seq h))
    obtain ⟨d, hd, rd⟩ := r.getV hx
    exact ⟨d, F2, hd, Res.same, rd.mono s1⟩
theorem iter_tup {K : Gd} {F : Hp} {a : Addr} {vs : List V} {ds : List D} (h : SqT K.K F a vs) (r : RepL K F ds vs) : IterOk K (Itt K.K a) F ds where
  go := fun i H hi s => by
    obtain ⟨v, hv, _⟩ := r.get (List.getElem?_eq_getElem hi)
    exact ⟨vs, v, Same.sqT s h, hv⟩
  stop := fun H s => ⟨vs, Same.sqT s h, by rw [r.length]; exact Nat.le_refl _⟩
  yld := fun i H x H' F2 hi s1 s2 y => by
    obtain ⟨rfl, y⟩ := y
    have hx := y vs (Same.sqT s2 (Same.sqT s1 h))
    obtain ⟨d, hd, rd⟩ := r.getV hx
    exact ⟨d, F2, hd, Res.same, rd.mono s1⟩
def signs (z : Str) : List D := z.cps.toList.map fun c => D.str ⟨#[c]⟩
theorem iter_str {K : Gd} {F : Hp} {z : Str} : IterOk K (Its z) F (signs z) where
  go := fun i H h _ => by show i < z.cps.size; simpa [signs] using h
  stop := fun H _ => by show z.cps.size ≤ _; simp [signs]
  yld := fun i H x H' F2 h s1 s2 y => by
    obtain ⟨rfl, c, hc, rfl⟩ := y
    refine ⟨.str ⟨#[c]⟩, F2, ?_, Res.same, .str _⟩
    unfold signs
    rw [List.getElem?_map, Array.getElem?_toList, hc]
    rfl
def itemsD : D → Option (List D)
  | .lst xs => some xs
  | .frl xs => some xs
  | .tup xs => some xs
  | .str z => some (signs z)
  | _ => none
def itE (m : EM) : IM := fun η => match m η with
  | some (d, η') => match itemsD d with
    | some ds => some (ds, η')
    | none => none
  | none => none
def rng1 (m : EM) : IM := fun η => match m η with
  | some (.int j, η') => if -(2 ^ 62) ≤ j ∧ j < 2 ^ 62 then some (rangeD 0 j, η') else none
  | _ => none
def rng2 (m : AM) : IM := fun η => match m η with
  | some ([.int i, .int j], η') => if -(2 ^ 62) ≤ i ∧ i < 2 ^ 62 ∧ -(2 ^ 62) ≤ j ∧ j < 2 ^ 62 then some (rangeD i j, η') else none
  | _ => none
section
variable {X : Cx} {tg e a b : Expr} {p pos : Pos}
theorem i_of {m : EM} (h : PE X e (tD X.G m)) : PI X tg e (tI X.G (itE m)) := ⟨fun pins s σ H R I ⟨B, F, Z, η, ds, η', ok, hm, q⟩ => by
  unfold itE at hm
  split at hm
  · next d η1 h1 =>
    split at hm
    · next ds' hd =>
      cases hm
      cases d with
      | lst xs =>
        cases hd
        exact (pi_list h).run pins s σ H R I ⟨B, F, Z, η, _, _, ok, h1, fun v H' F' s' ok' r => by
          cases r with
          | lst hs hr => exact ⟨_, rfl, ⟨_, SqL.of (ok'.ff _ _ hs)⟩, q _ H' F' s' ok' (iter_list (SqL.of hs) hr)⟩⟩
      | frl xs =>
        cases hd
        exact (pi_list h).run pins s σ H R I ⟨B, F, Z, η, _, _, ok, h1, fun v H' F' s' ok' r => by
          cases r with
          | frl hs hr => exact ⟨_, rfl, ⟨_, ok'.ff.seq hs⟩, q _ H' F' s' ok' (iter_list hs hr)⟩⟩
      | tup xs =>
        cases hd
        exact (pi_tup h).run pins s σ H R I ⟨B, F, Z, η, _, _, ok, h1, fun v H' F' s' ok' r => by
          cases r with
          | tup hs hr => exact ⟨_, rfl, ⟨_, Same.sqT ok'.ff hs.sqT⟩, q _ H' F' s' ok' (iter_tup hs.sqT hr)⟩⟩
      | str z =>
        cases hd
        exact (pi_str h).run pins s σ H R I ⟨B, F, Z, η, _, _, ok, h1, fun v H' F' s' ok' r => by
          cases r
          exact ⟨z, rfl, q _ H' F' s' ok' iter_str⟩⟩
      | _ => cases hd
    · cases hm
  · cases hm⟩
theorem i_rng1 {m : EM} (hg : Gl X "range") (hm' : X.mg "range" = none) (ha : PE X a (tD X.G m)) (hs : starEach [a] X.env = [(false, eval a X.env)] := by rfl) : PI X tg (.Call (.Name "range" p) [a] [] pos) (tI X.G (rng1 m)) :=
  weakI (pi_range1 hg hm' (pa_cons ha pa_nil hs) hs) fun σ H R ⟨B, F, Z, η, ds, η', ok, hm, q⟩ => by
    unfold rng1 at hm
    split at hm
    · next j η1 h1 =>
      split at hm
      · next hj =>
        cases hm
        refine ⟨B, F, Z, η, _, _, ok, h1, fun v H' F' s' ok' r => ?_⟩
        cases r
        refine ⟨j, rfl, hj.1, hj.2, q _ H' F' s' ok' ?_⟩
        unfold rangeD
        rw [Int.sub_zero]
        exact iter_range
      · cases hm
    · cases hm
theorem i_rng2 {m : AM} (hg : Gl X "range") (hm' : X.mg "range" = none) (ha : PA X [a, b] (tDA X.G m)) (hs : starEach [a, b] X.env = [(false, eval a X.env), (false, eval b X.env)] := by rfl) (hs2 : starEach [b] X.env = [(false, eval b X.env)] := by rfl) :
    PI X tg (.Call (.Name "range" p) [a, b] [] pos) (tI X.G (rng2 m)) :=
  weakI (pi_range2 hg hm' ha hs hs2) fun σ H R ⟨B, F, Z, η, ds, η', ok, hm, q⟩ => by
    unfold rng2 at hm
    split at hm
    · next i j η1 h1 =>
      split at hm
      · next hj =>
        cases hm
        refine ⟨B, F, Z, η, _, _, ok, h1, fun vs H' F' s' ok' r => ?_⟩
        cases r with
        | cons r1 r2 =>
          cases r2 with
          | cons r2 r3 =>
            cases r3
            cases r1
            cases r2
            exact ⟨i, j, rfl, hj, q _ H' F' s' ok' iter_range⟩
      · cases hm
    · cases hm
end

/-! ### list comprehensions -/
def clearOk (vs : List Nat) (η : Env) : Bool := vs.all fun i => match η[i]? with
  | some (.io _) => false
  | _ => true
/-- the block's own slots are empty at each turn -/
def clearL (vs : List Nat) (η : Env) : Env := vs.foldl (fun η i => η.set i .no) η
def restL : List Nat → Env → Env → Env
  | [], _, η => η
  | i :: is, η1, η => restL is η1 (match η1[i]? with
    | some (.sh d) => η.set i (.sh d)
    | _ => η.set i .no)
def lcL (vs : List Nat) (g : TgM) (tt : BM) (te : EM) : List D → Env → Option (List D × Env)
  | [], η => some ([], η)
  | d :: ds, η => match g d (clearL vs η) with
    | some η1 => match tt η1 with
      | some (true, η2) => match te η2 with
        | some (y, η3) => match lcL vs g tt te ds η3 with
          | some (ys, η4) => some (y :: ys, η4)
          | none => none
        | none => none
      | some (false, η2) => lcL vs g tt te ds η2
      | none => none
    | none => none
def lcE (it : IM) (vs : List Nat) (g : TgM) (tt : BM) (te : EM) : EM := fun η => match it η with
  | some (ds, η1) => if ds.length ≤ 16777216 ∧ clearOk vs η1 = true then match lcL vs g tt te ds η1 with
    | some (ys, η2) => some (.lst ys, restL vs η1 η2)
    | none => none
    else none
  | none => none
def trueB : BM := fun η => some (true, η)
theorem pts_none {X : Cx} : PTs X [] (tBt X.G trueB) := ⟨fun pins s σ H Q I ⟨B, F, Z, η, d, η', ok, hm, q⟩ => pts_nil.run pins s σ H Q I (by cases hm; exact q H F (Same.refl _) ok)⟩
theorem pts_one' {X : Cx} {c : Expr} {m : BM} (h : PT X c (tBt X.G m)) : PTs X [c] (tBt X.G m) := pts_one h
theorem clearL_len : ∀ {is : List Nat} {η : Env}, (clearL is η).length = η.length
  | [], _ => rfl
  | j :: is, η => by rw [clearL, List.foldl_cons, ← clearL, clearL_len, List.length_set]
theorem clearL_get {i : Nat} : ∀ {is : List Nat} {η : Env}, i ∉ is → (clearL is η)[i]? = η[i]?
  | [], _, _ => rfl
  | j :: is, η, h => by
    rw [List.mem_cons, not_or] at h
    rw [clearL, List.foldl_cons, ← clearL, clearL_get h.2, List.getElem?_set_ne (fun z => h.1 z.symm)]
theorem clearL_at {i : Nat} : ∀ {is : List Nat} {η : Env}, i ∈ is → ∀ s, (clearL is η)[i]? = some s → s = .no
  | [], _, h, _, _ => nomatch h
  | j :: is, η, h, s, e => by
    rw [clearL, List.foldl_cons, ← clearL] at e
    by_cases hj : i ∈ is
    · exact clearL_at (is := is) hj s e
    · rcases List.mem_cons.mp h with h | h
      · subst h
        rw [clearL_get hj] at e
        rcases getElem?_set_some e with ⟨_, _, c⟩ | ⟨c, _⟩
        · exact c
        · exact absurd rfl c
      · exact absurd h hj
theorem clearOk_zn {K : Gd} {B F : Hp} {Z : Pins} {η : Env} {σ : L2.St} {H : Hp} (ok : Ok K B F Z η σ H) {vs : List Nat} (h : clearOk vs η = true) (i : Nat) (hi : i ∈ vs) : Z i = none := ok.zn fun d e => by
  unfold clearOk at h
  rw [List.all_eq_true] at h
  have := h i hi
  rw [e] at this
  cases this
/-- the block's slots: with the wiped σ -/
theorem Ok.wiped {K : Gd} {B F : Hp} {Z : Pins} {η : Env} {σ σ' : L2.St} {H : Hp} (ok : Ok K B F Z η σ H) {vs : List Nat} (hv : ∀ i ∈ vs, Z i = none) (hl : σ'.length = σ.length) (he : ∀ i, i ∉ vs → σ'[i]? = σ[i]?) : Ok K B F Z (clearL vs η) σ' H := by
  have out : ∀ {i : Nat} {s : S}, (clearL vs η)[i]? = some s → s ≠ .no → i ∉ vs ∧ η[i]? = some s := fun {i s} h hs => by
    by_cases hi : i ∈ vs
    · exact absurd (clearL_at hi s h) hs
    · rw [clearL_get hi] at h; exact ⟨hi, h⟩
  have own : ∀ {i : Nat} {d : D}, Own (clearL vs η)[i]? d → i ∉ vs ∧ Own η[i]? d := fun {i d} h => by
    rcases h with h | h
    · obtain ⟨h1, h2⟩ := out h (by intro z; cases z); exact ⟨h1, .inl h2⟩
    · obtain ⟨h1, h2⟩ := out h (by intro z; cases z); exact ⟨h1, .inr h2⟩
  refine ⟨ok.ff, ok.bb, ok.bf, by rw [clearL_len, ok.len, hl], fun i d h => ?_, fun i d h => ?_, fun i a h => ?_, fun i j a d e h1 h2 h3 h4 => ?_⟩
  · obtain ⟨h1, h2⟩ := out h (by intro z; cases z)
    obtain ⟨v, k1, k2⟩ := ok.sh i d h2
    exact ⟨v, by rw [he i h1]; exact k1, k2⟩
  · obtain ⟨h1, h2⟩ := own h
    obtain ⟨a, k1, k2⟩ := ok.ow i d h2
    exact ⟨a, by rw [he i h1]; exact k1, k2⟩
  · obtain ⟨⟨d, k1⟩, k2⟩ := ok.io i a h
    have hi : i ∉ vs := fun hi => by rw [hv i hi] at h; cases h
    exact ⟨⟨d, by rw [clearL_get hi]; exact k1⟩, by rw [he i hi]; exact k2⟩
  · obtain ⟨g1, g2⟩ := own h1
    obtain ⟨k1, k2⟩ := own h2
    rw [he i g1] at h3
    rw [he j k1] at h4
    exact ok.sep i j a d e g2 k2 h3 h4
/-- back to the def's own slots -/
theorem Ok.resto {K : Gd} {B F : Hp} {Z : Pins} {η1 : Env} {σ : L2.St} {H : Hp} (hs : ∀ (i : Nat) (d : D), η1[i]? = some (.sh d) → ∃ v, σ[i]? = some (some v) ∧ Rep K F d v) : ∀ {vs : List Nat} {η : Env}, (∀ i ∈ vs, Z i = none) →
    ∀ {σ' : L2.St}, Ok K B F Z η σ' H → σ'.length = σ.length → (∀ i, i ∉ vs → σ'[i]? = σ[i]?) → Ok K B F Z (restL vs η1 η) σ H
  | [], η, hv, σ', ok, hl, he => by
    have : σ' = σ := List.ext_getElem? fun i => he i (fun h => nomatch h)
    subst this
    exact ok
  | i :: is, η, hv, σ', ok, hl, he => by
    rw [restL]
    have hz := hv i List.mem_cons_self
    have out : ∀ j, j ∉ is → (σ'.set i ((σ[i]?).getD none))[j]? = σ[j]? := fun j hj => by
      by_cases e : j = i
      · subst e
        by_cases hi : j < σ'.length
        · rw [List.getElem?_set_self hi, List.getElem?_eq_getElem (by rw [← hl]; exact hi)]
          rfl
        · rw [List.getElem?_eq_none (by rw [List.length_set]; omega), List.getElem?_eq_none (by omega)]
      · rw [List.getElem?_set_ne (fun z => e z.symm)]
        exact he j (fun h => (List.mem_cons.mp h).elim e hj)
    split
    · next d hd =>
      obtain ⟨v, k1, k2⟩ := hs i d hd
      have hiσ : i < σ.length := (List.getElem?_eq_some_iff.mp k1).1
      have q := ok.setShZ (i := i) (by rw [ok.len, hl]; exact hiσ) hz k2
      refine Ok.resto hs (fun j hj => hv j (List.mem_cons_of_mem _ hj)) q (by rw [List.length_set]; exact hl) fun j hj => ?_
      have := out j hj
      rw [k1] at this
      exact this
    · have q := ok.setNoZ (i := i) (ov := (σ[i]?).getD none) hz
      exact Ok.resto hs (fun j hj => hv j (List.mem_cons_of_mem _ hj)) q (by rw [List.length_set]; exact hl) out
/-- the new list is kept from the block -/
theorem Ok.shield {K : Gd} {B F : Hp} {Z : Pins} {η : Env} {σ : L2.St} {H : Hp} (ok : Ok K B F Z η σ H) {p : Addr} {o : HO} (h : H p = none) : Ok K (upd B p o) F Z η σ (upd H p o) := by
  have okn := ok.newH (p := p) (o := o) h
  refine ⟨okn.ff, fun b x e => ?_, fun b x e => ?_, okn.len, okn.sh, fun i d e => ?_, okn.io, okn.sep⟩
  · by_cases hb : b = p
    · subst hb; rw [upd_same] at e ⊢; exact e
    · rw [upd_ne hb] at e ⊢; exact ok.bb b x e
  · by_cases hb : b = p
    · subst hb; exact ok.free h
    · rw [upd_ne hb] at e; exact ok.bf b x e
  · obtain ⟨a, h1, h2, h3, h4⟩ := okn.ow i d e
    refine ⟨a, h1, h2, ?_, h4⟩
    have ne : a ≠ p := fun z => by
      subst z
      obtain ⟨a', k1, _, _, k4⟩ := ok.ow i d e
      rw [h1] at k1
      cases k1
      obtain ⟨o', ho, _⟩ := k4.some
      rw [h] at ho
      cases ho
    rw [upd_ne ne]
    exact h3
theorem Ok.reshield {K : Gd} {B F : Hp} {Z : Pins} {η : Env} {σ : L2.St} {H : Hp} {p : Addr} {o o' : HO} (ok : Ok K (upd B p o) F Z η σ H) : Ok K (upd B p o') F Z η σ (upd H p o') := by
  have hB : (upd B p o) p = some o := upd_same
  have hF : F p = none := ok.bf p o hB
  refine ⟨fun b x e => ?_, fun b x e => ?_, fun b x e => ?_, ok.len, ok.sh, fun i d e => ?_, ok.io, ok.sep⟩
  · rw [upd_ne (show b ≠ p from fun z => by rw [z, hF] at e; cases e)]
    exact ok.ff b x e
  · by_cases hb : b = p
    · subst hb; rw [upd_same] at e ⊢; exact e
    · rw [upd_ne hb] at e ⊢; exact ok.bb b x (by rw [upd_ne hb]; exact e)
  · by_cases hb : b = p
    · subst hb; exact hF
    · rw [upd_ne hb] at e; exact ok.bf b x (by rw [upd_ne hb]; exact e)
  · obtain ⟨a, h1, h2, h3, h4⟩ := ok.ow i d e
    have ne : a ≠ p := fun z => by rw [z, hB] at h3; cases h3
    rw [upd_ne ne] at h3
    exact ⟨a, h1, h2, by rw [upd_ne ne]; exact h3, h4.mono (Same.refl _) (upd_ne ne)⟩
theorem Ok.unshield {K : Gd} {B F : Hp} {Z : Pins} {η : Env} {σ : L2.St} {H : Hp} {p : Addr} {o : HO} (hB0 : B p = none) (ok : Ok K (upd B p o) F Z η σ H) : Ok K B F Z η σ H ∧ F p = none ∧ H p = some o ∧ ∀ (i : Nat) (d : D), Own η[i]? d → σ[i]? ≠ some (some (.ref p)) := by
  have hB : (upd B p o) p = some o := upd_same
  refine ⟨⟨ok.ff, fun b x e => ok.bb b x ?_, fun b x e => ok.bf b x ?_, ok.len, ok.sh, fun i d e => ?_, ok.io, ok.sep⟩, ok.bf p o hB, ok.bb p o hB, fun i d hi e => ?_⟩
  · rw [upd_ne (show b ≠ p from fun z => by rw [z, hB0] at e; cases e)]; exact e
  · rw [upd_ne (show b ≠ p from fun z => by rw [z, hB0] at e; cases e)]; exact e
  · obtain ⟨a, h1, h2, h3, h4⟩ := ok.ow i d e
    have ne : a ≠ p := fun z => by rw [z, hB] at h3; cases h3
    rw [upd_ne ne] at h3
    exact ⟨a, h1, h2, h3, h4⟩
  · obtain ⟨a, h1, _, h3, _⟩ := ok.ow i d hi
    rw [e] at h1
    cases h1
    rw [hB] at h3
    cases h3

theorem wipe_eq_out {σ σ' : L2.St} {vs : List Nat} (h : wipe σ' vs = wipe σ vs) {i : Nat} (hi : i ∉ vs) : σ'[i]? = σ[i]? := by
  have := congrArg (fun l => l[i]?) h
  simp only [wipe_out hi] at this
  exact this
theorem wipe_eq_len {σ σ' : L2.St} {vs : List Nat} (h : wipe σ' vs = wipe σ vs) : σ'.length = σ.length := by
  have := congrArg List.length h
  rw [wipe_length, wipe_length] at this
  exact this
theorem wipe_wipe {σ : L2.St} {vs : List Nat} : wipe (wipe σ vs) vs = wipe σ vs := by
  apply List.ext_getElem?
  intro j
  by_cases hj : j ∈ vs
  · rw [wipe_get hj, wipe_get hj, wipe_length]
  · rw [wipe_out hj]

theorem lc_read {K : Gd} {it : IM} {vs : List Nat} {g : TgM} {tt : BM} {te : EM} (σ : L2.St) (H : Hp) (Q : VK) (h : tO K (lcE it vs g tt te) σ H Q) :
    tLc (tI K it) (tG K vs g) (tBt K tt) (tD K te) vs σ H Q := by
  obtain ⟨B, F, Z, η, d, ηr, ok, hm, q⟩ := h
  unfold lcE at hm
  split at hm
  · next ds η1 h1 =>
    split at hm
    · next hc =>
      split at hm
      · next ys η2 h2 =>
        cases hm
        refine ⟨B, F, Z, η, ds, η1, ok, h1, fun J H1 F1 s1 ok1 iter p hp => ?_⟩
        have hB := ok1.bnone hp
        have hv : ∀ i ∈ vs, Z i = none := fun i hi => clearOk_zn ok1 hc.2 i hi
        have sz : sizeLine = 16777216 := sizeLine_eq
        -- the invariant: the slots are those of some σ' that parts from σ in vs alone
        refine ⟨fun i m H => m = ds.length - i ∧ i ≤ ds.length ∧ ∃ F2 η2' acc vacc ys' σ', Same F1 F2 ∧ Ok K (upd B p (.lst vacc)) F2 Z η2' σ' H ∧ wipe σ' vs = wipe σ vs ∧ RepL K F2 acc vacc ∧ acc.length ≤ i ∧
          lcL vs g tt te (ds.drop i) η2' = some (ys', η2) ∧ ys = acc ++ ys', ⟨ds.length, by omega, Nat.zero_le _, F1, η1, [], [], ys, σ, Same.refl _,
            ok1.shield hp, rfl, .nil, Nat.le_refl _, by rw [List.drop_zero]; exact h2, rfl⟩, ?_⟩
        rintro i m H ⟨rfl, hi, F2, η2', acc, vacc, ys', σ', s2, ok2, hw, ra, hla, hl, hy⟩
        have sl : (wipe σ vs).length = σ'.length := by rw [wipe_length, ← wipe_eq_len hw]
        by_cases hlt : i < ds.length
        · rw [List.drop_eq_getElem_cons hlt] at hl
          unfold lcL at hl
          split at hl
          · next η3 h3 =>
            refine .inr ⟨iter.go i H hlt (s2.trans ok2.ff), fun H' => ∃ F5 η5 acc5 vacc5 ys5 σ5, Same F1 F5 ∧ Ok K (upd B p (.lst vacc5)) F5 Z η5 σ5 H' ∧ wipe σ5 vs = wipe σ vs ∧ RepL K F5 acc5 vacc5 ∧ acc5.length ≤ i + 1 ∧
              lcL vs g tt te (ds.drop (i + 1)) η5 = some (ys5, η2) ∧ ys = acc5 ++ ys5, fun H' ⟨F5, η5, acc5, vacc5, ys5, σ5, k⟩ => ⟨_, by omega, rfl, hlt, F5, η5, acc5, vacc5, ys5, σ5, k⟩, fun x H' y => ?_⟩
            obtain ⟨e, F3, he, rs, rp⟩ := iter.yld i H x H' F2 hlt s2 ok2.ff y
            have ed : ds[i] = e := by rw [List.getElem?_eq_getElem hlt] at he; exact Option.some.inj he
            rw [ed] at h3
            obtain ⟨ok3, s3⟩ := ok2.res rs
            have okw := ok3.wiped (σ' := wipe σ vs) hv sl (fun j hj => by rw [wipe_out hj]; exact (wipe_eq_out hw hj).symm)
            refine ⟨_, F3, Z, _, e, η3, okw, rp, h3, fun σ4 H4 F4 s4 ok4 w4 => ⟨w4.trans wipe_wipe, ?_⟩⟩
            have w5 : wipe σ4 vs = wipe σ vs := w4.trans wipe_wipe
            split at hl
            · next η5 h5 =>
              split at hl
              · next y' η6 h6 =>
                split at hl
                · next ys6 η7 h7 =>
                  cases hl
                  refine ⟨_, F4, Z, η3, true, η5, ok4, h5, fun H5 F5 s5 ok5 => ?_⟩
                  refine iteT ⟨_, F5, Z, η5, y', η6, ok5, h6, fun v H6 F6 s6 ok6 r6 => ?_⟩
                  have s16 : Same F2 F6 := ((s3.trans s4).trans s5).trans s6
                  refine ⟨vacc, ok6.bb p _ upd_same, by rw [← ra.length]; omega, F6, η6, acc ++ [y'], vacc ++ [v], ys6, σ4, s2.trans s16, ok6.reshield, w5, (ra.mono s16).append (.cons r6 .nil), by rw [List.length_append, List.length_singleton]; omega, h7, by rw [hy, List.append_assoc]; rfl⟩
                · cases hl
              · cases hl
            · next η5 h5 =>
              refine ⟨_, F4, Z, η3, false, η5, ok4, h5, fun H5 F5 s5 ok5 => ?_⟩
              have s15 : Same F2 F5 := (s3.trans s4).trans s5
              exact iteF ⟨F5, η5, acc, vacc, ys', σ4, s2.trans s15, ok5, w5, ra.mono s15, by omega, hl, hy⟩
            · cases hl
          · cases hl
        · have e : i = ds.length := by omega
          subst e
          rw [List.drop_length] at hl
          unfold lcL at hl
          cases hl
          rw [List.append_nil] at hy
          subst hy
          refine .inl ⟨iter.stop H (s2.trans ok2.ff), ?_⟩
          have okr := Ok.resto (η1 := η1) (σ := σ) (fun j e he => let ⟨v, k1, k2⟩ := ok1.sh j e he; ⟨v, k1, k2.mono s2⟩) hv ok2 (wipe_eq_len hw) (fun j hj => wipe_eq_out hw hj)
          obtain ⟨ok5, f5, h5, n5⟩ := okr.unshield hB
          exact q p H F2 (s1.trans s2) ok5 hB f5 (.lst h5 ra) n5
      · cases hm
    · cases hm
  · cases hm
section
variable {X : Cx}
theorem po_lc {elt tg iter : Expr} {ifs : List Expr} {scope : Scope} {own : List (Str × Nat)} {pos : Pos} {it : IM} {g : TgM} {tt : BM} {te : EM} (hc : X.calm = true) (hN : X.N.Nodup) (hi : PI X tg iter (tI X.G it)) (ok : BlkOk X.N X.env.scope scope own)
    (hg : ∀ (s : Shared) (H : Hp) (C : Addr) (cl : List (Str × Addr)) (fp : List Addr), PG (X.blk s H scope (compEnvC scope cl C X.env) fp) tg (tG X.G (own.map (·.2)) g))
    (ht : ∀ (s : Shared) (H : Hp) (C : Addr) (cl : List (Str × Addr)) (fp : List Addr), PTs (X.blk s H scope (compEnvC scope cl C X.env) fp) ifs (tBt X.G tt))
    (he : ∀ (s : Shared) (H : Hp) (C : Addr) (cl : List (Str × Addr)) (fp : List Addr), PE (X.blk s H scope (compEnvC scope cl C X.env) fp) elt (tD X.G te)) (hs : ∀ x, foldedSetIterable iter X.env x = pure x := by intro _; rfl) :
    PE X (.ListComp elt [⟨tg, iter, ifs, 0⟩] scope pos) (tO X.G (lcE it (own.map (·.2)) g tt te)) := weakE (pe_lc hc hN hi ok hg ht he hs) lc_read
/-- y = [..] where the name is stored as the list is made -/
theorem s_setLc {i : Nat} {y : Str} {py : Pos} {elt tg iter : Expr} {ifs : List Expr} {scope : Scope} {own : List (Str × Nat)} {pos spos : Pos} {it : IM} {g : TgM} {tt : BM} {te : EM} (hc : X.calm = true) (hN : X.N.Nodup) (hy : X.N[i]? = some y) (hyl : X.env.scope.names.lookup y = some .local)
    (hsw : swapsWith (.ListComp elt [⟨tg, iter, ifs, 0⟩] scope pos) (some (.Name y py)) spos.line X.env = pure true) (hi : PI X tg iter (tI X.G it)) (ok : BlkOk X.N X.env.scope scope own)
    (hg : ∀ (s : Shared) (H : Hp) (C : Addr) (cl : List (Str × Addr)) (fp : List Addr), PG (X.blk s H scope (compEnvC scope cl C X.env) fp) tg (tG X.G (own.map (·.2)) g))
    (ht : ∀ (s : Shared) (H : Hp) (C : Addr) (cl : List (Str × Addr)) (fp : List Addr), PTs (X.blk s H scope (compEnvC scope cl C X.env) fp) ifs (tBt X.G tt))
    (he : ∀ (s : Shared) (H : Hp) (C : Addr) (cl : List (Str × Addr)) (fp : List Addr), PE (X.blk s H scope (compEnvC scope cl C X.env) fp) elt (tD X.G te)) (hs : ∀ x, foldedSetIterable iter X.env x = pure x := by intro _; rfl) :
    PS X (.Assign [.Name y py] (.ListComp elt [⟨tg, iter, ifs, 0⟩] scope pos) spos) (tS X.G (setO i (lcE it (own.map (·.2)) g tt te))) :=
  weakS (ps_setLc hc hN hy hyl hsw hi ok hg ht he hs) fun D σ H h => by
    obtain ⟨B, F, Z, η, o, η', ok, hm, q⟩ := h
    unfold setO at hm
    split at hm
    · next d η1 h =>
      split at hm
      · next η2 h2 =>
        cases hm
        obtain ⟨hi, hn, rfl⟩ := setSlot_inv h2
        exact lc_read σ H _ ⟨B, F, Z, η, d, η1, ok, h, fun p H' F' s ok' hB hF hA ho => q _ H' F' s (ok'.setOw hi hn hB hF hA ho)⟩
      · cases hm
    · cases hm
end
end DL

namespace DL
open PySem L2

/-! ### own objects are changed -/
def ownC (η : Env) (i : Nat) : Option D := match η[i]? with
  | some (.ow d) => some d
  | some (.io d) => some d
  | _ => none
def setOwn (η : Env) (i : Nat) (d : D) : Env := match η[i]? with
  | some (.ow _) => η.set i (.ow d)
  | some (.io _) => η.set i (.io d)
  | _ => η
theorem ownC_inv {η : Env} {i : Nat} {d : D} (h : ownC η i = some d) : Own η[i]? d := by
  unfold ownC at h
  split at h
  · next d' e => cases h; exact .inl e
  · next d' e => cases h; exact .inr e
  · cases h
theorem own_lt {η : Env} {i : Nat} {d : D} (h : Own η[i]? d) : i < η.length := by
  rcases h with h | h <;> exact (List.getElem?_eq_some_iff.mp h).1
theorem setOwn_at {η : Env} {i : Nat} {d d' : D} (h : Own η[i]? d) : Own (setOwn η i d')[i]? d' := by
  unfold setOwn
  rcases h with h | h
  · simp only [h]
    exact .inl (List.getElem?_set_self (List.getElem?_eq_some_iff.mp h).1)
  · simp only [h]
    exact .inr (List.getElem?_set_self (List.getElem?_eq_some_iff.mp h).1)
theorem setOwn_ne {η : Env} {i j : Nat} {d : D} (h : j ≠ i) : (setOwn η i d)[j]? = η[j]? := by
  unfold setOwn
  split
  · rw [List.getElem?_set_ne (fun z => h z.symm)]
  · rw [List.getElem?_set_ne (fun z => h z.symm)]
  · rfl
theorem setOwn_len {η : Env} {i : Nat} {d : D} : (setOwn η i d).length = η.length := by
  unfold setOwn
  split
  · rw [List.length_set]
  · rw [List.length_set]
  · rfl
theorem setOwn_io {η : Env} {i : Nat} {d d' : D} (h : η[i]? = some (.io d)) : (setOwn η i d')[i]? = some (.io d') := by
  unfold setOwn
  simp only [h]
  exact List.getElem?_set_self (List.getElem?_eq_some_iff.mp h).1
section
variable {K : Gd} {B F : Hp} {Z : Pins} {η : Env} {σ : L2.St} {H : Hp} {a : Addr} {o : HO} {i : Nat} {d d' : D}
theorem Ok.mut (ok : Ok K B F Z η σ H) (hi : Own η[i]? d) (hs : σ[i]? = some (some (.ref a))) (hA : At K F (upd H a o) d' a) : Ok K B F Z (setOwn η i d') σ (upd H a o) := by
  obtain ⟨a', e, hF, hB, hA0⟩ := ok.ow i d hi
  rw [hs] at e
  cases e
  have own : ∀ {j : Nat} {e : D}, Own (setOwn η i d')[j]? e → (j = i ∧ e = d') ∨ (j ≠ i ∧ Own η[j]? e) := fun {j e} h => by
    by_cases hj : j = i
    · subst hj
      have := setOwn_at (d' := d') hi
      left
      refine ⟨rfl, ?_⟩
      rcases h with h | h <;> rcases this with k | k <;> (rw [h] at k; cases k; try rfl)
    · rw [setOwn_ne hj] at h; exact .inr ⟨hj, h⟩
  refine ⟨fun b x e => ?_, fun b x e => ?_, ok.bf, by rw [setOwn_len]; exact ok.len, fun j e h => ?_, fun j e h => ?_, fun j b h => ?_, fun j k b e e' h1 h2 h3 h4 => ?_⟩
  · rw [upd_ne (show b ≠ a from fun z => by rw [z, hF] at e; cases e)]; exact ok.ff b x e
  · rw [upd_ne (show b ≠ a from fun z => by rw [z, hB] at e; cases e)]; exact ok.bb b x e
  · by_cases hj : j = i
    · subst hj
      have := setOwn_at (d' := d') hi
      rcases this with k | k <;> (rw [k] at h; cases h)
    · rw [setOwn_ne hj] at h; exact ok.sh j e h
  · rcases own h with ⟨rfl, rfl⟩ | ⟨hj, h'⟩
    · exact ⟨a, hs, hF, hB, hA⟩
    · obtain ⟨b, k1, k2, k3, k4⟩ := ok.ow j e h'
      have ne : b ≠ a := fun z => hj (ok.sep j i a e d h' hi (by rw [k1, z]) hs)
      exact ⟨b, k1, k2, k3, k4.mono (Same.refl _) (upd_ne ne)⟩
  · obtain ⟨⟨e, k1⟩, k2⟩ := ok.io j b h
    refine ⟨?_, k2⟩
    by_cases hj : j = i
    · subst hj; exact ⟨d', setOwn_io k1⟩
    · rw [setOwn_ne hj]; exact ⟨e, k1⟩
  · have q1 : ∃ e0, Own η[j]? e0 := by
      rcases own h1 with ⟨rfl, _⟩ | ⟨_, h'⟩
      · exact ⟨d, hi⟩
      · exact ⟨e, h'⟩
    have q2 : ∃ e0, Own η[k]? e0 := by
      rcases own h2 with ⟨rfl, _⟩ | ⟨_, h'⟩
      · exact ⟨d, hi⟩
      · exact ⟨e', h'⟩
    obtain ⟨e1, q1⟩ := q1
    obtain ⟨e2, q2⟩ := q2
    exact ok.sep j k b e1 e2 q1 q2 h3 h4
end

/-! #### methods of lists -/
def MutOk (K : Gd) (r : V → List V → Hp → VK → Prop) (g : List D → List D → Option (D × List D)) : Prop := ∀ (a : Addr) (vs vxs : List V) (H F : Hp) (Q : VK) (xs ds : List D) (res : D) (xs' : List D), H a = some (.lst vxs) → F a = none → Same F H → RepL K F xs vxs → RepL K F ds vs → g xs ds = some (res, xs') →
  (∀ (u : V) (vxs' : List V), RepL K F xs' vxs' → Rep K F res u → Q u (upd H a (.lst vxs'))) → r (.ref a) vs H Q
def mutE (i : Nat) (am : AM) (g : List D → List D → Option (D × List D)) : EM := fun η => match ownC η i with
  | some (.lst _) => match am η with
    | some (ds, η1) => match ownC η1 i with
      | some (.lst xs) => match g xs ds with
        | some (res, xs') => some (res, setOwn η1 i (.lst xs'))
        | none => none
      | _ => none
    | none => none
  | _ => none
theorem mut_read {K : Gd} {i : Nat} {am : AM} {g : List D → List D → Option (D × List D)} {r : V → List V → Hp → VK → Prop} (hr : MutOk K r g) {t : TA} (w : ∀ σ H Q, tDA K am σ H Q → t σ H Q) (σ : L2.St) (H : Hp) (Q : VK) (h : tD K (mutE i am g) σ H Q) :
    tBM K.K "list" r (tVar i) t σ H Q := by
  obtain ⟨B, F, Z, η, d, η', ok, hm, q⟩ := h
  unfold mutE at hm
  split at hm
  · next xs0 h0 =>
    split at hm
    · next ds η1 h1 =>
      split at hm
      · next xs h2 =>
        split at hm
        · next res xs' h3 =>
          cases hm
          obtain ⟨a, k1, _, _, k4⟩ := ok.ow i _ (ownC_inv h0)
          cases k4 with
          | lst hl hr0 =>
            refine ⟨_, k1, .inl ⟨rfl, _, SqL.of hl⟩, w _ _ _ ⟨B, F, Z, η, ds, η1, ok, h1, fun vs H1 F1 s1 ok1 r1 => ?_⟩⟩
            obtain ⟨a', k5, k6, k7, k8⟩ := ok1.ow i _ (ownC_inv h2)
            rw [k1] at k5
            cases k5
            cases k8 with
            | lst hl1 hr1 =>
              refine hr a vs _ H1 F1 _ xs ds _ xs' hl1 k6 ok1.ff hr1 r1 h3 fun u vxs' r2 r3 => ?_
              exact q u _ F1 s1 (ok1.mut (ownC_inv h2) k1 (.lst upd_same r2)) r3
        · cases hm
      · cases hm
    · cases hm
  · cases hm
def mut0 (i : Nat) (g : List D → List D → Option (D × List D)) : EM := mutE i nilA g
theorem mut_read0 {K : Gd} {i : Nat} {g : List D → List D → Option (D × List D)} {r : V → List V → Hp → VK → Prop} (hr : MutOk K r g) (σ : L2.St) (H : Hp) (Q : VK) (h : tD K (mut0 i g) σ H Q) :
    tBM0 K.K "list" r (tVar i) σ H Q := by
  obtain ⟨v, h1, h2, h3⟩ := mut_read hr (t := tNil) (fun σ H Q ⟨B, F, Z, η, d, η', ok, hm, q⟩ => by cases hm; exact q _ _ _ (Same.refl _) ok .nil) σ H Q h
  exact ⟨v, h1, h2, h3⟩
def appG (xs ds : List D) : Option (D × List D) := match ds with
  | [d] => if xs.length < 16777216 then some (.non, xs ++ [d]) else none
  | _ => none
def extG (xs ds : List D) : Option (D × List D) := match ds with
  | [.lst ys] => if xs.length + ys.length ≤ 16777216 then some (.non, xs ++ ys) else none
  | _ => none
def popG (xs ds : List D) : Option (D × List D) := match ds with
  | [] => match xs[xs.length - 1]? with
    | some d => some (d, xs.dropLast)
    | none => none
  | _ => none
def popAtG (xs ds : List D) : Option (D × List D) := match ds with
  | [.int i] => if -(2 ^ 63) ≤ i ∧ i < 2 ^ 63 then match ixN xs.length i with
    | some k => match xs[k]? with
      | some d => some (d, xs.eraseIdx k)
      | none => none
    | none => none
    else none
  | _ => none
theorem RepL.eraseIdx {K : Gd} {F : Hp} : ∀ {ds : List D} {vs : List V} (n : Nat), RepL K F ds vs → RepL K F (ds.eraseIdx n) (vs.eraseIdx n)
  | _, _, _, .nil => .nil
  | _, _, 0, .cons _ r => r
  | _, _, n + 1, .cons q r => .cons q (RepL.eraseIdx n r)
section
variable {X : Cx} {o e : Expr} {es : List Expr} {pos apos cpos : Pos} {i : Nat} {am : AM}
theorem mo_append {K : Gd} : MutOk K rAppend appG := fun a vs vxs H F Q xs ds res xs' h1 _ h2 r1 r2 hg q => by
  unfold appG at hg
  split at hg
  · next d =>
    split at hg
    · next hl =>
      cases hg
      cases r2 with
      | cons r3 r4 =>
        cases r4
        exact ⟨a, vxs, _, rfl, rfl, h1, by rw [sizeLine_eq, ← r1.length]; exact hl, q _ _ (r1.append (.cons r3 .nil)) .non⟩
    · cases hg
  · cases hg
theorem mo_extend {K : Gd} : MutOk K rExtend extG := fun a vs vxs H F Q xs ds res xs' h1 _ h2 r1 r2 hg q => by
  unfold extG at hg
  split at hg
  · next ys =>
    split at hg
    · next hl =>
      cases hg
      cases r2 with
      | cons r3 r4 =>
        cases r4
        cases r3 with
        | lst hb rb => exact ⟨a, _, vxs, _, rfl, rfl, h1, h2 _ _ hb, by rw [sizeLine_eq, ← r1.length, ← rb.length]; exact hl, q _ _ (r1.append rb) .non⟩
    · cases hg
  · cases hg
theorem mo_pop {K : Gd} : MutOk K rPop popG := fun a vs vxs H F Q xs ds res xs' h1 _ h2 r1 r2 hg q => by
  unfold popG at hg
  split at hg
  · split at hg
    · next d hd =>
      cases hg
      cases r2
      obtain ⟨v, k1, k2⟩ := r1.get hd
      exact ⟨a, vxs, v, rfl, rfl, h1, by rw [← r1.length]; exact k1, q _ _ r1.dropLast k2⟩
    · cases hg
  · cases hg
theorem mo_popAt {K : Gd} : MutOk K rPopAt popAtG := fun a vs vxs H F Q xs ds res xs' h1 _ h2 r1 r2 hg q => by
  unfold popAtG at hg
  split at hg
  · next j =>
    split at hg
    · next hj =>
      split at hg
      · next k hk =>
        split at hg
        · next d hd =>
          cases hg
          cases r2 with
          | cons r3 r4 =>
            cases r4
            cases r3
            obtain ⟨v, k1, k2⟩ := r1.get hd
            exact ⟨a, vxs, j, k, v, rfl, rfl, h1, hj.1, hj.2, by rw [← r1.length]; exact (ixN_seq hk).1, k1, q _ _ (r1.eraseIdx k) k2⟩
        · cases hg
      · cases hg
    · cases hg
  · cases hg
theorem pd_append (ho : PE X o (tVar i)) (ha : PA X (e :: es) (tDA X.G am))
    (hbase : attributeBase o "append" X.env (eval o X.env) = eval o X.env := by rfl)
    (hfew : ((backTo cpos (starEach (e :: es) X.env)).all (fun x => !x.1) && (backToKw cpos (keywordEach [] X.env)).all (fun x => x.1.isSome)
      && decide ((e :: es).length + ([] : List Keyword).length + (if ([] : List Keyword).isEmpty then 0 else 1) < 30)) = true := by rfl)
    (hline : (apos.endLine == cpos.line) = true := by rfl) (hs : starEach (e :: es) X.env = (false, eval e X.env) :: starEach es X.env := by rfl) (hplain : (backTo cpos (starEach es X.env)).any (·.1) = false := by rfl) :
    PE X (.Call (.Attribute o "append" apos) (e :: es) [] cpos) (tD X.G (mutE i am appG)) :=
  weakE (pe_bm PySem.F.plainAttrs_list PySem.F.slot_list_append PySem.F.type_list_append mt_append ho ha hbase hfew hline hs hplain) (mut_read mo_append fun _ _ _ h => h)
theorem pd_extend (ho : PE X o (tVar i)) (ha : PA X (e :: es) (tDA X.G am))
    (hbase : attributeBase o "extend" X.env (eval o X.env) = eval o X.env := by rfl)
    (hfew : ((backTo cpos (starEach (e :: es) X.env)).all (fun x => !x.1) && (backToKw cpos (keywordEach [] X.env)).all (fun x => x.1.isSome)
      && decide ((e :: es).length + ([] : List Keyword).length + (if ([] : List Keyword).isEmpty then 0 else 1) < 30)) = true := by rfl)
    (hline : (apos.endLine == cpos.line) = true := by rfl) (hs : starEach (e :: es) X.env = (false, eval e X.env) :: starEach es X.env := by rfl) (hplain : (backTo cpos (starEach es X.env)).any (·.1) = false := by rfl) :
    PE X (.Call (.Attribute o "extend" apos) (e :: es) [] cpos) (tD X.G (mutE i am extG)) :=
  weakE (pe_bm PySem.F.plainAttrs_list PySem.F.slot_list_extend PySem.F.type_list_extend mt_extend ho ha hbase hfew hline hs hplain) (mut_read mo_extend fun _ _ _ h => h)
theorem pd_pop (ho : PE X o (tVar i)) (hbase : attributeBase o "pop" X.env (eval o X.env) = eval o X.env := by rfl) (hline : (apos.endLine == cpos.line) = true := by rfl) :
    PE X (.Call (.Attribute o "pop" apos) [] [] cpos) (tD X.G (mut0 i popG)) :=
  weakE (pe_bm0 PySem.F.plainAttrs_list PySem.F.slot_list_pop PySem.F.type_list_pop mt_pop ho hbase hline) (mut_read0 mo_pop)
theorem pd_popAt (ho : PE X o (tVar i)) (ha : PA X (e :: es) (tDA X.G am))
    (hbase : attributeBase o "pop" X.env (eval o X.env) = eval o X.env := by rfl)
    (hfew : ((backTo cpos (starEach (e :: es) X.env)).all (fun x => !x.1) && (backToKw cpos (keywordEach [] X.env)).all (fun x => x.1.isSome)
      && decide ((e :: es).length + ([] : List Keyword).length + (if ([] : List Keyword).isEmpty then 0 else 1) < 30)) = true := by rfl)
    (hline : (apos.endLine == cpos.line) = true := by rfl) (hs : starEach (e :: es) X.env = (false, eval e X.env) :: starEach es X.env := by rfl) (hplain : (backTo cpos (starEach es X.env)).any (·.1) = false := by rfl) :
    PE X (.Call (.Attribute o "pop" apos) (e :: es) [] cpos) (tD X.G (mutE i am popAtG)) :=
  weakE (pe_bm PySem.F.plainAttrs_list PySem.F.slot_list_pop PySem.F.type_list_pop mt_popAt ho ha hbase hfew hline hs hplain) (mut_read mo_popAt fun _ _ _ h => h)
end

/-! #### o[k] = v -/
def putAny (x k v : D) : Option D := match x, k with
  | .lst xs, .int i => match ixN xs.length i with
    | some j => some (.lst (xs.set j v))
    | none => none
  | .dic kvs, k => if (homog k kvs = true ∨ mixB k kvs = true) ∧ kvs.length < 16777216 then some (.dic (putD kvs k v)) else none
  | _, _ => none
def rSetA (K : Gd) : TSet := fun o i v H Q => ∃ (F : Hp) (a : Addr) (x k d x' : D), o = .ref a ∧ Same F H ∧ F a = none ∧ At K F H x a ∧ Rep K F k i ∧ Rep K F d v ∧ putAny x k d = some x' ∧ ∀ ob, At K F (upd H a ob) x' a → Q (upd H a ob)
section
variable {X : Cx}
theorem set_any (hu : X.A.units + 64 < cLine) : PSet X (rSetA X.G) := by
  intro pins s σ H o i v ov iv u Q I ro ri rv h
  obtain ⟨F, a, x, k, d, x', rfl, sm, hF, hA, rk, rd, hp, q⟩ := h
  unfold putAny at hp
  split at hp
  · next xs j =>
    split at hp
    · next n hn =>
      cases hp
      cases hA with
      | lst hl hr =>
        cases rk
        exact set_list pins s σ H _ _ v ov iv u _ I ro ri rv ⟨a, _, j, n, rfl, rfl, hl, by rw [← hr.length]; exact hn, q _ (.lst upd_same (hr.set rd n))⟩
    · cases hp
  · next kvs =>
    split at hp
    · next hh =>
      cases hp
      cases hA with
      | dic hl hr nd =>
        cases ro
        exact dd_put (by omega) I sm hl hr nd rk ri rd rv hh.1 hh.2 fun es' ep' s' I' r' => ⟨_, I', q _ (.dic upd_same r' (putD_nodup nd))⟩
    · cases hp
  · cases hp
def storeM (i : Nat) (idx val : EM) : SM := fun η => match val η with
  | some (dv, η1) => match ownC η1 i with
    | some _ => match idx η1 with
      | some (dk, η2) => match ownC η2 i with
        | some x => match putAny x dk dv with
          | some x' => some (.nx, setOwn η2 i x')
          | none => none
        | none => none
      | none => none
    | none => none
  | none => none
theorem s_store {o idx val : Expr} {pos pos' : Pos} {i : Nat} {mi mv : EM} (hu : X.A.units + 64 < cLine) (ho : PE X o (tVar i)) (hi : PE X idx (tD X.G mi)) (hv : PE X val (tD X.G mv))
    (ha : ∀ v, assign (.Subscript o idx pos') X.env v = (do
      let ov ← holding [v] (eval o X.env)
      let iv ← holding [v, ov] (eval idx X.env)
      standAt pos'
      holding [v, ov, iv] (setItem ov iv v)
      release [v, ov, iv] []) := by intro _; rfl)
    (hs : swapsWithSole [.Subscript o idx pos'] val pos.line X.env = pure false := by rfl) (hw : swappedStores [.Subscript o idx pos'] val X.env = pure none := by rfl)
    (h1 : (assignEach [.Subscript o idx pos'] X.env).map (·.2) = [assign (.Subscript o idx pos') X.env] := by rfl) :
    PS X (.Assign [.Subscript o idx pos'] val pos) (tS X.G (storeM i mi mv)) := weakS (ps_asg hv (pg_sub ho hi (set_any hu) ha) hs hw h1) fun D σ H ⟨B, F, Z, η, ot, η', ok, hm, q⟩ => by
  unfold storeM at hm
  split at hm
  · next dv η1 e1 =>
    split at hm
    · next x0 e2 =>
      split at hm
      · next dk η2 e3 =>
        split at hm
        · next x e4 =>
          split at hm
          · next x' e5 =>
            cases hm
            refine ⟨B, F, Z, η, dv, η1, ok, e1, fun v H1 F1 s1 ok1 r1 => ?_⟩
            obtain ⟨a, k1, _⟩ := ok1.ow i _ (ownC_inv e2)
            refine ⟨_, k1, B, F1, Z, η1, dk, η2, ok1, e3, fun vk H2 F2 s2 ok2 r2 => ?_⟩
            obtain ⟨a', k5, k6, k7, k8⟩ := ok2.ow i _ (ownC_inv e4)
            rw [k1] at k5
            cases k5
            exact ⟨F2, a, x, dk, dv, x', rfl, ok2.ff, k6, k8, r2, r1.mono s2, e5, fun ob hA => q σ _ F2 (s1.trans s2) (ok2.mut (ownC_inv e4) k1 hA)⟩
          · cases hm
        · cases hm
      · cases hm
    · cases hm
  · cases hm

/-! #### x op= e, o[k] op= e -/
def augM (i : Nat) (g : D → D → Option D) (m : EM) : SM := fun η => match η[i]? with
  | some (.sh x) => match m η with
    | some (y, η1) => match g x y with
      | some z => match setSlot η1 i (.sh z) with
        | some η2 => some (.nx, η2)
        | none => none
      | none => none
    | none => none
  | _ => none
theorem s_aug {i : Nat} {x : Str} {e : Expr} {op : Operator} {g : D → D → Option D} {m : EM} {pos pos' : Pos} (hN : X.N.Nodup) (hi : X.N[i]? = some x) (hx : Loc X.env.scope x) (he : PE X e (tD X.G m)) (ho : OpR X (inplaceOp op) (rOp X.G g)) (hf : X.fn x = true ∨ X.env.scope.names.lookup x = some .local := by first | exact .inl rfl | exact .inr rfl | assumption) :
    PS X (.AugAssign (.Name x pos') op e pos) (tS X.G (augM i g m)) := weakS (ps_aug hN hi hx he (fun pins s σ H x y v u Q I rx ry q => ho pins s σ H x y v u Q I rx ry q) hf) fun D σ H ⟨B, F, Z, η, ot, η', ok, hm, q⟩ => by
  unfold augM at hm
  split at hm
  · next dx e1 =>
    split at hm
    · next dy η1 e2 =>
      split at hm
      · next dz e3 =>
        split at hm
        · next η2 e4 =>
          cases hm
          obtain ⟨v, k1, k2⟩ := ok.sh i _ e1
          refine ⟨v, k1, B, F, Z, η, dy, η1, ok, e2, fun w H1 F1 s1 ok1 r1 => ⟨dx, dy, dz, F1, ok1.ff, e3, .rep (k2.mono s1), .rep r1, fun u F2 H2 rs r2 => ?_⟩⟩
          obtain ⟨ok2, s2⟩ := ok1.res rs
          obtain ⟨hi, hn, rfl⟩ := setSlot_inv e4
          exact q _ H2 F2 (s1.trans s2) (ok2.setSh hi hn r2)
        · cases hm
      · cases hm
    · cases hm
  · cases hm
def getA : D → D → Option D
  | .lst xs, .int i => atI xs i
  | .dic kvs, k => match getD' kvs k with
    | some (some d) => some d
    | _ => none
  | _, _ => none
def rGetA (K : Gd) : V → V → Hp → VK → Prop := fun o i H Q => ∃ (F : Hp) (x k d : D) (a : Addr), Same F H ∧ o = .ref a ∧ At K F H x a ∧ Rep K F k i ∧ getA x k = some d ∧ ∀ v, Rep K F d v → Q v H
theorem get_any (hu : X.A.units + 64 < cLine) : PGet X (rGetA X.G) := by
  intro pins s σ H o i ov iv Q I ro ri h
  obtain ⟨F, x, k, d, a, sm, rfl, hA, rk, hg, q⟩ := h
  unfold getA at hg
  split at hg
  · next xs j =>
    cases hA with
    | lst hl hr =>
      cases ro
      cases rk
      obtain ⟨t, rfl⟩ := ri
      obtain ⟨v, hv, rv⟩ := hr.atI hg
      obtain ⟨its, r, pl, hz⟩ := I.list (SqL.of hl)
      obtain ⟨n, h1, h2, h3, h4, h5⟩ := atI_get hv
      obtain ⟨w, ew, rw'⟩ := r.get h2
      have hlen := r.length
      have hn := line63
      have fin : EP X pins σ Q w s := ⟨v, H, I, rw', q v rv⟩
      by_cases h0 : 0 ≤ j
      · have hj : j.toNat = n := by
          rw [PySem.seqIndex_of h0 h5] at h1
          exact Option.some.inj h1
        exact wpAny_getItem_list pl.isList h0 (by omega) (by rw [hj]; simpa using ew) fin
      · have hj : (j + (its.toArray.size : Int)).toNat = n := by
          rw [PySem.seqIndex_neg (by omega) h4] at h1
          rw [List.size_toArray, ← hlen]
          exact Option.some.inj h1
        exact wpAny_getItem_list_neg pl.isList (by omega) (by rw [List.size_toArray]; omega) (by omega) (by rw [hj]; simpa using ew) fin
  · next kvs =>
    split at hg
    · next d' hd =>
      cases hg
      cases hA with
      | dic hl hr nd =>
        cases ro
        exact dd_get (by omega) I sm hl hr nd rk ri hd fun v w' s' I' r1 r2 => ⟨v, H, I', r2, q v r1⟩
    · cases hg
  · cases hg
def augStM (i : Nat) (g : D → D → Option D) (idx m : EM) : SM := fun η => match ownC η i with
  | some _ => match idx η with
    | some (dk, η1) => match ownC η1 i with
      | some x => match getA x dk with
        | some d => match m η1 with
          | some (y, η2) => match g d y with
            | some z => match ownC η2 i with
              | some x2 => match putAny x2 dk z with
                | some x' => some (.nx, setOwn η2 i x')
                | none => none
              | none => none
            | none => none
          | none => none
        | none => none
      | none => none
    | none => none
  | none => none
theorem s_augSt {o idx e : Expr} {i : Nat} {op : Operator} {g : D → D → Option D} {mi m : EM} {pos tpos : Pos} (hu : X.A.units + 64 < cLine) (ho : PE X o (tVar i)) (hi : PE X idx (tD X.G mi)) (he : PE X e (tD X.G m)) (hop : OpR X (inplaceOp op) (rOp X.G g))
    (ha : ∀ ov iv new, augStore idx ov iv new = (do holding [new, ov, iv] (setItem ov iv new); release [new, ov, iv] []; pure .next) := by intros; rfl) :
    PS X (.AugAssign (.Subscript o idx tpos) op e pos) (tS X.G (augStM i g mi m)) := weakS (ps_augS ho hi (get_any hu) he (fun pins s σ H x y v u Q I rx ry q => hop pins s σ H x y v u Q I rx ry q) (set_any hu) ha) fun D σ H ⟨B, F, Z, η, ot, η', ok, hm, q⟩ => by
  unfold augStM at hm
  split at hm
  · next x0 e0 =>
    split at hm
    · next dk η1 e1 =>
      split at hm
      · next x e2 =>
        split at hm
        · next d e3 =>
          split at hm
          · next y η2 e4 =>
            split at hm
            · next z e5 =>
              split at hm
              · next x2 e6 =>
                split at hm
                · next x' e7 =>
                  cases hm
                  obtain ⟨a, k1, _⟩ := ok.ow i _ (ownC_inv e0)
                  refine ⟨_, k1, B, F, Z, η, dk, η1, ok, e1, fun vk H1 F1 s1 ok1 r1 => ?_⟩
                  obtain ⟨a1, g1, g2, g3, g4⟩ := ok1.ow i _ (ownC_inv e2)
                  rw [k1] at g1
                  cases g1
                  refine ⟨F1, x, dk, d, a, ok1.ff, rfl, g4, r1, e3, fun v rv => ⟨B, F1, Z, η1, y, η2, ok1, e4, fun w H2 F2 s2 ok2 r2 => ⟨d, y, z, F2, ok2.ff, e5, .rep (rv.mono s2), .rep r2, fun u F3 H3 rs r3 => ?_⟩⟩⟩
                  obtain ⟨ok3, s3⟩ := ok2.res rs
                  obtain ⟨a3, g5, g6, g7, g8⟩ := ok3.ow i _ (ownC_inv e6)
                  rw [k1] at g5
                  cases g5
                  exact ⟨F3, a, x2, dk, z, x', rfl, ok3.ff, g6, g8, r1.mono (s2.trans s3), r3, e7, fun ob hA => q σ _ F3 ((s1.trans s2).trans s3) (ok3.mut (ownC_inv e6) k1 hA)⟩
                · cases hm
              · cases hm
            · cases hm
          · cases hm
        · cases hm
      · cases hm
    · cases hm
  · cases hm
/-- in-place operators -/
def iaddD : D → D → Option D
  | .int a, .int b => some (.int (a + b))
  | .str a, .str b => if a.length + b.length ≤ 16777216 then some (.str (a ++ b)) else none
  | _, _ => none
theorem iop_add' : OpR X (inplaceOp .Add) (rOp X.G iaddD) := weakOp (OpR.or iop_add iop_add_str) fun v w H Q ⟨x, y, z, F, s, e, vx, vy, q⟩ => by
  unfold iaddD at e
  split at e
  · next a b => cases e; exact .inl ⟨a, b, vx.int, vy.int, q _ _ _ Res.same (.int _)⟩
  · next a b =>
    split at e
    · next hl => cases e; exact .inr ⟨a, b, vx.str, vy.str, line_eq hl, q _ _ _ Res.same (.str _)⟩
    · cases e
  · cases e
theorem iop_sub' : OpR X (inplaceOp .Sub) (rOp X.G subD) := op_int0 iop_sub fun x y z e => by
  unfold subD at e
  split at e
  · next a b => cases e; exact ⟨a, b, rfl, rfl, fun _ _ => .int _⟩
  · cases e
theorem mulW_small {i j : Int} (h : CMulW i j) : IntMulOk i j := h.ok
theorem iop_mulW : OpR X (inplaceOp .Mult) (rI CMulW fun i j => .int (i * j)) := opI fun _ _ _ _ _ _ _ hc q => PyProof.Rows.imul_int q hc.ok
theorem iop_mul' : OpR X (inplaceOp .Mult) (rOp X.G mulI) := op_int iop_mulW fun x y z e => by
  unfold mulI at e
  split at e
  · next a b =>
    split at e
    · next h => cases e; exact ⟨a, b, rfl, rfl, h, fun _ _ => .int _⟩
    · cases e
  · cases e
/-- x //= j, j a small number from 1 on -/
def ifdivD : D → D → Option D
  | .int a, .int b => if 0 < b ∧ b < 1073741824 then some (.int (a / b)) else none
  | _, _ => none
theorem iop_fdiv' : OpR X (inplaceOp .FloorDiv) (rOp X.G ifdivD) := op_int iop_fdiv fun x y z e => by
  unfold ifdivD at e
  split at e
  · next a b =>
    split at e
    · next h => cases e; exact ⟨a, b, rfl, rfl, h, fun _ _ => .int _⟩
    · cases e
  · cases e
end
end DL

namespace DL
open PySem L2

/-! ### calls of built-ins -/
def rL (K : Gd) (g : List D → Option D) : List V → Hp → VK → Prop := fun vs H Q => ∃ (ds : List D) (d : D) (F : Hp), Same F H ∧ ViewL K F H ds vs ∧ g ds = some d ∧ ∀ (v : V) (H' F' : Hp), Res F H F' H' → Rep K F' d v → Q v H'
def rLo (K : Gd) (g : List D → Option D) : List V → Hp → VK → Prop := fun vs H Q => ∃ (ds : List D) (d : D) (F : Hp), Same F H ∧ ViewL K F H ds vs ∧ g ds = some d ∧ ∀ (a : Addr) (o : HO), H a = none → At K F (upd H a o) d a → Q (.ref a) (upd H a o)
def callB (g : List D → Option D) (am : VAM) : EM := fun η => match am η with
  | some (η1, post) => match post η1 with
    | some ds => match g ds with
      | some d => some (d, η1)
      | none => none
    | none => none
  | none => none
theorem callB_inv {g : List D → Option D} {am : VAM} {η : Env} {d : D} {η' : Env} (h : callB g am η = some (d, η')) : ∃ post ds, am η = some (η', post) ∧ post η' = some ds ∧ g ds = some d := by
  unfold callB at h
  split at h
  · next η1 post h1 =>
    split at h
    · next ds h2 =>
      split at h
      · next d1 h3 => cases h; exact ⟨_, _, h1, h2, h3⟩
      · cases h
    · cases h
  · cases h
section
variable {X : Cx} {e : Expr} {g : List D → Option D} {am : VAM}
theorem pd_cb (h : PE X e (tCB (rL X.G g) (tVA X.G am))) : PE X e (tD X.G (callB g am)) := weakE h fun σ H Q ⟨B, F, Z, η, d, η', ok, hm, q⟩ => by
  obtain ⟨post, ds, h1, h2, h3⟩ := callB_inv hm
  refine ⟨B, F, Z, η, η', post, ok, h1, fun vs H1 F1 s1 ok1 r1 => ?_⟩
  refine ⟨ds, d, F1, ok1.ff, r1 F1 η' H1 ds (Same.refl _) ok1 h2, h3, fun v H2 F2 rs rv => ?_⟩
  obtain ⟨ok2, s2⟩ := ok1.res rs
  exact q _ _ _ (s1.trans s2) ok2 rv
theorem po_cb (h : PE X e (tCB (rLo X.G g) (tVA X.G am))) : PE X e (tO X.G (callB g am)) := weakE h fun σ H Q ⟨B, F, Z, η, d, η', ok, hm, q⟩ => by
  obtain ⟨post, ds, h1, h2, h3⟩ := callB_inv hm
  refine ⟨B, F, Z, η, η', post, ok, h1, fun vs H1 F1 s1 ok1 r1 => ?_⟩
  refine ⟨ds, d, F1, ok1.ff, r1 F1 η' H1 ds (Same.refl _) ok1 h2, h3, fun a o ha hA => ?_⟩
  exact q _ _ _ s1 (ok1.newH ha) (ok1.bnone ha) (ok1.free ha) hA fun i e hi => ok1.notNew ha i e hi
end

theorem ViewL.inv1 {K : Gd} {F H : Hp} {d : D} {vs : List V} (h : ViewL K F H [d] vs) : ∃ v, vs = [v] ∧ View K F H d v := by
  cases h with | cons h t => cases t; exact ⟨_, rfl, h⟩
theorem ViewL.inv2 {K : Gd} {F H : Hp} {d e : D} {vs : List V} (h : ViewL K F H [d, e] vs) : ∃ v u, vs = [v, u] ∧ View K F H d v ∧ View K F H e u := by
  cases h with | cons h t => cases t with | cons h' t => cases t; exact ⟨_, _, rfl, h, h'⟩

def lenG : List D → Option D
  | [.lst xs] => some (.int xs.length)
  | [.tup xs] => some (.int xs.length)
  | [.frl xs] => some (.int xs.length)
  | [.dic xs] => some (.int xs.length)
  | [.str x] => if x.length ≤ 16777216 then some (.int x.length) else none
  | _ => none
def absG : List D → Option D
  | [.int i] => some (.int i.natAbs)
  | _ => none
def intG : List D → Option D
  | [.int i] => some (.int i)
  | [.bl b] => some (.int (if b then 1 else 0))
  | _ => none
def max2G : List D → Option D
  | [.int i, .int j] => some (.int (max i j))
  | _ => none
def min2G : List D → Option D
  | [.int i, .int j] => some (.int (min i j))
  | _ => none
def intsD : List D → Option (List Int)
  | [] => some []
  | .int i :: r => match intsD r with
    | some l => some (i :: l)
    | none => none
  | _ => none
def blsD : List D → Option (List Bool)
  | [] => some []
  | .bl i :: r => match blsD r with
    | some l => some (i :: l)
    | none => none
  | _ => none
theorem intsD_inv : ∀ {ds : List D} {l : List Int}, intsD ds = some l → ds = l.map D.int
  | [], l, h => by cases h; rfl
  | d :: r, l, h => by
    unfold intsD at h
    split at h
    · next e => cases e
    · next i r' e =>
      cases e
      split at h
      · next l' h1 => cases h; rw [intsD_inv h1]; rfl
      · cases h
    · cases h
theorem blsD_inv : ∀ {ds : List D} {l : List Bool}, blsD ds = some l → ds = l.map D.bl
  | [], l, h => by cases h; rfl
  | d :: r, l, h => by
    unfold blsD at h
    split at h
    · next e => cases e
    · next i r' e =>
      cases e
      split at h
      · next l' h1 => cases h; rw [blsD_inv h1]; rfl
      · cases h
    · cases h
theorem intsD_map (l : List Int) : intsD (l.map D.int) = some l := by
  induction l with
  | nil => rfl
  | cons i r h => show (match intsD (r.map D.int) with | some l => some (i :: l) | none => none) = _; rw [h]
theorem blsD_map (l : List Bool) : blsD (l.map D.bl) = some l := by
  induction l with
  | nil => rfl
  | cons i r h => show (match blsD (r.map D.bl) with | some l => some (i :: l) | none => none) = _; rw [h]
theorem RepL.ints {K : Gd} {F : Hp} : ∀ {l : List Int} {vs : List V}, RepL K F (l.map D.int) vs → vs = l.map V.int
  | [], _, h => by cases h; rfl
  | i :: r, _, h => by
    cases h with
    | cons h1 h2 => cases h1; rw [RepL.ints h2]; rfl
theorem RepL.bls {K : Gd} {F : Hp} : ∀ {l : List Bool} {vs : List V}, RepL K F (l.map D.bl) vs → vs = l.map V.bl
  | [], _, h => by cases h; rfl
  | i :: r, _, h => by
    cases h with
    | cons h1 h2 => cases h1; rw [RepL.bls h2]; rfl
def sumG : List D → Option D
  | [.lst xs] => match intsD xs with
    | some l => some (.int l.sum)
    | none => none
  | _ => none
def anyG : List D → Option D
  | [.lst xs] => match blsD xs with
    | some l => some (.bl (l.any id))
    | none => none
  | _ => none
def allG : List D → Option D
  | [.lst xs] => match blsD xs with
    | some l => some (.bl (l.all id))
    | none => none
  | _ => none
/-- list(xs): an own new one -/
def listG : List D → Option D
  | [.lst xs] => some (.lst xs)
  | [.tup xs] => some (.lst xs)
  | [.frl xs] => some (.lst xs)
  | _ => none
def tupleG : List D → Option D
  | [.lst xs] => some (.tup xs)
  | [.tup xs] => some (.tup xs)
  | [.frl xs] => some (.tup xs)
  | _ => none
def tagD : D → Option String
  | .non => some "NoneType"
  | .bl _ => some "bool"
  | .int _ => some "int"
  | .str _ => some "str"
  | .tup _ => some "tuple"
  | .lst _ => some "list"
  | .frl _ => some "list"
  | .dic _ => some "dict"
  | .set _ => none
  | .tuz _ => none
/-- the classes of isinstance's second place that are asked for -/
def isiN (n t : String) : Option Bool :=
  if t = n then some true
  else if n = "int" ∧ t = "bool" then some true
  else if n = "int" ∨ n = "bool" ∨ n = "str" ∨ n = "list" ∨ n = "tuple" ∨ n = "dict" ∨ n = "set" then some false
  else none
def isiG (n : String) : List D → Option D
  | [d] => match tagD d with
    | some t => match isiN n t with
      | some b => some (.bl b)
      | none => none
    | none => none
  | _ => none
section
variable {X : Cx}
theorem b_abs : CallR X (.builtin "abs") (rL X.G absG) := weakCall call_abs fun x H Q ⟨ds, d, F, sm, r, e, q⟩ => by
  unfold absG at e
  split at e
  · next i =>
    cases e
    obtain ⟨v, rfl, hv⟩ := r.inv1
    cases hv.int
    refine ⟨i, rfl, q _ _ _ Res.same ?_⟩
    have : (if i < 0 then -i else i) = (i.natAbs : Int) := by
      split <;> omega
    rw [this]
    exact .int _
  · cases e
theorem b_int : CallR X (.type "int") (rL X.G intG) := weakCall call_int1 fun x H Q ⟨ds, d, F, sm, r, e, q⟩ => by
  unfold intG at e
  split at e
  · next i =>
    cases e
    obtain ⟨v, rfl, hv⟩ := r.inv1
    cases hv.int
    exact .inl ⟨i, rfl, q _ _ _ Res.same (.int _)⟩
  · next i =>
    cases e
    obtain ⟨v, rfl, hv⟩ := r.inv1
    cases hv.bl
    exact .inr ⟨i, rfl, q _ _ _ Res.same (.int _)⟩
  · cases e
theorem b_max2 (hc : X.calm = true) : CallR X (.builtin "max") (rL X.G max2G) := weakCall (call_max2 hc) fun x H Q ⟨ds, d, F, sm, r, e, q⟩ => by
  unfold max2G at e
  split at e
  · next i j =>
    cases e
    obtain ⟨v, u, rfl, hv, hu⟩ := r.inv2
    cases hv.int
    cases hu.int
    refine ⟨i, j, rfl, q _ _ _ Res.same ?_⟩
    have : (if j > i then j else i) = max i j := by
      split <;> omega
    rw [this]
    exact .int _
  · cases e
theorem b_min2 (hc : X.calm = true) : CallR X (.builtin "min") (rL X.G min2G) := weakCall (call_min2 hc) fun x H Q ⟨ds, d, F, sm, r, e, q⟩ => by
  unfold min2G at e
  split at e
  · next i j =>
    cases e
    obtain ⟨v, u, rfl, hv, hu⟩ := r.inv2
    cases hv.int
    cases hu.int
    refine ⟨i, j, rfl, q _ _ _ Res.same ?_⟩
    have : (if j < i then j else i) = min i j := by
      split <;> omega
    rw [this]
    exact .int _
  · cases e
theorem b_len : CallR X (.builtin "len") (rL X.G lenG) := by
  intro pins s σ H vs us Q I rv h
  obtain ⟨ds, d, F, sm, r, e, q⟩ := h
  unfold lenG at e
  split at e
  · next xs =>
    cases e
    obtain ⟨v, rfl, hv⟩ := r.inv1
    obtain ⟨a, ws, rfl, ha, hr⟩ := hv.lst sm
    exact call_len_seq pins s σ H _ us Q I rv ⟨a, ws, rfl, .inl (SqL.of ha), q _ _ _ Res.same (by rw [← hr.length]; exact .int _)⟩
  · next xs =>
    cases e
    obtain ⟨v, rfl, hv⟩ := r.inv1
    obtain ⟨a, ws, rfl, ha, hr⟩ := hv.tup sm
    exact call_len_seq pins s σ H _ us Q I rv ⟨a, ws, rfl, .inr ha, q _ _ _ Res.same (by rw [← hr.length]; exact .int _)⟩
  · next xs =>
    cases e
    obtain ⟨v, rfl, hv⟩ := r.inv1
    obtain ⟨a, ws, rfl, ha, hr⟩ := hv.frl sm
    exact call_len_seq pins s σ H _ us Q I rv ⟨a, ws, rfl, .inl ha, q _ _ _ Res.same (by rw [← hr.length]; exact .int _)⟩
  · next xs =>
    cases e
    obtain ⟨v, rfl, hv⟩ := r.inv1
    obtain ⟨a, es, ep, rfl, ha, hr, _⟩ := hv.dic sm
    obtain ⟨u, rfl, ru⟩ := vals1 rv
    cases ru
    obtain ⟨hraw, hs, hz⟩ := rawD_at I ha
    have hl := line63
    have raw : s.heap.DictRaw a es ep := hraw
    have hsz : xs.length = es.size := by rw [hr.length]; exact Array.length_toList
    exact PyProof.Rows.call_len_slot raw.typeIs PySem.F.slot_dict_len (fun Q' h => PySem.call_len_raw hs raw h) (by omega) (by omega)
      ⟨.int es.size, H, (I.tok _).tok _, ⟨_, rfl⟩, q _ _ _ Res.same (by rw [← hsz]; exact .int _)⟩
  · next x =>
    split at e
    · next hx =>
      cases e
      obtain ⟨v, rfl, hv⟩ := r.inv1
      cases hv.str
      exact call_len_str pins s σ H _ us Q I rv ⟨x, rfl, by rw [sizeLine_eq]; exact hx, q _ _ _ Res.same (.int _)⟩
    · cases e
  · cases e
theorem b_sum (hc : X.calm = true) : CallR X (.builtin "sum") (rL X.G sumG) := weakCall (cr_sum hc) fun x H Q ⟨ds, d, F, sm, r, e, q⟩ => by
  unfold sumG at e
  split at e
  · split at e
    · next l hl =>
      cases e
      rw [intsD_inv hl] at r
      obtain ⟨v, rfl, hv⟩ := r.inv1
      obtain ⟨a, ws, rfl, ha, hr⟩ := hv.lst sm
      rw [hr.ints] at ha
      exact ⟨a, l, rfl, SqL.of ha, q _ _ _ Res.same (.int _)⟩
    · cases e
  · cases e
theorem b_any (hc : X.calm = true) : CallR X (.builtin "any") (rL X.G anyG) := weakCall (cr_any hc) fun x H Q ⟨ds, d, F, sm, r, e, q⟩ => by
  unfold anyG at e
  split at e
  · split at e
    · next l hl =>
      cases e
      rw [blsD_inv hl] at r
      obtain ⟨v, rfl, hv⟩ := r.inv1
      obtain ⟨a, ws, rfl, ha, hr⟩ := hv.lst sm
      rw [hr.bls] at ha
      exact ⟨a, l, rfl, SqL.of ha, q _ _ _ Res.same (.bl _)⟩
    · cases e
  · cases e
theorem b_all (hc : X.calm = true) : CallR X (.builtin "all") (rL X.G allG) := weakCall (cr_all hc) fun x H Q ⟨ds, d, F, sm, r, e, q⟩ => by
  unfold allG at e
  split at e
  · split at e
    · next l hl =>
      cases e
      rw [blsD_inv hl] at r
      obtain ⟨v, rfl, hv⟩ := r.inv1
      obtain ⟨a, ws, rfl, ha, hr⟩ := hv.lst sm
      rw [hr.bls] at ha
      exact ⟨a, l, rfl, SqL.of ha, q _ _ _ Res.same (.bl _)⟩
    · cases e
  · cases e
theorem b_list : CallR X (.type "list") (rLo X.G listG) := weakCall call_list_of fun x H Q ⟨ds, d, F, sm, r, e, q⟩ => by
  unfold listG at e
  split at e
  · cases e
    obtain ⟨v, rfl, hv⟩ := r.inv1
    obtain ⟨a, ws, rfl, ha, hr⟩ := hv.lst sm
    exact ⟨a, ws, rfl, .inl (SqL.of ha), fun l hl => q _ _ hl (.lst upd_same hr)⟩
  · cases e
    obtain ⟨v, rfl, hv⟩ := r.inv1
    obtain ⟨a, ws, rfl, ha, hr⟩ := hv.tup sm
    exact ⟨a, ws, rfl, .inr ha, fun l hl => q _ _ hl (.lst upd_same hr)⟩
  · cases e
    obtain ⟨v, rfl, hv⟩ := r.inv1
    obtain ⟨a, ws, rfl, ha, hr⟩ := hv.frl sm
    exact ⟨a, ws, rfl, .inl ha, fun l hl => q _ _ hl (.lst upd_same hr)⟩
  · cases e
theorem fnone {F H : Hp} {a : Addr} (s : Same F H) (h : H a = none) : F a = none := by
  cases e : F a with
  | none => rfl
  | some o => rw [s _ _ e] at h; cases h
theorem b_tuple : CallR X (.type "tuple") (rL X.G tupleG) := weakCall call_tupleN fun x H Q ⟨ds, d, F, sm, r, e, q⟩ => by
  unfold tupleG at e
  split at e
  · cases e
    obtain ⟨v, rfl, hv⟩ := r.inv1
    obtain ⟨a, ws, rfl, ha, hr⟩ := hv.lst sm
    exact ⟨a, ws, rfl, .inl ⟨SqL.of ha, fun l ob hl hd => q _ _ _ (Res.new hl) (.tup (SqN.of hd) (hr.mono (Same.upd (fnone sm hl))))⟩⟩
  · cases e
    obtain ⟨v, rfl, hv⟩ := r.inv1
    have h0 := hv.tupF
    obtain ⟨a, ws, rfl, ha, hr⟩ := hv.tup sm
    exact ⟨a, ws, rfl, .inr ⟨ha, q _ _ _ Res.same h0⟩⟩
  · cases e
    obtain ⟨v, rfl, hv⟩ := r.inv1
    obtain ⟨a, ws, rfl, ha, hr⟩ := hv.frl sm
    exact ⟨a, ws, rfl, .inl ⟨ha, fun l ob hl hd => q _ _ _ (Res.new hl) (.tup (SqN.of hd) (hr.mono (Same.upd (fnone sm hl))))⟩⟩
  · cases e
end

section
variable {X : Cx} {e : Expr} {te : VM} {p q pos : Pos}
def isiE (n : String) (a : VM) : EM := callB (isiG n) (consV a nilV)
theorem isiN_kit {K : PySem.W.Frag} {n t : String} {b : Bool} (h : isiN n t = some b) (ht : t ∈ ["NoneType", "bool", "int", "str", "tuple", "list", "dict"]) : n ∈ ["int", "bool", "str", "list", "tuple", "dict", "set"] → PySem.W.kitOne K (.type t) (.type n) = some b := by
  intro hn
  have key : ∀ t ∈ ["NoneType", "bool", "int", "str", "tuple", "list", "dict"], ∀ n ∈ ["int", "bool", "str", "list", "tuple", "dict", "set"], kitB t n = isiN n t := by decide +kernel
  exact kit_ty ((key t ht n hn).trans h)
theorem tagD_mem {d : D} {t : String} (h : tagD d = some t) : t ∈ ["NoneType", "bool", "int", "str", "tuple", "list", "dict"] := by
  cases d <;> cases h <;> simp
theorem tag_kit {d : D} {t : String} {v : V} {u : Value} {pins : List (Addr × Obj)} {σ : L2.St} {H F : Hp} {s : Shared} (I : Inv X pins σ H s) (sm : Same F H) (r : RelV v u) (hv : View X.G F H d v) (h : tagD d = some t) :
    ∃ P : Heap → Prop, PySem.W.KitX X.K u (.type t) P ∧ P s.heap ∧ u ≠ .builtin "__main__.__loader__#opaque" := by
  cases d with
  | non => cases h; cases hv.non; exact kit_of I r (.base .non)
  | bl b => cases h; cases hv.bl; exact kit_of I r (.base (.bl b))
  | int b => cases h; cases hv.int; exact kit_of I r (.base (.int b))
  | str b => cases h; cases hv.str; exact kit_of I r (.base (.str b))
  | tup xs =>
    cases h
    obtain ⟨a, ws, rfl, ha, hr⟩ := hv.tup sm
    cases r
    obtain ⟨its, _, pl, _⟩ := I.tuple ha
    obtain ⟨o, h1, h2, _⟩ := pl
    exact ⟨_, PySem.W.kitx_tuple, ⟨o, h1, h2⟩, fun z => nomatch z⟩
  | lst xs =>
    cases h
    obtain ⟨a, ws, rfl, ha, hr⟩ := hv.lst sm
    cases r
    obtain ⟨its, _, pl, _⟩ := I.list (SqL.of ha)
    obtain ⟨o, n, h1, h2, _⟩ := pl
    exact ⟨_, PySem.W.kitx_list, ⟨o, h1, h2⟩, fun z => nomatch z⟩
  | frl xs =>
    cases h
    obtain ⟨a, ws, rfl, ha, hr⟩ := hv.frl sm
    cases r
    obtain ⟨its, _, pl, _⟩ := I.list ha
    obtain ⟨o, n, h1, h2, _⟩ := pl
    exact ⟨_, PySem.W.kitx_list, ⟨o, h1, h2⟩, fun z => nomatch z⟩
  | dic xs =>
    cases h
    obtain ⟨a, es, ep, rfl, ha, hr, _⟩ := hv.dic sm
    cases r
    obtain ⟨⟨o, h1, h2, _⟩, _⟩ := rawD_at I ha
    exact ⟨_, PySem.W.kitx_dict, ⟨o, h1, h2.1⟩, fun z => nomatch z⟩
  | set xs => cases h
  | tuz xs => cases h
def rIs (K : Gd) (n : String) : List V → Hp → VK → Prop := fun vs H Q => ∃ v, vs = [v, .ty n] ∧ rL K (isiG n) [v] H Q
theorem b_isi {n : String} (hn : n ∈ ["int", "bool", "str", "list", "tuple", "dict", "set"]) : CallR X (.builtin "isinstance") (rIs X.G n) := by
  intro pins s σ H vs us Q I rv h
  obtain ⟨v, rfl, ds, d, F, sm, r, e, q⟩ := h
  unfold isiG at e
  split at e
  · split at e
    · next t ht =>
      split at e
      · next b hb =>
        cases e
        obtain ⟨v', e', hv⟩ := r.inv1
        cases e'
        obtain ⟨u1, u2, rfl, r1, r2⟩ := vals2 rv
        cases r2
        obtain ⟨P, Z, p, hx⟩ := tag_kit I sm r1 hv ht
        exact PySem.W.kia_one Z I.kIn p (isiN_kit hb (tagD_mem ht) hn) hx fun tk => ⟨.bl b, H, I.tok tk, rfl, q _ _ _ Res.same (.bl b)⟩
      · cases e
    · cases e
  · cases e
theorem pd_isi {n : Str} {T : String} {np : Pos} (ha : PE X e (tV X.G te)) (hg : Gl X "isinstance") (hm : X.mg "isinstance" = none) (hgn : Gl X n) (hmn : X.mg n = none) (hb : bootBuiltins n = some (.type T)) (hn : T ∈ ["int", "bool", "str", "list", "tuple", "dict", "set"])
    (hs : starEach [e, .Name n np] X.env = (false, eval e X.env) :: starEach [.Name n np] X.env := by rfl)
    (hs2 : starEach [.Name n np] X.env = (false, eval (.Name n np) X.env) :: starEach [] X.env := by rfl)
    (hpl : (backTo pos (starEach [.Name n np] X.env)).any (·.1) = false := by rfl) (h1 : n ≠ "__name__" := by decide) (h2 : (n == ("__debug__" : Str)) = false := by decide) :
    PE X (.Call (.Name "isinstance" p) [e, .Name n np] [] pos) (tD X.G (isiE T te)) :=
  weakE (pe_callB (b_isi hn) hg hm PyProof.Rows.boot_isinstance (pa_cons ha (pa_cons (pe_bltn hgn hmn hb (v := .ty T) rfl h1 h2) pa_nil hs2) hs) (he := hs) (hpl := hpl)) fun σ H Q ⟨B, F, Z, η, d, η', ok, hm, q⟩ => by
    obtain ⟨post, ds, h1, h2, h3⟩ := callB_inv hm
    unfold consV nilV at h1
    split at h1
    · next η1 pa h4 =>
      dsimp only at h1
      cases h1
      refine ⟨B, F, Z, η, _, pa, ok, h4, fun v H1 F1 s1 ok1 r1 => ?_⟩
      dsimp only at h2
      split at h2
      · next d1 ds1 e1 e2 =>
        cases e2
        cases h2
        refine ⟨v, rfl, _, d, F1, ok1.ff, .cons (r1 F1 _ H1 d1 (Same.refl _) ok1 e1) .nil, h3, fun v H2 F2 rs rv => ?_⟩
        obtain ⟨ok2, s2⟩ := ok1.res rs
        exact q _ _ _ (s1.trans s2) ok2 rv
      · cases h2
    · cases h1
end
end DL

namespace DL
open PySem L2

/-! ### dict displays -/
def pairsM : List (EM × EM) → Env → Option (List (D × D) × Env)
  | [], η => some ([], η)
  | (k, v) :: r, η => match k η with
    | some (dk, η1) => match v η1 with
      | some (dv, η2) => match pairsM r η2 with
        | some (l, η3) => some ((dk, dv) :: l, η3)
        | none => none
      | none => none
    | none => none
def mergeD (a l : List (D × D)) : List (D × D) := l.foldl (fun acc kv => putD acc kv.1 kv.2) a
def dispE (ps : List (EM × EM)) : EM := fun η => match pairsM ps η with
  | some (l, η') => if (l.all fun kv => scalK kv.1) = true then some (.dic (mergeD [] l), η') else none
  | none => none
def RepP (K : Gd) (F : Hp) : List (D × D) → List (Value × Value) → Prop := Paired fun p q => (∃ v, Rep K F p.1 v ∧ RelV v q.1) ∧ ∃ v, Rep K F p.2 v ∧ RelV v q.2
structure PPD (X : Cx) (pos : Pos) (keys : List (Option Expr)) (values : List Expr) (ps : List (EM × EM)) : Prop where
  run : ∀ (pins : List (Addr × Obj)) (s : Shared) (σ : L2.St) (H B F : Hp) (Z : Pins) (η η' : Env) (l : List (D × D)), Inv X pins σ H s → Ok X.G B F Z η σ H → pairsM ps η = some (l, η') →
    wpAny (model X.prog X.w) X.A (evalPairs (pairTrees keys values X.env pos)) (fun vs s' => ∃ H' F', Inv X pins σ H' s' ∧ Same F F' ∧ Ok X.G B F' Z η' σ H' ∧ RepP X.G F' l vs) X.xe s
theorem ppd_nil {X : Cx} {pos : Pos} : PPD X pos [] [] [] := ⟨fun pins s σ H B F Z η η' l I ok h => pairTrees_nil_walk (by cases h; exact ⟨H, F, I, Same.refl _, ok, .nil⟩)⟩
theorem ppd_cons {X : Cx} {pos : Pos} {k v : Expr} {ks : List (Option Expr)} {vs : List Expr} {mk mv : EM} {ps : List (EM × EM)} (hk : PE X k (tD X.G mk)) (hv : PE X v (tD X.G mv)) (hr : PPD X pos ks vs ps) :
    PPD X pos (some k :: ks) (v :: vs) ((mk, mv) :: ps) := ⟨fun pins s σ H B F Z η η' l I ok h => by
  unfold pairsM at h
  split at h
  · next dk η1 h1 =>
    split at h
    · next dv η2 h2 =>
      split at h
      · next l' η3 h3 =>
        cases h
        refine pairTrees_cons_walk (thn (hk.run pins s σ H (fun x H1 => ∃ F1, Same F F1 ∧ Ok X.G B F1 Z η1 σ H1 ∧ Rep X.G F1 dk x) I ⟨B, F, Z, η, dk, η1, ok, h1, fun x H1 F1 s1 ok1 r1 => ⟨F1, s1, ok1, r1⟩⟩) fun u s1 ⟨x, H1, I1, rx, F1, sm1, ok1, r1⟩ => ?_)
        refine thn (hv.run pins s1 σ H1 (fun x H2 => ∃ F2, Same F1 F2 ∧ Ok X.G B F2 Z η2 σ H2 ∧ Rep X.G F2 dv x) I1 ⟨B, F1, Z, η1, dv, η2, ok1, h2, fun x H1 F1 s1 ok1 r1 => ⟨F1, s1, ok1, r1⟩⟩) fun w2 s2 ⟨y, H2, I2, ry, F2, sm2, ok2, r2⟩ => ?_
        exact thn (hr.run pins s2 σ H2 B F2 Z η2 _ _ I2 ok2 h3) fun ws s3 ⟨H3, F3, I3, sm3, ok3, r3⟩ => ⟨H3, F3, I3, (sm1.trans sm2).trans sm3, ok3, .cons ⟨⟨x, r1.mono (sm2.trans sm3), rx⟩, ⟨y, r2.mono sm3, ry⟩⟩ r3⟩
      · cases h
    · cases h
  · cases h⟩
theorem RepP.carries {G : Gd} {F : Hp} : ∀ {l : List (D × D)} {ws : List (Value × Value)}, RepP G F l ws → (l.all fun kv => scalK kv.1) = true → ∀ {a : List (D × D)} {kvs : List (Key × Value)}, RS G F a kvs →
    ∃ rs, Carries (mixKind G.P G.w) ws rs ∧ RS G F (mergeD a l) (merged kvs rs)
  | [], _, h, _, a, kvs, r => by cases h; exact ⟨[], True.intro, r⟩
  | p :: l, _, h, hs, a, kvs, r => by
    cases h with
    | @cons _ b _ bs h t =>
      obtain ⟨b1, b2⟩ := b
      obtain ⟨⟨x, rx, vx⟩, ⟨y, ry, vy⟩⟩ := h
      rw [List.all_cons, Bool.and_eq_true] at hs
      have ex := scal_rep hs.1 rx
      subst ex
      obtain ⟨rs, c, q⟩ := RepP.carries t hs.2 (RS.put hs.1 ry vy r)
      exact ⟨(keyS p.1, b2) :: rs, ⟨kV_is vx, rfl, c⟩, q⟩
theorem mergeD_length : ∀ (l a : List (D × D)), (mergeD a l).length ≤ a.length + l.length
  | [], a => by show a.length ≤ a.length + 0; omega
  | p :: r, a => by
    have h1 := mergeD_length r (putD a p.1 p.2)
    have h2 := putD_length a p.1 p.2
    show (mergeD (putD a p.1 p.2) r).length ≤ _
    rw [List.length_cons]; omega
theorem mergeD_nodup : ∀ (l a : List (D × D)), (a.map fun p => keyN p.1).Nodup → ((mergeD a l).map fun p => keyN p.1).Nodup
  | [], a, h => h
  | p :: r, a, h => mergeD_nodup r (putD a p.1 p.2) (putD_nodup h)
theorem pairsM_len : ∀ {ps : List (EM × EM)} {η η' : Env} {l : List (D × D)}, pairsM ps η = some (l, η') → l.length = ps.length
  | [], _, _, _, h => by cases h; rfl
  | p :: r, _, _, _, h => by
    unfold pairsM at h
    split at h
    · split at h
      · split at h
        · next h3 => cases h; rw [List.length_cons, List.length_cons, pairsM_len h3]
        · cases h
      · cases h
    · cases h
theorem po_dnew {X : Cx} {pos : Pos} : PE X (.Dict [] [] pos) (tO X.G (dispE [])) := ⟨fun pins s σ H Q I ⟨B, F, Z, η, d, η', ok, hm, q⟩ => by
  cases hm
  refine wpAny_Dict_empty ⟨.ref s.heap.objs.size, _, I.laid (a := s.heap.objs.size) (o := rawD s.heap.objs.size #[] 0) (t' := s.toks) (fun _ _ q => Heap.get?_push_of_some _ q) (Nat.le_refl _) (rawD_ok (Heap.get?_push_size _ rfl) ⟨rfl, rfl, rfl⟩ rfl (beq_eq_false_iff_ne.mpr (Ne.symm (Nat.ne_of_lt I.big))) (Nat.zero_le _)), rfl, ?_⟩
  have hp := I.hok.fresh (Nat.le_refl s.heap.objs.size)
  exact q _ _ F (Same.refl _) (ok.newH hp) (ok.bnone hp) (ok.free hp) (.dic upd_same .nil List.nodup_nil) fun i e hi => ok.notNew hp i e hi⟩
theorem po_disp {X : Cx} {pos : Pos} {keys : List (Option Expr)} {values : List Expr} {ps : List (EM × EM)} (h : PPD X pos keys values ps) (hall : keys.all (·.isSome) = true) (hl : keys.length = values.length) (h0 : keys ≠ [])
    (h15 : keys.length ≤ 15) (hps : ps.length = keys.length) : PE X (.Dict keys values pos) (tO X.G (dispE ps)) := by
  refine ⟨fun pins s σ H Q I ⟨B, F, Z, η, d, η', ok, hm, q⟩ => ?_⟩
  unfold dispE at hm
  split at hm
  · next l η1 h1 =>
    split at hm
    · next hs =>
      cases hm
      have hp := I.hok.fresh (Nat.le_refl s.heap.objs.size)
      have I1 := I.laid (a := s.heap.objs.size) (o := rawD s.heap.objs.size #[] 0) (h' := s.heap.push { cls := .type "dict", data := .dict #[] }) (t' := s.toks) (fun _ _ q => Heap.get?_push_of_some _ q) (Nat.le_refl _)
        (rawD_ok (Heap.get?_push_size _ rfl) ⟨rfl, rfl, rfl⟩ rfl (beq_eq_false_iff_ne.mpr (Ne.symm (Nat.ne_of_lt I.big))) (Nat.zero_le _))
      refine wpAny_Dict_walk (knd := mixKind X.prog X.w) hall hl h0 h15 (thn (h.run pins _ σ _ _ F Z η _ _ I1 (ok.shield hp) h1) fun ws s2 ⟨H2, F2, I2, sm, ok2, rp⟩ => ?_)
      have e2 : H2 s.heap.objs.size = some (rawD s.heap.objs.size #[] 0) := ok2.bb _ _ upd_same
      obtain ⟨kvs0, q1, dd⟩ := dictS (ds := []) I2 ok2.ff e2 .nil List.nodup_nil rfl
      cases q1
      obtain ⟨rs, c, q2⟩ := rp.carries hs .nil
      refine ⟨rs, c, dd, fun h' dd' hsb => ?_⟩
      obtain ⟨o', es', ep', ho', hx', hd', hks, hpr, hnd⟩ := dd'
      have q3 := RS.back q2 hpr fun z hz => hks z (Array.mem_toList_iff.mp hz)
      have hz : es'.size ≤ sizeLine := by
        have h1 := q3.length
        have h2 : es'.toList.length = es'.size := Array.length_toList
        have h3 := mergeD_length l []
        have h4 := pairsM_len ‹_›
        have h5 : sizeLine = 16777216 := sizeLine_eq
        rw [List.length_nil] at h3
        omega
      have I3 := d_write (t' := s2.toks + ws.length) I2 (by rw [e2]; exact True.intro) hsb ⟨o', ho'⟩ (rawD_ok ho' hx' hd' (rawD_at I2 e2).2.1 hz)
      have hB := ok.bnone hp
      obtain ⟨ok5, f5, h5, n5⟩ := (ok2.reshield (o' := rawD s.heap.objs.size es' ep')).unshield hB
      exact ⟨.ref s.heap.objs.size, _, I3, rfl, q _ _ F2 sm ok5 hB f5 (.dic upd_same q3 (mergeD_nodup l [] List.nodup_nil)) n5⟩
    · cases hm
  · cases hm
end DL

namespace DL
open PySem L2

def fuel : Nat := 1000000000000
def lstO (m : EM) : EM := fun η => match m η with
  | some (.lst xs, η') => some (.lst xs, η')
  | _ => none
theorem law_sp {P : Program} {w : World} {K : PySem.W.Frag} {sem : Sem} {ns : List Int} {a : Addr} {H : Hp} (h : ∃ η', sem [S.sh (.frl (ns.map D.int))] = some (.bl true, η')) (hS : SqL K H a (ns.map V.int)) :
    spD ⟨P, w, K⟩ 1 sem [.ref a] H (fun v _ => v = .bl true) fun _ _ _ => False := by
  obtain ⟨η', h⟩ := h
  have rl : ∀ l : List Int, RepL (⟨P, w, K⟩ : Gd) H (l.map D.int) (l.map V.int) := fun l => by
    induction l with
    | nil => exact .nil
    | cons i r ih => exact .cons (.int i) ih
  have own : ∀ {i : Nat} {d : D}, ¬ Own ([S.sh (.frl (ns.map D.int))] : Env)[i]? d := fun {i d} h => by
    cases i with
    | zero => rcases h with h | h <;> simp at h
    | succ i => rcases h with h | h <;> simp at h
  refine ⟨rfl, fun _ => none, H, _, _, η', ⟨Same.refl _, (fun b x e => nomatch e), (fun b x e => nomatch e), rfl, fun i d e => ?_, fun i d e => (own e).elim, fun i b e => ?_, fun i j b d e h1 => (own h1).elim⟩, h, fun v H' F' s1 s2 s3 s4 s5 r => ?_⟩
  · cases i with
    | zero =>
      simp at e
      subst e
      exact ⟨_, rfl, .frl hS (rl ns)⟩
    | succ i => simp at e
  · unfold pinsOf at e
    cases i with
    | zero => simp at e
    | succ i => simp at e
  · cases r
    rfl
section
variable {X : Cx} {a b c : Expr} {pos p2 : Pos} {ma : VM} {ml mh : OM} {lo hi : Option Expr}
theorem po_slice' (ha : PE X a (tV X.G ma)) (hl : PO X lo (tOt X.G ml)) (hh : PO X hi (tOt X.G mh)) : PE X (.Subscript a (.Slice lo hi none p2) pos) (tO X.G (lstO (sliceE ma ml mh))) := po_slice ha hl hh
theorem s_par3 {i j l : Nat} {x y z : Str} {ta : AM} {px py pz pt : Pos} {kt k2 pt2} (hc : X.calm = true) (hN : X.N.Nodup) (hi : X.N[i]? = some x) (hj : X.N[j]? = some y) (hl : X.N[l]? = some z) (hij : i ≠ j) (hil : i ≠ l) (hjl : j ≠ l)
    (hx : X.env.scope.names.lookup x = some .local) (hy : X.env.scope.names.lookup y = some .local) (hz : X.env.scope.names.lookup z = some .local) (ha : PA X [a, b, c] (tDA X.G ta))
    (hw : swappedStores [.Tuple [.Name x px, .Name y py, .Name z pz] kt pt] (.Tuple [a, b, c] k2 pt2) X.env = pure (some [x, y, z]) := by rfl)
    (hs : swapsWithSole [.Tuple [.Name x px, .Name y py, .Name z pz] kt pt] (.Tuple [a, b, c] k2 pt2) pos.line X.env = pure false := by rfl) :
    PS X (.Assign [.Tuple [.Name x px, .Name y py, .Name z pz] kt pt] (.Tuple [a, b, c] k2 pt2) pos) (tS X.G (par3M i j l ta)) := weakS (ps_par3 hc hN hi hj hl hij hil hjl hx hy hz ha hw hs) fun D σ H ⟨B, F, Z, η, o, η', ok, hm, q⟩ => by
  unfold par3M at hm
  split at hm
  · next d e f η1 h =>
    split at hm
    · next η2 h2 =>
      split at hm
      · next η3 h3 =>
        split at hm
        · next η4 h4 =>
          cases hm
          refine ⟨B, F, Z, η, [d, e, f], η1, ok, h, fun vs H' F' s ok' r => ?_⟩
          cases r with
          | cons r1 r2 =>
            cases r2 with
            | cons r2 r3 =>
              cases r3 with
              | cons r3 r4 =>
                cases r4
                obtain ⟨hi1, hn1, rfl⟩ := setSlot_inv h2
                obtain ⟨hi2, hn2, rfl⟩ := setSlot_inv h3
                obtain ⟨hi3, hn3, rfl⟩ := setSlot_inv h4
                exact ⟨_, _, _, rfl, q _ H' F' s (((ok'.setSh hi1 hn1 r1).setSh hi2 hn2 r2).setSh hi3 hn3 r3)⟩
        · cases hm
      · cases hm
    · cases hm
  · cases hm
end
end DL

namespace DL
open PySem L2

/-! ### what holds behind a run -/
def wO {α : Type} (o : Option α) (Q : α → Prop) : Prop := match o with
  | some x => Q x
  | none => False
@[irreducible] def wE (m : EM) (η : Env) (Q : D → Env → Prop) : Prop := match m η with
  | some (d, η') => Q d η'
  | none => False
@[irreducible] def wB (m : BM) (η : Env) (Q : Bool → Env → Prop) : Prop := match m η with
  | some (d, η') => Q d η'
  | none => False
@[irreducible] def wA (m : AM) (η : Env) (Q : List D → Env → Prop) : Prop := match m η with
  | some (d, η') => Q d η'
  | none => False
@[irreducible] def wV (m : VM) (η : Env) (Q : (Env → Option D) → Env → Prop) : Prop := match m η with
  | some (η', p) => Q p η'
  | none => False
@[irreducible] def wVA (m : VAM) (η : Env) (Q : (Env → Option (List D)) → Env → Prop) : Prop := match m η with
  | some (η', p) => Q p η'
  | none => False
@[irreducible] def wC (m : CM) (η : Env) (Q : List Arg → Env → Prop) : Prop := match m η with
  | some (d, η') => Q d η'
  | none => False
@[irreducible] def wT (m : OM) (η : Env) (Q : Option Int → Env → Prop) : Prop := match m η with
  | some (d, η') => Q d η'
  | none => False
@[irreducible] def wS (m : SM) (η : Env) (Q : Out → Env → Prop) : Prop := match m η with
  | some (d, η') => Q d η'
  | none => False
@[irreducible] def wL (m : Option (Out × Env)) (Q : Out → Env → Prop) : Prop := match m with
  | some (d, η') => Q d η'
  | none => False
@[irreducible] def wF (m : Sem) (args : List S) (Q : D → Env → Prop) : Prop := match m args with
  | some (d, η') => Q d η'
  | none => False
@[irreducible] def wI (m : IM) (η : Env) (Q : List D → Env → Prop) : Prop := match m η with
  | some (d, η') => Q d η'
  | none => False
@[irreducible] def wX (m : Option (List D × Env)) (Q : List D → Env → Prop) : Prop := match m with
  | some (d, η') => Q d η'
  | none => False
/-- what follows -/
def thenM (b : SM) (R : Out → Env → Prop) : Out → Env → Prop := fun o η => match o with
  | .nx => wS b η R
  | o => R o η
def fgK (is : List Nat) (R : Out → Env → Prop) : Out → Env → Prop := fun o η => match o with
  | .nx => R .nx (forgetL is η)
  | .bk => R .bk (forgetL is η)
  | o => R o η
def loopK (J : Env → Prop) (R : Out → Env → Prop) : Out → Env → Prop := fun o η => match o with
  | .nx => J η
  | .bk => R .nx η
  | o => R o η
def loopK' (J : Env → Prop) (R : Out → Env → Prop) : Out → Env → Prop := fun o η => match o with
  | .nx => J η
  | o => R o η
section
variable {η : Env} {Q : D → Env → Prop} {R : Out → Env → Prop} {U : Bool → Env → Prop}
@[simp] theorem loopK'_nx {J : Env → Prop} : loopK' J R .nx η = J η := propext Iff.rfl
@[simp] theorem loopK'_bk {J : Env → Prop} : loopK' J R .bk η = R .bk η := propext Iff.rfl
@[simp] theorem loopK'_rt {J : Env → Prop} {d : D} : loopK' J R (.rt d) η = R (.rt d) η := propext Iff.rfl
@[simp] theorem thenM_nx {b : SM} : thenM b R .nx η = wS b η R := propext Iff.rfl
@[simp] theorem thenM_bk {b : SM} : thenM b R .bk η = R .bk η := propext Iff.rfl
@[simp] theorem thenM_rt {b : SM} {d : D} : thenM b R (.rt d) η = R (.rt d) η := propext Iff.rfl
@[simp] theorem fgK_nx {is : List Nat} : fgK is R .nx η = R .nx (forgetL is η) := propext Iff.rfl
@[simp] theorem fgK_bk {is : List Nat} : fgK is R .bk η = R .bk (forgetL is η) := propext Iff.rfl
@[simp] theorem fgK_rt {is : List Nat} {d : D} : fgK is R (.rt d) η = R (.rt d) η := propext Iff.rfl
@[simp] theorem loopK_nx {J : Env → Prop} : loopK J R .nx η = J η := propext Iff.rfl
@[simp] theorem loopK_bk {J : Env → Prop} : loopK J R .bk η = R .nx η := propext Iff.rfl
@[simp] theorem loopK_rt {J : Env → Prop} {d : D} : loopK J R (.rt d) η = R (.rt d) η := propext Iff.rfl
theorem wO_some {α : Type} {x : α} {Q : α → Prop} : wO (some x) Q = Q x := rfl
@[simp] theorem wO_some' {α : Type} {x : α} {Q : α → Prop} : wO (some x) Q = Q x := propext Iff.rfl
@[simp] theorem wO_none {α : Type} {Q : α → Prop} : wO (none : Option α) Q = False := propext Iff.rfl
@[simp] theorem wO_if {α : Type} {c : Prop} [Decidable c] {x : Option α} {Q : α → Prop} : wO (if c then x else none) Q = (c ∧ wO x Q) := by
  by_cases h : c <;> simp [h]
@[simp] theorem wE_cE {d : D} : wE (cE d) η Q = Q d η := by unfold wE; rfl
@[simp] theorem wE_failE : wE failE η Q = False := by unfold wE; rfl
@[simp] theorem wE_varE {i : Nat} : wE (varE i) η Q = (match η[i]? with
    | some (.sh d) => Q d η
    | some (.ow d) => Q d (η.set i (.sh d))
    | _ => False) := by
  unfold wE varE
  cases η[i]? with
  | none => rfl
  | some s => cases s <;> rfl
theorem wV_nV0 {i : Nat} {Q : (Env → Option D) → Env → Prop} : wV (nV i) η Q = (∃ d, content η i = some d ∧ Q (fun η2 => content η2 i) η) := by
  unfold wV nV
  cases content η i with
  | none => simp
  | some d => simp
theorem wV_nV' {i : Nat} {d : D} {Q : (Env → Option D) → Env → Prop} (h : content η i = some d) : wV (nV i) η Q = Q (fun η2 => content η2 i) η := by
  rw [wV_nV0]; simp [h]
theorem wV_vE0 {m : EM} {Q : (Env → Option D) → Env → Prop} : wV (vE m) η Q = wE m η fun d η1 => Q (fun _ => some d) η1 := by
  unfold wV vE wE
  rcases m η with _ | ⟨d, η1⟩ <;> rfl
theorem wE_bin20 {g : D → D → Option D} {a b : VM} : wE (bin2 g a b) η Q = wV a η fun pa η1 => wV b η1 fun pb η2 => wO (pa η2) fun x => wO (pb η2) fun y => wO (g x y) fun z => Q z η2 := by
  unfold wE bin2 wV
  rcases a η with _ | ⟨η1, pa⟩
  · rfl
  dsimp only [wO_some]
  rcases b η1 with _ | ⟨η2, pb⟩
  · rfl
  dsimp only [wO_some]
  rcases pa η2 with _ | x
  · rfl
  dsimp only [wO_some]
  rcases pb η2 with _ | y
  · rfl
  dsimp only [wO_some]
  rcases g x y with _ | z <;> rfl
theorem wE_un10 {g : D → Option D} {a : VM} : wE (un1 g a) η Q = wV a η fun pa η1 => wO (pa η1) fun x => wO (g x) fun z => Q z η1 := by
  unfold wE un1 wV
  rcases a η with _ | ⟨η1, pa⟩
  · rfl
  dsimp only [wO_some]
  rcases pa η1 with _ | x
  · rfl
  dsimp only [wO_some]
  rcases g x with _ | z <;> rfl
theorem wE_andE0 {a b : EM} : wE (andE a b) η Q = wE a η fun d η1 => match d with
    | .bl true => wE b η1 Q
    | .bl false => Q (.bl false) η1
    | _ => False := by
  unfold wE andE
  rcases a η with _ | ⟨d, η1⟩
  · rfl
  cases d <;> try rfl
  next b => cases b <;> rfl
theorem wE_orE0 {a b : EM} : wE (orE a b) η Q = wE a η fun d η1 => match d with
    | .bl true => Q (.bl true) η1
    | .bl false => wE b η1 Q
    | _ => False := by
  unfold wE orE
  rcases a η with _ | ⟨d, η1⟩
  · rfl
  cases d <;> try rfl
  next b => cases b <;> rfl
theorem wE_notE0 {a : EM} : wE (notE a) η Q = wE a η fun d η1 => match d with
    | .bl b => Q (.bl (!b)) η1
    | _ => False := by
  unfold wE notE
  rcases a η with _ | ⟨d, η1⟩
  · rfl
  cases d <;> rfl
theorem wE_ifE0 {c : BM} {a b : EM} : wE (ifE c a b) η Q = wB c η fun t η1 => (t = true → wE a η1 Q) ∧ (t = false → wE b η1 Q) := by
  unfold wE ifE wB
  rcases c η with _ | ⟨t, η1⟩
  · rfl
  cases t <;> simp
theorem wB_boolD0 {a : EM} : wB (boolD a) η U = wE a η fun d η1 => match d with
    | .bl b => U b η1
    | _ => False := by
  unfold wB boolD wE
  rcases a η with _ | ⟨d, η1⟩
  · rfl
  cases d <;> rfl
@[simp] theorem wB_trueB : wB trueB η U = U true η := by unfold wB; rfl
theorem wB_andB0 {a b : BM} : wB (andB a b) η U = wB a η fun t η1 => (t = true → wB b η1 U) ∧ (t = false → U false η1) := by
  unfold wB andB
  rcases a η with _ | ⟨t, η1⟩
  · rfl
  cases t <;> simp
theorem wB_orB0 {a b : BM} : wB (orB a b) η U = wB a η fun t η1 => (t = true → U true η1) ∧ (t = false → wB b η1 U) := by
  unfold wB orB
  rcases a η with _ | ⟨t, η1⟩
  · rfl
  cases t <;> simp
theorem wB_notBM0 {a : BM} : wB (notBM a) η U = wB a η fun t η1 => U (!t) η1 := by
  unfold wB notBM
  rcases a η with _ | ⟨t, η1⟩ <;> rfl
@[simp] theorem wA_nilA {Q : List D → Env → Prop} : wA nilA η Q = Q [] η := by unfold wA; rfl
theorem wA_consA0 {Q : List D → Env → Prop} {a : EM} {r : AM} : wA (consA a r) η Q = wE a η fun d η1 => wA r η1 fun ds η2 => Q (d :: ds) η2 := by
  unfold wA consA wE
  rcases a η with _ | ⟨d, η1⟩
  · rfl
  dsimp only [wO_some]
  rcases r η1 with _ | ⟨ds, η2⟩ <;> rfl
theorem wVA_nilV0 {Q : (Env → Option (List D)) → Env → Prop} : wVA nilV η Q = Q (fun _ => some []) η := by unfold wVA; rfl
theorem wVA_consV0 {Q : (Env → Option (List D)) → Env → Prop} {a : VM} {r : VAM} : wVA (consV a r) η Q = wV a η fun pa η1 => wVA r η1 fun pr η2 => Q (fun η3 => match pa η3, pr η3 with
      | some d, some ds => some (d :: ds)
      | _, _ => none) η2 := by
  unfold wVA consV wV
  rcases a η with _ | ⟨η1, pa⟩
  · rfl
  dsimp only [wO_some]
  rcases r η1 with _ | ⟨η2, pr⟩ <;> rfl
theorem wE_tupE0 {a : AM} : wE (tupE a) η Q = wA a η fun ds η1 => ds.length ≤ 1000 ∧ Q (.tup ds) η1 := by
  unfold wE tupE wA
  rcases a η with _ | ⟨ds, η1⟩
  · rfl
  by_cases h : ds.length ≤ 1000 <;> simp [h]
theorem wE_lstE0 {a : AM} : wE (lstE a) η Q = wA a η fun ds η1 => ds.length ≤ 1000 ∧ Q (.lst ds) η1 := by
  unfold wE lstE wA
  rcases a η with _ | ⟨ds, η1⟩
  · rfl
  by_cases h : ds.length ≤ 1000 <;> simp [h]
@[simp] theorem wT_noO {Q : Option Int → Env → Prop} : wT noO η Q = Q none η := by unfold wT; rfl
theorem wT_someO0 {Q : Option Int → Env → Prop} {m : EM} : wT (someO m) η Q = wE m η fun d η1 => match d with
    | .int i => Q (some i) η1
    | _ => False := by
  unfold wT someO wE
  rcases m η with _ | ⟨d, η1⟩
  · rfl
  cases d <;> rfl
theorem wE_sliceE0 {a : VM} {lo hi : OM} : wE (sliceE a lo hi) η Q = wV a η fun pa η1 => wT lo η1 fun l η2 => wT hi η2 fun u η3 => wO (pa η3) fun x => wO (sliceD x l u) fun z => Q z η3 := by
  unfold wE sliceE wV wT
  rcases a η with _ | ⟨η1, pa⟩
  · rfl
  dsimp only [wO_some]
  rcases lo η1 with _ | ⟨l, η2⟩
  · rfl
  dsimp only [wO_some]
  rcases hi η2 with _ | ⟨u, η3⟩
  · rfl
  dsimp only [wO_some]
  rcases pa η3 with _ | x
  · rfl
  dsimp only [wO_some]
  rcases sliceD x l u with _ | z <;> rfl
theorem wE_lstO0 {m : EM} : wE (lstO m) η Q = wE m η fun d η1 => match d with
    | .lst xs => Q (.lst xs) η1
    | _ => False := by
  unfold wE lstO
  rcases m η with _ | ⟨d, η1⟩
  · rfl
  cases d <;> rfl
theorem wE_callB0 {g : List D → Option D} {am : VAM} : wE (callB g am) η Q = wVA am η fun p η1 => wO (p η1) fun ds => wO (g ds) fun d => Q d η1 := by
  unfold wE callB wVA
  rcases am η with _ | ⟨η1, p⟩
  · rfl
  dsimp only [wO_some]
  rcases p η1 with _ | ds
  · rfl
  dsimp only [wO_some]
  rcases g ds with _ | d <;> rfl
theorem wE_isiE0 {n : String} {a : VM} : wE (isiE n a) η Q = wV a η fun pa η1 => wO (pa η1) fun x => wO (isiG n [x]) fun d => Q d η1 := by
  unfold isiE
  rw [wE_callB0, wVA_consV0]
  congr 1
  funext pa η1
  rw [wVA_nilV0]
  dsimp only
  cases pa η1 <;> rfl
theorem wE_mutE0 {i : Nat} {am : AM} {g : List D → List D → Option (D × List D)} : wE (mutE i am g) η Q = (∃ ys, ownC η i = some (.lst ys) ∧ wA am η fun ds η1 => wO (ownC η1 i) fun o => match o with
      | .lst xs => wO (g xs ds) fun r => Q r.1 (setOwn η1 i (.lst r.2))
      | _ => False) := by
  unfold wE mutE wA
  rcases ownC η i with _ | d0
  · simp
  cases d0 <;> try (simp; done)
  dsimp only [wO_some]
  rcases am η with _ | ⟨ds, η1⟩
  · simp
  simp only [Option.some.injEq, D.lst.injEq, exists_eq_left']
  rcases ownC η1 i with _ | d
  · rfl
  cases d <;> try rfl
  dsimp only [wO_some]
  next xs => rcases g xs ds with _ | ⟨r, xs'⟩ <;> rfl
@[simp] theorem wE_mut0 {i : Nat} {g : List D → List D → Option (D × List D)} : wE (mut0 i g) η Q = wE (mutE i nilA g) η Q := by unfold wE; rfl
/-! calls -/
@[simp] theorem wC_nilC {Q : List Arg → Env → Prop} : wC nilC η Q = Q [] η := by unfold wC; rfl
@[simp] theorem wC_consN {Q : List Arg → Env → Prop} {i : Nat} {r : CM} : wC (consN i r) η Q = (match η[i]? with
    | some (.sh d) => wC r η fun as η1 => Q (.val d :: as) η1
    | some (.ow _) => wC r η fun as η1 => Q (.nm i :: as) η1
    | some (.io _) => wC r η fun as η1 => Q (.nm i :: as) η1
    | _ => False) := by
  unfold wC consN
  cases η[i]? with
  | none => rfl
  | some s =>
    cases s with
    | no => rfl
    | sh d => dsimp only [wO_some]; rcases r η with _ | ⟨as, η1⟩ <;> rfl
    | ow d => dsimp only [wO_some]; rcases r η with _ | ⟨as, η1⟩ <;> rfl
    | io d => dsimp only [wO_some]; rcases r η with _ | ⟨as, η1⟩ <;> rfl
theorem wC_consC0 {Q : List Arg → Env → Prop} {m : EM} {r : CM} : wC (consC m r) η Q = wE m η fun d η1 => wC r η1 fun as η2 => Q (.val d :: as) η2 := by
  unfold wC consC wE
  rcases m η with _ | ⟨d, η1⟩
  · rfl
  dsimp only [wO_some]
  rcases r η1 with _ | ⟨as, η2⟩ <;> rfl
theorem wE_callE0 {sem : Sem} {m : CM} : wE (callE sem m) η Q = wC m η fun as η1 => wO (resolve η1 as) fun args => (nms as).Nodup ∧ wF sem args fun d c => Q d (back η1 as c) := by
  unfold wE callE wC wF
  rcases m η with _ | ⟨as, η1⟩
  · rfl
  dsimp only [wO_some]
  rcases resolve η1 as with _ | args
  · rfl
  dsimp only [wO_some]
  by_cases h : (nms as).Nodup
  · simp only [h, if_true, true_and]
    rcases sem args with _ | ⟨d, c⟩ <;> rfl
  · simp [h]
theorem wF_of {sem : Sem} {args : List S} {d : D} {c : Env} (h : sem args = some (d, c)) : wF sem args Q = Q d c := by
  unfold wF
  rw [h]
def runK (n : Nat) (Q : D → Env → Prop) : Out → Env → Prop := fun o η => match o with
  | .rt d => Q d (trimE n η)
  | .nx => Q .non (trimE n η)
  | .bk => False
@[simp] theorem runK_nx {n : Nat} : runK n Q .nx η = Q .non (trimE n η) := propext Iff.rfl
@[simp] theorem runK_bk {n : Nat} : runK n Q .bk η = False := propext Iff.rfl
@[simp] theorem runK_rt {n : Nat} {d : D} : runK n Q (.rt d) η = Q d (trimE n η) := propext Iff.rfl
theorem wF_run {n : Nat} {body : SM} {args : List S} : wF (runF n body) args Q = wS body (args ++ List.replicate (n - args.length) .no) (runK args.length Q) := by
  unfold wF runF wS
  generalize body _ = r
  rcases r with _ | ⟨o, η1⟩
  · rfl
  cases o <;> rfl
theorem of_wF {sem : Sem} {args : List S} {d : D} {c : Env} (h : wF sem args fun d' c' => d' = d ∧ c' = c) : sem args = some (d, c) := by
  unfold wF at h
  split at h
  · next e => obtain ⟨rfl, rfl⟩ := h; exact e
  · exact h.elim
theorem wF.ex {sem : Sem} {args : List S} (h : wF sem args Q) : ∃ d c, sem args = some (d, c) ∧ Q d c := by
  unfold wF at h
  split at h
  · next e => exact ⟨_, _, e, h⟩
  · exact h.elim
/-! statements -/
@[simp] theorem wS_nopM : wS nopM η R = R .nx η := by unfold wS; rfl
@[simp] theorem wS_brkM : wS brkM η R = R .bk η := by unfold wS; rfl
@[simp] theorem wS_failM : wS failM η R = False := by unfold wS; rfl
theorem wS_retM0 {m : EM} : wS (retM m) η R = wE m η fun d η1 => R (.rt d) η1 := by
  unfold wS retM wE
  rcases m η with _ | ⟨d, η1⟩ <;> rfl
theorem wS_exprS0 {m : EM} : wS (exprS m) η R = wE m η fun d η1 => R .nx η1 := by
  unfold wS exprS wE
  rcases m η with _ | ⟨d, η1⟩ <;> rfl
theorem wS_ifM0 {c : BM} {a b : SM} : wS (ifM c a b) η R = wB c η fun t η1 => (t = true → wS a η1 R) ∧ (t = false → wS b η1 R) := by
  unfold wS ifM wB
  rcases c η with _ | ⟨t, η1⟩
  · rfl
  cases t <;> simp
theorem wS_setS0 {i : Nat} {m : EM} : wS (setS i m) η R = wE m η fun d η1 => wO (setSlot η1 i (.sh d)) fun η2 => R .nx η2 := by
  unfold wS setS wE
  rcases m η with _ | ⟨d, η1⟩
  · rfl
  dsimp only [wO_some]
  rcases setSlot η1 i (.sh d) with _ | η2 <;> rfl
theorem wS_setO0 {i : Nat} {m : EM} : wS (setO i m) η R = wE m η fun d η1 => wO (setSlot η1 i (.ow d)) fun η2 => R .nx η2 := by
  unfold wS setO wE
  rcases m η with _ | ⟨d, η1⟩
  · rfl
  dsimp only [wO_some]
  rcases setSlot η1 i (.ow d) with _ | η2 <;> rfl
@[simp] theorem wS_seqM {a b : SM} : wS (seqM a b) η R = wS a η (thenM b R) := by
  unfold wS seqM
  rcases a η with _ | ⟨o, η1⟩
  · rfl
  cases o <;> try rfl
  show _ = wS b η1 R
  unfold wS
  rfl
theorem wS_asgM0 {m : EM} {g : TgM} : wS (asgM m g) η R = wE m η fun d η1 => wO (g d η1) fun η2 => R .nx η2 := by
  unfold wS asgM wE
  rcases m η with _ | ⟨d, η1⟩
  · rfl
  dsimp only [wO_some]
  rcases g d η1 with _ | η2 <;> rfl
theorem wS_parM0 {i j : Nat} {m : AM} : wS (parM i j m) η R = wA m η fun ds η1 => match ds with
    | [d, e] => wO (setSlot η1 i (.sh d)) fun η2 => wO (setSlot η2 j (.sh e)) fun η3 => R .nx η3
    | _ => False := by
  unfold wS parM wA
  rcases m η with _ | ⟨ds, η1⟩
  · rfl
  rcases ds with _ | ⟨d, _ | ⟨e, _ | ⟨f, r⟩⟩⟩ <;> try rfl
  dsimp only [wO_some]
  rcases setSlot η1 i (.sh d) with _ | η2
  · rfl
  dsimp only [wO_some]
  rcases setSlot η2 j (.sh e) with _ | η3 <;> rfl
theorem wS_par3M0 {i j l : Nat} {m : AM} : wS (par3M i j l m) η R = wA m η fun ds η1 => match ds with
    | [d, e, f] => wO (setSlot η1 i (.sh d)) fun η2 => wO (setSlot η2 j (.sh e)) fun η3 => wO (setSlot η3 l (.sh f)) fun η4 => R .nx η4
    | _ => False := by
  unfold wS par3M wA
  rcases m η with _ | ⟨ds, η1⟩
  · rfl
  rcases ds with _ | ⟨d, _ | ⟨e, _ | ⟨f, _ | ⟨g, r⟩⟩⟩⟩ <;> try rfl
  dsimp only [wO_some]
  rcases setSlot η1 i (.sh d) with _ | η2
  · rfl
  dsimp only [wO_some]
  rcases setSlot η2 j (.sh e) with _ | η3
  · rfl
  dsimp only [wO_some]
  rcases setSlot η3 l (.sh f) with _ | η4 <;> rfl
@[simp] theorem nameG_eq {i : Nat} {d : D} : nameG i d η = setSlot η i (.sh d) := rfl
@[simp] theorem tupG_eq {n : Nat} {r : List D → Env → Option Env} {ds : List D} : tupG n r (.tup ds) η = if ds.length = n then r ds η else none := rfl
@[simp] theorem nilG_eq : nilG [] η = some η := rfl
@[simp] theorem consG_eq {g : TgM} {r : List D → Env → Option Env} {d : D} {ds : List D} : consG g r (d :: ds) η = (g d η).bind fun η1 => r ds η1 := by
  show (match g d η with | some η1 => r ds η1 | none => none) = _
  cases g d η <;> rfl
@[simp] theorem wS_fgM {is : List Nat} {m : SM} : wS (fgM is m) η R = wS m η (fgK is R) := by
  unfold wS fgM
  rcases m η with _ | ⟨o, η1⟩
  · rfl
  cases o <;> rfl
theorem wS_storeM0 {i : Nat} {idx val : EM} : wS (storeM i idx val) η R = wE val η fun dv η1 => ∃ y, ownC η1 i = some y ∧ wE idx η1 fun dk η2 => wO (ownC η2 i) fun x => wO (putAny x dk dv) fun x' => R .nx (setOwn η2 i x') := by
  unfold wS storeM wE
  rcases val η with _ | ⟨dv, η1⟩
  · rfl
  dsimp only [wO_some]
  rcases ownC η1 i with _ | y
  · simp
  simp only [Option.some.injEq, exists_eq_left']
  rcases idx η1 with _ | ⟨dk, η2⟩
  · rfl
  dsimp only [wO_some]
  rcases ownC η2 i with _ | x
  · rfl
  dsimp only [wO_some]
  rcases putAny x dk dv with _ | x' <;> rfl
/-! loops -/
theorem wI_rng10 {m : EM} {Q : List D → Env → Prop} : wI (rng1 m) η Q = wE m η fun d η1 => match d with
    | .int j => (-(2 ^ 62) ≤ j ∧ j < 2 ^ 62) ∧ Q (rangeD 0 j) η1
    | _ => False := by
  unfold wI rng1 wE
  rcases m η with _ | ⟨d, η1⟩
  · rfl
  cases d <;> try rfl
  next j =>
    dsimp only
    by_cases h : -(2 ^ 62) ≤ j ∧ j < 2 ^ 62
    · rw [if_pos h]; exact propext ⟨fun q => ⟨h, q⟩, fun q => q.2⟩
    · rw [if_neg h]; exact propext ⟨fun q => q.elim, fun q => h q.1⟩
theorem wI_rng20 {m : AM} {Q : List D → Env → Prop} : wI (rng2 m) η Q = wA m η fun ds η1 => match ds with
    | [.int i, .int j] => (-(2 ^ 62) ≤ i ∧ i < 2 ^ 62 ∧ -(2 ^ 62) ≤ j ∧ j < 2 ^ 62) ∧ Q (rangeD i j) η1
    | _ => False := by
  unfold wI rng2 wA
  rcases m η with _ | ⟨ds, η1⟩
  · rfl
  rcases ds with _ | ⟨d, _ | ⟨e, _ | ⟨f, r⟩⟩⟩
  · rfl
  · cases d <;> rfl
  · cases d <;> cases e <;> try rfl
    next i j =>
      dsimp only
      by_cases h : -(2 ^ 62) ≤ i ∧ i < 2 ^ 62 ∧ -(2 ^ 62) ≤ j ∧ j < 2 ^ 62
      · rw [if_pos h]; exact propext ⟨fun q => ⟨h, q⟩, fun q => q.2⟩
      · rw [if_neg h]; exact propext ⟨fun q => q.elim, fun q => h q.1⟩
  · cases d <;> cases e <;> rfl
theorem wI_itE0 {m : EM} {Q : List D → Env → Prop} : wI (itE m) η Q = wE m η fun d η1 => wO (itemsD d) fun ds => Q ds η1 := by
  unfold wI itE wE
  rcases m η with _ | ⟨d, η1⟩
  · rfl
  dsimp only
  rcases itemsD d with _ | ds <;> rfl
theorem wS_forM0 {it : IM} {g : TgM} {b : SM} : wS (forM it g b) η R = wI it η fun ds η1 => wL (forL g b ds η1) R := by
  unfold wS forM wI wL
  rcases it η with _ | ⟨ds, η1⟩ <;> rfl
theorem wE_lcE0 {it : IM} {vs : List Nat} {g : TgM} {tt : BM} {te : EM} : wE (lcE it vs g tt te) η Q = wI it η fun ds η1 => ds.length ≤ 16777216 ∧ clearOk vs η1 = true ∧ wX (lcL vs g tt te ds η1) fun ys η2 => Q (.lst ys) (restL vs η1 η2) := by
  unfold wE lcE wI wX
  rcases it η with _ | ⟨ds, η1⟩
  · rfl
  dsimp only
  by_cases h : ds.length ≤ 16777216 ∧ clearOk vs η1 = true
  · rw [if_pos h, ← and_assoc, eq_true h, true_and]
    rcases lcL vs g tt te ds η1 with _ | ⟨ys, η2⟩ <;> rfl
  · rw [if_neg h, ← and_assoc, eq_false h, false_and]
/-- a comprehension's rule: I i ys η holds ahead of the item at i, ys were made -/
theorem wX_lc {vs : List Nat} {g : TgM} {tt : BM} {te : EM} {ds : List D} {Q : List D → Env → Prop} (I : Nat → List D → Env → Prop) (h0 : I 0 [] η)
    (step : ∀ (i : Nat) (d : D) (ys : List D) (η : Env), ds[i]? = some d → I i ys η → wO (g d (clearL vs η)) fun η1 => wB tt η1 fun t η2 => (t = true → wE te η2 fun y η3 => I (i + 1) (ys ++ [y]) η3) ∧ (t = false → I (i + 1) ys η2))
    (last : ∀ ys η, I ds.length ys η → Q ys η) : wX (lcL vs g tt te ds η) Q := by
  have main : ∀ (es : List D) (i : Nat) (ys : List D) (η : Env), ds.drop i = es → I i ys η → i + es.length = ds.length → wX (lcL vs g tt te es η) fun zs η2 => Q (ys ++ zs) η2 := by
    intro es
    induction es with
    | nil => intro i ys η _ hI hl; unfold wX lcL; exact last _ η (by rw [List.append_nil]; rw [List.length_nil, Nat.add_zero] at hl; rw [← hl]; exact hI)
    | cons d es ih =>
      intro i ys η hd hI hl
      have hi : ds[i]? = some d := by
        rw [← List.head?_drop, hd]; rfl
      have hs := step i d ys η hi hI
      have hd2 : ds.drop (i + 1) = es := by
        rw [← List.drop_drop, hd]
        rfl
      have hl2 : i + 1 + es.length = ds.length := by rw [List.length_cons] at hl; omega
      unfold wX lcL
      rcases hgd : g d (clearL vs η) with _ | η1
      · rw [hgd] at hs; exact hs.elim
      rw [hgd] at hs
      dsimp only [wO_some] at hs ⊢
      unfold wB at hs
      rcases hb : tt η1 with _ | ⟨t, η2⟩
      · rw [hb] at hs; exact hs.elim
      rw [hb] at hs
      dsimp only at hs ⊢
      cases t with
      | false =>
        have h3 := ih (i + 1) ys η2 hd2 (hs.2 rfl) hl2
        unfold wX at h3
        exact h3
      | true =>
        have h2 := hs.1 rfl
        unfold wE at h2
        dsimp only
        rcases he : te η2 with _ | ⟨y, η3⟩
        · rw [he] at h2; exact h2.elim
        rw [he] at h2
        have h3 := ih (i + 1) (ys ++ [y]) η3 hd2 h2 hl2
        unfold wX at h3
        dsimp only
        rcases hr : lcL vs g tt te es η3 with _ | ⟨zs, η4⟩
        · rw [hr] at h3; exact h3.elim
        rw [hr] at h3
        dsimp only at h3 ⊢
        rw [List.append_assoc] at h3
        exact h3
  exact main ds 0 [] η rfl h0 (by omega)
/-- the loop's rule: I i η holds ahead of the item at i -/
theorem wL_for {g : TgM} {b : SM} {ds : List D} (I : Nat → Env → Prop) (h0 : I 0 η)
    (step : ∀ (i : Nat) (d : D) (η : Env), ds[i]? = some d → I i η → wO (g d η) fun η1 => wS b η1 (loopK (I (i + 1)) R))
    (last : ∀ η, I ds.length η → R .nx η) : wL (forL g b ds η) R := by
  have main : ∀ (es : List D) (i : Nat) (η : Env), ds.drop i = es → I i η → i + es.length = ds.length → wL (forL g b es η) R := by
    intro es
    induction es with
    | nil => intro i η _ hI hl; unfold wL forL; exact last η (by rw [List.length_nil, Nat.add_zero] at hl; rw [← hl]; exact hI)
    | cons d es ih =>
      intro i η hd hI hl
      have hi : ds[i]? = some d := by
        rw [← List.head?_drop, hd]; rfl
      have hs := step i d η hi hI
      unfold wL forL
      rcases hgd : g d η with _ | η1
      · rw [hgd] at hs; exact hs.elim
      rw [hgd] at hs
      dsimp only [wO_some] at hs ⊢
      unfold wS at hs
      rcases hb : b η1 with _ | ⟨o, η2⟩
      · rw [hb] at hs; exact hs.elim
      rw [hb] at hs
      cases o with
      | nx =>
        have h3 := ih (i + 1) η2 (by rw [← List.drop_drop, hd]; rfl) hs (by rw [List.length_cons] at hl; omega)
        unfold wL at h3
        exact h3
      | bk => exact hs
      | rt x => exact hs
  exact main ds 0 η rfl h0 (by omega)
/-- while: I m η, where m is smaller at each turn -/
theorem wS_while {c : BM} {b : SM} {n : Nat} (I : Nat → Env → Prop) (m0 : Nat) (hm : m0 < n) (h0 : I m0 η)
    (step : ∀ (m : Nat) (η : Env), I m η → wB c η fun t η1 => (t = true → wS b η1 (loopK (fun η2 => ∃ m', m' < m ∧ I m' η2) R)) ∧ (t = false → R .nx η1)) : wS (whileL c b n) η R := by
  have main : ∀ (n m : Nat) (η : Env), m < n → I m η → wL (whileL c b n η) R := by
    intro n
    induction n with
    | zero => intro m η h; omega
    | succ n ih =>
      intro m η h hI
      have hs := step m η hI
      unfold wL whileL
      unfold wB at hs
      rcases hc : c η with _ | ⟨t, η1⟩
      · rw [hc] at hs; exact hs.elim
      rw [hc] at hs
      dsimp only at hs ⊢
      cases t with
      | false => exact hs.2 rfl
      | true =>
        have h2 := hs.1 rfl
        unfold wS at h2
        dsimp only [wO_some]
        rcases hb : b η1 with _ | ⟨o, η2⟩
        · rw [hb] at h2; exact h2.elim
        rw [hb] at h2
        cases o with
        | nx =>
          obtain ⟨m', hm', h3⟩ := h2
          have h4 := ih m' η2 (by omega) h3
          unfold wL at h4
          exact h4
        | bk => exact h2
        | rt x => exact h2
  have h5 := main n m0 η hm h0
  unfold wL at h5
  unfold wS
  exact h5
theorem wS_mono {m : SM} {R' : Out → Env → Prop} (h : wS m η R) (k : ∀ o η', R o η' → R' o η') : wS m η R' := by
  unfold wS at *
  split
  · next e => rw [e] at h; exact k _ _ h
  · next e => rw [e] at h; exact h.elim
theorem wE_mono {m : EM} {Q' : D → Env → Prop} (h : wE m η Q) (k : ∀ o η', Q o η' → Q' o η') : wE m η Q' := by
  unfold wE at *
  split
  · next e => rw [e] at h; exact k _ _ h
  · next e => rw [e] at h; exact h.elim
theorem wF_mono {m : Sem} {args : List S} {Q' : D → Env → Prop} (h : wF m args Q) (k : ∀ o η', Q o η' → Q' o η') : wF m args Q' := by
  unfold wF at *
  split
  · next e => rw [e] at h; exact k _ _ h
  · next e => rw [e] at h; exact h.elim
/-- a statement in front -/
theorem wS_seq {a b : SM} (J : Env → Prop) (ha : wS a η (loopK' J R)) (hb : ∀ η1, J η1 → wS b η1 R) : wS (seqM a b) η R := by
  rw [wS_seqM]
  refine wS_mono ha fun o η' h => ?_
  cases o with
  | nx => exact hb η' h
  | bk => exact h
  | rt x => exact h
end
end DL

namespace DL
open PySem L2

/-! ### the operators, by kinds -/
section
variable {a b : Int} {x y : Bool} {η : Env} {i : Nat} {s : S} {d : D} {Q : D → Env → Prop} {R : Out → Env → Prop}
@[simp] theorem addD_int : addD (.int a) (.int b) = some (.int (a + b)) := rfl
@[simp] theorem iaddD_int : iaddD (.int a) (.int b) = some (.int (a + b)) := rfl
@[simp] theorem subD_int : subD (.int a) (.int b) = some (.int (a - b)) := rfl
/-- the product is of a size that the machine takes -/
@[irreducible] def MulOk (a b : Int) : Prop := a.natAbs.log2 + b.natAbs.log2 < 1000000
instance : Decidable (MulOk a b) := decidable_of_iff (a.natAbs.log2 + b.natAbs.log2 < 1000000) (by unfold MulOk; exact Iff.rfl)
@[simp] theorem mulI_int : mulI (.int a) (.int b) = if MulOk a b then some (.int (a * b)) else none := by
  show (if a.natAbs.log2 + b.natAbs.log2 < 1000000 then some (D.int (a * b)) else none) = _
  by_cases h : MulOk a b
  · rw [if_pos h, if_pos (by unfold MulOk at h; exact h)]
  · rw [if_neg h, if_neg (by unfold MulOk at h; exact h)]
@[simp] theorem modD_int' : modD (.int a) (.int b) = if 0 < b then some (.int (a % b)) else if b ≠ 0 then some (.int (a.fmod b)) else none := rfl
@[simp] theorem powD_int : powD (.int a) (.int b) = if 0 ≤ b ∧ b ≤ 1000000 ∧ a.natAbs < 2 ^ 64 then some (.int (a ^ b.toNat)) else none := rfl
theorem fdivD_int (h : 0 < b) (h2 : b.natAbs.log2 < 9000) : fdivD (.int a) (.int b) = some (.int (a / b)) := by
  unfold fdivD; simp [h, h2]
theorem modD_int (h : 0 < b) : modD (.int a) (.int b) = some (.int (a % b)) := by
  unfold modD; simp [h]
@[simp] theorem ltD_int : ltD (.int a) (.int b) = some (.bl (decide (a < b))) := rfl
@[simp] theorem gtD_int : gtD (.int a) (.int b) = some (.bl (decide (b < a))) := rfl
@[simp] theorem leD_int : leD (.int a) (.int b) = some (.bl (decide (a ≤ b))) := rfl
@[simp] theorem geD_int : geD (.int a) (.int b) = some (.bl (decide (b ≤ a))) := rfl
@[simp] theorem isD_non : isD d .non = some (.bl (isNone d)) := by cases d <;> rfl
@[simp] theorem isnD_non : isnD d .non = some (.bl (!isNone d)) := by cases d <;> rfl
@[simp] theorem isNone_non : isNone .non = true := rfl
@[simp] theorem isNone_int : isNone (.int a) = false := rfl
@[simp] theorem isNone_bl : isNone (.bl x) = false := rfl
@[simp] theorem isNone_str {z : Str} : isNone (.str z) = false := rfl
@[simp] theorem isNone_tup {z : List D} : isNone (.tup z) = false := rfl
@[simp] theorem isNone_lst {z : List D} : isNone (.lst z) = false := rfl
@[simp] theorem negD_int : negD (.int a) = some (.int (-a)) := rfl
@[simp] theorem eqD_int : eqD (.int a) (.int b) = some (.bl (decide (a = b))) := by
  show some (D.bl (eqb (.int a) (.int b))) = _
  congr 2
@[simp] theorem neD_int : neD (.int a) (.int b) = some (.bl (!decide (a = b))) := by
  show some (D.bl (!eqb (.int a) (.int b))) = _
  congr 3
@[simp] theorem eqD_bl : eqD (.bl x) (.bl y) = some (.bl (x == y)) := by
  cases x <;> cases y <;> rfl
@[simp] theorem neD_bl : neD (.bl x) (.bl y) = some (.bl (x != y)) := by
  cases x <;> cases y <;> rfl
@[simp] theorem lenG_lst {xs : List D} : lenG [.lst xs] = some (.int xs.length) := rfl
@[simp] theorem lenG_tup {xs : List D} : lenG [.tup xs] = some (.int xs.length) := rfl
@[simp] theorem lenG_frl {xs : List D} : lenG [.frl xs] = some (.int xs.length) := rfl
@[simp] theorem lenG_dic {xs : List (D × D)} : lenG [.dic xs] = some (.int xs.length) := rfl
@[simp] theorem absG_int : absG [.int a] = some (.int a.natAbs) := rfl
@[simp] theorem intG_int : intG [.int a] = some (.int a) := rfl
@[simp] theorem intG_bl : intG [.bl x] = some (.int (if x then 1 else 0)) := rfl
@[simp] theorem max2G_int : max2G [.int a, .int b] = some (.int (max a b)) := rfl
@[simp] theorem min2G_int : min2G [.int a, .int b] = some (.int (min a b)) := rfl
@[simp] theorem content_eq : content η i = match η[i]? with
    | some (.sh d) => some d
    | some (.ow d) => some d
    | some (.io d) => some d
    | _ => none := rfl
@[simp] theorem ownC_eq : ownC η i = match η[i]? with
    | some (.ow d) => some d
    | some (.io d) => some d
    | _ => none := rfl
@[simp] theorem setOwn_eq : setOwn η i d = match η[i]? with
    | some (.ow _) => η.set i (.ow d)
    | some (.io _) => η.set i (.io d)
    | _ => η := rfl
@[simp] theorem setSlot_eq : setSlot η i s = match η[i]? with
    | some (.io _) => none
    | some _ => some (η.set i s)
    | none => none := rfl
@[simp] theorem rs_nil : resolve η [] = some [] := rfl
@[simp] theorem rs_val {as : List Arg} : resolve η (.val d :: as) = (resolve η as).bind fun r => some (S.sh d :: r) := by
  show (match resolve η as with | some r => some (S.sh d :: r) | none => none) = _
  cases resolve η as <;> rfl
@[simp] theorem rs_nm {as : List Arg} : resolve η (.nm i :: as) = (match η[i]? with
    | some (.ow d) => (resolve η as).bind fun r => some (S.io d :: r)
    | some (.io d) => (resolve η as).bind fun r => some (S.io d :: r)
    | _ => none) := by
  show (match η[i]? with | some (.ow d) => (match resolve η as with | some r => some (S.io d :: r) | none => none) | some (.io d) => (match resolve η as with | some r => some (S.io d :: r) | none => none) | _ => none) = _
  cases η[i]? with
  | none => rfl
  | some s => cases s <;> try rfl
              all_goals (dsimp only; cases resolve η as <;> rfl)
@[simp] theorem nms_nil : nms [] = [] := rfl
@[simp] theorem nms_val {as : List Arg} : nms (.val d :: as) = nms as := rfl
@[simp] theorem nms_nm {as : List Arg} : nms (.nm i :: as) = i :: nms as := rfl
@[simp] theorem back_nil {c : Env} : back η [] c = η := rfl
@[simp] theorem back_val {as : List Arg} {c : Env} : back η (.val d :: as) c = back η as c.tail := rfl
@[simp] theorem back_nm {as : List Arg} {c : Env} : back η (.nm i :: as) c = back (match η[i]?, c.head? with
    | some (.ow _), some (.io d) => η.set i (.ow d)
    | some (.io _), some (.io d) => η.set i (.io d)
    | _, _ => η) as c.tail := rfl
@[simp] theorem forgetL_nil : forgetL [] η = η := rfl
@[simp] theorem forgetL_cons {is : List Nat} : forgetL (i :: is) η = forgetL is (match η[i]? with
    | some (.io _) => η
    | _ => η.set i .no) := rfl
@[simp] theorem trimE_eq {n : Nat} : trimE n η = (η.take n).map ioS := rfl
@[simp] theorem ioS_no : ioS .no = .no := rfl
@[simp] theorem ioS_sh : ioS (.sh d) = .no := rfl
@[simp] theorem ioS_ow : ioS (.ow d) = .no := rfl
@[simp] theorem ioS_io : ioS (.io d) = .io d := rfl
@[simp] theorem appG_one {xs : List D} : appG xs [d] = if xs.length < 16777216 then some (.non, xs ++ [d]) else none := rfl
@[simp] theorem extG_one {xs ys : List D} : extG xs [.lst ys] = if xs.length + ys.length ≤ 16777216 then some (.non, xs ++ ys) else none := rfl
theorem popG_snoc {xs : List D} : popG (xs ++ [d]) [] = some (d, xs) := by
  unfold popG
  simp
theorem wS_augM0 {g : D → D → Option D} {m : EM} : wS (augM i g m) η R = (match η[i]? with
    | some (.sh x) => wE m η fun y η1 => wO (g x y) fun z => wO (setSlot η1 i (.sh z)) fun η2 => R .nx η2
    | _ => False) := by
  unfold wS augM wE
  rcases η[i]? with _ | s
  · rfl
  cases s <;> try rfl
  next x =>
    dsimp only
    rcases m η with _ | ⟨y, η1⟩
    · rfl
    dsimp only
    rcases g x y with _ | z
    · rfl
    dsimp only [wO_some]
    rcases setSlot η1 i (.sh z) with _ | η2 <;> rfl
theorem wS_augStM0 {g : D → D → Option D} {idx m : EM} : wS (augStM i g idx m) η R = (∃ y, ownC η i = some y ∧ wE idx η fun dk η1 => wO (ownC η1 i) fun x => wO (getA x dk) fun d => wE m η1 fun y η2 => wO (g d y) fun z => wO (ownC η2 i) fun x2 => wO (putAny x2 dk z) fun x' => R .nx (setOwn η2 i x')) := by
  unfold wS augStM wE
  rcases ownC η i with _ | y
  · simp
  simp only [Option.some.injEq, exists_eq_left']
  rcases idx η with _ | ⟨dk, η1⟩
  · rfl
  dsimp only
  rcases ownC η1 i with _ | x
  · rfl
  dsimp only [wO_some]
  rcases getA x dk with _ | d
  · rfl
  dsimp only [wO_some]
  rcases m η1 with _ | ⟨y, η2⟩
  · rfl
  dsimp only [wO_some]
  rcases g d y with _ | z
  · rfl
  dsimp only [wO_some]
  rcases ownC η2 i with _ | x2
  · rfl
  dsimp only [wO_some]
  rcases putAny x2 dk z with _ | x' <;> rfl
end
/-! ### the rules with continuations that are constants -/
def constP (d : D) : Env → Option D := fun _ => some d
def contP (i : Nat) : Env → Option D := fun η => content η i
def consP (pa : Env → Option D) (pr : Env → Option (List D)) : Env → Option (List D) := fun η3 => match pa η3, pr η3 with
      | some d, some ds => some (d :: ds)
      | _, _ => none
def nilP : Env → Option (List D) := fun _ => some []
def augG (o : Option S) (k : D → Prop) : Prop := match o with
    | some (.sh x) => k x
    | _ => False
@[simp] theorem constP_eq {d : D} {η : Env} : constP d η = some d := rfl
@[simp] theorem contP_eq {i : Nat} {η : Env} : contP i η = content η i := rfl
@[simp] theorem nilP_eq {η : Env} : nilP η = some [] := rfl
@[simp] theorem consP_eq {pa : Env → Option D} {pr : Env → Option (List D)} {η : Env} : consP pa pr η = match pa η, pr η with
      | some d, some ds => some (d :: ds)
      | _, _ => none := rfl
@[simp] theorem augG_sh {d : D} {k : D → Prop} : augG (some (.sh d)) k = k d := propext Iff.rfl
@[simp] theorem wV_nV {i : Nat} {η : Env} {Q : (Env → Option D) → Env → Prop} : wV (nV i) η Q = (∃ d, content η i = some d ∧ Q (contP i) η) := wV_nV0
@[simp] theorem wVA_nilV {η : Env} {Q : (Env → Option (List D)) → Env → Prop} : wVA nilV η Q = Q nilP η := wVA_nilV0
def andK (d : D) (A B : Prop) : Prop := match d with
  | .bl true => A
  | .bl false => B
  | _ => False
@[simp] theorem andK_bl {t : Bool} {A B : Prop} : andK (.bl t) A B = ((t = true → A) ∧ (t = false → B)) := by
  cases t <;> simp [andK]
def wV_vE_k1 (Q : (Env → Option D) → Env → Prop) : (D) → (Env) → Prop := fun d η1 => Q (constP d) η1
@[simp] theorem wV_vE_k1_eq {Q : (Env → Option D) → Env → Prop} {d : D} {η1 : Env} : wV_vE_k1 Q d η1 = (Q (constP d) η1) := propext Iff.rfl
@[simp] theorem wV_vE {m : EM} {Q : (Env → Option D) → Env → Prop} {η : Env} : wV (vE m) η Q = (wE m η (wV_vE_k1 Q)) := by
  rw [wV_vE0]; rfl
def wE_bin2_k5 (Q : D → Env → Prop) (η2 : Env) : (D) → Prop := fun z => Q z η2
@[simp] theorem wE_bin2_k5_eq {Q : D → Env → Prop} {η2 : Env} {z : D} : wE_bin2_k5 Q η2 z = (Q z η2) := propext Iff.rfl
def wE_bin2_k4 (g : D → D → Option D) (Q : D → Env → Prop) (η2 : Env) (x : D) : (D) → Prop := fun y => wO (g x y) (wE_bin2_k5 Q η2)
@[simp] theorem wE_bin2_k4_eq {g : D → D → Option D} {Q : D → Env → Prop} {η2 : Env} {x : D} {y : D} : wE_bin2_k4 g Q η2 x y = (wO (g x y) (wE_bin2_k5 Q η2)) := propext Iff.rfl
def wE_bin2_k3 (g : D → D → Option D) (Q : D → Env → Prop) (pb : Env → Option D) (η2 : Env) : (D) → Prop := fun x => wO (pb η2) (wE_bin2_k4 g Q η2 x)
@[simp] theorem wE_bin2_k3_eq {g : D → D → Option D} {Q : D → Env → Prop} {pb : Env → Option D} {η2 : Env} {x : D} : wE_bin2_k3 g Q pb η2 x = (wO (pb η2) (wE_bin2_k4 g Q η2 x)) := propext Iff.rfl
def wE_bin2_k2 (g : D → D → Option D) (Q : D → Env → Prop) (pa : Env → Option D) : (Env → Option D) → (Env) → Prop := fun pb η2 => wO (pa η2) (wE_bin2_k3 g Q pb η2)
@[simp] theorem wE_bin2_k2_eq {g : D → D → Option D} {Q : D → Env → Prop} {pa : Env → Option D} {pb : Env → Option D} {η2 : Env} : wE_bin2_k2 g Q pa pb η2 = (wO (pa η2) (wE_bin2_k3 g Q pb η2)) := propext Iff.rfl
def wE_bin2_k1 (g : D → D → Option D) (b : VM) (Q : D → Env → Prop) : (Env → Option D) → (Env) → Prop := fun pa η1 => wV b η1 (wE_bin2_k2 g Q pa)
@[simp] theorem wE_bin2_k1_eq {g : D → D → Option D} {b : VM} {Q : D → Env → Prop} {pa : Env → Option D} {η1 : Env} : wE_bin2_k1 g b Q pa η1 = (wV b η1 (wE_bin2_k2 g Q pa)) := propext Iff.rfl
@[simp] theorem wE_bin2 {g : D → D → Option D} {a : VM} {b : VM} {Q : D → Env → Prop} {η : Env} : wE (bin2 g a b) η Q = (wV a η (wE_bin2_k1 g b Q)) := by
  rw [wE_bin20]; rfl
def wE_un1_k3 (Q : D → Env → Prop) (η1 : Env) : (D) → Prop := fun z => Q z η1
@[simp] theorem wE_un1_k3_eq {Q : D → Env → Prop} {η1 : Env} {z : D} : wE_un1_k3 Q η1 z = (Q z η1) := propext Iff.rfl
def wE_un1_k2 (g : D → Option D) (Q : D → Env → Prop) (η1 : Env) : (D) → Prop := fun x => wO (g x) (wE_un1_k3 Q η1)
@[simp] theorem wE_un1_k2_eq {g : D → Option D} {Q : D → Env → Prop} {η1 : Env} {x : D} : wE_un1_k2 g Q η1 x = (wO (g x) (wE_un1_k3 Q η1)) := propext Iff.rfl
def wE_un1_k1 (g : D → Option D) (Q : D → Env → Prop) : (Env → Option D) → (Env) → Prop := fun pa η1 => wO (pa η1) (wE_un1_k2 g Q η1)
@[simp] theorem wE_un1_k1_eq {g : D → Option D} {Q : D → Env → Prop} {pa : Env → Option D} {η1 : Env} : wE_un1_k1 g Q pa η1 = (wO (pa η1) (wE_un1_k2 g Q η1)) := propext Iff.rfl
@[simp] theorem wE_un1 {g : D → Option D} {a : VM} {Q : D → Env → Prop} {η : Env} : wE (un1 g a) η Q = (wV a η (wE_un1_k1 g Q)) := by
  rw [wE_un10]; rfl
def wE_andE_k1 (b : EM) (Q : D → Env → Prop) : (D) → (Env) → Prop := fun d η1 => andK d (wE b η1 Q) (Q (.bl false) η1)
@[simp] theorem wE_andE_k1_eq {b : EM} {Q : D → Env → Prop} {d : D} {η1 : Env} : wE_andE_k1 b Q d η1 = (andK d (wE b η1 Q) (Q (.bl false) η1)) := propext Iff.rfl
@[simp] theorem wE_andE {a : EM} {b : EM} {Q : D → Env → Prop} {η : Env} : wE (andE a b) η Q = (wE a η (wE_andE_k1 b Q)) := by
  rw [wE_andE0]; rfl
def wE_orE_k1 (b : EM) (Q : D → Env → Prop) : (D) → (Env) → Prop := fun d η1 => andK d (Q (.bl true) η1) (wE b η1 Q)
@[simp] theorem wE_orE_k1_eq {b : EM} {Q : D → Env → Prop} {d : D} {η1 : Env} : wE_orE_k1 b Q d η1 = (andK d (Q (.bl true) η1) (wE b η1 Q)) := propext Iff.rfl
@[simp] theorem wE_orE {a : EM} {b : EM} {Q : D → Env → Prop} {η : Env} : wE (orE a b) η Q = (wE a η (wE_orE_k1 b Q)) := by
  rw [wE_orE0]; rfl
def wE_notE_k1 (Q : D → Env → Prop) : (D) → (Env) → Prop := fun d η1 => match d with | .bl b => Q (.bl (!b)) η1 | _ => False
@[simp] theorem wE_notE_k1_eq {Q : D → Env → Prop} {d : D} {η1 : Env} : wE_notE_k1 Q d η1 = (match d with | .bl b => Q (.bl (!b)) η1 | _ => False) := propext Iff.rfl
@[simp] theorem wE_notE {a : EM} {Q : D → Env → Prop} {η : Env} : wE (notE a) η Q = (wE a η (wE_notE_k1 Q)) := by
  rw [wE_notE0]; rfl
def wE_ifE_k1 (a : EM) (b : EM) (Q : D → Env → Prop) : (Bool) → (Env) → Prop := fun t η1 => (t = true → wE a η1 Q) ∧ (t = false → wE b η1 Q)
@[simp] theorem wE_ifE_k1_eq {a : EM} {b : EM} {Q : D → Env → Prop} {t : Bool} {η1 : Env} : wE_ifE_k1 a b Q t η1 = ((t = true → wE a η1 Q) ∧ (t = false → wE b η1 Q)) := propext Iff.rfl
@[simp] theorem wE_ifE {c : BM} {a : EM} {b : EM} {Q : D → Env → Prop} {η : Env} : wE (ifE c a b) η Q = (wB c η (wE_ifE_k1 a b Q)) := by
  rw [wE_ifE0]; rfl
def wB_boolD_k1 (U : Bool → Env → Prop) : (D) → (Env) → Prop := fun d η1 => match d with | .bl b => U b η1 | _ => False
@[simp] theorem wB_boolD_k1_eq {U : Bool → Env → Prop} {d : D} {η1 : Env} : wB_boolD_k1 U d η1 = (match d with | .bl b => U b η1 | _ => False) := propext Iff.rfl
@[simp] theorem wB_boolD {a : EM} {U : Bool → Env → Prop} {η : Env} : wB (boolD a) η U = (wE a η (wB_boolD_k1 U)) := by
  rw [wB_boolD0]; rfl
def wB_andB_k1 (b : BM) (U : Bool → Env → Prop) : (Bool) → (Env) → Prop := fun t η1 => (t = true → wB b η1 U) ∧ (t = false → U false η1)
@[simp] theorem wB_andB_k1_eq {b : BM} {U : Bool → Env → Prop} {t : Bool} {η1 : Env} : wB_andB_k1 b U t η1 = ((t = true → wB b η1 U) ∧ (t = false → U false η1)) := propext Iff.rfl
@[simp] theorem wB_andB {a : BM} {b : BM} {U : Bool → Env → Prop} {η : Env} : wB (andB a b) η U = (wB a η (wB_andB_k1 b U)) := by
  rw [wB_andB0]; rfl
def wB_orB_k1 (b : BM) (U : Bool → Env → Prop) : (Bool) → (Env) → Prop := fun t η1 => (t = true → U true η1) ∧ (t = false → wB b η1 U)
@[simp] theorem wB_orB_k1_eq {b : BM} {U : Bool → Env → Prop} {t : Bool} {η1 : Env} : wB_orB_k1 b U t η1 = ((t = true → U true η1) ∧ (t = false → wB b η1 U)) := propext Iff.rfl
@[simp] theorem wB_orB {a : BM} {b : BM} {U : Bool → Env → Prop} {η : Env} : wB (orB a b) η U = (wB a η (wB_orB_k1 b U)) := by
  rw [wB_orB0]; rfl
def wB_notBM_k1 (U : Bool → Env → Prop) : (Bool) → (Env) → Prop := fun t η1 => U (!t) η1
@[simp] theorem wB_notBM_k1_eq {U : Bool → Env → Prop} {t : Bool} {η1 : Env} : wB_notBM_k1 U t η1 = (U (!t) η1) := propext Iff.rfl
@[simp] theorem wB_notBM {a : BM} {U : Bool → Env → Prop} {η : Env} : wB (notBM a) η U = (wB a η (wB_notBM_k1 U)) := by
  rw [wB_notBM0]; rfl
def wA_consA_k2 (Q : List D → Env → Prop) (d : D) : (List D) → (Env) → Prop := fun ds η2 => Q (d :: ds) η2
@[simp] theorem wA_consA_k2_eq {Q : List D → Env → Prop} {d : D} {ds : List D} {η2 : Env} : wA_consA_k2 Q d ds η2 = (Q (d :: ds) η2) := propext Iff.rfl
def wA_consA_k1 (r : AM) (Q : List D → Env → Prop) : (D) → (Env) → Prop := fun d η1 => wA r η1 (wA_consA_k2 Q d)
@[simp] theorem wA_consA_k1_eq {r : AM} {Q : List D → Env → Prop} {d : D} {η1 : Env} : wA_consA_k1 r Q d η1 = (wA r η1 (wA_consA_k2 Q d)) := propext Iff.rfl
@[simp] theorem wA_consA {a : EM} {r : AM} {Q : List D → Env → Prop} {η : Env} : wA (consA a r) η Q = (wE a η (wA_consA_k1 r Q)) := by
  rw [wA_consA0]; rfl
def wVA_consV_k2 (Q : (Env → Option (List D)) → Env → Prop) (pa : Env → Option D) : (Env → Option (List D)) → (Env) → Prop := fun pr η2 => Q (consP pa pr) η2
@[simp] theorem wVA_consV_k2_eq {Q : (Env → Option (List D)) → Env → Prop} {pa : Env → Option D} {pr : Env → Option (List D)} {η2 : Env} : wVA_consV_k2 Q pa pr η2 = (Q (consP pa pr) η2) := propext Iff.rfl
def wVA_consV_k1 (r : VAM) (Q : (Env → Option (List D)) → Env → Prop) : (Env → Option D) → (Env) → Prop := fun pa η1 => wVA r η1 (wVA_consV_k2 Q pa)
@[simp] theorem wVA_consV_k1_eq {r : VAM} {Q : (Env → Option (List D)) → Env → Prop} {pa : Env → Option D} {η1 : Env} : wVA_consV_k1 r Q pa η1 = (wVA r η1 (wVA_consV_k2 Q pa)) := propext Iff.rfl
@[simp] theorem wVA_consV {a : VM} {r : VAM} {Q : (Env → Option (List D)) → Env → Prop} {η : Env} : wVA (consV a r) η Q = (wV a η (wVA_consV_k1 r Q)) := by
  rw [wVA_consV0]; rfl
def wE_tupE_k1 (Q : D → Env → Prop) : (List D) → (Env) → Prop := fun ds η1 => ds.length ≤ 1000 ∧ Q (.tup ds) η1
@[simp] theorem wE_tupE_k1_eq {Q : D → Env → Prop} {ds : List D} {η1 : Env} : wE_tupE_k1 Q ds η1 = (ds.length ≤ 1000 ∧ Q (.tup ds) η1) := propext Iff.rfl
@[simp] theorem wE_tupE {a : AM} {Q : D → Env → Prop} {η : Env} : wE (tupE a) η Q = (wA a η (wE_tupE_k1 Q)) := by
  rw [wE_tupE0]; rfl
def wE_lstE_k1 (Q : D → Env → Prop) : (List D) → (Env) → Prop := fun ds η1 => ds.length ≤ 1000 ∧ Q (.lst ds) η1
@[simp] theorem wE_lstE_k1_eq {Q : D → Env → Prop} {ds : List D} {η1 : Env} : wE_lstE_k1 Q ds η1 = (ds.length ≤ 1000 ∧ Q (.lst ds) η1) := propext Iff.rfl
@[simp] theorem wE_lstE {a : AM} {Q : D → Env → Prop} {η : Env} : wE (lstE a) η Q = (wA a η (wE_lstE_k1 Q)) := by
  rw [wE_lstE0]; rfl
def wT_someO_k1 (Q : Option Int → Env → Prop) : (D) → (Env) → Prop := fun d η1 => match d with | .int i => Q (some i) η1 | _ => False
@[simp] theorem wT_someO_k1_eq {Q : Option Int → Env → Prop} {d : D} {η1 : Env} : wT_someO_k1 Q d η1 = (match d with | .int i => Q (some i) η1 | _ => False) := propext Iff.rfl
@[simp] theorem wT_someO {m : EM} {Q : Option Int → Env → Prop} {η : Env} : wT (someO m) η Q = (wE m η (wT_someO_k1 Q)) := by
  rw [wT_someO0]; rfl
def wE_sliceE_k5 (Q : D → Env → Prop) (η3 : Env) : (D) → Prop := fun z => Q z η3
@[simp] theorem wE_sliceE_k5_eq {Q : D → Env → Prop} {η3 : Env} {z : D} : wE_sliceE_k5 Q η3 z = (Q z η3) := propext Iff.rfl
def wE_sliceE_k4 (Q : D → Env → Prop) (l : Option Int) (u : Option Int) (η3 : Env) : (D) → Prop := fun x => wO (sliceD x l u) (wE_sliceE_k5 Q η3)
@[simp] theorem wE_sliceE_k4_eq {Q : D → Env → Prop} {l : Option Int} {u : Option Int} {η3 : Env} {x : D} : wE_sliceE_k4 Q l u η3 x = (wO (sliceD x l u) (wE_sliceE_k5 Q η3)) := propext Iff.rfl
def wE_sliceE_k3 (Q : D → Env → Prop) (pa : Env → Option D) (l : Option Int) : (Option Int) → (Env) → Prop := fun u η3 => wO (pa η3) (wE_sliceE_k4 Q l u η3)
@[simp] theorem wE_sliceE_k3_eq {Q : D → Env → Prop} {pa : Env → Option D} {l : Option Int} {u : Option Int} {η3 : Env} : wE_sliceE_k3 Q pa l u η3 = (wO (pa η3) (wE_sliceE_k4 Q l u η3)) := propext Iff.rfl
def wE_sliceE_k2 (hi : OM) (Q : D → Env → Prop) (pa : Env → Option D) : (Option Int) → (Env) → Prop := fun l η2 => wT hi η2 (wE_sliceE_k3 Q pa l)
@[simp] theorem wE_sliceE_k2_eq {hi : OM} {Q : D → Env → Prop} {pa : Env → Option D} {l : Option Int} {η2 : Env} : wE_sliceE_k2 hi Q pa l η2 = (wT hi η2 (wE_sliceE_k3 Q pa l)) := propext Iff.rfl
def wE_sliceE_k1 (lo : OM) (hi : OM) (Q : D → Env → Prop) : (Env → Option D) → (Env) → Prop := fun pa η1 => wT lo η1 (wE_sliceE_k2 hi Q pa)
@[simp] theorem wE_sliceE_k1_eq {lo : OM} {hi : OM} {Q : D → Env → Prop} {pa : Env → Option D} {η1 : Env} : wE_sliceE_k1 lo hi Q pa η1 = (wT lo η1 (wE_sliceE_k2 hi Q pa)) := propext Iff.rfl
@[simp] theorem wE_sliceE {a : VM} {lo : OM} {hi : OM} {Q : D → Env → Prop} {η : Env} : wE (sliceE a lo hi) η Q = (wV a η (wE_sliceE_k1 lo hi Q)) := by
  rw [wE_sliceE0]; rfl
def wE_lstO_k1 (Q : D → Env → Prop) : (D) → (Env) → Prop := fun d η1 => match d with | .lst xs => Q (.lst xs) η1 | _ => False
@[simp] theorem wE_lstO_k1_eq {Q : D → Env → Prop} {d : D} {η1 : Env} : wE_lstO_k1 Q d η1 = (match d with | .lst xs => Q (.lst xs) η1 | _ => False) := propext Iff.rfl
@[simp] theorem wE_lstO {m : EM} {Q : D → Env → Prop} {η : Env} : wE (lstO m) η Q = (wE m η (wE_lstO_k1 Q)) := by
  rw [wE_lstO0]; rfl
def wE_callB_k3 (Q : D → Env → Prop) (η1 : Env) : (D) → Prop := fun d => Q d η1
@[simp] theorem wE_callB_k3_eq {Q : D → Env → Prop} {η1 : Env} {d : D} : wE_callB_k3 Q η1 d = (Q d η1) := propext Iff.rfl
def wE_callB_k2 (g : List D → Option D) (Q : D → Env → Prop) (η1 : Env) : (List D) → Prop := fun ds => wO (g ds) (wE_callB_k3 Q η1)
@[simp] theorem wE_callB_k2_eq {g : List D → Option D} {Q : D → Env → Prop} {η1 : Env} {ds : List D} : wE_callB_k2 g Q η1 ds = (wO (g ds) (wE_callB_k3 Q η1)) := propext Iff.rfl
def wE_callB_k1 (g : List D → Option D) (Q : D → Env → Prop) : (Env → Option (List D)) → (Env) → Prop := fun p η1 => wO (p η1) (wE_callB_k2 g Q η1)
@[simp] theorem wE_callB_k1_eq {g : List D → Option D} {Q : D → Env → Prop} {p : Env → Option (List D)} {η1 : Env} : wE_callB_k1 g Q p η1 = (wO (p η1) (wE_callB_k2 g Q η1)) := propext Iff.rfl
@[simp] theorem wE_callB {g : List D → Option D} {am : VAM} {Q : D → Env → Prop} {η : Env} : wE (callB g am) η Q = (wVA am η (wE_callB_k1 g Q)) := by
  rw [wE_callB0]; rfl
def wE_isiE_k3 (Q : D → Env → Prop) (η1 : Env) : (D) → Prop := fun d => Q d η1
@[simp] theorem wE_isiE_k3_eq {Q : D → Env → Prop} {η1 : Env} {d : D} : wE_isiE_k3 Q η1 d = (Q d η1) := propext Iff.rfl
def wE_isiE_k2 (n : String) (Q : D → Env → Prop) (η1 : Env) : (D) → Prop := fun x => wO (isiG n [x]) (wE_isiE_k3 Q η1)
@[simp] theorem wE_isiE_k2_eq {n : String} {Q : D → Env → Prop} {η1 : Env} {x : D} : wE_isiE_k2 n Q η1 x = (wO (isiG n [x]) (wE_isiE_k3 Q η1)) := propext Iff.rfl
def wE_isiE_k1 (n : String) (Q : D → Env → Prop) : (Env → Option D) → (Env) → Prop := fun pa η1 => wO (pa η1) (wE_isiE_k2 n Q η1)
@[simp] theorem wE_isiE_k1_eq {n : String} {Q : D → Env → Prop} {pa : Env → Option D} {η1 : Env} : wE_isiE_k1 n Q pa η1 = (wO (pa η1) (wE_isiE_k2 n Q η1)) := propext Iff.rfl
@[simp] theorem wE_isiE {n : String} {a : VM} {Q : D → Env → Prop} {η : Env} : wE (isiE n a) η Q = (wV a η (wE_isiE_k1 n Q)) := by
  rw [wE_isiE0]; rfl
def wE_mutE_k2 (i : Nat) (g : List D → List D → Option (D × List D)) (Q : D → Env → Prop) (ds : List D) (η1 : Env) : (D) → Prop := fun o => match o with | .lst xs => wO (g xs ds) (fun r => Q r.1 (setOwn η1 i (.lst r.2))) | _ => False
@[simp] theorem wE_mutE_k2_eq {i : Nat} {g : List D → List D → Option (D × List D)} {Q : D → Env → Prop} {ds : List D} {η1 : Env} {o : D} : wE_mutE_k2 i g Q ds η1 o = (match o with | .lst xs => wO (g xs ds) (fun r => Q r.1 (setOwn η1 i (.lst r.2))) | _ => False) := propext Iff.rfl
def wE_mutE_k1 (i : Nat) (g : List D → List D → Option (D × List D)) (Q : D → Env → Prop) : (List D) → (Env) → Prop := fun ds η1 => wO (ownC η1 i) (wE_mutE_k2 i g Q ds η1)
@[simp] theorem wE_mutE_k1_eq {i : Nat} {g : List D → List D → Option (D × List D)} {Q : D → Env → Prop} {ds : List D} {η1 : Env} : wE_mutE_k1 i g Q ds η1 = (wO (ownC η1 i) (wE_mutE_k2 i g Q ds η1)) := propext Iff.rfl
@[simp] theorem wE_mutE {i : Nat} {am : AM} {g : List D → List D → Option (D × List D)} {Q : D → Env → Prop} {η : Env} : wE (mutE i am g) η Q = (∃ ys, ownC η i = some (.lst ys) ∧ wA am η (wE_mutE_k1 i g Q)) := by
  rw [wE_mutE0]; rfl
def wC_consC_k2 (Q : List Arg → Env → Prop) (d : D) : (List Arg) → (Env) → Prop := fun as η2 => Q (.val d :: as) η2
@[simp] theorem wC_consC_k2_eq {Q : List Arg → Env → Prop} {d : D} {as : List Arg} {η2 : Env} : wC_consC_k2 Q d as η2 = (Q (.val d :: as) η2) := propext Iff.rfl
def wC_consC_k1 (r : CM) (Q : List Arg → Env → Prop) : (D) → (Env) → Prop := fun d η1 => wC r η1 (wC_consC_k2 Q d)
@[simp] theorem wC_consC_k1_eq {r : CM} {Q : List Arg → Env → Prop} {d : D} {η1 : Env} : wC_consC_k1 r Q d η1 = (wC r η1 (wC_consC_k2 Q d)) := propext Iff.rfl
@[simp] theorem wC_consC {m : EM} {r : CM} {Q : List Arg → Env → Prop} {η : Env} : wC (consC m r) η Q = (wE m η (wC_consC_k1 r Q)) := by
  rw [wC_consC0]; rfl
def wE_callE_k3 (Q : D → Env → Prop) (as : List Arg) (η1 : Env) : (D) → (Env) → Prop := fun d c => Q d (back η1 as c)
@[simp] theorem wE_callE_k3_eq {Q : D → Env → Prop} {as : List Arg} {η1 : Env} {d : D} {c : Env} : wE_callE_k3 Q as η1 d c = (Q d (back η1 as c)) := propext Iff.rfl
def wE_callE_k2 (sem : Sem) (Q : D → Env → Prop) (as : List Arg) (η1 : Env) : (List S) → Prop := fun args => (nms as).Nodup ∧ wF sem args (wE_callE_k3 Q as η1)
@[simp] theorem wE_callE_k2_eq {sem : Sem} {Q : D → Env → Prop} {as : List Arg} {η1 : Env} {args : List S} : wE_callE_k2 sem Q as η1 args = ((nms as).Nodup ∧ wF sem args (wE_callE_k3 Q as η1)) := propext Iff.rfl
def wE_callE_k1 (sem : Sem) (Q : D → Env → Prop) : (List Arg) → (Env) → Prop := fun as η1 => wO (resolve η1 as) (wE_callE_k2 sem Q as η1)
@[simp] theorem wE_callE_k1_eq {sem : Sem} {Q : D → Env → Prop} {as : List Arg} {η1 : Env} : wE_callE_k1 sem Q as η1 = (wO (resolve η1 as) (wE_callE_k2 sem Q as η1)) := propext Iff.rfl
@[simp] theorem wE_callE {sem : Sem} {m : CM} {Q : D → Env → Prop} {η : Env} : wE (callE sem m) η Q = (wC m η (wE_callE_k1 sem Q)) := by
  rw [wE_callE0]; rfl
def wS_retM_k1 (R : Out → Env → Prop) : (D) → (Env) → Prop := fun d η1 => R (.rt d) η1
@[simp] theorem wS_retM_k1_eq {R : Out → Env → Prop} {d : D} {η1 : Env} : wS_retM_k1 R d η1 = (R (.rt d) η1) := propext Iff.rfl
@[simp] theorem wS_retM {m : EM} {R : Out → Env → Prop} {η : Env} : wS (retM m) η R = (wE m η (wS_retM_k1 R)) := by
  rw [wS_retM0]; rfl
def wS_exprS_k1 (R : Out → Env → Prop) : (D) → (Env) → Prop := fun d η1 => R .nx η1
@[simp] theorem wS_exprS_k1_eq {R : Out → Env → Prop} {d : D} {η1 : Env} : wS_exprS_k1 R d η1 = (R .nx η1) := propext Iff.rfl
@[simp] theorem wS_exprS {m : EM} {R : Out → Env → Prop} {η : Env} : wS (exprS m) η R = (wE m η (wS_exprS_k1 R)) := by
  rw [wS_exprS0]; rfl
def wS_ifM_k1 (a : SM) (b : SM) (R : Out → Env → Prop) : (Bool) → (Env) → Prop := fun t η1 => (t = true → wS a η1 R) ∧ (t = false → wS b η1 R)
@[simp] theorem wS_ifM_k1_eq {a : SM} {b : SM} {R : Out → Env → Prop} {t : Bool} {η1 : Env} : wS_ifM_k1 a b R t η1 = ((t = true → wS a η1 R) ∧ (t = false → wS b η1 R)) := propext Iff.rfl
@[simp] theorem wS_ifM {c : BM} {a : SM} {b : SM} {R : Out → Env → Prop} {η : Env} : wS (ifM c a b) η R = (wB c η (wS_ifM_k1 a b R)) := by
  rw [wS_ifM0]; rfl
def wS_setS_k2 (R : Out → Env → Prop) : (Env) → Prop := fun η2 => R .nx η2
@[simp] theorem wS_setS_k2_eq {R : Out → Env → Prop} {η2 : Env} : wS_setS_k2 R η2 = (R .nx η2) := propext Iff.rfl
def wS_setS_k1 (i : Nat) (R : Out → Env → Prop) : (D) → (Env) → Prop := fun d η1 => wO (setSlot η1 i (.sh d)) (wS_setS_k2 R)
@[simp] theorem wS_setS_k1_eq {i : Nat} {R : Out → Env → Prop} {d : D} {η1 : Env} : wS_setS_k1 i R d η1 = (wO (setSlot η1 i (.sh d)) (wS_setS_k2 R)) := propext Iff.rfl
@[simp] theorem wS_setS {i : Nat} {m : EM} {R : Out → Env → Prop} {η : Env} : wS (setS i m) η R = (wE m η (wS_setS_k1 i R)) := by
  rw [wS_setS0]; rfl
def wS_setO_k2 (R : Out → Env → Prop) : (Env) → Prop := fun η2 => R .nx η2
@[simp] theorem wS_setO_k2_eq {R : Out → Env → Prop} {η2 : Env} : wS_setO_k2 R η2 = (R .nx η2) := propext Iff.rfl
def wS_setO_k1 (i : Nat) (R : Out → Env → Prop) : (D) → (Env) → Prop := fun d η1 => wO (setSlot η1 i (.ow d)) (wS_setO_k2 R)
@[simp] theorem wS_setO_k1_eq {i : Nat} {R : Out → Env → Prop} {d : D} {η1 : Env} : wS_setO_k1 i R d η1 = (wO (setSlot η1 i (.ow d)) (wS_setO_k2 R)) := propext Iff.rfl
@[simp] theorem wS_setO {i : Nat} {m : EM} {R : Out → Env → Prop} {η : Env} : wS (setO i m) η R = (wE m η (wS_setO_k1 i R)) := by
  rw [wS_setO0]; rfl
def wS_asgM_k2 (R : Out → Env → Prop) : (Env) → Prop := fun η2 => R .nx η2
@[simp] theorem wS_asgM_k2_eq {R : Out → Env → Prop} {η2 : Env} : wS_asgM_k2 R η2 = (R .nx η2) := propext Iff.rfl
def wS_asgM_k1 (g : TgM) (R : Out → Env → Prop) : (D) → (Env) → Prop := fun d η1 => wO (g d η1) (wS_asgM_k2 R)
@[simp] theorem wS_asgM_k1_eq {g : TgM} {R : Out → Env → Prop} {d : D} {η1 : Env} : wS_asgM_k1 g R d η1 = (wO (g d η1) (wS_asgM_k2 R)) := propext Iff.rfl
@[simp] theorem wS_asgM {m : EM} {g : TgM} {R : Out → Env → Prop} {η : Env} : wS (asgM m g) η R = (wE m η (wS_asgM_k1 g R)) := by
  rw [wS_asgM0]; rfl
def wS_parM_k1 (i : Nat) (j : Nat) (R : Out → Env → Prop) : (List D) → (Env) → Prop := fun ds η1 => match ds with | [d, e] => wO (setSlot η1 i (.sh d)) (fun η2 => wO (setSlot η2 j (.sh e)) fun η3 => R .nx η3) | _ => False
@[simp] theorem wS_parM_k1_eq {i : Nat} {j : Nat} {R : Out → Env → Prop} {ds : List D} {η1 : Env} : wS_parM_k1 i j R ds η1 = (match ds with | [d, e] => wO (setSlot η1 i (.sh d)) (fun η2 => wO (setSlot η2 j (.sh e)) fun η3 => R .nx η3) | _ => False) := propext Iff.rfl
@[simp] theorem wS_parM {i : Nat} {j : Nat} {m : AM} {R : Out → Env → Prop} {η : Env} : wS (parM i j m) η R = (wA m η (wS_parM_k1 i j R)) := by
  rw [wS_parM0]; rfl
def wS_par3M_k1 (i : Nat) (j : Nat) (l : Nat) (R : Out → Env → Prop) : (List D) → (Env) → Prop := fun ds η1 => match ds with | [d, e, f] => wO (setSlot η1 i (.sh d)) (fun η2 => wO (setSlot η2 j (.sh e)) fun η3 => wO (setSlot η3 l (.sh f)) fun η4 => R .nx η4) | _ => False
@[simp] theorem wS_par3M_k1_eq {i : Nat} {j : Nat} {l : Nat} {R : Out → Env → Prop} {ds : List D} {η1 : Env} : wS_par3M_k1 i j l R ds η1 = (match ds with | [d, e, f] => wO (setSlot η1 i (.sh d)) (fun η2 => wO (setSlot η2 j (.sh e)) fun η3 => wO (setSlot η3 l (.sh f)) fun η4 => R .nx η4) | _ => False) := propext Iff.rfl
@[simp] theorem wS_par3M {i : Nat} {j : Nat} {l : Nat} {m : AM} {R : Out → Env → Prop} {η : Env} : wS (par3M i j l m) η R = (wA m η (wS_par3M_k1 i j l R)) := by
  rw [wS_par3M0]; rfl
def wS_storeM_k4 (i : Nat) (R : Out → Env → Prop) (η2 : Env) : (D) → Prop := fun x2 => R .nx (setOwn η2 i x2)
@[simp] theorem wS_storeM_k4_eq {i : Nat} {R : Out → Env → Prop} {η2 : Env} {x2 : D} : wS_storeM_k4 i R η2 x2 = (R .nx (setOwn η2 i x2)) := propext Iff.rfl
def wS_storeM_k3 (i : Nat) (R : Out → Env → Prop) (dv : D) (dk : D) (η2 : Env) : (D) → Prop := fun x => wO (putAny x dk dv) (wS_storeM_k4 i R η2)
@[simp] theorem wS_storeM_k3_eq {i : Nat} {R : Out → Env → Prop} {dv : D} {dk : D} {η2 : Env} {x : D} : wS_storeM_k3 i R dv dk η2 x = (wO (putAny x dk dv) (wS_storeM_k4 i R η2)) := propext Iff.rfl
def wS_storeM_k2 (i : Nat) (R : Out → Env → Prop) (dv : D) : (D) → (Env) → Prop := fun dk η2 => wO (ownC η2 i) (wS_storeM_k3 i R dv dk η2)
@[simp] theorem wS_storeM_k2_eq {i : Nat} {R : Out → Env → Prop} {dv : D} {dk : D} {η2 : Env} : wS_storeM_k2 i R dv dk η2 = (wO (ownC η2 i) (wS_storeM_k3 i R dv dk η2)) := propext Iff.rfl
def wS_storeM_k1 (i : Nat) (idx : EM) (R : Out → Env → Prop) : (D) → (Env) → Prop := fun dv η1 => ∃ y, ownC η1 i = some y ∧ wE idx η1 (wS_storeM_k2 i R dv)
@[simp] theorem wS_storeM_k1_eq {i : Nat} {idx : EM} {R : Out → Env → Prop} {dv : D} {η1 : Env} : wS_storeM_k1 i idx R dv η1 = (∃ y, ownC η1 i = some y ∧ wE idx η1 (wS_storeM_k2 i R dv)) := propext Iff.rfl
@[simp] theorem wS_storeM {i : Nat} {idx : EM} {val : EM} {R : Out → Env → Prop} {η : Env} : wS (storeM i idx val) η R = (wE val η (wS_storeM_k1 i idx R)) := by
  rw [wS_storeM0]; rfl
def wI_rng1_k1 (Q : List D → Env → Prop) : (D) → (Env) → Prop := fun d η1 => match d with | .int j => (-(2 ^ 62) ≤ j ∧ j < 2 ^ 62) ∧ Q (rangeD 0 j) η1 | _ => False
@[simp] theorem wI_rng1_k1_eq {Q : List D → Env → Prop} {d : D} {η1 : Env} : wI_rng1_k1 Q d η1 = (match d with | .int j => (-(2 ^ 62) ≤ j ∧ j < 2 ^ 62) ∧ Q (rangeD 0 j) η1 | _ => False) := propext Iff.rfl
@[simp] theorem wI_rng1 {m : EM} {Q : List D → Env → Prop} {η : Env} : wI (rng1 m) η Q = (wE m η (wI_rng1_k1 Q)) := by
  rw [wI_rng10]; rfl
def wI_rng2_k1 (Q : List D → Env → Prop) : (List D) → (Env) → Prop := fun ds η1 => match ds with | [.int i, .int j] => (-(2 ^ 62) ≤ i ∧ i < 2 ^ 62 ∧ -(2 ^ 62) ≤ j ∧ j < 2 ^ 62) ∧ Q (rangeD i j) η1 | _ => False
@[simp] theorem wI_rng2_k1_eq {Q : List D → Env → Prop} {ds : List D} {η1 : Env} : wI_rng2_k1 Q ds η1 = (match ds with | [.int i, .int j] => (-(2 ^ 62) ≤ i ∧ i < 2 ^ 62 ∧ -(2 ^ 62) ≤ j ∧ j < 2 ^ 62) ∧ Q (rangeD i j) η1 | _ => False) := propext Iff.rfl
@[simp] theorem wI_rng2 {m : AM} {Q : List D → Env → Prop} {η : Env} : wI (rng2 m) η Q = (wA m η (wI_rng2_k1 Q)) := by
  rw [wI_rng20]; rfl
def wI_itE_k2 (Q : List D → Env → Prop) (η1 : Env) : (List D) → Prop := fun ds => Q ds η1
@[simp] theorem wI_itE_k2_eq {Q : List D → Env → Prop} {η1 : Env} {ds : List D} : wI_itE_k2 Q η1 ds = (Q ds η1) := propext Iff.rfl
def wI_itE_k1 (Q : List D → Env → Prop) : (D) → (Env) → Prop := fun d η1 => wO (itemsD d) (wI_itE_k2 Q η1)
@[simp] theorem wI_itE_k1_eq {Q : List D → Env → Prop} {d : D} {η1 : Env} : wI_itE_k1 Q d η1 = (wO (itemsD d) (wI_itE_k2 Q η1)) := propext Iff.rfl
@[simp] theorem wI_itE {m : EM} {Q : List D → Env → Prop} {η : Env} : wI (itE m) η Q = (wE m η (wI_itE_k1 Q)) := by
  rw [wI_itE0]; rfl
def wS_forM_k1 (g : TgM) (b : SM) (R : Out → Env → Prop) : (List D) → (Env) → Prop := fun ds η1 => wL (forL g b ds η1) R
@[simp] theorem wS_forM_k1_eq {g : TgM} {b : SM} {R : Out → Env → Prop} {ds : List D} {η1 : Env} : wS_forM_k1 g b R ds η1 = (wL (forL g b ds η1) R) := propext Iff.rfl
@[simp] theorem wS_forM {it : IM} {g : TgM} {b : SM} {R : Out → Env → Prop} {η : Env} : wS (forM it g b) η R = (wI it η (wS_forM_k1 g b R)) := by
  rw [wS_forM0]; rfl
def wE_lcE_k2 (vs : List Nat) (Q : D → Env → Prop) (η1 : Env) : (List D) → (Env) → Prop := fun ys η2 => Q (.lst ys) (restL vs η1 η2)
@[simp] theorem wE_lcE_k2_eq {vs : List Nat} {Q : D → Env → Prop} {η1 : Env} {ys : List D} {η2 : Env} : wE_lcE_k2 vs Q η1 ys η2 = (Q (.lst ys) (restL vs η1 η2)) := propext Iff.rfl
def wE_lcE_k1 (vs : List Nat) (g : TgM) (tt : BM) (te : EM) (Q : D → Env → Prop) : (List D) → (Env) → Prop := fun ds η1 => ds.length ≤ 16777216 ∧ clearOk vs η1 = true ∧ wX (lcL vs g tt te ds η1) (wE_lcE_k2 vs Q η1)
@[simp] theorem wE_lcE_k1_eq {vs : List Nat} {g : TgM} {tt : BM} {te : EM} {Q : D → Env → Prop} {ds : List D} {η1 : Env} : wE_lcE_k1 vs g tt te Q ds η1 = (ds.length ≤ 16777216 ∧ clearOk vs η1 = true ∧ wX (lcL vs g tt te ds η1) (wE_lcE_k2 vs Q η1)) := propext Iff.rfl
@[simp] theorem wE_lcE {it : IM} {vs : List Nat} {g : TgM} {tt : BM} {te : EM} {Q : D → Env → Prop} {η : Env} : wE (lcE it vs g tt te) η Q = (wI it η (wE_lcE_k1 vs g tt te Q)) := by
  rw [wE_lcE0]; rfl
def wS_augM_k4 (R : Out → Env → Prop) : (Env) → Prop := fun η2 => R .nx η2
@[simp] theorem wS_augM_k4_eq {R : Out → Env → Prop} {η2 : Env} : wS_augM_k4 R η2 = (R .nx η2) := propext Iff.rfl
def wS_augM_k3 (i : Nat) (R : Out → Env → Prop) (η1 : Env) : (D) → Prop := fun z => wO (setSlot η1 i (.sh z)) (wS_augM_k4 R)
@[simp] theorem wS_augM_k3_eq {i : Nat} {R : Out → Env → Prop} {η1 : Env} {z : D} : wS_augM_k3 i R η1 z = (wO (setSlot η1 i (.sh z)) (wS_augM_k4 R)) := propext Iff.rfl
def wS_augM_k2 (i : Nat) (g : D → D → Option D) (R : Out → Env → Prop) (x : D) : (D) → (Env) → Prop := fun y η1 => wO (g x y) (wS_augM_k3 i R η1)
@[simp] theorem wS_augM_k2_eq {i : Nat} {g : D → D → Option D} {R : Out → Env → Prop} {x : D} {y : D} {η1 : Env} : wS_augM_k2 i g R x y η1 = (wO (g x y) (wS_augM_k3 i R η1)) := propext Iff.rfl
def wS_augM_k1 (i : Nat) (g : D → D → Option D) (m : EM) (R : Out → Env → Prop) (η : Env) : (D) → Prop := fun x => wE m η (wS_augM_k2 i g R x)
@[simp] theorem wS_augM_k1_eq {i : Nat} {g : D → D → Option D} {m : EM} {R : Out → Env → Prop} {η : Env} {x : D} : wS_augM_k1 i g m R η x = (wE m η (wS_augM_k2 i g R x)) := propext Iff.rfl
@[simp] theorem wS_augM {i : Nat} {g : D → D → Option D} {m : EM} {R : Out → Env → Prop} {η : Env} : wS (augM i g m) η R = (augG (η[i]?) (wS_augM_k1 i g m R η)) := by
  rw [wS_augM0]; rfl
def wS_augStM_k7 (i : Nat) (R : Out → Env → Prop) (η2 : Env) : (D) → Prop := fun x3 => R .nx (setOwn η2 i x3)
@[simp] theorem wS_augStM_k7_eq {i : Nat} {R : Out → Env → Prop} {η2 : Env} {x3 : D} : wS_augStM_k7 i R η2 x3 = (R .nx (setOwn η2 i x3)) := propext Iff.rfl
def wS_augStM_k6 (i : Nat) (R : Out → Env → Prop) (dk : D) (η2 : Env) (z : D) : (D) → Prop := fun x2 => wO (putAny x2 dk z) (wS_augStM_k7 i R η2)
@[simp] theorem wS_augStM_k6_eq {i : Nat} {R : Out → Env → Prop} {dk : D} {η2 : Env} {z : D} {x2 : D} : wS_augStM_k6 i R dk η2 z x2 = (wO (putAny x2 dk z) (wS_augStM_k7 i R η2)) := propext Iff.rfl
def wS_augStM_k5 (i : Nat) (R : Out → Env → Prop) (dk : D) (η2 : Env) : (D) → Prop := fun z => wO (ownC η2 i) (wS_augStM_k6 i R dk η2 z)
@[simp] theorem wS_augStM_k5_eq {i : Nat} {R : Out → Env → Prop} {dk : D} {η2 : Env} {z : D} : wS_augStM_k5 i R dk η2 z = (wO (ownC η2 i) (wS_augStM_k6 i R dk η2 z)) := propext Iff.rfl
def wS_augStM_k4 (i : Nat) (g : D → D → Option D) (R : Out → Env → Prop) (dk : D) (d : D) : (D) → (Env) → Prop := fun y2 η2 => wO (g d y2) (wS_augStM_k5 i R dk η2)
@[simp] theorem wS_augStM_k4_eq {i : Nat} {g : D → D → Option D} {R : Out → Env → Prop} {dk : D} {d : D} {y2 : D} {η2 : Env} : wS_augStM_k4 i g R dk d y2 η2 = (wO (g d y2) (wS_augStM_k5 i R dk η2)) := propext Iff.rfl
def wS_augStM_k3 (i : Nat) (g : D → D → Option D) (m : EM) (R : Out → Env → Prop) (dk : D) (η1 : Env) : (D) → Prop := fun d => wE m η1 (wS_augStM_k4 i g R dk d)
@[simp] theorem wS_augStM_k3_eq {i : Nat} {g : D → D → Option D} {m : EM} {R : Out → Env → Prop} {dk : D} {η1 : Env} {d : D} : wS_augStM_k3 i g m R dk η1 d = (wE m η1 (wS_augStM_k4 i g R dk d)) := propext Iff.rfl
def wS_augStM_k2 (i : Nat) (g : D → D → Option D) (m : EM) (R : Out → Env → Prop) (dk : D) (η1 : Env) : (D) → Prop := fun x => wO (getA x dk) (wS_augStM_k3 i g m R dk η1)
@[simp] theorem wS_augStM_k2_eq {i : Nat} {g : D → D → Option D} {m : EM} {R : Out → Env → Prop} {dk : D} {η1 : Env} {x : D} : wS_augStM_k2 i g m R dk η1 x = (wO (getA x dk) (wS_augStM_k3 i g m R dk η1)) := propext Iff.rfl
def wS_augStM_k1 (i : Nat) (g : D → D → Option D) (m : EM) (R : Out → Env → Prop) : (D) → (Env) → Prop := fun dk η1 => wO (ownC η1 i) (wS_augStM_k2 i g m R dk η1)
@[simp] theorem wS_augStM_k1_eq {i : Nat} {g : D → D → Option D} {m : EM} {R : Out → Env → Prop} {dk : D} {η1 : Env} : wS_augStM_k1 i g m R dk η1 = (wO (ownC η1 i) (wS_augStM_k2 i g m R dk η1)) := propext Iff.rfl
@[simp] theorem wS_augStM {i : Nat} {g : D → D → Option D} {idx : EM} {m : EM} {R : Out → Env → Prop} {η : Env} : wS (augStM i g idx m) η R = (∃ y, ownC η i = some y ∧ wE idx η (wS_augStM_k1 i g m R)) := by
  rw [wS_augStM0]; rfl

/-! ### the draws, the same in all laws -/
def m__law_draws : SM :=
 seqM (setO 2 (lstE (nilA)))
 (seqM (setS 3 (cE (.int 7)))
 (seqM (forM (rng1 (callB lenG (consV (nV 0) (nilV)))) (nameG 4)
 (fgM [4, 5, 6, 7] (seqM (setS 5 (callB absG (consV (vE (callB intG (consV (vE (bin2 idxD (nV 0) (nV 4))) (nilV)))) (nilV))))
 (seqM (setS 3 (bin2 modD (vE (callB intG (consV (vE (bin2 addD (vE (bin2 addD (vE (bin2 mulI (nV 3) (vE (cE (.int 48271))))) (vE (bin2 modD (nV 5) (vE (cE (.int 1000003))))))) (nV 4))) (nilV)))) (vE (cE (.int 65537)))))
 (seqM (setS 6 (cE (.int 0)))
 (seqM (ifM (boolD (bin2 geD (nV 5) (vE (bin2 powD (vE (cE (.int 10))) (vE (cE (.int 18)))))))
 (setS 6 (varE 5))
 (seqM (exprS (mutE 2 (consA (bin2 modD (vE (callB intG (consV (nV 5) (nilV)))) (vE (cE (.int 997)))) (nilA)) appG))
 (exprS (mutE 2 (consA (bin2 modD (vE (bin2 modD (vE (callB intG (consV (vE (bin2 addD (vE (bin2 mulI (nV 3) (vE (cE (.int 69621))))) (vE (cE (.int 5))))) (nilV)))) (vE (cE (.int 65521))))) (vE (cE (.int 997)))) (nilA)) appG))))
 (forM (rng1 (cE (.int 60))) (nameG 7)
 (fgM [7] (ifM (boolD (bin2 gtD (nV 6) (vE (cE (.int 0)))))
 (seqM (exprS (mutE 2 (consA (bin2 modD (vE (callB intG (consV (nV 6) (nilV)))) (vE (cE (.int 997)))) (nilA)) appG))
 (setS 6 (bin2 fdivD (nV 6) (vE (cE (.int 997))))))
 (nopM))))))))))
 (seqM (forM (rng1 (varE 1)) (nameG 4)
 (fgM [4] (seqM (setS 3 (bin2 modD (vE (callB intG (consV (vE (bin2 addD (vE (bin2 addD (vE (bin2 mulI (nV 3) (vE (cE (.int 16807))))) (nV 4))) (vE (cE (.int 1))))) (nilV)))) (vE (cE (.int 65537)))))
 (exprS (mutE 2 (consA (bin2 modD (vE (callB intG (consV (nV 3) (nilV)))) (vE (cE (.int 997)))) (nilA)) appG)))))
 (retM (sliceE (nV 2) (noO) (someO (varE 1)))))))
def sem__law_draws : Sem := runF 8 m__law_draws

def m__law_next : SM :=
 seqM (augStM 0 iaddD (cE (.str "at")) (cE (.int 1)))
 (seqM (ifM (boolD (bin2 gtD (vE (bin2 idxD (nV 0) (vE (cE (.str "at"))))) (vE (callB lenG (consV (vE (bin2 idxD (nV 0) (vE (cE (.str "draws"))))) (nilV))))))
 (retM (cE (.int 0)))
 (nopM))
 (retM (bin2 modD (vE (callB intG (consV (vE (bin2 idxD (vE (bin2 idxD (nV 0) (vE (cE (.str "draws"))))) (vE (bin2 subD (vE (bin2 idxD (nV 0) (vE (cE (.str "at"))))) (vE (cE (.int 1))))))) (nilV)))) (nV 1))))
def sem__law_next : Sem := runF 2 m__law_next

def m__law_pick : SM :=
 retM (bin2 idxD (nV 1) (vE (callE sem__law_next (consN 0 (consC (callB lenG (consV (nV 1) (nilV))) (nilC))))))
def sem__law_pick : Sem := runF 2 m__law_pick

def m__law_same : SM :=
 seqM (setO 2 (lstE (consA (tupE (consA (varE 0) (consA (varE 1) (nilA)))) (nilA))))
 (seqM (whileL (boolD (bin2 neD (nV 2) (vE (lstE (nilA)))))
 (fgM [3, 4, 6] (seqM (asgM (mut0 2 popG) (tupG 2 (consG (nameG 3) (consG (nameG 4) (nilG)))))
 (ifM (boolD (isiE "dict" (nV 4)))
 (failM)
 (ifM (orB (boolD (isiE "tuple" (nV 4))) (boolD (isiE "list" (nV 4))))
 (seqM (ifM (orB (boolD (bin2 neD (vE (isiE "tuple" (nV 3))) (vE (isiE "tuple" (nV 4))))) (orB (boolD (bin2 neD (vE (isiE "list" (nV 3))) (vE (isiE "list" (nV 4))))) (boolD (bin2 neD (vE (callB lenG (consV (nV 3) (nilV)))) (vE (callB lenG (consV (nV 4) (nilV))))))))
 (retM (cE (.bl false)))
 (nopM))
 (exprS (mutE 2 (consA (lcE (rng1 (callB lenG (consV (nV 4) (nilV)))) [7] (nameG 7) (trueB) (tupE (consA (bin2 idxD (nV 3) (nV 7)) (consA (bin2 idxD (nV 4) (nV 7)) (nilA))))) (nilA)) extG)))
 (ifM (orB (boolD (bin2 neD (vE (isiE "bool" (nV 3))) (vE (isiE "bool" (nV 4))))) (orB (boolD (bin2 neD (vE (isiE "int" (nV 3))) (vE (isiE "int" (nV 4))))) (orB (boolD (bin2 neD (vE (isiE "str" (nV 3))) (vE (isiE "str" (nV 4))))) (boolD (bin2 neD (nV 3) (nV 4))))))
 (retM (cE (.bl false)))
 (nopM)))))) fuel)
 (retM (cE (.bl true))))
def sem__law_same : Sem := runF 8 m__law_same
def W (ds : List Int) (n : Nat) : D := .dic [(.str "draws", .lst (ds.map .int)), (.str "at", .int n)]
@[simp] theorem W_draws {ds : List Int} {n : Nat} : idxD (W ds n) (.str "draws") = some (.lst (ds.map .int)) := by rfl
@[simp] theorem W_at {ds : List Int} {n : Nat} : idxD (W ds n) (.str "at") = some (.int n) := by rfl
@[simp] theorem W_getA {ds : List Int} {n : Nat} : getA (W ds n) (.str "at") = some (.int n) := by rfl
@[simp] theorem W_put {ds : List Int} {n : Nat} : putAny (W ds n) (.str "at") (.int ((n : Int) + 1)) = some (W ds (n + 1)) := by rfl
theorem atI_nn {α : Type} {xs : List α} {i : Int} (h : 0 ≤ i) : L2.atI xs i = xs[i.toNat]? := by
  unfold L2.atI L2.ixN
  rw [if_pos h]
  by_cases h1 : i < xs.length
  · rw [if_pos h1]; rfl
  · rw [if_neg h1, List.getElem?_eq_none (by omega)]; rfl
theorem idxD_lst {xs : List D} {i : Int} (h : 0 ≤ i) : idxD (.lst xs) (.int i) = xs[i.toNat]? := atI_nn h
theorem idxD_frl {xs : List D} {i : Int} (h : 0 ≤ i) : idxD (.frl xs) (.int i) = xs[i.toNat]? := atI_nn h
theorem idxD_tup {xs : List D} {i : Int} (h : 0 ≤ i) : idxD (.tup xs) (.int i) = xs[i.toNat]? := atI_nn h
@[simp] theorem idxD_tup_nat {xs : List D} {i : Nat} : idxD (.tup xs) (.int (i : Int)) = xs[i]? := idxD_tup (by omega)
@[simp] theorem idxD_tup0 {d : D} {xs : List D} : idxD (.tup (d :: xs)) (.int 0) = some d := idxD_tup (by omega)
@[simp] theorem idxD_tup1 {d0 d : D} {xs : List D} : idxD (.tup (d0 :: d :: xs)) (.int 1) = some d := idxD_tup (by omega)
@[simp] theorem idxD_tup2 {d0 d1 d : D} {xs : List D} : idxD (.tup (d0 :: d1 :: d :: xs)) (.int 2) = some d := idxD_tup (by omega)
@[simp] theorem idxD_tup3 {d0 d1 d2 d : D} {xs : List D} : idxD (.tup (d0 :: d1 :: d2 :: d :: xs)) (.int 3) = some d := idxD_tup (by omega)
@[simp] theorem idxD_tup4 {d0 d1 d2 d3 d : D} {xs : List D} : idxD (.tup (d0 :: d1 :: d2 :: d3 :: d :: xs)) (.int 4) = some d := idxD_tup (by omega)
@[simp] theorem idxD_tup5 {d0 d1 d2 d3 d4 d : D} {xs : List D} : idxD (.tup (d0 :: d1 :: d2 :: d3 :: d4 :: d :: xs)) (.int 5) = some d := idxD_tup (by omega)
theorem idxD_tupL {d : D} {xs : List D} : idxD (.tup (xs ++ [d])) (.int (-1)) = some d := L2.atI_last xs d
@[simp] theorem idxD_lst_nat {xs : List D} {i : Nat} : idxD (.lst xs) (.int (i : Int)) = xs[i]? := idxD_lst (by omega)
@[simp] theorem idxD_lst0 {d : D} {xs : List D} : idxD (.lst (d :: xs)) (.int 0) = some d := idxD_lst (by omega)
@[simp] theorem idxD_lst1 {d0 d : D} {xs : List D} : idxD (.lst (d0 :: d :: xs)) (.int 1) = some d := idxD_lst (by omega)
@[simp] theorem idxD_lst2 {d0 d1 d : D} {xs : List D} : idxD (.lst (d0 :: d1 :: d :: xs)) (.int 2) = some d := idxD_lst (by omega)
@[simp] theorem idxD_lst3 {d0 d1 d2 d : D} {xs : List D} : idxD (.lst (d0 :: d1 :: d2 :: d :: xs)) (.int 3) = some d := idxD_lst (by omega)
@[simp] theorem idxD_lst4 {d0 d1 d2 d3 d : D} {xs : List D} : idxD (.lst (d0 :: d1 :: d2 :: d3 :: d :: xs)) (.int 4) = some d := idxD_lst (by omega)
@[simp] theorem idxD_lst5 {d0 d1 d2 d3 d4 d : D} {xs : List D} : idxD (.lst (d0 :: d1 :: d2 :: d3 :: d4 :: d :: xs)) (.int 5) = some d := idxD_lst (by omega)
theorem idxD_lstL {d : D} {xs : List D} : idxD (.lst (xs ++ [d])) (.int (-1)) = some d := L2.atI_last xs d
@[simp] theorem idxD_frl_nat {xs : List D} {i : Nat} : idxD (.frl xs) (.int (i : Int)) = xs[i]? := idxD_frl (by omega)
@[simp] theorem idxD_frl0 {d : D} {xs : List D} : idxD (.frl (d :: xs)) (.int 0) = some d := idxD_frl (by omega)
@[simp] theorem idxD_frl1 {d0 d : D} {xs : List D} : idxD (.frl (d0 :: d :: xs)) (.int 1) = some d := idxD_frl (by omega)
@[simp] theorem idxD_frl2 {d0 d1 d : D} {xs : List D} : idxD (.frl (d0 :: d1 :: d :: xs)) (.int 2) = some d := idxD_frl (by omega)
@[simp] theorem idxD_frl3 {d0 d1 d2 d : D} {xs : List D} : idxD (.frl (d0 :: d1 :: d2 :: d :: xs)) (.int 3) = some d := idxD_frl (by omega)
@[simp] theorem idxD_frl4 {d0 d1 d2 d3 d : D} {xs : List D} : idxD (.frl (d0 :: d1 :: d2 :: d3 :: d :: xs)) (.int 4) = some d := idxD_frl (by omega)
@[simp] theorem idxD_frl5 {d0 d1 d2 d3 d4 d : D} {xs : List D} : idxD (.frl (d0 :: d1 :: d2 :: d3 :: d4 :: d :: xs)) (.int 5) = some d := idxD_frl (by omega)
theorem idxD_frlL {d : D} {xs : List D} : idxD (.frl (xs ++ [d])) (.int (-1)) = some d := L2.atI_last xs d
theorem log2_small {n k : Nat} (h : n < 2 ^ k) : n.log2 ≤ k := by
  by_cases h0 : n = 0
  · subst h0; simp
  · have := (Nat.log2_lt h0).mpr h
    omega
theorem mulOk {a b : Int} (ha : a.natAbs < 2 ^ 64) (hb : b.natAbs < 2 ^ 64) : MulOk a b := by
  have := log2_small ha
  have := log2_small hb
  unfold MulOk
  omega
theorem mulOk' {a b : Int} {k l : Nat} (ha : a.natAbs < 2 ^ k) (hb : b.natAbs < 2 ^ l) (h : k + l < 1000000) : MulOk a b := by
  have := log2_small ha
  have := log2_small hb
  unfold MulOk
  omega
theorem fdivOk {a b : Int} (h : 0 < b) (hb : b < 2 ^ 64) : fdivD (.int a) (.int b) = some (.int (a / b)) := by
  have : b.natAbs < 2 ^ 64 := by omega
  have := log2_small this
  exact fdivD_int h (by omega)
def nxt (ds : List Int) (n : Nat) (m : Int) : Int := if ds.length < n + 1 then 0 else (ds.getD n 0) % m
theorem sem_next {ds : List Int} {n : Nat} {m : Int} (hm : 0 < m) : sem__law_next [.io (W ds n), .sh (.int m)] = some (.int (nxt ds n m), [.io (W ds (n + 1)), .no]) := by
  refine of_wF ?_
  unfold sem__law_next m__law_next
  rw [wF_run]
  simp
  refine ⟨fun h => by rw [nxt, if_pos (by omega)], fun h => ?_⟩
  have hl : n < ds.length := by omega
  have e : nxt ds n m = ds[n] % m := by
    unfold nxt
    rw [if_neg (by omega), List.getD_eq_getElem?_getD, List.getElem?_eq_getElem hl]; rfl
  simp [List.getElem?_eq_getElem hl, modD_int hm, e]
theorem nxt_range {ds : List Int} {n : Nat} {m : Int} (hm : 0 < m) : 0 ≤ nxt ds n m ∧ nxt ds n m < m := by
  unfold nxt
  split
  · omega
  · exact ⟨Int.emod_nonneg _ (by omega), Int.emod_lt_of_pos _ hm⟩
@[simp] theorem wF_next {ds : List Int} {n : Nat} {m : Int} {Q : D → Env → Prop} (hm : 0 < m) : wF sem__law_next [.io (W ds n), .sh (.int m)] Q = Q (.int (nxt ds n m)) [.io (W ds (n + 1)), .no] := wF_of (sem_next hm)
def pickD (ds : List Int) (n : Nat) (xs : List D) : D := xs.getD (nxt ds n xs.length).toNat .non
theorem pick_mem {ds : List Int} {n : Nat} {xs : List D} (h0 : 0 < xs.length) : pickD ds n xs ∈ xs := by
  have r := nxt_range (ds := ds) (n := n) (m := xs.length) (by omega)
  have hl : (nxt ds n xs.length).toNat < xs.length := by omega
  unfold pickD
  rw [List.getD_eq_getElem?_getD, List.getElem?_eq_getElem hl]
  exact List.getElem_mem hl
@[simp] theorem wF_pick {ds : List Int} {n : Nat} {xs : List D} {Q : D → Env → Prop} (h0 : 0 < xs.length) : wF sem__law_pick [.io (W ds n), .sh (.lst xs)] Q = Q (pickD ds n xs) [.io (W ds (n + 1)), .no] := by
  have r := nxt_range (ds := ds) (n := n) (m := xs.length) (by omega)
  have hl : (nxt ds n xs.length).toNat < xs.length := by omega
  refine wF_of (of_wF ?_)
  unfold sem__law_pick m__law_pick
  rw [wF_run]
  have hm : (0 : Int) < xs.length := by omega
  simp [wF_next hm]
  rw [idxD_lst r.1, List.getElem?_eq_getElem hl]
  simp [pickD, List.getD_eq_getElem?_getD, List.getElem?_eq_getElem hl]
@[simp] theorem wF_pickT {ds : List Int} {n : Nat} {xs : List D} {Q : D → Env → Prop} (h0 : 0 < xs.length) : wF sem__law_pick [.io (W ds n), .sh (.tup xs)] Q = Q (pickD ds n xs) [.io (W ds (n + 1)), .no] := by
  have r := nxt_range (ds := ds) (n := n) (m := xs.length) (by omega)
  have hl : (nxt ds n xs.length).toNat < xs.length := by omega
  refine wF_of (of_wF ?_)
  unfold sem__law_pick m__law_pick
  rw [wF_run]
  have hm : (0 : Int) < xs.length := by omega
  simp [wF_next hm]
  rw [idxD_tup r.1, List.getElem?_eq_getElem hl]
  simp [pickD, List.getD_eq_getElem?_getD, List.getElem?_eq_getElem hl]
end DL

namespace DL
open PySem L2

theorem range_get {lo hi : Int} {i : Nat} {d : D} (h : (rangeD lo hi)[i]? = some d) : d = .int (lo + i) ∧ i < (hi - lo).toNat := by
  unfold rangeD at h
  rw [List.getElem?_map] at h
  by_cases hi : i < (hi - lo).toNat
  · rw [List.getElem?_range hi] at h
    cases h
    exact ⟨rfl, hi⟩
  · rw [List.getElem?_eq_none (by simpa using hi)] at h
    cases h
@[simp] theorem range_len {lo hi : Int} : (rangeD lo hi).length = (hi - lo).toNat := by
  unfold rangeD
  rw [List.length_map, List.length_range]
section
variable {η : Env} {R : Out → Env → Prop}
/-- for x in range(lo, hi) -/
theorem wL_rng {b : SM} {g : TgM} {lo hi : Int} (I : Nat → Env → Prop) (h0 : I 0 η)
    (step : ∀ (i : Nat) (η : Env), i < (hi - lo).toNat → I i η → wO (g (.int (lo + i)) η) fun η1 => wS b η1 (loopK (I (i + 1)) R))
    (last : ∀ η, I (hi - lo).toNat η → R .nx η) : wL (forL g b (rangeD lo hi) η) R := by
  refine wL_for I h0 (fun i d η hd hI => ?_) (fun η h => last η (by rw [range_len] at h; exact h))
  obtain ⟨rfl, hi⟩ := range_get hd
  exact step i η hi hI
theorem wX_rng {vs : List Nat} {g : TgM} {tt : BM} {te : EM} {lo hi : Int} {Q : List D → Env → Prop} (I : Nat → List D → Env → Prop) (h0 : I 0 [] η)
    (step : ∀ (i : Nat) (ys : List D) (η : Env), i < (hi - lo).toNat → I i ys η → wO (g (.int (lo + i)) (clearL vs η)) fun η1 => wB tt η1 fun t η2 => (t = true → wE te η2 fun y η3 => I (i + 1) (ys ++ [y]) η3) ∧ (t = false → I (i + 1) ys η2))
    (last : ∀ ys η, I (hi - lo).toNat ys η → Q ys η) : wX (lcL vs g tt te (rangeD lo hi) η) Q := by
  refine wX_lc I h0 (fun i d ys η hd hI => ?_) (fun ys η h => last ys η (by rw [range_len] at h; exact h))
  obtain ⟨rfl, hi⟩ := range_get hd
  exact step i ys η hi hI
end
theorem sem_draws {ns : List Int} {many : Int} (hl : ns.length ≤ 63) (hm : 0 ≤ many) (hm2 : many ≤ 1000) :
    ∃ ds : List Int, sem__law_draws [.sh (.frl (ns.map .int)), .sh (.int many)] = some (.lst (ds.map .int), [.no, .no]) := by
  have key : wF sem__law_draws [.sh (.frl (ns.map .int)), .sh (.int many)] fun d c => c = [.no, .no] ∧ ∃ ds : List Int, d = .lst (ds.map .int) := by
    unfold sem__law_draws m__law_draws
    rw [wF_run]
    simp
    refine ⟨by omega, ?_⟩
    refine wL_rng (fun i η => ∃ (ds : List Int) (mixed : Int), ds.length ≤ 62 * i ∧ 0 ≤ mixed ∧ mixed < 65537 ∧ η = [.sh (.frl (ns.map .int)), .sh (.int many), .ow (.lst (ds.map .int)), .sh (.int mixed), .no, .no, .no, .no]) ⟨[], 7, by simp⟩ ?_ ?_
    · rintro i η hi ⟨ds, mixed, h1, h2, h3, rfl⟩
      have hi' : i < ns.length := by omega
      have hg : (ns.map D.int)[i]? = some (.int ns[i]) := by rw [List.getElem?_map, List.getElem?_eq_getElem hi']; rfl
      have inner : ∀ (R : Out → Env → Prop) (ds : List Int) (m z k c : Int) (xs : List D), xs = ds.map .int → ds.length < 1000000 →
          (∀ (es : List Int) (z' : Int), es.length ≤ 60 → R .nx [.sh (.frl (ns.map .int)), .sh (.int many), .ow (.lst ((ds ++ es).map .int)), .sh (.int m), .sh (.int k), .sh (.int c), .sh (.int z'), .no]) →
          wL (forL (nameG 7) (fgM [7] (ifM (boolD (bin2 gtD (nV 6) (vE (cE (D.int 0))))) (seqM (exprS (mutE 2 (consA (bin2 modD (vE (callB intG (consV (nV 6) nilV))) (vE (cE (D.int 997)))) nilA) appG)) (setS 6 (bin2 fdivD (nV 6) (vE (cE (D.int 997)))))) nopM)) (rangeD 0 60) [.sh (.frl (ns.map .int)), .sh (.int many), .ow (.lst xs), .sh (.int m), .sh (.int k), .sh (.int c), .sh (.int z), .no]) R := by
        intro R ds m z k c xs hx hd hR
        subst hx
        refine wL_rng (fun i η => ∃ (es : List Int) (z' : Int), es.length ≤ i ∧ η = [.sh (.frl (ns.map .int)), .sh (.int many), .ow (.lst ((ds ++ es).map .int)), .sh (.int m), .sh (.int k), .sh (.int c), .sh (.int z'), .no]) ⟨[], z, by simp⟩ ?_ ?_
        · rintro j η hj ⟨es, z', h1, rfl⟩
          simp [fdivOk]
          refine ⟨fun h => ⟨by omega, es ++ [z' % 997], by simp; omega, by simp⟩, fun h => ⟨es, by omega, rfl⟩⟩
        · rintro η ⟨es, z', h1, rfl⟩
          exact hR es z' (by simpa using h1)
      simp [hg]
      refine ⟨mulOk (by omega) (by omega), ?_, ?_⟩
      · intro hc
        refine inner _ ds _ _ _ _ _ rfl (by omega) fun es z' he => ?_
        simp
        refine ⟨ds ++ es, by simp; omega, _, Int.emod_nonneg _ (by omega), Int.emod_lt_of_pos _ (by omega), by simp, rfl⟩
      · intro hc
        have hlen : ds.length ≤ 3906 := by omega
        have em : ∃ m : Int, (mixed * 48271 + ↑ns[i].natAbs % 1000003 + ↑i) % 65537 = m ∧ 0 ≤ m ∧ m < 65537 := ⟨_, rfl, Int.emod_nonneg _ (by decide), Int.emod_lt_of_pos _ (by decide)⟩
        obtain ⟨m, em, m1, m2⟩ := em
        rw [em]
        clear hc h2 h3 em
        generalize (m * 69621 + 5) % 65521 % 997 = u
        generalize (ns[i].natAbs : Int) % 997 = v
        refine ⟨by omega, mulOk (by omega) (by omega), by omega, ?_⟩
        have e : ∃ es : List Int, List.map D.int ds ++ [D.int v, D.int u] = es.map .int ∧ es.length = ds.length + 2 := ⟨ds ++ [v, u], by rw [List.map_append]; rfl, by rw [List.length_append]; rfl⟩
        obtain ⟨fs, e, hf⟩ := e
        rw [e]
        have hf2 : fs.length < 1000000 := by omega
        refine inner _ fs m 0 i ns[i].natAbs _ rfl hf2 fun es z' he => ?_
        simp
        exact ⟨fs ++ es, by rw [List.length_append]; omega, m, m1, m2, List.map_append.symm, rfl⟩
    · rintro η ⟨ds, mixed, h1, h2, h3, rfl⟩
      simp
      refine ⟨by omega, ?_⟩
      refine wL_rng (fun i η => ∃ (ds : List Int) (mixed : Int), ds.length ≤ 4000 + i ∧ 0 ≤ mixed ∧ mixed < 65537 ∧ η = [.sh (.frl (ns.map .int)), .sh (.int many), .ow (.lst (ds.map .int)), .sh (.int mixed), .no, .no, .no, .no]) ⟨ds, mixed, by simp; omega⟩ ?_ ?_
      · rintro i η hi ⟨ds, mixed, h1, h2, h3, rfl⟩
        simp
        exact ⟨mulOk (by omega) (by omega), by omega, ds ++ [(mixed * 16807 + ↑i + 1) % 65537 % 997], by simp; omega, _, Int.emod_nonneg _ (by omega), Int.emod_lt_of_pos _ (by omega), by simp, rfl⟩
      · rintro η ⟨ds, mixed, h1, h2, h3, rfl⟩
        simp [sliceD]
        exact ⟨cutA ds none (some many), by unfold cutA; simp⟩
  obtain ⟨d, c, e, rfl, ds, rfl⟩ := key.ex
  exact ⟨ds, e⟩
end DL

namespace DL
open PySem L2

@[simp] theorem clearOk_eq {vs : List Nat} {η : Env} : clearOk vs η = vs.all fun i => match η[i]? with
  | some (.io _) => false
  | _ => true := rfl
@[simp] theorem clearL_nil {η : Env} : clearL [] η = η := rfl
@[simp] theorem clearL_cons {i : Nat} {vs : List Nat} {η : Env} : clearL (i :: vs) η = clearL vs (η.set i .no) := rfl
@[simp] theorem restL_nil {η1 η : Env} : restL [] η1 η = η := rfl
@[simp] theorem restL_cons {i : Nat} {vs : List Nat} {η1 η : Env} : restL (i :: vs) η1 η = restL vs η1 (match η1[i]? with
    | some (.sh d) => η.set i (.sh d)
    | _ => η.set i .no) := rfl
mutual
theorem okD_mono : ∀ (n m : Nat) (d : D), n ≤ m → okD n d = true → okD m d = true
  | _, _, .non, _, _ => by simp [okD]
  | _, _, .bl _, _, _ => by simp [okD]
  | _, _, .int _, _, _ => by simp [okD]
  | _, _, .str _, _, _ => by simp [okD]
  | 0, _, .tup _, _, h => by simp [okD] at h
  | n + 1, 0, .tup _, h, _ => by omega
  | n + 1, m + 1, .tup xs, h, k => by rw [okD] at k ⊢; exact okDs_mono n m xs (by omega) k
  | 0, _, .lst _, _, h => by simp [okD] at h
  | n + 1, 0, .lst _, h, _ => by omega
  | n + 1, m + 1, .lst xs, h, k => by rw [okD] at k ⊢; exact okDs_mono n m xs (by omega) k
  | _, _, .frl _, _, h => by simp [okD] at h
  | _, _, .dic _, _, h => by simp [okD] at h
  | _, _, .set _, _, h => by simp [okD] at h
theorem okDs_mono : ∀ (n m : Nat) (d : List D), n ≤ m → okDs n d = true → okDs m d = true
  | _, _, [], _, _ => by simp [okDs]
  | n, m, x :: xs, h, k => by
    rw [okDs, Bool.and_eq_true] at k ⊢
    exact ⟨okD_mono n m x h k.1, okDs_mono n m xs h k.2⟩
end
theorem okDs_all : ∀ {n : Nat} {xs : List D}, okDs n xs = true ↔ ∀ x ∈ xs, okD n x = true
  | n, [] => by simp [okDs]
  | n, x :: xs => by rw [okDs, Bool.and_eq_true, okDs_all]; simp
mutual
def szD : D → Nat
  | .tup xs => 1 + szDs xs
  | .lst xs => 1 + szDs xs
  | _ => 1
def szDs : List D → Nat
  | [] => 0
  | x :: xs => szD x + szDs xs
end
theorem szD_pos (d : D) : 0 < szD d := by cases d <;> simp [szD] <;> omega
theorem szDs_append : ∀ {xs ys : List D}, szDs (xs ++ ys) = szDs xs + szDs ys
  | [], ys => by simp [szDs]
  | x :: xs, ys => by rw [List.cons_append, szDs, szDs, szDs_append]; omega
theorem szDs_len : ∀ xs : List D, xs.length ≤ szDs xs
  | [] => by simp [szDs]
  | x :: xs => by have := szDs_len xs; have := szD_pos x; rw [szDs, List.length_cons]; omega
def pr (x : D) : D := .tup [x, x]
theorem neD_nil {xs : List D} (h : okDs 59 xs = true) : neD (.lst xs) (.lst []) = some (.bl (!xs.isEmpty)) := by
  unfold neD
  rw [show okD 60 (.lst xs) = okDs 59 xs by rw [okD], h, show okD 60 (.lst []) = true by rfl]
  simp only [Bool.and_self, if_true]
  cases xs with
  | nil => rfl
  | cons x xs => rfl
theorem eqb_refl {n : Nat} {x : D} (h : okD n x = true) : eqb x x = true := PySem.SeqAt.eqv_refl_plain _ (okD_py n x h).1
theorem neD_self {x : D} (h : okD 58 x = true) : neD x x = some (.bl false) := by
  unfold neD
  rw [okD_mono 58 60 x (by omega) h, eqb_refl h]
  rfl
theorem okDs_pr {xs : List D} (h : okDs 58 xs = true) : okDs 59 (xs.map pr) = true := by
  rw [okDs_all] at *
  intro y hy
  obtain ⟨x, hx, rfl⟩ := List.mem_map.mp hy
  unfold pr
  rw [okD, okDs, okDs, h x hx]
  rfl
@[simp] theorem isi_dict {d : D} : isiG "dict" [d] = (tagD d).bind fun t => some (.bl (decide (t = "dict"))) := by
  cases d <;> rfl
@[simp] theorem isi_tuple {d : D} : isiG "tuple" [d] = (tagD d).bind fun t => some (.bl (decide (t = "tuple"))) := by
  cases d <;> rfl
@[simp] theorem isi_list {d : D} : isiG "list" [d] = (tagD d).bind fun t => some (.bl (decide (t = "list"))) := by
  cases d <;> rfl
@[simp] theorem isi_int {d : D} : isiG "int" [d] = (tagD d).bind fun t => some (.bl (decide (t = "int" ∨ t = "bool"))) := by
  cases d <;> rfl
@[simp] theorem isi_bool {d : D} : isiG "bool" [d] = (tagD d).bind fun t => some (.bl (decide (t = "bool"))) := by
  cases d <;> rfl
@[simp] theorem isi_str {d : D} : isiG "str" [d] = (tagD d).bind fun t => some (.bl (decide (t = "str"))) := by
  cases d <;> rfl
@[simp] theorem tagD_non : tagD .non = some "NoneType" := rfl
@[simp] theorem tagD_bl {b : Bool} : tagD (.bl b) = some "bool" := rfl
@[simp] theorem tagD_int {b : Int} : tagD (.int b) = some "int" := rfl
@[simp] theorem tagD_str {b : Str} : tagD (.str b) = some "str" := rfl
@[simp] theorem tagD_tup {b : List D} : tagD (.tup b) = some "tuple" := rfl
@[simp] theorem tagD_lst {b : List D} : tagD (.lst b) = some "list" := rfl
@[simp] theorem tagD_frl {b : List D} : tagD (.frl b) = some "list" := rfl
@[simp] theorem tagD_dic {b : List (D × D)} : tagD (.dic b) = some "dict" := rfl
theorem wX_mono {m : Option (List D × Env)} {P P' : List D → Env → Prop} (h : wX m P) (k : ∀ o η', P o η' → P' o η') : wX m P' := by
  unfold wX at *
  cases m with
  | none => exact h
  | some p => exact k _ _ h
/-- alike data are the same -/
theorem sem_same {d : D} (h : okD 58 d = true) (hz : szD d ≤ 1000000) : sem__law_same [.sh d, .sh d] = some (.bl true, [.no, .no]) := by
  refine of_wF ?_
  unfold sem__law_same m__law_same
  rw [wF_run]
  simp
  refine wS_while (fun m η => ∃ xs : List D, okDs 58 xs = true ∧ szDs xs = m ∧ szDs xs ≤ 1000000 ∧ η = [.sh d, .sh d, .ow (.lst (xs.map pr)), .no, .no, .no, .no, .no]) (szD d) (by unfold fuel; omega) ⟨[d], by simp [okDs, h], by simp [szDs], by simpa [szDs] using hz, rfl⟩ ?_
  rintro m η ⟨xs, h1, h2, h3, rfl⟩
  simp [neD_nil (okDs_pr h1)]
  rcases List.eq_nil_or_concat xs with rfl | ⟨ys, x, rfl⟩
  · simp
  · rw [List.concat_eq_append] at *
    rw [szDs_append] at h2 h3
    have hx : okD 58 x = true := okDs_all.mp h1 x (by simp)
    have hys : okDs 58 ys = true := okDs_all.mpr fun z hz => okDs_all.mp h1 z (by simp [hz])
    simp only [szDs] at h2 h3
    have hpos := szD_pos x
    have seqCase : ∀ (zs : List D), szD x = 1 + szDs zs → okDs 57 zs = true → okDs 58 (ys ++ zs) = true ∧ szDs (ys ++ zs) < m ∧ szDs (ys ++ zs) ≤ 1000000 := fun zs e ho => by
      refine ⟨okDs_all.mpr fun z hz => ?_, by rw [szDs_append]; omega, by rw [szDs_append]; omega⟩
      rcases List.mem_append.mp hz with hz | hz
      · exact okDs_all.mp hys z hz
      · exact okD_mono 57 58 z (by omega) (okDs_all.mp ho z hz)
    have leaf : ∃ m', m' < m ∧ ∃ xs : List D, okDs 58 xs = true ∧ szDs xs = m' ∧ szDs xs ≤ 1000000 ∧ List.map pr ys = List.map pr xs := ⟨szDs ys, by omega, ys, hys, rfl, by omega, rfl⟩
    have hlen := szDs_len ys
    simp [popG_snoc, pr]
    have walk : ∀ (f : List D → D), (f = .tup ∨ f = .lst) → ∀ zs : List D, szD (f zs) = 1 + szDs zs → okDs 57 zs = true → x = f zs → ∀ R : List D → Env → Prop,
        R (zs.map pr) [.sh d, .sh d, .ow (.lst (ys.map pr)), .sh (f zs), .sh (f zs), .no, .no, .no] →
        wX (lcL [7] (nameG 7) trueB (tupE (consA (bin2 idxD (nV 3) (nV 7)) (consA (bin2 idxD (nV 4) (nV 7)) nilA))) (rangeD 0 zs.length) [.sh d, .sh d, .ow (.lst (ys.map pr)), .sh (f zs), .sh (f zs), .no, .no, .no])
          fun ys_1 η2 => ys_1 = zs.map pr ∧ ∃ s, η2 = [.sh d, .sh d, .ow (.lst (ys.map pr)), .sh (f zs), .sh (f zs), .no, .no, s] := by
      intro f hf zs _ _ _ R _
      refine wX_rng (fun i ws η => ws = (zs.take i).map pr ∧ ∃ s, η = [.sh d, .sh d, .ow (.lst (ys.map pr)), .sh (f zs), .sh (f zs), .no, .no, s]) ⟨rfl, _, rfl⟩ ?_ ?_
      · rintro i ws η hi ⟨rfl, s, rfl⟩
        have hi' : i < zs.length := by omega
        have hg := List.getElem?_eq_getElem hi'
        have hT : (zs.take (i + 1)).map pr = (zs.take i).map pr ++ [pr zs[i]] := by
          rw [List.take_add_one, hg, List.map_append]; rfl
        rw [hT]
        rcases hf with rfl | rfl
        · simp [hg]; rfl
        · simp [hg]; rfl
      · rintro ws η ⟨rfl, s, rfl⟩
        simp
    have seqR : ∀ zs : List D, szD x = 1 + szDs zs → okDs 57 zs = true → ∃ m', m' < m ∧ ∃ xs : List D, okDs 58 xs = true ∧ szDs xs = m' ∧ szDs xs ≤ 1000000 ∧ ys.map pr ++ zs.map pr = xs.map pr := fun zs e ho => by
      obtain ⟨a, b, c⟩ := seqCase zs e ho
      exact ⟨_, b, ys ++ zs, a, rfl, c, List.map_append.symm⟩
    cases x with
    | non => simp [neD_self hx]; exact leaf
    | bl b => simp; exact leaf
    | int b => simp; exact leaf
    | str b => simp [neD_self hx]; exact leaf
    | tup zs =>
      have hz1 : szD (.tup zs) = 1 + szDs zs := by rw [szD]
      have ho : okDs 57 zs = true := by rw [okD] at hx; exact hx
      have := szDs_len zs
      simp
      refine ⟨by omega, by omega, ?_⟩
      refine wX_mono (walk .tup (.inl rfl) zs hz1 ho rfl (fun _ _ => True) True.intro) ?_
      rintro ws η ⟨rfl, s, rfl⟩
      simp
      exact ⟨by omega, seqR zs hz1 ho⟩
    | lst zs =>
      have hz1 : szD (.lst zs) = 1 + szDs zs := by rw [szD]
      have ho : okDs 57 zs = true := by rw [okD] at hx; exact hx
      have := szDs_len zs
      simp
      refine ⟨by omega, by omega, ?_⟩
      refine wX_mono (walk .lst (.inr rfl) zs hz1 ho rfl (fun _ _ => True) True.intro) ?_
      rintro ws η ⟨rfl, s, rfl⟩
      simp
      exact ⟨by omega, seqR zs hz1 ho⟩
    | frl zs => simp [okD] at hx
    | dic zs => simp [okD] at hx
    | set zs => simp [okD] at hx
    | tuz zs => simp [okD] at hx
end DL

namespace DL
open PySem L2
@[irreducible] def wPs (ps : List (EM × EM)) (η : Env) (Q : List (D × D) → Env → Prop) : Prop := match pairsM ps η with
  | some (d, η') => Q d η'
  | none => False
def wPs_k3 (Q : List (D × D) → Env → Prop) (dk dv : D) : List (D × D) → Env → Prop := fun l η => Q ((dk, dv) :: l) η
def wPs_k2 (r : List (EM × EM)) (Q : List (D × D) → Env → Prop) (dk : D) : D → Env → Prop := fun dv η => wPs r η (wPs_k3 Q dk dv)
def wPs_k1 (v : EM) (r : List (EM × EM)) (Q : List (D × D) → Env → Prop) : D → Env → Prop := fun dk η => wE v η (wPs_k2 r Q dk)
section
variable {Q : List (D × D) → Env → Prop} {P : D → Env → Prop} {η : Env} {dk dv : D} {l : List (D × D)} {r : List (EM × EM)} {k v : EM}
@[simp] theorem wPs_k3_eq : wPs_k3 Q dk dv l η = Q ((dk, dv) :: l) η := propext Iff.rfl
@[simp] theorem wPs_k2_eq : wPs_k2 r Q dk dv η = wPs r η (wPs_k3 Q dk dv) := propext Iff.rfl
@[simp] theorem wPs_k1_eq : wPs_k1 v r Q dk η = wE v η (wPs_k2 r Q dk) := propext Iff.rfl
@[simp] theorem wPs_nil : wPs [] η Q = Q [] η := by unfold wPs; rfl
@[simp] theorem wPs_cons : wPs ((k, v) :: r) η Q = wE k η (wPs_k1 v r Q) := by
  unfold wPs wPs_k1 wPs_k2 wPs_k3 wE wPs
  show (match (match k η with | some (dk, η1) => (match v η1 with | some (dv, η2) => (match pairsM r η2 with | some (l, η3) => some ((dk, dv) :: l, η3) | none => none) | none => none) | none => none) with | some (d, η') => Q d η' | none => False) = _
  rcases k η with _ | ⟨dk, η1⟩
  · rfl
  dsimp only
  rcases v η1 with _ | ⟨dv, η2⟩
  · rfl
  dsimp only
  rcases pairsM r η2 with _ | ⟨l, η3⟩ <;> rfl
def dispK (Q : D → Env → Prop) : List (D × D) → Env → Prop := fun l η => (l.all fun kv => scalK kv.1) = true ∧ Q (.dic (mergeD [] l)) η
@[simp] theorem dispK_eq : dispK P l η = ((l.all fun kv => scalK kv.1) = true ∧ P (.dic (mergeD [] l)) η) := propext Iff.rfl
@[simp] theorem wE_dispE : wE (dispE r) η P = wPs r η (dispK P) := by
  unfold wE dispE wPs dispK
  rcases pairsM r η with _ | ⟨l, η1⟩
  · rfl
  dsimp only
  by_cases h : (l.all fun kv => scalK kv.1) = true
  · rw [if_pos h, eq_true h, true_and]
  · rw [if_neg h, eq_false h, false_and]
end
@[simp] theorem W_new {ds : List Int} : mergeD [] [(.str "draws", .lst (ds.map .int)), (.str "at", .int 0)] = [(.str "draws", .lst (ds.map .int)), (.str "at", .int 0)] := by rfl
@[simp] theorem W_new' {ds : List Int} : D.dic [(.str "draws", .lst (ds.map .int)), (.str "at", .int 0)] = W ds 0 := rfl
@[simp] theorem ifdivD_int {a b : Int} : ifdivD (.int a) (.int b) = if 0 < b ∧ b < 1073741824 then some (.int (a / b)) else none := rfl
@[simp] theorem revD_lst {xs : List D} : revD (.lst xs) = some (.lst xs.reverse) := rfl
@[simp] theorem scalK_str {x : Str} : scalK (.str x) = true := rfl
@[simp] theorem scalK_int {x : Int} : scalK (.int x) = true := rfl
@[simp] theorem itemsD_lst {xs : List D} : itemsD (.lst xs) = some xs := rfl
@[simp] theorem itemsD_tup {xs : List D} : itemsD (.tup xs) = some xs := rfl
@[simp] theorem itemsD_frl {xs : List D} : itemsD (.frl xs) = some xs := rfl
theorem mulB {x y : Int} {p q : Nat} (hx : x.natAbs ≤ p) (hy : y.natAbs ≤ q) : (x * y).natAbs ≤ p * q := by
  rw [Int.natAbs_mul]; exact Nat.mul_le_mul hx hy
section
variable {η : Env} {R : Out → Env → Prop} {g : TgM} {b : SM} {ds : List D} {lo hi : Int}
/-- a loop whose turns leave all as it was -/
theorem wL_same (step : ∀ d, d ∈ ds → wO (g d η) fun η1 => wS b η1 (loopK (fun η' => η' = η) R)) (last : R .nx η) : wL (forL g b ds η) R := by
  refine wL_for (fun _ η' => η' = η) rfl (fun i d η' hd e => ?_) (fun η' e => ?_)
  · subst e; exact step d (List.mem_of_getElem? hd)
  · subst e; exact last
theorem set_id {k : Nat} {s : S} (h : η[k]? = some s) : η = η.set k s := by
  apply List.ext_getElem?
  intro i
  by_cases hi : i = k
  · subst hi; rw [h, List.getElem?_set_self (List.getElem?_eq_some_iff.mp h).1]
  · rw [List.getElem?_set_ne (fun z => hi z.symm)]
/-- a loop that changes one slot -/
theorem wL_at (k : Nat) (f : Nat → S) (h0 : η[k]? = some (f 0)) (step : ∀ i d, ds[i]? = some d → wO (g d (η.set k (f i))) fun η1 => wS b η1 (loopK (fun η' => η' = η.set k (f (i + 1))) R))
    (last : R .nx (η.set k (f ds.length))) : wL (forL g b ds η) R := by
  refine wL_for (fun i η' => η' = η.set k (f i)) (set_id h0) (fun i d η' hd e => ?_) (fun η' e => ?_)
  · subst e; exact step i d hd
  · subst e; exact last
theorem wL_atR (k : Nat) (f : Nat → S) (h0 : η[k]? = some (f 0)) (step : ∀ i, i < (hi - lo).toNat → wO (g (.int (lo + i)) (η.set k (f i))) fun η1 => wS b η1 (loopK (fun η' => η' = η.set k (f (i + 1))) R))
    (last : R .nx (η.set k (f (hi - lo).toNat))) : wL (forL g b (rangeD lo hi) η) R := by
  refine wL_rng (fun i η' => η' = η.set k (f i)) (set_id h0) (fun i η' hd e => ?_) (fun η' e => ?_)
  · subst e; exact step i hd
  · subst e; exact last
theorem wL_atR2 (k l : Nat) (f f' : Nat → S) (hkl : k ≠ l) (h0 : η[k]? = some (f 0)) (h1 : η[l]? = some (f' 0)) (step : ∀ i, i < (hi - lo).toNat → wO (g (.int (lo + i)) ((η.set k (f i)).set l (f' i))) fun η1 => wS b η1 (loopK (fun η' => η' = (η.set k (f (i + 1))).set l (f' (i + 1))) R))
    (last : R .nx ((η.set k (f (hi - lo).toNat)).set l (f' (hi - lo).toNat))) : wL (forL g b (rangeD lo hi) η) R := by
  refine wL_rng (fun i η' => η' = (η.set k (f i)).set l (f' i)) ?_ (fun i η' hd e => ?_) (fun η' e => ?_)
  · rw [← set_id h0]; exact set_id h1
  · subst e; exact step i hd
  · subst e; exact last
end
theorem wF_same {d : D} {Q : D → Env → Prop} (h : okD 58 d = true) (hz : szD d ≤ 1000000) : wF sem__law_same [.sh d, .sh d] Q = Q (.bl true) [.no, .no] := wF_of (sem_same h hz)
end DL

namespace DL
open PySem L2

/-! ### several names at once; own new objects among the values -/
abbrev MAM := Env → Option (List S × Env)
def nilM : MAM := fun η => some ([], η)
def consS (a : EM) (r : MAM) : MAM := fun η => match a η with
  | some (d, η1) => match r η1 with
    | some (ss, η2) => some (.sh d :: ss, η2)
    | none => none
  | none => none
def consO (a : EM) (r : MAM) : MAM := fun η => match a η with
  | some (d, η1) => match r η1 with
    | some (ss, η2) => some (.ow d :: ss, η2)
    | none => none
  | none => none
def notOwn (η : Env) (σ : L2.St) (a : Addr) : Prop := ∀ (j : Nat) (e : D), Own η[j]? e → σ[j]? ≠ some (some (.ref a))
inductive MR (K : Gd) (F H : Hp) (η : Env) (σ : L2.St) : Hp → List S → List V → Prop
  | nil {B : Hp} : MR K F H η σ B [] []
  | sh {B : Hp} {d : D} {v : V} {ss : List S} {vs : List V} : Rep K F d v → MR K F H η σ B ss vs → MR K F H η σ B (.sh d :: ss) (v :: vs)
  | ow {B : Hp} {d : D} {a : Addr} {o : HO} {ss : List S} {vs : List V} : F a = none → B a = none → At K F H d a → H a = some o → notOwn η σ a → MR K F H η σ (upd B a o) ss vs → MR K F H η σ B (.ow d :: ss) (.ref a :: vs)
theorem MR.change {K : Gd} {F H H2 : Hp} {η η2 : Env} {σ σ2 : L2.St} (hA : ∀ a d, At K F H d a → At K F H2 d a) (hH : ∀ a o, H a = some o → H2 a = some o) : ∀ {B B' : Hp} {ss : List S} {vs : List V},
    (∀ a, B' a = none → B a = none ∧ (notOwn η σ a → notOwn η2 σ2 a)) → MR K F H η σ B' ss vs → MR K F H2 η2 σ2 B ss vs
  | _, _, _, _, _, .nil => .nil
  | _, _, _, _, h, .sh r m => .sh r (MR.change hA hH h m)
  | B, B', _, _, h, @MR.ow _ _ _ _ _ _ d a o ss vs f b at' ho no m => .ow f (h a b).1 (hA _ _ at') (hH _ _ ho) ((h a b).2 no) (MR.change hA hH (fun a' hb => by
      by_cases e : a' = a
      · subst e; rw [upd_same] at hb; cases hb
      · rw [upd_ne e] at hb ⊢; exact h a' hb) m)
def tMA (K : Gd) (m : MAM) : TA := fun σ H Q => ∃ (B F : Hp) (Z : Pins) (η : Env) (ss : List S) (η' : Env), Ok K B F Z η σ H ∧ m η = some (ss, η') ∧
  ∀ (vs : List V) (H' F' : Hp), Same F F' → Ok K B F' Z η' σ H' → MR K F' H' η' σ B ss vs → Q vs H'
/-- an object that stands, put behind the wall -/
theorem Ok.cover {K : Gd} {B F : Hp} {Z : Pins} {η : Env} {σ : L2.St} {H : Hp} (ok : Ok K B F Z η σ H) {p : Addr} {o : HO} (hF : F p = none) (ho : H p = some o) (hn : notOwn η σ p) : Ok K (upd B p o) F Z η σ H := by
  refine ⟨ok.ff, fun b x e => ?_, fun b x e => ?_, ok.len, ok.sh, fun i d e => ?_, ok.io, ok.sep⟩
  · by_cases hb : b = p
    · subst hb; rw [upd_same] at e; cases e; exact ho
    · rw [upd_ne hb] at e; exact ok.bb b x e
  · by_cases hb : b = p
    · subst hb; exact hF
    · rw [upd_ne hb] at e; exact ok.bf b x e
  · obtain ⟨a, h1, h2, h3, h4⟩ := ok.ow i d e
    refine ⟨a, h1, h2, ?_, h4⟩
    rw [upd_ne (show a ≠ p from fun z => hn i d e (by rw [h1, z]))]
    exact h3
section
variable {X : Cx} {e : Expr} {es : List Expr}
theorem ma_nil : PA X [] (tMA X.G nilM) := weakA pa_nil fun σ H Q ⟨B, F, Z, η, d, η', ok, hm, q⟩ => by
  cases hm
  exact q _ _ _ (Same.refl _) ok .nil
theorem ma_sh {a : EM} {r : MAM} (ha : PE X e (tD X.G a)) (hr : PA X es (tMA X.G r)) (hs : starEach (e :: es) X.env = (false, eval e X.env) :: starEach es X.env := by rfl) : PA X (e :: es) (tMA X.G (consS a r)) :=
  weakA (pa_cons ha hr hs) fun σ H Q ⟨B, F, Z, η, d, η', ok, hm, q⟩ => by
    unfold consS at hm
    split at hm
    · next d1 η1 h1 =>
      split at hm
      · next ds η2 h2 =>
        cases hm
        refine ⟨B, F, Z, η, d1, η1, ok, h1, fun v H1 F1 s1 ok1 r1 => ⟨B, F1, Z, η1, ds, η', ok1, h2, fun vs H2 F2 s2 ok2 r2 => ?_⟩⟩
        exact q _ _ _ (s1.trans s2) ok2 (.sh (r1.mono s2) r2)
      · cases hm
    · cases hm
theorem ma_ow {a : EM} {r : MAM} (ha : PE X e (tO X.G a)) (hr : PA X es (tMA X.G r)) (hs : starEach (e :: es) X.env = (false, eval e X.env) :: starEach es X.env := by rfl) : PA X (e :: es) (tMA X.G (consO a r)) :=
  weakA (pa_cons ha hr hs) fun σ H Q ⟨B, F, Z, η, d, η', ok, hm, q⟩ => by
    unfold consO at hm
    split at hm
    · next d1 η1 h1 =>
      split at hm
      · next ds η2 h2 =>
        cases hm
        refine ⟨B, F, Z, η, d1, η1, ok, h1, fun p H1 F1 s1 ok1 hB hF hA hn => ?_⟩
        obtain ⟨o, ho, _⟩ := hA.some
        refine ⟨upd B p o, F1, Z, η1, ds, η', ok1.cover hF ho hn, h2, fun vs H2 F2 s2 ok2 r2 => ?_⟩
        obtain ⟨ok3, f3, h3, n3⟩ := ok2.unshield hB
        exact q _ _ _ (s1.trans s2) ok3 (.ow f3 hB (hA.mono s2 (by rw [h3, ho])) h3 n3 r2)
      · cases hm
    · cases hm
end
def setAll : List Nat → List S → Env → Option Env
  | [], [], η => some η
  | i :: is, s :: ss, η => match setSlot η i s with
    | some η1 => setAll is ss η1
    | none => none
  | _, _, _ => none
def setV : List Nat → List V → L2.St → L2.St
  | i :: is, v :: vs, σ => setV is vs (σ.set i (some v))
  | _, _, σ => σ
theorem notOwn_set {η : Env} {σ : L2.St} {i : Nat} {s : S} {v : V} {a : Addr} (hl : η.length = σ.length) (hs : (∀ d, s ≠ .io d)) (hv : (∃ d, s = .ow d) → v ≠ .ref a) (h : notOwn η σ a) : notOwn (η.set i s) (σ.set i (some v)) a := fun j e ho hj => by
  rcases own_set ho with ⟨rfl, hlt, hc⟩ | ⟨hne, ho'⟩
  · rcases hc with hc | hc
    · rw [List.getElem?_set_self (by omega)] at hj
      cases hj
      exact hv ⟨_, hc⟩ rfl
    · exact hs _ hc
  · rw [List.getElem?_set_ne (fun z => hne z.symm)] at hj
    exact h j e ho' hj
theorem MR.store {K : Gd} {B F H : Hp} {Z : Pins} : ∀ {is : List Nat} {ss : List S} {vs : List V} {η η' : Env} {σ : L2.St}, Ok K B F Z η σ H → MR K F H η σ B ss vs → setAll is ss η = some η' → Ok K B F Z η' (setV is vs σ) H
  | [], _, _, η, η', σ, ok, m, h => by
    cases m with
    | nil => cases h; exact ok
    | sh => cases h
    | ow => cases h
  | i :: is, _, _, η, η', σ, ok, m, h => by
    cases m with
    | nil => cases h
    | @sh _ d v ss vs r m =>
      unfold setAll at h
      split at h
      · next η1 h1 =>
        obtain ⟨hi, hn, rfl⟩ := setSlot_inv h1
        exact MR.store (is := is) (ok.setSh hi hn r) (m.change (fun _ _ x => x) (fun _ _ x => x) fun a hb => ⟨hb, notOwn_set ok.len (by intro d z; cases z) (by rintro ⟨d, z⟩; cases z)⟩) h
      · cases h
    | @ow _ d a o ss vs f b at' ho no m =>
      unfold setAll at h
      split at h
      · next η1 h1 =>
        obtain ⟨hi, hn, rfl⟩ := setSlot_inv h1
        refine MR.store (is := is) (ok.setOw hi hn b f at' no) (m.change (fun _ _ x => x) (fun _ _ x => x) fun a' hb => ?_) h
        have hne : a' ≠ a := fun z => by subst z; rw [upd_same] at hb; cases hb
        rw [upd_ne hne] at hb
        exact ⟨hb, notOwn_set ok.len (by intro d z; cases z) (fun _ z => hne (V.ref.inj z).symm)⟩
      · cases h
/-- names that get values: is in their order -/
def parS (is : List Nat) (m : MAM) : SM := fun η => match m η with
  | some (ss, η1) => match setAll is ss η1 with
    | some η2 => some (.nx, η2)
    | none => none
  | none => none
theorem parS_inv {is : List Nat} {m : MAM} {η : Env} {o : Out} {η2 : Env} (h : parS is m η = some (o, η2)) : ∃ ss η1, m η = some (ss, η1) ∧ setAll is ss η1 = some η2 ∧ o = .nx := by
  unfold parS at h
  split at h
  · next ss η1 h1 =>
    split at h
    · next η2 h2 => cases h; exact ⟨_, _, h1, h2, rfl⟩
    · cases h
  · cases h
theorem setAll_len : ∀ {is : List Nat} {ss : List S} {η η' : Env}, setAll is ss η = some η' → ss.length = is.length
  | [], [], _, _, _ => rfl
  | [], _ :: _, _, _, h => by cases h
  | _ :: _, [], _, _, h => by cases h
  | i :: is, s :: ss, η, η', h => by
    unfold setAll at h
    split at h
    · rw [List.length_cons, List.length_cons, setAll_len h]
    · cases h
theorem MR.len {K : Gd} {F H : Hp} {η : Env} {σ : L2.St} : ∀ {B : Hp} {ss : List S} {vs : List V}, MR K F H η σ B ss vs → ss.length = vs.length
  | _, _, _, .nil => rfl
  | _, _, _, .sh _ m => by rw [List.length_cons, List.length_cons, MR.len m]
  | _, _, _, .ow _ _ _ _ _ m => by rw [List.length_cons, List.length_cons, MR.len m]
def gNames (is : List Nat) : TGs := fun vs σ H Q => vs.length = is.length ∧ Q (setV is vs σ) H
section
variable {X : Cx} {a b c : Expr} {pos pos' : Pos}
theorem gn_nil : PGs X [] (gNames []) := weakGs pgs_nil fun v σ H Q ⟨h, q⟩ => by
  cases v with
  | nil => exact ⟨rfl, q⟩
  | cons => cases h
theorem gn_cons {i : Nat} {x : Str} {is : List Nat} {es : List Expr} (hN : X.N.Nodup) (hi : X.N[i]? = some x) (hx : Loc X.env.scope x) (h2 : PGs X es (gNames is))
    (hs : (assignEach (.Name x pos :: es) X.env).map (·.2) = assign (.Name x pos) X.env :: (assignEach es X.env).map (·.2) := by rfl) (hf : X.fn x = true ∨ X.env.scope.names.lookup x = some .local := by first | exact .inl rfl | exact .inr rfl | assumption) :
    PGs X (.Name x pos :: es) (gNames (i :: is)) := weakGs (pgs_cons (pg_name hN hi hx hf) h2 hs) fun v σ H Q ⟨h, q⟩ => by
  cases v with
  | nil => cases h
  | cons v vs => exact ⟨v, vs, rfl, by simpa using h, q⟩
theorem s_parO {i j : Nat} {x y : Str} {ta : MAM} {px py pt : Pos} {kt k2 pt2} (hc : X.calm = true) (hN : X.N.Nodup) (hi : X.N[i]? = some x) (hj : X.N[j]? = some y) (hij : i ≠ j)
    (hx : X.env.scope.names.lookup x = some .local) (hy : X.env.scope.names.lookup y = some .local) (ha : PA X [a, b] (tMA X.G ta))
    (hw : swappedStores [.Tuple [.Name x px, .Name y py] kt pt] (.Tuple [a, b] k2 pt2) X.env = pure (some [x, y]) := by rfl)
    (hs : swapsWithSole [.Tuple [.Name x px, .Name y py] kt pt] (.Tuple [a, b] k2 pt2) pos.line X.env = pure false := by rfl) :
    PS X (.Assign [.Tuple [.Name x px, .Name y py] kt pt] (.Tuple [a, b] k2 pt2) pos) (tS X.G (parS [i, j] ta)) := weakS (ps_par hc hN hi hj hij hx hy ha hw hs) fun D σ H ⟨B, F, Z, η, o, η', ok, hm, q⟩ => by
  obtain ⟨ss, η1, h1, h2, rfl⟩ := parS_inv hm
  refine ⟨B, F, Z, η, ss, η1, ok, h1, fun vs H' F' s ok' m => ?_⟩
  have hl := m.len.symm.trans (setAll_len h2)
  match vs, hl, m with
  | [v, w'], _, m => exact ⟨v, w', rfl, q _ H' F' s (m.store ok' h2)⟩
theorem s_parO3 {i j l : Nat} {x y z : Str} {ta : MAM} {px py pz pt : Pos} {kt k2 pt2} (hc : X.calm = true) (hN : X.N.Nodup) (hi : X.N[i]? = some x) (hj : X.N[j]? = some y) (hl : X.N[l]? = some z) (hij : i ≠ j) (hil : i ≠ l) (hjl : j ≠ l)
    (hx : X.env.scope.names.lookup x = some .local) (hy : X.env.scope.names.lookup y = some .local) (hz : X.env.scope.names.lookup z = some .local) (ha : PA X [a, b, c] (tMA X.G ta))
    (hw : swappedStores [.Tuple [.Name x px, .Name y py, .Name z pz] kt pt] (.Tuple [a, b, c] k2 pt2) X.env = pure (some [x, y, z]) := by rfl)
    (hs : swapsWithSole [.Tuple [.Name x px, .Name y py, .Name z pz] kt pt] (.Tuple [a, b, c] k2 pt2) pos.line X.env = pure false := by rfl) :
    PS X (.Assign [.Tuple [.Name x px, .Name y py, .Name z pz] kt pt] (.Tuple [a, b, c] k2 pt2) pos) (tS X.G (parS [i, j, l] ta)) := weakS (ps_par3 hc hN hi hj hl hij hil hjl hx hy hz ha hw hs) fun D σ H ⟨B, F, Z, η, o, η', ok, hm, q⟩ => by
  obtain ⟨ss, η1, h1, h2, rfl⟩ := parS_inv hm
  refine ⟨B, F, Z, η, ss, η1, ok, h1, fun vs H' F' s ok' m => ?_⟩
  have hl := m.len.symm.trans (setAll_len h2)
  match vs, hl, m with
  | [u, v, w'], _, m => exact ⟨u, v, w', rfl, q _ H' F' s (m.store ok' h2)⟩
/-- a, b, .. = e, f, ..: by a tuple -/
theorem s_parT {is : List Nat} {ts es : List Expr} {m : MAM} {kt k2} {pt pt2 : Pos} {n : Nat} (hc : X.calm = true) (ha : PA X es (tMA X.G m)) (hg : PGs X ts (gNames is)) (hsz : is.length ≤ 1000)
    (hs : swapsWithSole [.Tuple ts kt pt] (.Tuple es k2 pt2) pos.line X.env = pure false := by rfl) (hw : swappedStores [.Tuple ts kt pt] (.Tuple es k2 pt2) X.env = pure none := by rfl)
    (h1 : (assignEach [.Tuple ts kt pt] X.env).map (·.2) = [assign (.Tuple ts kt pt) X.env] := by rfl) (hn : (assignEach ts X.env).length = n := by rfl) (hln : is.length = n := by rfl) (hst : (assignEach ts X.env).findIdx? (·.1) = none := by rfl) :
    PS X (.Assign [.Tuple ts kt pt] (.Tuple es k2 pt2) pos) (tS X.G (parS is m)) := weakS (ps_asg (pe_tup ha) (pg_tup hc hg hn hst) hs hw h1) fun D σ H ⟨B, F, Z, η, o, η', ok, hm, q⟩ => by
  obtain ⟨ss, η1, h1, h2, rfl⟩ := parS_inv hm
  refine ⟨B, F, Z, η, ss, η1, ok, h1, fun vs H' F' s ok' mr => ?_⟩
  have hl := mr.len.symm.trans (setAll_len h2)
  refine ⟨by rw [hl]; exact line1000 hsz, fun p hp => ⟨p, vs, rfl, SqT.of upd_same, hl.trans hln, hl, ?_⟩⟩
  refine q _ _ F' s ((mr.change (H2 := upd H' p (.tup vs)) (fun a d hA => ?_) (fun a o ho => ?_) fun a hb => ⟨hb, fun x => x⟩).store (ok'.newH hp) h2)
  · obtain ⟨o, ho, _⟩ := hA.some
    exact hA.mono (Same.refl _) (upd_ne (ne_of_none ho hp))
  · rw [upd_ne (ne_of_none ho hp)]; exact ho
end
/-! the rules -/
@[irreducible] def wM (m : MAM) (η : Env) (Q : List S → Env → Prop) : Prop := match m η with
  | some (d, η') => Q d η'
  | none => False
def wM_s2 (Q : List S → Env → Prop) (d : D) : List S → Env → Prop := fun ss η => Q (.sh d :: ss) η
def wM_s1 (r : MAM) (Q : List S → Env → Prop) : D → Env → Prop := fun d η => wM r η (wM_s2 Q d)
def wM_o2 (Q : List S → Env → Prop) (d : D) : List S → Env → Prop := fun ss η => Q (.ow d :: ss) η
def wM_o1 (r : MAM) (Q : List S → Env → Prop) : D → Env → Prop := fun d η => wM r η (wM_o2 Q d)
def parS_k (is : List Nat) (R : Out → Env → Prop) : List S → Env → Prop := fun ss η => wO (setAll is ss η) (R .nx)
section
variable {Q : List S → Env → Prop} {R : Out → Env → Prop} {η : Env} {d : D} {ss : List S} {r : MAM} {a : EM} {is : List Nat}
@[simp] theorem wM_s2_eq : wM_s2 Q d ss η = Q (.sh d :: ss) η := propext Iff.rfl
@[simp] theorem wM_s1_eq : wM_s1 r Q d η = wM r η (wM_s2 Q d) := propext Iff.rfl
@[simp] theorem wM_o2_eq : wM_o2 Q d ss η = Q (.ow d :: ss) η := propext Iff.rfl
@[simp] theorem wM_o1_eq : wM_o1 r Q d η = wM r η (wM_o2 Q d) := propext Iff.rfl
@[simp] theorem parS_k_eq : parS_k is R ss η = wO (setAll is ss η) (R .nx) := propext Iff.rfl
@[simp] theorem wM_nil : wM nilM η Q = Q [] η := by unfold wM; rfl
@[simp] theorem wM_consS : wM (consS a r) η Q = wE a η (wM_s1 r Q) := by
  unfold wM wM_s1 wM_s2 wE consS wM
  rcases a η with _ | ⟨d, η1⟩
  · rfl
  dsimp only
  rcases r η1 with _ | ⟨ss, η2⟩ <;> rfl
@[simp] theorem wM_consO : wM (consO a r) η Q = wE a η (wM_o1 r Q) := by
  unfold wM wM_o1 wM_o2 wE consO wM
  rcases a η with _ | ⟨d, η1⟩
  · rfl
  dsimp only
  rcases r η1 with _ | ⟨ss, η2⟩ <;> rfl
@[simp] theorem wS_parS : wS (parS is r) η R = wM r η (parS_k is R) := by
  unfold wS parS wM parS_k
  rcases r η with _ | ⟨ss, η1⟩
  · rfl
  dsimp only
  rcases setAll is ss η1 with _ | η2 <;> rfl
@[simp] theorem setAll_nil : setAll [] [] η = some η := rfl
@[simp] theorem setAll_cons {i : Nat} {s : S} : setAll (i :: is) (s :: ss) η = (setSlot η i s).bind fun η1 => setAll is ss η1 := by
  show (match setSlot η i s with | some η1 => setAll is ss η1 | none => none) = _
  cases setSlot η i s <;> rfl
end
theorem lookup_relabel_fc {env : PySem.Env} : ∀ {names : List (Str × NameKind)} {x : Str}, names.lookup x = some .cell ∨ names.lookup x = some .free →
    (names.map fun (n, k) => if (k == NameKind.free && env.scope.kind == .function && env.kindOf n == some .cell) then (n, NameKind.cell) else (n, k)).lookup x = some .cell ∨
    (names.map fun (n, k) => if (k == NameKind.free && env.scope.kind == .function && env.kindOf n == some .cell) then (n, NameKind.cell) else (n, k)).lookup x = some .free
  | [], _, h => by simp at h
  | (n, k) :: r, x, h => by
    have ih := @lookup_relabel_fc env r x
    rw [List.map_cons]
    cases hx : x == n with
    | true =>
      simp only [List.lookup_cons, hx] at h
      rcases h with h | h <;> cases h <;> dsimp only <;> split <;> simp [List.lookup_cons, hx]
    | false =>
      simp only [List.lookup_cons, hx] at h
      dsimp only
      split <;> (simp only [List.lookup_cons, hx]; exact ih h)
theorem blkOk_blk {X : Cx} {s : Shared} {H : Hp} {scope sc2 : Scope} {cl : List (Str × Addr)} {C : Addr} {fp : List Addr} {N : List Str} {own : List (Str × Nat)} (hN : X.N = N) (h : blkC N scope sc2 own = true) :
    BlkOk (X.blk s H scope (compEnvC scope cl C X.env) fp).N (X.blk s H scope (compEnvC scope cl C X.env) fp).env.scope sc2 own := by
  subst hN
  obtain ⟨a, b, c, f, o⟩ := blkOk_by h
  exact ⟨a, b, c, fun y hy e => lookup_relabel_fc (f y hy e), o⟩
end DL

namespace DL
open PySem L2

/-! ### defs that many laws share -/
def m_is_number : SM :=
 retM (andE (isiE "int" (nV 0)) (notE (isiE "bool" (nV 0))))
def sem_is_number : Sem := runF 1 m_is_number

def m_is_from : SM :=
 retM (andE (callE sem_is_number (consN 0 (nilC))) (bin2 geD (nV 0) (nV 1)))
def sem_is_from : Sem := runF 2 m_is_from

def m_is_tuple_of : SM :=
 retM (andE (isiE "tuple" (nV 0)) (bin2 eqD (vE (callB lenG (consV (nV 0) (nilV)))) (nV 1)))
def sem_is_tuple_of : Sem := runF 2 m_is_tuple_of

def m_is_row_from : SM :=
 retM (andE (isiE "tuple" (nV 0)) (callB allG (consV (vE (lcE (itE (varE 0)) [2] (nameG 2) (trueB) (callE sem_is_from (consN 2 (consN 1 (nilC)))))) (nilV))))
def sem_is_row_from : Sem := runF 3 m_is_row_from

def m_first_pair : SM :=
 seqM (parS [1, 2] (consO (dispE []) (consS (cE .non) (nilM))))
 (seqM (forM (rng1 (callB lenG (consV (nV 0) (nilV)))) (nameG 3)
 (fgM [3, 4] (ifM (boolD (bin2 inD (vE (bin2 idxD (nV 0) (nV 3))) (nV 1)))
 (seqM (setS 4 (bin2 idxD (nV 1) (vE (bin2 idxD (nV 0) (nV 3)))))
 (ifM (orB (boolD (bin2 isD (nV 2) (vE (cE .non)))) (boolD (bin2 ltD (nV 4) (vE (bin2 idxD (nV 2) (vE (cE (.int 0))))))))
 (setS 2 (tupE (consA (varE 4) (consA (bin2 subD (nV 3) (nV 4)) (nilA)))))
 (nopM)))
 (storeM 1 (bin2 idxD (nV 0) (nV 3)) (varE 3)))))
 (retM (varE 2)))
def sem_first_pair : Sem := runF 5 m_first_pair
section
variable {Q : D → Env → Prop} {d : D} {n : Int}
def isNum : D → Bool
  | .int _ => true
  | _ => false
def isFrom : D → Int → Bool
  | .int i, n => decide (n ≤ i)
  | _, _ => false
def isTupOf : D → Int → Bool
  | .tup xs, n => decide ((xs.length : Int) = n)
  | _, _ => false
def notSet : D → Bool
  | .set _ => false
  | .tuz _ => false
  | _ => true
theorem wF_is_number (h : notSet d = true) : wF sem_is_number [.sh d] Q = Q (.bl (isNum d)) [.no] := by
  unfold sem_is_number m_is_number
  rw [wF_run]
  cases d <;> simp [isNum] <;> simp [notSet] at h
theorem wF_is_from (h : notSet d = true) : wF sem_is_from [.sh d, .sh (.int n)] Q = Q (.bl (isFrom d n)) [.no, .no] := by
  unfold sem_is_from m_is_from
  rw [wF_run]
  simp [wF_is_number h]
  cases d <;> simp [isNum, isFrom]
theorem wF_is_tuple_of (h : notSet d = true) : wF sem_is_tuple_of [.sh d, .sh (.int n)] Q = Q (.bl (isTupOf d n)) [.no, .no] := by
  unfold sem_is_tuple_of m_is_tuple_of
  rw [wF_run]
  cases d <;> simp [isTupOf] <;> simp [notSet] at h
end
/-- the first two places that hold the same -/
structure IsFp (n : Nat) (s : Nat → Nat → Prop) (k d : Nat) : Prop where
  pos : 0 < d
  lt : k + d < n
  same : s k (k + d)
  near : ∀ e, 0 < e → e < d → ¬ s k (k + e)
  first : ∀ j l, j < k → j < l → l < n → ¬ s j l
def FpIs (n : Nat) (s : Nat → Nat → Prop) : Option (Nat × Nat) → Prop
  | none => ∀ j l, j < l → l < n → ¬ s j l
  | some (k, d) => IsFp n s k d
theorem FpIs.unique {n : Nat} {s : Nat → Nat → Prop} : ∀ {r r' : Option (Nat × Nat)}, FpIs n s r → FpIs n s r' → r = r'
  | none, none, _, _ => rfl
  | none, some (k, d), h, h' => (h k (k + d) (by have := IsFp.pos h'; omega) (IsFp.lt h') (IsFp.same h')).elim
  | some (k, d), none, h, h' => (h' k (k + d) (by have := IsFp.pos h; omega) (IsFp.lt h) (IsFp.same h)).elim
  | some (k, d), some (k', d'), h, h' => by
    have e : k = k' := by
      rcases Nat.lt_trichotomy k k' with e | e | e
      · exact (IsFp.first h' k (k + d) e (by have := IsFp.pos h; omega) (IsFp.lt h) (IsFp.same h)).elim
      · exact e
      · exact (IsFp.first h k' (k' + d') e (by have := IsFp.pos h'; omega) (IsFp.lt h') (IsFp.same h')).elim
    subst e
    have e : d = d' := by
      rcases Nat.lt_trichotomy d d' with e | e | e
      · exact (IsFp.near h' d (IsFp.pos h) e (IsFp.same h)).elim
      · exact e
      · exact (IsFp.near h d' (IsFp.pos h') e (IsFp.same h')).elim
    subst e
    rfl
def pairD : Option (Nat × Nat) → D
  | none => .non
  | some (k, d) => .tup [.int k, .int d]
structure KeysOk (xs : List D) : Prop where
  kind : (∀ x ∈ xs, scalK x = true) ∨ (∀ x ∈ xs, tupK x = true)
  inj : ∀ x ∈ xs, ∀ y ∈ xs, keyEq x y = true → x = y
theorem KeysOk.homog {xs : List D} (h : KeysOk xs) {kvs : List (D × D)} (hk : ∀ kv ∈ kvs, kv.1 ∈ xs) {x : D} (hx : x ∈ xs) : DL.homog x kvs = true := by
  unfold DL.homog
  rcases h.kind with k | k
  · rw [k x hx, show (kvs.all fun kv => scalK kv.1) = true from List.all_eq_true.mpr fun kv hkv => k _ (hk kv hkv)]; rfl
  · rw [k x hx, show (kvs.all fun kv => tupK kv.1) = true from List.all_eq_true.mpr fun kv hkv => k _ (hk kv hkv)]; simp
theorem inD_dic {kvs : List (D × D)} {x : D} (h : DL.homog x kvs = true) : inD x (.dic kvs) = some (.bl (lookD kvs x).isSome) := by
  have e : inD x (.dic kvs) = (match getD' kvs x with | some o => some (.bl o.isSome) | none => none) := by cases x <;> rfl
  rw [e]
  unfold getD'
  rw [if_pos h]
theorem idxD_dic {kvs : List (D × D)} {x d : D} (h : DL.homog x kvs = true) (hd : lookD kvs x = some d) : idxD (.dic kvs) x = some d := by
  have e : idxD (.dic kvs) x = (match getD' kvs x with | some (some d) => some d | _ => none) := by cases x <;> rfl
  rw [e]
  unfold getD'
  rw [if_pos h, hd]
theorem putAny_dic {kvs : List (D × D)} {x v : D} (h : DL.homog x kvs = true) (hl : kvs.length < 16777216) : putAny (.dic kvs) x v = some (.dic (putD kvs x v)) := by
  have e : putAny (.dic kvs) x v = if (DL.homog x kvs = true ∨ mixB x kvs = true) ∧ kvs.length < 16777216 then some (.dic (putD kvs x v)) else none := by cases x <;> rfl
  rw [e, if_pos ⟨.inl h, hl⟩]
theorem getD'_mix {kvs : List (D × D)} {x : D} (h : mixB x kvs = true) : getD' kvs x = some (lookD kvs x) := by
  unfold getD'
  rw [if_pos h, ite_self]
theorem inD_mix {kvs : List (D × D)} {x : D} (h : mixB x kvs = true) : inD x (.dic kvs) = some (.bl (lookD kvs x).isSome) := by
  have e : inD x (.dic kvs) = (match getD' kvs x with | some o => some (.bl o.isSome) | none => none) := by cases x <;> rfl
  rw [e, getD'_mix h]
theorem idxD_mix {kvs : List (D × D)} {x d : D} (h : mixB x kvs = true) (hd : lookD kvs x = some d) : idxD (.dic kvs) x = some d := by
  have e : idxD (.dic kvs) x = (match getD' kvs x with | some (some d) => some d | _ => none) := by cases x <;> rfl
  rw [e, getD'_mix h, hd]
theorem putAny_mix {kvs : List (D × D)} {x v : D} (h : mixB x kvs = true) (hl : kvs.length < 16777216) : putAny (.dic kvs) x v = some (.dic (putD kvs x v)) := by
  have e : putAny (.dic kvs) x v = if (DL.homog x kvs = true ∨ mixB x kvs = true) ∧ kvs.length < 16777216 then some (.dic (putD kvs x v)) else none := by cases x <;> rfl
  rw [e, if_pos ⟨.inr h, hl⟩]
theorem keyEq_refl {x : D} : keyEq x x = true := decide_eq_true rfl
theorem putD_new {kvs : List (D × D)} {x v : D} (h : lookD kvs x = none) : putD kvs x v = kvs ++ [(x, v)] := by
  unfold putD
  unfold lookD at h
  rw [Option.map_eq_none_iff, List.find?_eq_none] at h
  rw [if_neg]
  intro ha
  obtain ⟨kv, h1, h2⟩ := List.any_eq_true.mp ha
  exact h kv h1 h2
theorem lookD_snoc {kvs : List (D × D)} {x y v : D} : lookD (kvs ++ [(x, v)]) y = match lookD kvs y with
    | some d => some d
    | none => if keyEq x y = true then some v else none := by
  unfold lookD
  rw [List.find?_append]
  cases kvs.find? fun kv => keyEq kv.1 y with
  | some kv => rfl
  | none =>
    simp only [Option.none_or, List.find?_cons, List.find?_nil, Option.map_none]
    by_cases h : keyEq x y = true
    · simp [h]
    · simp [h]
/-- the table of the first places -/
structure FInv (xs : List D) (i : Nat) (kvs : List (D × D)) : Prop where
  keys : ∀ kv ∈ kvs, kv.1 ∈ xs
  len : kvs.length ≤ i
  look : ∀ x ∈ xs, (lookD kvs x = none ∧ ∀ k, k < i → xs[k]? ≠ some x) ∨ ∃ k, lookD kvs x = some (.int (k : Nat)) ∧ k < i ∧ xs[k]? = some x ∧ ∀ j, j < k → xs[j]? ≠ some x
def sameAt (xs : List D) (i j : Nat) : Prop := xs[i]? = xs[j]?
section
variable {xs : List D} {i : Nat} {kvs : List (D × D)} {x : D}
theorem FInv.keep (h : FInv xs i kvs) (hg : xs[i]? = some x) {k : Nat} (hki : k < i) (hks : xs[k]? = some x) : FInv xs (i + 1) kvs := by
  refine ⟨h.keys, by have := h.len; omega, fun y hy => ?_⟩
  rcases h.look y hy with ⟨e', hn'⟩ | ⟨k', e', a1, a2, a3⟩
  · left
    refine ⟨e', fun l hl' => ?_⟩
    rcases Nat.lt_or_ge l i with h | h
    · exact hn' l h
    · have : l = i := by omega
      subst this
      rw [hg]
      intro z
      cases z
      exact hn' k hki hks
  · exact .inr ⟨k', e', by omega, a2, a3⟩
theorem FInv.new (hk : KeysOk xs) (h : FInv xs i kvs) (hx : x ∈ xs) (hg : xs[i]? = some x) (e : lookD kvs x = none) (hn : ∀ k, k < i → xs[k]? ≠ some x) : FInv xs (i + 1) (putD kvs x (.int i)) := by
  rw [putD_new e]
  refine ⟨fun kv hkv => ?_, by rw [List.length_append, List.length_singleton]; have := h.len; omega, fun y hy => ?_⟩
  · rcases List.mem_append.mp hkv with h' | h'
    · exact h.keys kv h'
    · rw [List.mem_singleton.mp h']; exact hx
  · rw [lookD_snoc]
    rcases h.look y hy with ⟨e', hn'⟩ | ⟨k, e', hk1, hk2, hk3⟩
    · rw [e']
      by_cases hxy : keyEq x y = true
      · have := hk.inj x hx y hy hxy
        subst this
        right
        exact ⟨i, by simp [hxy], by omega, hg, hn⟩
      · left
        refine ⟨by simp [hxy], fun k hk' => ?_⟩
        rcases Nat.lt_or_ge k i with h | h
        · exact hn' k h
        · have : k = i := by omega
          subst this
          rw [hg]
          intro z
          cases z
          exact hxy keyEq_refl
    · right
      rw [e']
      exact ⟨k, rfl, by omega, hk2, hk3⟩
theorem FpIs.old {r : Option (Nat × Nat)} (h : FpIs i (sameAt xs) r) (ho : ∀ j, (∀ p, r = some p → j < p.1) → j < i → xs[j]? ≠ xs[i]?) : FpIs (i + 1) (sameAt xs) r := by
  cases r with
  | none =>
    intro j l hjl hli hs
    rcases Nat.lt_or_ge l i with h' | h'
    · exact h j l hjl h' hs
    · have : l = i := by omega
      subst this
      exact ho j (fun p z => nomatch z) hjl hs
  | some p =>
    obtain ⟨k, d⟩ := p
    refine ⟨h.pos, by have := h.lt; omega, h.same, h.near, fun j l hj hjl hli hs => ?_⟩
    rcases Nat.lt_or_ge l i with h' | h'
    · exact h.first j l hj hjl h' hs
    · have : l = i := by omega
      subst this
      exact ho j (fun p z => by cases z; exact hj) hjl hs
theorem FpIs.better {r : Option (Nat × Nat)} (h : FpIs i (sameAt xs) r) {k : Nat} (hki : k < i) (hk : ∀ p, r = some p → k < p.1) (hs : xs[k]? = xs[i]?) (hf : ∀ j, j < k → xs[j]? ≠ xs[i]?) : FpIs (i + 1) (sameAt xs) (some (k, i - k)) := by
  have no : ∀ j l, j ≤ k → j < l → l < i → ¬ sameAt xs j l := fun j l hj hjl hli => by
    cases r with
    | none => exact h j l hjl hli
    | some p => exact h.first j l (by have := hk p rfl; omega) hjl hli
  refine ⟨by omega, by omega, by unfold sameAt; rw [show k + (i - k) = i by omega, hs], fun l hl1 hl2 => no k (k + l) (Nat.le_refl _) (by omega) (by omega), fun j l hj hjl hli hs' => ?_⟩
  rcases Nat.lt_or_ge l i with h' | h'
  · exact no j l (by omega) hjl h' hs'
  · have : l = i := by omega
    subst this
    exact hf j hj hs'
end
theorem sem_first_pair_eq {xs : List D} (hk : KeysOk xs) (hl : xs.length < 16777216) : ∃ r, FpIs xs.length (sameAt xs) r ∧ sem_first_pair [.sh (.tup xs)] = some (pairD r, [.no]) := by
  have key : wF sem_first_pair [.sh (.tup xs)] fun d c => c = [.no] ∧ ∃ r, d = pairD r ∧ FpIs xs.length (sameAt xs) r := by
    unfold sem_first_pair m_first_pair
    rw [wF_run]
    simp
    refine ⟨by omega, ?_⟩
    refine wL_rng (fun i η => ∃ (kvs : List (D × D)) (r : Option (Nat × Nat)), η = [.sh (.tup xs), .ow (.dic kvs), .sh (pairD r), .no, .no] ∧ FpIs i (sameAt xs) r ∧ FInv xs i kvs)
      ⟨[], none, rfl, (fun j l h1 h2 => by omega), (fun kv h => nomatch h), Nat.le_refl _, fun x hx => .inl ⟨rfl, fun k h => by omega⟩⟩ ?_ ?_
    · rintro i η hi ⟨kvs, r, rfl, h1, h2⟩
      have hi' : i < xs.length := by omega
      have hg := List.getElem?_eq_getElem hi'
      have hx : xs[i] ∈ xs := List.getElem_mem hi'
      have hh := hk.homog h2.keys hx
      generalize xs[i] = x at *
      simp [hg, inD_dic hh]
      rcases h2.look x hx with ⟨e, hn⟩ | ⟨k, e, hki, hks, hkf⟩
      · simp [e, putAny_dic hh (show kvs.length < 16777216 by have := h2.len; omega)]
        exact ⟨_, r, ⟨rfl, rfl⟩, h1.old fun j _ hj z => hn j hj (z.trans hg), h2.new hk hx hg e hn⟩
      · simp [e, idxD_dic hh e]
        have kp := h2.keep hg hki hks
        have up : (∀ p, r = some p → k < p.1) → FpIs (i + 1) (sameAt xs) (some (k, i - k)) := fun hp => h1.better hki hp (hks.trans hg.symm) fun j hj z => hkf j hj (z.trans hg)
        have ei : (i : Int) - (k : Int) = ((i - k : Nat) : Int) := by omega
        cases r with
        | none =>
          simp [pairD, ei]
          exact ⟨kvs, some (k, i - k), ⟨rfl, rfl⟩, up (fun p z => nomatch z), kp⟩
        | some p =>
          obtain ⟨k0, d0⟩ := p
          simp [pairD, ei]
          refine ⟨fun hlt => ⟨kvs, some (k, i - k), ⟨rfl, rfl⟩, up (fun p z => by cases z; exact hlt), kp⟩, fun hle => ⟨kvs, some (k0, d0), ⟨rfl, rfl⟩, h1.old fun j hj hji z => ?_, kp⟩⟩
          have hj' := hj _ rfl
          exact hkf j (by omega) (z.trans hg)
    · rintro η ⟨kvs, r, rfl, h1, h2⟩
      rw [show ((xs.length : Int) - 0).toNat = xs.length by omega] at h1
      simp
      exact ⟨r, rfl, h1⟩
  obtain ⟨d, c, e, rfl, r, rfl, h⟩ := key.ex
  exact ⟨r, h, e⟩
end DL

namespace DL
open PySem L2

/-! ### comprehensions that change nothing -/
section
variable {η : Env} {vs : List Nat} {g : TgM} {tt : BM} {te : EM} {ds : List D} {Q : D → Env → Prop} {i j : Nat}
theorem wX_filt (f : D → D) (c : D → Bool)
    (step : ∀ d, d ∈ ds → wO (g d (clearL vs η)) fun η1 => wB tt η1 fun t η2 => t = c d ∧ (c d = true → wE te η2 fun y η3 => y = f d ∧ clearL vs η3 = clearL vs η) ∧ (c d = false → clearL vs η2 = clearL vs η))
    (last : ∀ ζ, clearL vs ζ = clearL vs η → Q (.lst ((ds.filter c).map f)) (restL vs η ζ)) : wX (lcL vs g tt te ds η) (wE_lcE_k2 vs Q η) := by
  refine wX_lc (fun i ys ζ => ys = ((ds.take i).filter c).map f ∧ clearL vs ζ = clearL vs η) ⟨rfl, rfl⟩ ?_ ?_
  · rintro i d ys ζ hd ⟨rfl, hz⟩
    have h := step d (List.mem_of_getElem? hd)
    rw [hz]
    rcases hgd : g d (clearL vs η) with _ | η1
    · rw [hgd] at h; exact h
    rw [hgd] at h
    simp only [wO_some'] at h ⊢
    unfold wB at *
    rcases htt : tt η1 with _ | ⟨t, η2⟩
    · rw [htt] at h; exact h
    rw [htt] at h
    obtain ⟨rfl, h1, h2⟩ := h
    have ht : ds.take (i + 1) = ds.take i ++ [d] := by rw [List.take_add_one, hd]; rfl
    refine ⟨fun e => wE_mono (h1 e) fun y η3 ⟨a, b⟩ => ⟨?_, b⟩, fun e => ⟨?_, h2 e⟩⟩
    · rw [ht, List.filter_append, List.map_append, a]; simp [e]
    · rw [ht, List.filter_append, List.map_append]; simp [e]
  · rintro ys ζ ⟨rfl, hz⟩
    rw [List.take_length]
    exact last ζ hz
theorem restL1 {ζ : Env} (h : clearL [i] ζ = clearL [i] η) : restL [i] η ζ = restL [i] η (η.set i .no) := by
  simp only [clearL_cons, clearL_nil] at h
  simp only [restL_cons, restL_nil]
  rw [← h]
  split <;> rw [List.set_set]
theorem restL2 {ζ : Env} (h : clearL [i, j] ζ = clearL [i, j] η) (hij : i ≠ j) : restL [i, j] η ζ = restL [i, j] η ((η.set i .no).set j .no) := by
  simp only [clearL_cons, clearL_nil] at h
  simp only [restL_cons, restL_nil]
  rw [← h]
  have e : ∀ (x : S) (y : S), (ζ.set i x).set j y = (((ζ.set i .no).set j .no).set i x).set j y := fun x y => by
    rw [List.set_comm (l := ζ.set i .no) .no x (Ne.symm hij), List.set_set, List.set_set]
  split <;> split <;> exact e _ _
/-- [f(x) for x in ds if c(x)] -/
theorem wX_filt1 (f : D → D) (c : D → Bool)
    (step : ∀ d, d ∈ ds → wO (g d (η.set i .no)) fun η1 => wB tt η1 fun t η2 => t = c d ∧ (c d = true → wE te η2 fun y η3 => y = f d ∧ η3.set i .no = η.set i .no) ∧ (c d = false → η2.set i .no = η.set i .no))
    (last : Q (.lst ((ds.filter c).map f)) (restL [i] η (η.set i .no))) : wX (lcL [i] g tt te ds η) (wE_lcE_k2 [i] Q η) :=
  wX_filt f c step fun ζ hz => by rw [restL1 hz]; exact last
theorem wX_filt2 (f : D → D) (c : D → Bool) (hij : i ≠ j)
    (step : ∀ d, d ∈ ds → wO (g d ((η.set i .no).set j .no)) fun η1 => wB tt η1 fun t η2 => t = c d ∧ (c d = true → wE te η2 fun y η3 => y = f d ∧ (η3.set i .no).set j .no = (η.set i .no).set j .no) ∧ (c d = false → (η2.set i .no).set j .no = (η.set i .no).set j .no))
    (last : Q (.lst ((ds.filter c).map f)) (restL [i, j] η ((η.set i .no).set j .no))) : wX (lcL [i, j] g tt te ds η) (wE_lcE_k2 [i, j] Q η) :=
  wX_filt f c step fun ζ hz => by rw [restL2 hz hij]; exact last
/-- [f(x) for x in ds] -/
theorem wX_map1 (f : D → D) (step : ∀ d, d ∈ ds → wO (g d (η.set i .no)) fun η1 => wE te η1 fun y η3 => y = f d ∧ η3.set i .no = η.set i .no)
    (last : Q (.lst (ds.map f)) (restL [i] η (η.set i .no))) : wX (lcL [i] g trueB te ds η) (wE_lcE_k2 [i] Q η) := by
  refine wX_filt1 f (fun _ => true) (fun d hd => ?_) (by rw [show ds.filter (fun _ => true) = ds from List.filter_eq_self.mpr fun _ _ => rfl]; exact last)
  have h := step d hd
  rcases hgd : g d (η.set i .no) with _ | η1
  · rw [hgd] at h; exact h
  rw [hgd] at h
  simp only [wO_some', wB_trueB] at h ⊢
  exact ⟨True.intro, fun _ => h, fun z => nomatch z⟩
theorem wX_map2 (f : D → D) (hij : i ≠ j) (step : ∀ d, d ∈ ds → wO (g d ((η.set i .no).set j .no)) fun η1 => wE te η1 fun y η3 => y = f d ∧ (η3.set i .no).set j .no = (η.set i .no).set j .no)
    (last : Q (.lst (ds.map f)) (restL [i, j] η ((η.set i .no).set j .no))) : wX (lcL [i, j] g trueB te ds η) (wE_lcE_k2 [i, j] Q η) := by
  refine wX_filt2 f (fun _ => true) hij (fun d hd => ?_) (by rw [show ds.filter (fun _ => true) = ds from List.filter_eq_self.mpr fun _ _ => rfl]; exact last)
  have h := step d hd
  rcases hgd : g d ((η.set i .no).set j .no) with _ | η1
  · rw [hgd] at h; exact h
  rw [hgd] at h
  simp only [wO_some', wB_trueB] at h ⊢
  exact ⟨True.intro, fun _ => h, fun z => nomatch z⟩
end
theorem allG_map {α : Type} {l : List α} {f : α → D} {c : α → Bool} (h : ∀ a ∈ l, f a = .bl (c a)) : allG [.lst (l.map f)] = some (.bl (l.all c)) := by
  have e : l.map f = (l.map c).map D.bl := by rw [List.map_map]; exact List.map_congr_left h
  rw [e]
  show (match blsD ((l.map c).map D.bl) with | some l => some (D.bl (l.all id)) | none => none) = _
  rw [blsD_map]
  simp [List.all_map]
theorem anyG_map {α : Type} {l : List α} {f : α → D} {c : α → Bool} (h : ∀ a ∈ l, f a = .bl (c a)) : anyG [.lst (l.map f)] = some (.bl (l.any c)) := by
  have e : l.map f = (l.map c).map D.bl := by rw [List.map_map]; exact List.map_congr_left h
  rw [e]
  show (match blsD ((l.map c).map D.bl) with | some l => some (D.bl (l.any id)) | none => none) = _
  rw [blsD_map]
  simp [List.any_map]
@[simp] theorem tupleG_lst {xs : List D} : tupleG [.lst xs] = some (.tup xs) := rfl
@[simp] theorem tupleG_tup {xs : List D} : tupleG [.tup xs] = some (.tup xs) := rfl
@[simp] theorem listG_lst {xs : List D} : listG [.lst xs] = some (.lst xs) := rfl
@[simp] theorem listG_tup {xs : List D} : listG [.tup xs] = some (.lst xs) := rfl
@[simp] theorem addD_tup {a b : List D} : addD (.tup a) (.tup b) = if a.length + b.length ≤ 16777216 then some (.tup (a ++ b)) else none := rfl
@[simp] theorem addD_lst {a b : List D} : addD (.lst a) (.lst b) = if a.length + b.length ≤ 16777216 then some (.lst (a ++ b)) else none := rfl
section
variable {η : Env} {R : Out → Env → Prop} {g : TgM} {b : SM} {ds : List D} {lo hi : Int} {α : Type}
/-- a loop that changes one slot, or two; what they hold is told by a state a -/
theorem wL_st1 (k : Nat) (f : α → S) (P : Nat → α → Prop) (a0 : α) (h0 : η[k]? = some (f a0)) (hp : P 0 a0)
    (step : ∀ i d a, ds[i]? = some d → P i a → wO (g d (η.set k (f a))) fun η1 => wS b η1 (loopK (fun η' => ∃ a', η' = η.set k (f a') ∧ P (i + 1) a') R))
    (last : ∀ a, P ds.length a → R .nx (η.set k (f a))) : wL (forL g b ds η) R := by
  refine wL_for (fun i η' => ∃ a, η' = η.set k (f a) ∧ P i a) ⟨a0, set_id h0, hp⟩ (fun i d η' hd ⟨a, e, h⟩ => ?_) (fun η' ⟨a, e, h⟩ => ?_)
  · subst e; exact step i d a hd h
  · subst e; exact last a h
theorem wL_st2 (k l : Nat) (f f' : α → S) (P : Nat → α → Prop) (a0 : α) (h0 : η[k]? = some (f a0)) (h1 : η[l]? = some (f' a0)) (hp : P 0 a0)
    (step : ∀ i d a, ds[i]? = some d → P i a → wO (g d ((η.set k (f a)).set l (f' a))) fun η1 => wS b η1 (loopK (fun η' => ∃ a', η' = (η.set k (f a')).set l (f' a') ∧ P (i + 1) a') R))
    (last : ∀ a, P ds.length a → R .nx ((η.set k (f a)).set l (f' a))) : wL (forL g b ds η) R := by
  refine wL_for (fun i η' => ∃ a, η' = (η.set k (f a)).set l (f' a) ∧ P i a) ⟨a0, by rw [← set_id h0]; exact set_id h1, hp⟩ (fun i d η' hd ⟨a, e, h⟩ => ?_) (fun η' ⟨a, e, h⟩ => ?_)
  · subst e; exact step i d a hd h
  · subst e; exact last a h
end
end DL

namespace DL
open PySem L2

/-! ### a < b < c -/
def chE (g g' : D → D → Option D) (a b c : VM) : EM := fun η => match a η with
  | some (η1, pa) => match b η1 with
    | some (η2, pb) => match pa η2, pb η2 with
      | some x, some y => match g x y with
        | some (.bl true) => match c η2 with
          | some (η3, pc) => match pb η3, pc η3 with
            | some y', some w => match g' y' w with
              | some z => some (z, η3)
              | none => none
            | _, _ => none
          | none => none
        | some (.bl false) => some (.bl false, η2)
        | _ => none
      | _, _ => none
    | none => none
  | none => none
theorem chE_inv {g g' : D → D → Option D} {a b c : VM} {η : Env} {z : D} {η' : Env} (h : chE g g' a b c η = some (z, η')) :
    ∃ η1 η2 pa pb x y, a η = some (η1, pa) ∧ b η1 = some (η2, pb) ∧ pa η2 = some x ∧ pb η2 = some y ∧
      ((g x y = some (.bl true) ∧ ∃ pc y' w, c η2 = some (η', pc) ∧ pb η' = some y' ∧ pc η' = some w ∧ g' y' w = some z) ∨ (g x y = some (.bl false) ∧ z = .bl false ∧ η' = η2)) := by
  unfold chE at h
  split at h
  · next η1 pa h1 =>
    split at h
    · next η2 pb h2 =>
      split at h
      · next x y h3 h4 =>
        split at h
        · next h5 =>
          split at h
          · next η3 pc h6 =>
            split at h
            · next y' w' h7 h8 =>
              split at h
              · next z' h9 => cases h; exact ⟨η1, η2, pa, pb, x, y, h1, h2, h3, h4, .inl ⟨h5, pc, y', w', h6, h7, h8, h9⟩⟩
              · cases h
            · cases h
          · cases h
        · next h5 => cases h; exact ⟨η1, _, pa, pb, x, y, h1, h2, h3, h4, .inr ⟨h5, rfl, rfl⟩⟩
        · cases h
      · cases h
    · cases h
  · cases h
section
variable {X : Cx} {a b c : Expr} {op op' : CmpOp} {g g' : D → D → Option D} {ma mb mc : VM} {pos : Pos}
theorem chain_read {K : Gd} (σ : L2.St) (H : Hp) (Q : VK) (h : tD K (chE g g' ma mb mc) σ H Q) : tChain (rOp K g) (rOp K g') (tV K ma) (tV K mb) (tV K mc) σ H Q := by
  obtain ⟨B, F, Z, η, d, η', ok, hm, q⟩ := h
  obtain ⟨η1, η2, pa, pb, x, y, h1, h2, h3, h4, h5⟩ := chE_inv hm
  refine ⟨B, F, Z, η, η1, pa, ok, h1, fun va H1 F1 s1 ok1 ra => ⟨B, F1, Z, η1, η2, pb, ok1, h2, fun vb H2 F2 s2 ok2 rb => ?_⟩⟩
  have vx := ra F2 η2 H2 x s2 ok2 h3
  have vy := rb F2 η2 H2 y (Same.refl _) ok2 h4
  rcases h5 with ⟨h5, pc, y', w', h6, h7, h8, h9⟩ | ⟨h5, rfl, rfl⟩
  · refine ⟨x, y, .bl true, F2, ok2.ff, h5, vx, vy, fun v F3 H3 rs rv => ?_⟩
    cases rv
    refine ⟨true, rfl, ?_⟩
    rw [if_pos rfl]
    obtain ⟨ok3, s3⟩ := ok2.res rs
    refine ⟨B, F3, Z, η2, η', pc, ok3, h6, fun vc H4 F4 s4 ok4 rc => ?_⟩
    refine ⟨y', w', d, F4, ok4.ff, h9, rb F4 η' H4 y' (s3.trans s4) ok4 h7, rc F4 η' H4 w' (Same.refl _) ok4 h8, fun v F5 H5 rs5 rv5 => ?_⟩
    obtain ⟨ok5, s5⟩ := ok4.res rs5
    exact q _ _ _ ((((s1.trans s2).trans s3).trans s4).trans s5) ok5 rv5
  · refine ⟨x, y, .bl false, F2, ok2.ff, h5, vx, vy, fun v F3 H3 rs rv => ?_⟩
    cases rv
    refine ⟨false, rfl, ?_⟩
    rw [if_neg (by decide)]
    obtain ⟨ok3, s3⟩ := ok2.res rs
    exact q _ _ _ ((s1.trans s2).trans s3) ok3 (.bl false)
theorem pd_chain (ho : OpR X (compareOp op) (rOp X.G g)) (ho' : OpR X (compareOp op') (rOp X.G g')) (ha : PE X a (tV X.G ma)) (hb : PE X b (tV X.G mb)) (hc : PE X c (tV X.G mc))
    (hm : lastMarks [op, op'] [b, c] = false := by with_unfolding_all rfl) : PE X (.Compare a [op, op'] [b, c] pos) (tD X.G (chE g g' ma mb mc)) := weakE (pe_chain ho ho' ha hb hc hm) chain_read
theorem pb_chain (ho : OpR X (compareOp op) (rOp X.G g)) (ho' : OpR X (compareOp op') (rOp X.G g')) (ha : PE X a (tV X.G ma)) (hb : PE X b (tV X.G mb)) (hc : PE X c (tV X.G mc))
    (hm : lastMarks [op, op'] [b, c] = false := by with_unfolding_all rfl) : PT X (.Compare a [op, op'] [b, c] pos) (tBt X.G (boolD (chE g g' ma mb mc))) := weakT (pt_chain ho ho' ha hb hc hm) fun σ H Q h => tB_D σ H Q (fun Q' => chain_read σ H Q') h
end
def chE_k3 (g' : D → D → Option D) (Q : D → Env → Prop) (pb : Env → Option D) : (Env → Option D) → Env → Prop := fun pc η => wO (pb η) fun y => wO (pc η) fun w => wO (g' y w) fun z => Q z η
def chE_k2 (g g' : D → D → Option D) (c : VM) (Q : D → Env → Prop) (pa : Env → Option D) : (Env → Option D) → Env → Prop := fun pb η => wO (pa η) fun x => wO (pb η) fun y => wO (g x y) fun z => andK z (wV c η (chE_k3 g' Q pb)) (Q (.bl false) η)
def chE_k1 (g g' : D → D → Option D) (b c : VM) (Q : D → Env → Prop) : (Env → Option D) → Env → Prop := fun pa η => wV b η (chE_k2 g g' c Q pa)
section
variable {η : Env} {g g' : D → D → Option D} {a b c : VM} {Q : D → Env → Prop} {pa pb pc : Env → Option D}
@[simp] theorem chE_k3_eq : chE_k3 g' Q pb pc η = wO (pb η) fun y => wO (pc η) fun w => wO (g' y w) fun z => Q z η := propext Iff.rfl
@[simp] theorem chE_k2_eq : chE_k2 g g' c Q pa pb η = wO (pa η) fun x => wO (pb η) fun y => wO (g x y) fun z => andK z (wV c η (chE_k3 g' Q pb)) (Q (.bl false) η) := propext Iff.rfl
@[simp] theorem chE_k1_eq : chE_k1 g g' b c Q pa η = wV b η (chE_k2 g g' c Q pa) := propext Iff.rfl
@[simp] theorem wE_chE : wE (chE g g' a b c) η Q = wV a η (chE_k1 g g' b c Q) := by
  unfold wE chE wV chE_k1 chE_k2 chE_k3 wV
  rcases a η with _ | ⟨η1, pa⟩
  · rfl
  dsimp only
  rcases b η1 with _ | ⟨η2, pb⟩
  · rfl
  dsimp only
  rcases pa η2 with _ | x
  · rfl
  rcases pb η2 with _ | y
  · rfl
  dsimp only [wO_some]
  rcases g x y with _ | z
  · rfl
  cases z <;> try rfl
  next t =>
    cases t
    · rfl
    · dsimp only [wO_some, andK]
      rcases c η2 with _ | ⟨η3, pc⟩
      · rfl
      dsimp only
      rcases pb η3 with _ | y'
      · rfl
      rcases pc η3 with _ | w'
      · rfl
      dsimp only [wO_some]
      rcases g' y' w' with _ | z <;> rfl
end
end DL

namespace DL
open PySem L2

/-! ### d.get(k), d.get(k, x) -/
section
variable {X : Cx} {pins : List (Addr × Obj)} {σ : L2.St} {H F : Hp} {s : Shared} {A : Around} {E : Value → Shared → Prop} {a : Addr} {es : Array DictEntry} {ep : Nat} {ds : List (D × D)} {k : D} {y x : V} {u r' : Value}
theorem dd_get1 {o : Option D} {Q : Value → Shared → Prop} (hu : A.units + 10 < cLine) (I : Inv X pins σ H s) (e : Same F H) (h : H a = some (rawD a es ep)) (r : RepKV X.G F ds es.toList) (nd : (ds.map fun p => keyN p.1).Nodup)
    (rk : Rep X.G F k y) (ry : RelV y u) (g : getD' ds k = some o) (hq : ∀ v w' s', Inv X pins σ H s' → Rep X.G F (o.getD .non) v → RelV v w' → Q w' s') : wpAny (model X.prog X.w) A (call (.builtin "dict.get") [.ref a, u]) Q E s := by
  have hS := (rawD_at I h).2.1
  unfold getD' at g
  split at g
  · next hh =>
    have gl : lookD ds k = o := Option.some.inj g
    rcases homog_cases hh with ⟨hk, hh⟩ | hh
    · obtain ⟨kvs, q1, dd⟩ := dictS I e h r nd hh
      have ql := RS.look hk q1
      have ey := scal_rep hk rk
      subst ey
      rw [gl] at ql
      cases o with
      | none => exact call_meetsIn PySem.F.slot_dict_get dd.typeIs PySem.F.entry_dict_get (PySem.F.args_dict_get_2 _ _) (meets_dict_get (mixKind X.prog X.w) a (kV_is ry) hS) ⟨_, dd.mapOf, by rw [ql]; exact hq .non _ _ (I.tok _) .non rfl⟩
      | some d =>
        obtain ⟨v, w', e1, r1, r2⟩ := ql
        exact call_meetsIn PySem.F.slot_dict_get dd.typeIs PySem.F.entry_dict_get (PySem.F.args_dict_get_2 _ _) (meets_dict_get (mixKind X.prog X.w) a (kV_is ry) hS) ⟨_, dd.mapOf, by rw [e1]; exact hq v _ _ (I.tok _) r1 r2⟩
    · obtain ⟨xs, q1, dd⟩ := dictT I e h r nd hh.2
      obtain ⟨ys, n, rfl, en, hd⟩ := tupK_inv hh.1
      have ql := RT.look en q1
      rw [gl] at ql
      obtain ⟨b, rfl⟩ := tup_ref rk
      cases (show u = Value.ref b from ry)
      have room : (nestedKind X.prog X.w).room A.in1 := by show A.units + 1 + 8 < cLine; omega
      cases o with
      | none => exact call_meetsIn PySem.F.slot_dict_get dd.typeIs PySem.F.entry_dict_get (PySem.F.args_dict_get_2 _ _) (meetsH_dict_get (nestedKind X.prog X.w) a b hS) ⟨room, n, xs, ⟨Rep.nested I e _ _ _ _ en rk rfl, hd⟩, dd, by rw [ql]; exact hq .non _ _ (I.tok _) .non rfl⟩
      | some d =>
        obtain ⟨v, p, e1, r1, r2⟩ := ql
        exact call_meetsIn PySem.F.slot_dict_get dd.typeIs PySem.F.entry_dict_get (PySem.F.args_dict_get_2 _ _) (meetsH_dict_get (nestedKind X.prog X.w) a b hS) ⟨room, n, xs, ⟨Rep.nested I e _ _ _ _ en rk rfl, hd⟩, dd, by rw [e1]; exact hq v _ _ (I.tok _) r1 r2⟩
  · split at g
    · next hm =>
      have gl : lookD ds k = o := Option.some.inj g
      obtain ⟨⟨n, hn, h8⟩, hns, hall⟩ := mixB_inv hm
      obtain ⟨⟨ob, ho, hx, hd⟩, _, _⟩ := rawD_at I h
      refine getM_mix (x := .none) (more := []) (.inl ⟨rfl, rfl⟩) (by omega) hS hx (Rep.nested I e _ _ _ _ hn rk ry) h8 (noStr_val hns rk ry) ho hd (RepKV.entK I e r hall) (nsOf_nodup hall nd) (fun q => ?_) fun j en hj hen => ?_
      · rw [(look_not hall hn q).1] at gl
        subst gl
        exact hq .non _ _ (I.tok _) .non rfl
      · obtain ⟨p, h3, h4⟩ := nsOf_at hall hj
        rw [look_at (k := k) nd h3 (by rw [h4, hn])] at gl
        subst gl
        rw [← Array.getElem?_toList] at hen
        obtain ⟨_, v, q1, q2⟩ := RepKV.entL I e r j en p hen h3
        exact hq v _ _ (I.tok _) q1 q2
    · cases g
theorem dd_get2 {o : Option D} {d : D} {Q : Value → Shared → Prop} (hu : A.units + 10 < cLine) (I : Inv X pins σ H s) (e : Same F H) (h : H a = some (rawD a es ep)) (r : RepKV X.G F ds es.toList) (nd : (ds.map fun p => keyN p.1).Nodup)
    (rk : Rep X.G F k y) (ry : RelV y u) (rd : Rep X.G F d x) (rx : RelV x r') (g : getD' ds k = some o) (hq : ∀ v w' s', Inv X pins σ H s' → Rep X.G F (o.getD d) v → RelV v w' → Q w' s') : wpAny (model X.prog X.w) A (call (.builtin "dict.get") [.ref a, u, r']) Q E s := by
  have hS := (rawD_at I h).2.1
  unfold getD' at g
  split at g
  · next hh =>
    have gl : lookD ds k = o := Option.some.inj g
    rcases homog_cases hh with ⟨hk, hh⟩ | hh
    · obtain ⟨kvs, q1, dd⟩ := dictS I e h r nd hh
      have ql := RS.look hk q1
      have ey := scal_rep hk rk
      subst ey
      rw [gl] at ql
      cases o with
      | none => exact call_meetsIn PySem.F.slot_dict_get dd.typeIs PySem.F.entry_dict_get (PySem.F.args_dict_get_3 _ _ _) (meets_dict_get_default (mixKind X.prog X.w) a (kV_is ry) hS r') ⟨_, dd.mapOf, by rw [ql]; exact hq x _ _ (I.tok _) rd rx⟩
      | some d =>
        obtain ⟨v, w', e1, r1, r2⟩ := ql
        exact call_meetsIn PySem.F.slot_dict_get dd.typeIs PySem.F.entry_dict_get (PySem.F.args_dict_get_3 _ _ _) (meets_dict_get_default (mixKind X.prog X.w) a (kV_is ry) hS r') ⟨_, dd.mapOf, by rw [e1]; exact hq v _ _ (I.tok _) r1 r2⟩
    · obtain ⟨xs, q1, dd⟩ := dictT I e h r nd hh.2
      obtain ⟨ys, n, rfl, en, hd⟩ := tupK_inv hh.1
      have ql := RT.look en q1
      rw [gl] at ql
      obtain ⟨b, rfl⟩ := tup_ref rk
      cases (show u = Value.ref b from ry)
      have room : (nestedKind X.prog X.w).room A.in1 := by show A.units + 1 + 8 < cLine; omega
      cases o with
      | none => exact call_meetsIn PySem.F.slot_dict_get dd.typeIs PySem.F.entry_dict_get (PySem.F.args_dict_get_3 _ _ _) (meetsH_dict_get_default (nestedKind X.prog X.w) a b hS r') ⟨room, n, xs, ⟨Rep.nested I e _ _ _ _ en rk rfl, hd⟩, dd, by rw [ql]; exact hq x _ _ (I.tok _) rd rx⟩
      | some d =>
        obtain ⟨v, p, e1, r1, r2⟩ := ql
        exact call_meetsIn PySem.F.slot_dict_get dd.typeIs PySem.F.entry_dict_get (PySem.F.args_dict_get_3 _ _ _) (meetsH_dict_get_default (nestedKind X.prog X.w) a b hS r') ⟨room, n, xs, ⟨Rep.nested I e _ _ _ _ en rk rfl, hd⟩, dd, by rw [e1]; exact hq v _ _ (I.tok _) r1 r2⟩
  · split at g
    · next hm =>
      have gl : lookD ds k = o := Option.some.inj g
      obtain ⟨⟨n, hn, h8⟩, hns, hall⟩ := mixB_inv hm
      obtain ⟨⟨ob, ho, hx, hd⟩, _, _⟩ := rawD_at I h
      refine getM_mix (x := r') (more := [r']) (.inr rfl) (by omega) hS hx (Rep.nested I e _ _ _ _ hn rk ry) h8 (noStr_val hns rk ry) ho hd (RepKV.entK I e r hall) (nsOf_nodup hall nd) (fun q => ?_) fun j en hj hen => ?_
      · rw [(look_not hall hn q).1] at gl
        subst gl
        exact hq x _ _ (I.tok _) rd rx
      · obtain ⟨p, h3, h4⟩ := nsOf_at hall hj
        rw [look_at (k := k) nd h3 (by rw [h4, hn])] at gl
        subst gl
        rw [← Array.getElem?_toList] at hen
        obtain ⟨_, v, q1, q2⟩ := RepKV.entL I e r j en p hen h3
        exact hq v _ _ (I.tok _) q1 q2
    · cases g
end
def isDic : D → Bool
  | .dic _ => true
  | _ => false
def dicG (x : D) (k d : D) : Option D := match x with
  | .dic kvs => match getD' kvs k with
    | some o => some (o.getD d)
    | none => none
  | _ => none
def get1E (a : VM) (k : EM) : EM := fun η => match a η with
  | some (η1, pa) => match pa η1 with
    | some x0 => if isDic x0 = true then match k η1 with
      | some (dk, η2) => match pa η2 with
        | some x => match dicG x dk .non with
          | some d => some (d, η2)
          | none => none
        | none => none
      | none => none
      else none
    | none => none
  | none => none
def get2E (a : VM) (k x : EM) : EM := fun η => match a η with
  | some (η1, pa) => match pa η1 with
    | some x0 => if isDic x0 = true then match k η1 with
      | some (dk, η2) => match x η2 with
        | some (dx, η3) => match pa η3 with
          | some x => match dicG x dk dx with
            | some d => some (d, η3)
            | none => none
          | none => none
        | none => none
      | none => none
      else none
    | none => none
  | none => none
section
variable {X : Cx} {o e f : Expr} {apos cpos : Pos} {ma : VM} {mk mx : EM}
theorem dic_type {pins : List (Addr × Obj)} {σ : L2.St} {H : Hp} {s : Shared} {a : Addr} {es : Array DictEntry} {ep : Nat} (I : Inv X pins σ H s) (h : H a = some (rawD a es ep)) : s.TypeIs (.ref a) "dict" ∧ ∀ b, Value.ref a = .ref b → ∃ ob, s.heap.get? b = some ob ∧ ob.dict = none := by
  obtain ⟨ho, _, _⟩ := rawD_at I h
  have raw : s.heap.DictRaw a es ep := ho
  refine ⟨raw.typeIs, fun b q => ?_⟩
  cases q
  obtain ⟨ob, h1, h2, _⟩ := ho
  exact ⟨ob, h1, h2.2.1⟩
theorem isDic_inv {x : D} (h : isDic x = true) : ∃ kvs, x = .dic kvs := by cases x <;> first | exact ⟨_, rfl⟩ | (simp [isDic] at h)
theorem pd_get1 (hu : X.A.units + 64 < cLine) (ho : PE X o (tV X.G ma)) (he : PE X e (tD X.G mk)) (m : M1 X o "get" apos e cpos := by exact ⟨rfl, rfl, rfl, rfl⟩) : PE X (.Call (.Attribute o "get" apos) [e] [] cpos) (tD X.G (get1E ma mk)) := by
  refine ⟨fun pins s σ H Q I ⟨B, F, Z, η, d, η', ok, hm, q⟩ => ?_⟩
  unfold get1E at hm
  split at hm
  · next η1 pa h1 =>
    split at hm
    · next x0 h2 =>
      split at hm
      · next h3 =>
        split at hm
        · next dk η2 h4 =>
          split at hm
          · next x h5 =>
            split at hm
            · next d' h6 =>
              cases hm
              refine wpAny_Call_method m.base m.few m.line PySem.F.plainAttrs_dict PySem.F.slot_dict_get PySem.F.type_dict_get (thn (ho.run pins s σ H (fun v H1 => ∃ F1, Same F F1 ∧ Ok X.G B F1 Z η1 σ H1 ∧ ∀ (F2 : Hp) (η2 : Env) (H2 : Hp) (d : D), Same F1 F2 → Ok X.G B F2 Z η2 σ H2 → pa η2 = some d → View X.G F2 H2 d v) I ⟨B, F, Z, η, η1, pa, ok, h1, fun v H1 F1 s1 ok1 r1 => ⟨F1, s1, ok1, r1⟩⟩) fun u s1 ⟨v, H1, I1, rv, F1, sm1, ok1, r1⟩ => ?_)
              obtain ⟨kv0, rfl⟩ := isDic_inv h3
              obtain ⟨p, es, ep, rfl, hp, _, _⟩ := (r1 F1 η1 H1 _ (Same.refl _) ok1 h2).dic ok1.ff
              obtain rfl : u = Value.ref p := rv
              obtain ⟨t1, t2⟩ := dic_type I1 hp
              refine ⟨t1, t2, ?_⟩
              rw [m.trees]
              refine Calls.callWith_builtin rfl (Calls.evalArgs_plain (Calls.spliced_cons (thn (he.run pins s1 σ H1 (fun v H2 => ∃ F2, Same F1 F2 ∧ Ok X.G B F2 Z _ σ H2 ∧ Rep X.G F2 dk v) I1 ⟨B, F1, Z, η1, dk, _, ok1, h4, fun v H2 F2 s2 ok2 r2 => ⟨F2, s2, ok2, r2⟩⟩) fun iv s2 ⟨y, H2, I2, ry, F2, sm2, ok2, r2⟩ => Calls.spliced_nil ?_)))
              have vx := r1 F2 _ H2 x sm2 ok2 h5
              unfold dicG at h6
              split at h6
              · next kvs =>
                split at h6
                · next o' h7 =>
                  cases h6
                  obtain ⟨p', es', ep', hpe, hp', hr', nd'⟩ := vx.dic ok2.ff
                  cases hpe
                  exact dd_get1 (by show X.A.units + 10 < cLine; omega) I2 ok2.ff hp' hr' nd' r2 ry h7 fun v w' s3 I3 r3 r4 => ⟨v, H2, I3, r4, q v H2 F2 (sm1.trans sm2) ok2 r3⟩
                · cases h6
              · cases h6
            · cases hm
          · cases hm
        · cases hm
      · cases hm
    · cases hm
  · cases hm
theorem pd_get2 (hu : X.A.units + 64 < cLine) (ho : PE X o (tV X.G ma)) (he : PE X e (tD X.G mk)) (hf : PE X f (tD X.G mx)) (m : M2 X o "get" apos e f cpos := by exact ⟨rfl, rfl, rfl, rfl⟩) : PE X (.Call (.Attribute o "get" apos) [e, f] [] cpos) (tD X.G (get2E ma mk mx)) := by
  refine ⟨fun pins s σ H Q I ⟨B, F, Z, η, d, η', ok, hm, q⟩ => ?_⟩
  unfold get2E at hm
  split at hm
  · next η1 pa h1 =>
    split at hm
    · next x0 h2 =>
      split at hm
      · next h3 =>
        split at hm
        · next dk η2 h4 =>
          split at hm
          · next dx η3 h8 =>
            split at hm
            · next x h5 =>
              split at hm
              · next d' h6 =>
                cases hm
                refine wpAny_Call_method m.base m.few m.line PySem.F.plainAttrs_dict PySem.F.slot_dict_get PySem.F.type_dict_get (thn (ho.run pins s σ H (fun v H1 => ∃ F1, Same F F1 ∧ Ok X.G B F1 Z η1 σ H1 ∧ ∀ (F2 : Hp) (η2 : Env) (H2 : Hp) (d : D), Same F1 F2 → Ok X.G B F2 Z η2 σ H2 → pa η2 = some d → View X.G F2 H2 d v) I ⟨B, F, Z, η, η1, pa, ok, h1, fun v H1 F1 s1 ok1 r1 => ⟨F1, s1, ok1, r1⟩⟩) fun u s1 ⟨v, H1, I1, rv, F1, sm1, ok1, r1⟩ => ?_)
                obtain ⟨kv0, rfl⟩ := isDic_inv h3
                obtain ⟨p, es, ep, rfl, hp, _, _⟩ := (r1 F1 η1 H1 _ (Same.refl _) ok1 h2).dic ok1.ff
                obtain rfl : u = Value.ref p := rv
                obtain ⟨t1, t2⟩ := dic_type I1 hp
                refine ⟨t1, t2, ?_⟩
                rw [m.trees]
                refine Calls.callWith_builtin rfl (Calls.evalArgs_plain (Calls.spliced_cons (thn (he.run pins s1 σ H1 (fun v H2 => ∃ F2, Same F1 F2 ∧ Ok X.G B F2 Z η2 σ H2 ∧ Rep X.G F2 dk v) I1 ⟨B, F1, Z, η1, dk, _, ok1, h4, fun v H2 F2 s2 ok2 r2 => ⟨F2, s2, ok2, r2⟩⟩) fun iv s2 ⟨y, H2, I2, ry, F2, sm2, ok2, r2⟩ => Calls.spliced_cons (thn (hf.run pins s2 σ H2 (fun v H3 => ∃ F3, Same F2 F3 ∧ Ok X.G B F3 Z _ σ H3 ∧ Rep X.G F3 dx v) I2 ⟨B, F2, Z, η2, dx, _, ok2, h8, fun v H3 F3 s3 ok3 r3 => ⟨F3, s3, ok3, r3⟩⟩) fun iv3 s3 ⟨y3, H3, I3, ry3, F3, sm3, ok3, r3⟩ => Calls.spliced_nil ?_))))
                have vx := r1 F3 _ H3 x (sm2.trans sm3) ok3 h5
                unfold dicG at h6
                split at h6
                · next kvs =>
                  split at h6
                  · next o' h7 =>
                    cases h6
                    obtain ⟨p', es', ep', hpe, hp', hr', nd'⟩ := vx.dic ok3.ff
                    cases hpe
                    exact dd_get2 (by show X.A.units + 10 < cLine; omega) I3 ok3.ff hp' hr' nd' (r2.mono sm3) ry r3 ry3 h7 fun v w' s4 I4 r4 r5 => ⟨v, H3, I4, r5, q v H3 F3 ((sm1.trans sm2).trans sm3) ok3 r4⟩
                  · cases h6
                · cases h6
              · cases hm
            · cases hm
          · cases hm
        · cases hm
      · cases hm
    · cases hm
  · cases hm
end
def get1_k2 (Q : D → Env → Prop) (pa : Env → Option D) : D → Env → Prop := fun dk η => wO (pa η) fun x => wO (dicG x dk .non) fun d => Q d η
def get1_k1 (k : EM) (Q : D → Env → Prop) : (Env → Option D) → Env → Prop := fun pa η => wO (pa η) fun x => isDic x = true ∧ wE k η (get1_k2 Q pa)
def get2_k3 (Q : D → Env → Prop) (pa : Env → Option D) (dk : D) : D → Env → Prop := fun dx η => wO (pa η) fun x => wO (dicG x dk dx) fun d => Q d η
def get2_k2 (x : EM) (Q : D → Env → Prop) (pa : Env → Option D) : D → Env → Prop := fun dk η => wE x η (get2_k3 Q pa dk)
def get2_k1 (k x : EM) (Q : D → Env → Prop) : (Env → Option D) → Env → Prop := fun pa η => wO (pa η) fun y => isDic y = true ∧ wE k η (get2_k2 x Q pa)
section
variable {η : Env} {a : VM} {k x : EM} {Q : D → Env → Prop} {pa : Env → Option D} {dk dx : D}
@[simp] theorem get1_k2_eq : get1_k2 Q pa dk η = wO (pa η) fun x => wO (dicG x dk .non) fun d => Q d η := propext Iff.rfl
@[simp] theorem get1_k1_eq : get1_k1 k Q pa η = wO (pa η) fun x => isDic x = true ∧ wE k η (get1_k2 Q pa) := propext Iff.rfl
@[simp] theorem get2_k3_eq : get2_k3 Q pa dk dx η = wO (pa η) fun x => wO (dicG x dk dx) fun d => Q d η := propext Iff.rfl
@[simp] theorem get2_k2_eq : get2_k2 x Q pa dk η = wE x η (get2_k3 Q pa dk) := propext Iff.rfl
@[simp] theorem get2_k1_eq : get2_k1 k x Q pa η = wO (pa η) fun y => isDic y = true ∧ wE k η (get2_k2 x Q pa) := propext Iff.rfl
@[simp] theorem isDic_dic {kvs : List (D × D)} : isDic (.dic kvs) = true := rfl
theorem dicG_dic {kvs : List (D × D)} {d : D} (h : homog dk kvs = true) : dicG (.dic kvs) dk d = some ((lookD kvs dk).getD d) := by
  show (match getD' kvs dk with | some o => some (o.getD d) | none => none) = _
  unfold getD'
  rw [if_pos h]
@[simp] theorem wE_get1E : wE (get1E a k) η Q = wV a η (get1_k1 k Q) := by
  unfold wE get1E wV get1_k1 get1_k2 wE
  rcases a η with _ | ⟨η1, pa⟩
  · rfl
  dsimp only
  rcases pa η1 with _ | x0
  · rfl
  dsimp only [wO_some]
  by_cases h : isDic x0 = true
  · rw [if_pos h, eq_true h, true_and]
    rcases k η1 with _ | ⟨dk, η2⟩
    · rfl
    dsimp only
    rcases pa η2 with _ | x
    · rfl
    dsimp only [wO_some]
    rcases dicG x dk .non with _ | d <;> rfl
  · rw [if_neg h, eq_false h, false_and]
@[simp] theorem wE_get2E : wE (get2E a k x) η Q = wV a η (get2_k1 k x Q) := by
  unfold wE get2E wV get2_k1 get2_k2 get2_k3 wE
  rcases a η with _ | ⟨η1, pa⟩
  · rfl
  dsimp only
  rcases pa η1 with _ | x0
  · rfl
  dsimp only [wO_some]
  by_cases h : isDic x0 = true
  · rw [if_pos h, eq_true h, true_and]
    rcases k η1 with _ | ⟨dk, η2⟩
    · rfl
    dsimp only
    rcases x η2 with _ | ⟨dx, η3⟩
    · rfl
    dsimp only
    rcases pa η3 with _ | y
    · rfl
    dsimp only [wO_some]
    rcases dicG y dk dx with _ | d <;> rfl
  · rw [if_neg h, eq_false h, false_and]
end
end DL

namespace DL
open PySem L2

/-! ### max(xs), min(xs) of ints -/
def bestG (f : Int → Int → Int) : List D → Option D
  | [.lst xs] => match intsD xs with
    | some (n :: ns) => some (.int (ns.foldl f n))
    | _ => none
  | [.tup xs] => match intsD xs with
    | some (n :: ns) => some (.int (ns.foldl f n))
    | _ => none
  | _ => none
theorem reads_int {h : Heap} {v : Value} {m : Int} {bs : List Addr} (r : Reads h v (.int m) bs) : ∃ t, v = .int m t := by
  cases r with | int _ t => exact ⟨t, rfl⟩
theorem alike_ints (l : List Int) : PySem.W.AlikeAll (l.map PyData.int) := ⟨fun x hx y hy => by
  obtain ⟨a, _, rfl⟩ := List.mem_map.mp hx
  obtain ⟨b, _, rfl⟩ := List.mem_map.mp hy
  rfl, fun x hx => by
  obtain ⟨a, _, rfl⟩ := List.mem_map.mp hx
  intro z; cases z⟩
theorem toPys_ints : ∀ l : List Int, toPys (l.map D.int) = l.map PyData.int
  | [] => rfl
  | a :: l => by rw [List.map_cons, toPys, toPys_ints l]; rfl
section
variable {X : Cx}
theorem ints_reads {pins : List (Addr × Obj)} {σ : L2.St} {H F : Hp} {s : Shared} (I : Inv X pins σ H s) (sm : Same F H) {l : List Int} {ws : List V} {its : List Value} (hr : RepL X.G F (l.map D.int) ws) (rv : Vals ws its) :
    ∃ as, ReadsAll s.heap its (l.map PyData.int) as ∧ PyData.depthAll (l.map PyData.int) ≤ 58 := by
  have ok : okDs 58 (l.map D.int) = true := okDs_all.mpr fun x hx => by obtain ⟨a, _, rfl⟩ := List.mem_map.mp hx; simp [okD]
  have h := okDs_py 58 (l.map D.int) ok
  obtain ⟨as, r⟩ := RepL.reads I sm (l.map D.int) ws its h.1 hr rv
  rw [toPys_ints] at r h
  exact ⟨as, r, h.2⟩
theorem b_max1 (hc : X.calm = true) (hu : X.A.units + 64 < cLine) : CallR X (.builtin "max") (rL X.G (bestG max)) := by
  intro pins s σ H vs us Q I rv h
  obtain ⟨ds, d, F, sm, r, e, q⟩ := h
  unfold bestG at e
  split at e
  · next xs =>
    split at e
    · next n ns hi =>
      cases e
      rw [intsD_inv hi] at r
      obtain ⟨v, rfl, hv⟩ := r.inv1
      obtain ⟨a, ws, rfl, ha, hr⟩ := hv.lst sm
      obtain ⟨u, rfl, ru⟩ := vals1 rv
      cases ru
      obtain ⟨its, rs, pl, _⟩ := I.list (SqL.of ha)
      obtain ⟨as, ra, hd⟩ := ints_reads I sm hr rs
      refine PySem.W.max_list_data (I.ok.hd hc) pl.isList ra (alike_ints (n :: ns)) (by show X.A.units + 1 + PyData.depthAll ((n :: ns).map PyData.int) < cLine; omega) fun i v h' tk bs _ hrd hk => ?_
      rw [PySem.W.maxD_ints] at hrd
      obtain ⟨t, rfl⟩ := reads_int hrd
      exact ⟨.int _, H, I.kept hk, ⟨_, rfl⟩, q _ _ _ Res.same (.int _)⟩
    · cases e
  · next xs =>
    split at e
    · next n ns hi =>
      cases e
      rw [intsD_inv hi] at r
      obtain ⟨v, rfl, hv⟩ := r.inv1
      obtain ⟨a, ws, rfl, ha, hr⟩ := hv.tup sm
      obtain ⟨u, rfl, ru⟩ := vals1 rv
      cases ru
      obtain ⟨its, rs, pl, _⟩ := I.tuple ha
      obtain ⟨as, ra, hd⟩ := ints_reads I sm hr rs
      refine PySem.W.max_tuple_data (I.ok.hd hc) pl ra (alike_ints (n :: ns)) (by show X.A.units + 1 + PyData.depthAll ((n :: ns).map PyData.int) < cLine; omega) fun i v h' tk bs _ hrd hk => ?_
      rw [PySem.W.maxD_ints] at hrd
      obtain ⟨t, rfl⟩ := reads_int hrd
      exact ⟨.int _, H, I.kept hk, ⟨_, rfl⟩, q _ _ _ Res.same (.int _)⟩
    · cases e
  · cases e
theorem b_min1 (hc : X.calm = true) (hu : X.A.units + 64 < cLine) : CallR X (.builtin "min") (rL X.G (bestG min)) := by
  intro pins s σ H vs us Q I rv h
  obtain ⟨ds, d, F, sm, r, e, q⟩ := h
  unfold bestG at e
  split at e
  · next xs =>
    split at e
    · next n ns hi =>
      cases e
      rw [intsD_inv hi] at r
      obtain ⟨v, rfl, hv⟩ := r.inv1
      obtain ⟨a, ws, rfl, ha, hr⟩ := hv.lst sm
      obtain ⟨u, rfl, ru⟩ := vals1 rv
      cases ru
      obtain ⟨its, rs, pl, _⟩ := I.list (SqL.of ha)
      obtain ⟨as, ra, hd⟩ := ints_reads I sm hr rs
      refine PySem.W.min_list_data (I.ok.hd hc) pl.isList ra (alike_ints (n :: ns)) (by show X.A.units + 1 + PyData.depthAll ((n :: ns).map PyData.int) < cLine; omega) fun i v h' tk bs _ hrd hk => ?_
      rw [PySem.W.minD_ints] at hrd
      obtain ⟨t, rfl⟩ := reads_int hrd
      exact ⟨.int _, H, I.kept hk, ⟨_, rfl⟩, q _ _ _ Res.same (.int _)⟩
    · cases e
  · next xs =>
    split at e
    · next n ns hi =>
      cases e
      rw [intsD_inv hi] at r
      obtain ⟨v, rfl, hv⟩ := r.inv1
      obtain ⟨a, ws, rfl, ha, hr⟩ := hv.tup sm
      obtain ⟨u, rfl, ru⟩ := vals1 rv
      cases ru
      obtain ⟨its, rs, pl, _⟩ := I.tuple ha
      obtain ⟨as, ra, hd⟩ := ints_reads I sm hr rs
      refine PySem.W.min_tuple_data (I.ok.hd hc) pl ra (alike_ints (n :: ns)) (by show X.A.units + 1 + PyData.depthAll ((n :: ns).map PyData.int) < cLine; omega) fun i v h' tk bs _ hrd hk => ?_
      rw [PySem.W.minD_ints] at hrd
      obtain ⟨t, rfl⟩ := reads_int hrd
      exact ⟨.int _, H, I.kept hk, ⟨_, rfl⟩, q _ _ _ Res.same (.int _)⟩
    · cases e
  · cases e
end
end DL

namespace DL
open PySem L2

/-! ### xs.index(x) of a list -/
def rIx (K : Gd) : V → List V → Hp → VK → Prop := fun x xs H Q => ∃ (a : Addr) (vys : List V) (y : V) (ys : List D) (d : D) (F : Hp) (j : Nat), x = .ref a ∧ xs = [y] ∧ Same F H ∧ H a = some (.lst vys) ∧ RepL K F ys vys ∧ Rep K F d y ∧
  okDs 58 ys = true ∧ okD 58 d = true ∧ ys.findIdx? (fun z => eqb z d) = some j ∧ Q (.int (j : Nat)) H
def placeE (a : VM) (k : EM) : EM := fun η => match a η with
  | some (η1, pa) => match pa η1 with
    | some (.lst _) => match k η1 with
      | some (dk, η2) => match pa η2 with
        | some (.lst xs) => if okDs 58 xs = true ∧ okD 58 dk = true then match xs.findIdx? (fun z => eqb z dk) with
          | some j => some (.int (j : Nat), η2)
          | none => none
          else none
        | _ => none
      | none => none
    | _ => none
  | none => none
section
variable {X : Cx} {o e : Expr} {apos cpos : Pos} {ma : VM} {mk : EM}
theorem mt_ix (hu : X.A.units + 64 < cLine) : MtR X "list.index" (rIx X.G) := by
  intro pins s σ H x xs v us Q I rx rxs h
  obtain ⟨a, vys, y, ys, d, F, j, rfl, rfl, sm, ha, hr, rd, ok1, ok2, hf, q⟩ := h
  cases rx
  obtain ⟨uy, rfl, ry⟩ := vals1 rxs
  obtain ⟨its, rv, ⟨⟨cls, dd, data, sls⟩, n, ho, hc, hdn, hdt⟩, hlen⟩ := I.list (SqL.of ha)
  simp only at hc hdt
  subst hc hdt
  have p1 := okDs_py 58 ys ok1
  have p2 := okD_py 58 d ok2
  obtain ⟨as, r1⟩ := RepL.reads I sm ys vys its p1.1 hr rv
  obtain ⟨bs, r2⟩ := Rep.reads I sm d y uy p2.1 rd ry
  have hp : SeqAt.dataPlace (toPys ys) (toPy d) = some j := by
    unfold SeqAt.dataPlace
    rw [toPys_map, List.findIdx?_map]
    exact hf
  obtain ⟨hj, hit, hno⟩ := SeqAt.hit_at (vs := its.toArray) (by exact r1) p1.1 hp
  have hs : sizeLine = 16777216 := sizeLine_eq
  have hvl := rv.length
  have hsz : its.toArray.size = its.length := by simp
  exact call_meets PySem.F.slot_list_index ⟨_, ho, rfl⟩ PySem.F.entry_list_index (PySem.F.args_list_index_2 _ _)
    (SeqAt.list_indexAt a its.toArray n dd sls uy _ j hj (by omega) hit hno) ⟨ho, SeqAt.items_plain (vs := its.toArray) (by exact r1) r2 p1.1 p2.1 (by show X.A.units + 1 + _ < cLine; omega), ⟨.int _, H, I.tok _, ⟨_, rfl⟩, q⟩⟩
theorem pd_index (hu : X.A.units + 64 < cLine) (ho : PE X o (tV X.G ma)) (he : PE X e (tD X.G mk))
    (hbase : attributeBase o "index" X.env (eval o X.env) = eval o X.env := by rfl)
    (hfew : ((backTo cpos (starEach [e] X.env)).all (fun x => !x.1) && (backToKw cpos (keywordEach [] X.env)).all (fun x => x.1.isSome)
      && decide (([e] : List Expr).length + ([] : List Keyword).length + (if ([] : List Keyword).isEmpty then 0 else 1) < 30)) = true := by rfl)
    (hline : (apos.endLine == cpos.line) = true := by rfl) (hs : starEach [e] X.env = (false, eval e X.env) :: starEach [] X.env := by rfl) (hplain : (backTo cpos (starEach [] X.env)).any (·.1) = false := by rfl) :
    PE X (.Call (.Attribute o "index" apos) [e] [] cpos) (tD X.G (placeE ma mk)) :=
  weakE (pe_bm PySem.F.plainAttrs_list PySem.F.slot_list_index PySem.F.type_list_index (mt_ix hu) ho (pda_cons he pda_nil hs) hbase hfew hline hs hplain) fun σ H Q ⟨B, F, Z, η, d, η', ok, hm, q⟩ => by
    unfold placeE at hm
    split at hm
    · next η1 pa h1 =>
      split at hm
      · next xs0 h2 =>
        split at hm
        · next dk η2 h3 =>
          split at hm
          · next xs h4 =>
            split at hm
            · next h5 =>
              split at hm
              · next j h6 =>
                cases hm
                refine ⟨B, F, Z, η, η1, pa, ok, h1, fun v H1 F1 s1 ok1 r1 => ?_⟩
                obtain ⟨a, vys, rfl, ha, _⟩ := (r1 F1 η1 H1 _ (Same.refl _) ok1 h2).lst ok1.ff
                refine ⟨.inl ⟨rfl, _, SqL.of ha⟩, B, F1, Z, η1, [dk], _, ok1, by unfold consA nilA; rw [h3], fun vs H2 F2 s2 ok2 r2 => ?_⟩
                cases r2 with
                | cons r2 r3 =>
                  cases r3
                  obtain ⟨a', vys', e', ha', hr'⟩ := (r1 F2 _ H2 _ s2 ok2 h4).lst ok2.ff
                  cases e'
                  exact ⟨a, vys', _, xs, dk, F2, j, rfl, rfl, ok2.ff, ha', hr', r2, h5.1, h5.2, h6, q _ H2 F2 (s1.trans s2) ok2 (.int _)⟩
              · cases hm
            · cases hm
          · cases hm
        · cases hm
      · cases hm
    · cases hm
end
def placeG (x k : D) : Option D := match x with
  | .lst xs => if okDs 58 xs = true ∧ okD 58 k = true then match xs.findIdx? (fun z => eqb z k) with
      | some j => some (.int (j : Nat))
      | none => none
      else none
  | _ => none
def isLst : D → Bool
  | .lst _ => true
  | _ => false
@[simp] theorem isLst_lst {xs : List D} : isLst (.lst xs) = true := rfl
def place_k2 (Q : D → Env → Prop) (pa : Env → Option D) : D → Env → Prop := fun dk η => wO (pa η) fun x => wO (placeG x dk) fun d => Q d η
def place_k1 (k : EM) (Q : D → Env → Prop) : (Env → Option D) → Env → Prop := fun pa η => wO (pa η) fun x => isLst x = true ∧ wE k η (place_k2 Q pa)
section
variable {η : Env} {a : VM} {k : EM} {Q : D → Env → Prop} {pa : Env → Option D} {dk : D}
@[simp] theorem place_k2_eq : place_k2 Q pa dk η = wO (pa η) fun x => wO (placeG x dk) fun d => Q d η := propext Iff.rfl
@[simp] theorem place_k1_eq : place_k1 k Q pa η = wO (pa η) fun x => isLst x = true ∧ wE k η (place_k2 Q pa) := propext Iff.rfl
@[simp] theorem wE_placeE : wE (placeE a k) η Q = wV a η (place_k1 k Q) := by
  unfold wE placeE wV place_k1 place_k2 wE
  rcases a η with _ | ⟨η1, pa⟩
  · rfl
  dsimp only
  rcases pa η1 with _ | x0
  · rfl
  dsimp only [wO_some]
  cases x0 with
  | lst xs0 =>
    dsimp only
    rw [isLst_lst, eq_self, true_and]
    rcases k η1 with _ | ⟨dk, η2⟩
    · rfl
    dsimp only
    rcases pa η2 with _ | x
    · rfl
    dsimp only [wO_some]
    cases x <;> try rfl
    next xs =>
      dsimp only [placeG]
      by_cases h : okDs 58 xs = true ∧ okD 58 dk = true
      · rw [if_pos h, if_pos h]
        rcases xs.findIdx? (fun z => eqb z dk) with _ | j <;> rfl
      · rw [if_neg h, if_neg h]; rfl
  | _ => simp [isLst]
end
end DL

namespace DL
open PySem L2

/-! ### sorted(xs) of a list -/
def leD' (a b : D) : Bool := PySem.W.dataLe false toPy a b
def alikeB (xs : List D) : Bool := xs.all fun x => xs.all fun y => PySem.W.alike (toPy x) (toPy y)
def sortB (xs : List D) : Bool := (xs.all fun x => match x with | .tup (_ :: _) => true | _ => false) || xs.all fun x => match x with | .tup _ => false | .non => false | _ => true
def sortG : List D → Option D
  | [.lst xs] => if okDs 50 xs = true ∧ alikeB xs = true ∧ sortB xs = true ∧ xs.length ≤ 16777216 then some (.lst (xs.mergeSort leD')) else none
  | _ => none
theorem EachIs.zip {F : Gd × Hp} {h : Heap} : ∀ {ds : List D} {ws : List V} {its : List Value}, RepL F.1 F.2 ds ws → Vals ws its → PySem.W.EachIs (fun (v : Value) (p : D × V) => RelV p.2 v ∧ Rep F.1 F.2 p.1 p.2) its (ds.zip ws)
  | [], _, _, r, v => by cases r; cases v; exact .nil
  | d :: ds, _, _, r, v => by
    cases r with
    | cons r1 r2 =>
      cases v with
      | cons v1 v2 => exact .cons ⟨v1, r1⟩ (EachIs.zip (h := h) r2 v2)
theorem each_vals {K : Gd} {F : Hp} : ∀ {out : List Value} {ps : List (D × V)}, PySem.W.EachIs (fun (v : Value) (p : D × V) => RelV p.2 v ∧ Rep K F p.1 p.2) out ps → Vals (ps.map (·.2)) out ∧ RepL K F (ps.map (·.1)) (ps.map (·.2))
  | _, _, .nil => ⟨.nil, .nil⟩
  | _, _, .cons h t => ⟨.cons h.1 (each_vals t).1, .cons h.2 (each_vals t).2⟩
theorem zip_fst {ds : List D} {ws : List V} (h : ds.length = ws.length) : (ds.zip ws).map (·.1) = ds := List.map_fst_zip (by omega)
section
variable {X : Cx}
theorem b_sorted (hu : X.A.units + 64 < cLine) : CallR X (.builtin "sorted") (rLo X.G sortG) := by
  intro pins s σ H vs us Q I rv h
  obtain ⟨ds, d, F, sm, r, e, q⟩ := h
  unfold sortG at e
  split at e
  · next xs =>
    split at e
    · next hc =>
      cases e
      obtain ⟨v, rfl, hv⟩ := r.inv1
      obtain ⟨a, ws, rfl, ha, hr⟩ := hv.lst sm
      obtain ⟨u, rfl, ru⟩ := vals1 rv
      cases ru
      obtain ⟨its, rs, pl, _⟩ := I.list (SqL.of ha)
      have hlen := hr.length
      have hz : (xs.zip ws).map (fun p => toPy p.1) = xs.map toPy := by
        rw [show (fun p : D × V => toPy p.1) = toPy ∘ (·.1) from rfl, ← List.map_map, zip_fst hlen]
      have okx : ∀ x ∈ xs, okD 50 x = true := okDs_all.mp hc.1
      have er : PySem.W.EachIs (fun (v : Value) (p : D × V) => ∃ as, Reads s.heap v (toPy p.1) as) its (xs.zip ws) := by
        have : ∀ {ds : List D} {ws : List V} {its : List Value}, (∀ x ∈ ds, okD 50 x = true) → RepL X.G F ds ws → Vals ws its → PySem.W.EachIs (fun (v : Value) (p : D × V) => ∃ as, Reads s.heap v (toPy p.1) as) its (ds.zip ws) := fun {ds} => by
          induction ds with
          | nil => intro ws its _ r v; cases r; cases v; exact .nil
          | cons d ds ih =>
            intro ws its ho r v
            cases r with
            | cons r1 r2 =>
              cases v with
              | cons v1 v2 => exact .cons (Rep.reads I sm d _ _ (okD_py 50 d (ho d List.mem_cons_self)).1 r1 v1) (ih (fun x hx => ho x (List.mem_cons_of_mem _ hx)) r2 v2)
        exact this okx hr rs
      have hal : PySem.W.AllAlike ((xs.zip ws).map fun p => toPy p.1) := by
        rw [hz]
        intro x hx y hy
        obtain ⟨a', ha', rfl⟩ := List.mem_map.mp hx
        obtain ⟨b', hb', rfl⟩ := List.mem_map.mp hy
        exact List.all_eq_true.mp (List.all_eq_true.mp hc.2.1 a' ha') b' hb'
      have hso : PySem.W.Sortable ((xs.zip ws).map fun p => toPy p.1) := by
        rw [hz]
        have hs := hc.2.2.1
        unfold sortB at hs
        rw [Bool.or_eq_true] at hs
        rcases hs with hs | hs
        · left
          intro y hy
          obtain ⟨x, hx, rfl⟩ := List.mem_map.mp hy
          have := List.all_eq_true.mp hs x hx
          match x, this with
          | .tup (z :: t), _ => exact ⟨toPy z, toPys t, by rw [toPy, toPys]⟩
        · right
          intro y hy
          obtain ⟨x, hx, rfl⟩ := List.mem_map.mp hy
          have := List.all_eq_true.mp hs x hx
          cases x <;> first | (simp at this; done) | exact ⟨by simp [toPy], fun xs => by simp [toPy]⟩
      have hmem : ∀ p, p ∈ xs.zip ws → p.1 ∈ xs := fun p hp => (List.of_mem_zip hp).1
      refine PySem.W.sorted_data (enc := fun p : D × V => toPy p.1) (R := fun (v : Value) (p : D × V) => RelV p.2 v ∧ Rep X.G F p.1 p.2) pl.isList (EachIs.zip (F := (X.G, F)) (h := s.heap) hr rs) er hal hso (by rw [List.length_zip, sizeLine_eq]; omega)
        (fun b hb => ?_) fun out ho eo => ?_
      · have := (okD_py 50 b.1 (okx _ (hmem b hb))).2
        omega
      · obtain ⟨v1, r1⟩ := each_vals eo
        obtain ⟨c, hat⟩ := PyProof.Rows.sortedAll_at s.heap its out.toArray
        have hno : H (s.heap.objs.size + 1) = none := I.hok.fresh (Nat.le_succ _)
        have hl2 : ((xs.zip ws).mergeSort (PySem.W.dataLe false fun p : D × V => toPy p.1)).length ≤ sizeLine := by
          rw [List.length_mergeSort, List.length_zip, sizeLine_eq]; omega
        have I2 := I.laid (a := s.heap.objs.size + 1) (o := .lst (((xs.zip ws).mergeSort (PySem.W.dataLe false fun p : D × V => toPy p.1)).map (·.2))) (h' := PyProof.Rows.sortedAll s.heap its out.toArray) (t' := s.toks) (fun b o hb => PyProof.Rows.sortedAll_old hb) (Nat.le_succ _)
          (show ObjOk X.prog X.w _ _ _ (.lst _) from ⟨by rw [List.length_map]; exact hl2, out, c, v1, hat⟩)
        refine ⟨.ref (s.heap.objs.size + 1), _, I2, rfl, q _ _ hno (.lst upd_same ?_)⟩
        have em : ((xs.zip ws).mergeSort (PySem.W.dataLe false fun p : D × V => toPy p.1)).map (·.1) = xs.mergeSort leD' := by
          have hms := List.map_mergeSort (r := PySem.W.dataLe false fun p : D × V => toPy p.1) (s := leD') (f := fun p : D × V => p.1) (l := xs.zip ws) (fun a _ b _ => rfl)
          rw [hms, zip_fst hlen]
        rw [← em]
        exact r1
    · cases e
  · cases e
end
end DL

namespace DL
open PySem L2 PyProof.Rows

/-! ### dict(pairs) of a list of pairs, keys ints or texts -/
def pairsOf : List D → Option (List (D × D))
  | [] => some []
  | .tup [k, v] :: r => match pairsOf r with
    | some l => if scalK k = true then some ((k, v) :: l) else none
    | none => none
  | _ => none
def dictG : List D → Option D
  | [.lst xs] => match pairsOf xs with
    | some l => if xs.length ≤ 1000000 then some (.dic (mergeD [] l)) else none
    | none => none
  | _ => none
theorem pairsOf_rel {K : Gd} {F H : Hp} {s : Shared} {X : Cx} {pins : List (Addr × Obj)} {σ : L2.St} (hK : K = X.G) (I : Inv X pins σ H s) (sm : Same F H) : ∀ {xs : List D} {l : List (D × D)} {ws : List V} {its : List Value}, pairsOf xs = some l → RepL K F xs ws → Vals ws its →
    ∃ prs : List (Key × Value), RepP K F l (prs.map fun q => (match q.1 with | .inl i => Value.int i s.toks | .inr x => Value.str x s.toks, q.2)) ∧ prs.length = its.length ∧ (l.all fun kv => scalK kv.1) = true ∧
      (∀ {a : List (D × D)} {kvs : List (Key × Value)}, RS K F a kvs → RS K F (mergeD a l) (merged kvs prs)) ∧
      ∀ (j : Nat) (q : Key × Value), prs[j]? = some q → ∃ (b : Addr) (u : Value), its[j]? = some (.ref b) ∧ IsTup s.heap b #[u, q.2] ∧ keyIs q.1 u = true
  | [], l, ws, its, h, r, v => by
    cases h; cases r; cases v
    exact ⟨[], .nil, rfl, rfl, fun h => h, fun j q h => by simp at h⟩
  | d :: xs, l, ws, its, h, r, v => by
    subst hK
    unfold pairsOf at h
    split at h
    · next e => cases e
    · next k v' r' e =>
      cases e
      split at h
      · next l' hl' =>
        split at h
        · next hs =>
          cases h
          cases r with
          | cons r1 r2 =>
            cases v with
            | cons v1 v2 =>
              obtain ⟨prs, p1, p2, p3, p4, p5⟩ := pairsOf_rel rfl I sm hl' r2 v2
              cases r1 with
              | @tup a vs ds ht hr =>
                cases hr with
                | cons ra hr =>
                  cases hr with
                  | cons rb hr =>
                    cases hr
                    cases v1
                    obtain ⟨ts, vt, it, _⟩ := I.tuple (Same.sqT sm ht.sqT)
                    cases vt with
                    | @cons _ uk _ _ vk vt =>
                      cases vt with
                      | @cons _ uv _ _ vv vt =>
                        cases vt
                        have ek := scal_rep hs ra
                        subst ek
                        refine ⟨(keyS k, uv) :: prs, .cons ⟨⟨_, scal_repK hs, ?_⟩, ⟨_, rb, vv⟩⟩ p1, by rw [List.length_cons, List.length_cons, p2], by rw [List.all_cons, p3]; simpa using hs, fun h => p4 (RS.put hs rb vv h), fun j q hq => ?_⟩
                        · cases k <;> first | (simp [scalK] at hs; done) | exact ⟨_, rfl⟩
                        · cases j with
                          | zero =>
                            simp at hq
                            subst hq
                            exact ⟨a, uk, rfl, it, kV_is (P := X.prog) (w := X.w) vk⟩
                          | succ j => exact p5 j q (by simpa using hq)
        · cases h
      · cases h
    · cases h
section
variable {X : Cx}
theorem b_dict (hc : X.calm = true) : CallR X (.type "dict") (rLo X.G dictG) := by
  intro pins s σ H vs us Q I rv h
  obtain ⟨ds, d, F, sm, r, e, q⟩ := h
  unfold dictG at e
  split at e
  · next xs =>
    split at e
    · next l hl =>
      split at e
      · next hn =>
        cases e
        obtain ⟨v, rfl, hv⟩ := r.inv1
        obtain ⟨a, ws, rfl, ha, hr⟩ := hv.lst sm
        obtain ⟨u, rfl, ru⟩ := vals1 rv
        cases ru
        obtain ⟨its, rs, pl, _⟩ := I.list (SqL.of ha)
        obtain ⟨o, n, ho, hcl, hdn, hdt⟩ := pl
        obtain ⟨prs, _, p2, p3, p4, p5⟩ := pairsOf_rel rfl I sm hl hr rs
        have hlen := hr.length
        have hlen2 := rs.length
        have hs : sizeLine = 16777216 := sizeLine_eq
        refine call_dict_pairs (prs := prs) (I.ok.hd hc) ho hcl hdn hdt (by simp [p2]) (by omega) (fun j q hq => by simpa using p5 j q hq) fun h' tk dd kp => ?_
        obtain ⟨o', es', ep', ho', hx', hd', hks, hpr, hnd⟩ := dd
        have q3 := RS.back (p4 (a := []) .nil) hpr fun z hz => hks z (Array.mem_toList_iff.mp hz)
        have hz : es'.size ≤ sizeLine := by
          have h1 := q3.length
          have h2 : es'.toList.length = es'.size := Array.length_toList
          have h3 := mergeD_length l []
          have h4 : l.length ≤ xs.length := by
            have : ∀ {xs : List D} {l : List (D × D)}, pairsOf xs = some l → l.length = xs.length := fun {xs} => by
              induction xs with
              | nil => intro l h; cases h; rfl
              | cons d xs ih =>
                intro l h
                unfold pairsOf at h
                split at h
                · next e => cases e
                · next e =>
                  cases e
                  split at h
                  · next l' hl' =>
                    split at h
                    · cases h; rw [List.length_cons, List.length_cons, ih hl']
                    · cases h
                  · cases h
                · cases h
            rw [this hl]; exact Nat.le_refl _
          rw [List.length_nil] at h3
          omega
        have hno : H s.heap.objs.size = none := I.hok.fresh (Nat.le_refl _)
        have I2 := I.laid (a := s.heap.objs.size) (o := rawD s.heap.objs.size es' ep') (t' := tk) kp (Nat.le_refl _) (rawD_ok ho' hx' hd' (beq_eq_false_iff_ne.mpr (Ne.symm (Nat.ne_of_lt I.big))) hz)
        exact ⟨.ref s.heap.objs.size, _, I2, rfl, q _ _ hno (.dic upd_same (q3) (mergeD_nodup l [] List.nodup_nil))⟩
      · cases e
    · cases e
  · cases e
end
/-- dict(d): a copy, keys ints or texts -/
def copyG : List D → Option D
  | [.dic kvs] => if (kvs.all fun kv => scalK kv.1) = true ∧ kvs.length ≤ 1000000 then some (.dic kvs) else none
  | _ => none
def dictG2 (ds : List D) : Option D := match dictG ds with
  | some d => some d
  | none => copyG ds
section
variable {X : Cx}
theorem b_copy : CallR X (.type "dict") (rLo X.G copyG) := by
  intro pins s σ H vs us Q I rv h
  obtain ⟨ds, d, F, sm, r, e, q⟩ := h
  unfold copyG at e
  split at e
  · next kvs =>
    split at e
    · next hc =>
      cases e
      obtain ⟨v, rfl, hv⟩ := r.inv1
      obtain ⟨a, es, ep, rfl, ha, hr, nd⟩ := hv.dic sm
      obtain ⟨u, rfl, ru⟩ := vals1 rv
      cases ru
      obtain ⟨kv2, q1, dd⟩ := dictS I sm ha hr nd hc.1
      have hs : sizeLine = 16777216 := sizeLine_eq
      refine kt_call_dict (rawD_at I ha).2.1 dd (by rw [← q1.length]; omega) fun h' dd' hsb => ?_
      obtain ⟨o', es', ep', ho', hx', hd', hks, hpr, hnd⟩ := dd'
      have q3 := RS.back q1 hpr fun z hz => hks z (Array.mem_toList_iff.mp hz)
      have hz : es'.size ≤ sizeLine := by
        have h1 := q3.length
        have h2 : es'.toList.length = es'.size := Array.length_toList
        omega
      have hno : H s.heap.objs.size = none := I.hok.fresh (Nat.le_refl _)
      have I2 := I.laid (a := s.heap.objs.size) (o := rawD s.heap.objs.size es' ep') (t' := s.toks) (fun b u hq => (hsb.2 b (Nat.ne_of_lt (Heap.lt_size hq))).trans (Heap.get?_push_of_some _ hq)) (Nat.le_refl _) (rawD_ok ho' hx' hd' (beq_eq_false_iff_ne.mpr (Ne.symm (Nat.ne_of_lt I.big))) hz)
      exact ⟨.ref s.heap.objs.size, _, I2, rfl, q _ _ hno (.dic upd_same q3 nd)⟩
    · cases e
  · cases e
theorem b_dict2 (hc : X.calm = true) : CallR X (.type "dict") (rLo X.G dictG2) := by
  intro pins s σ H vs us Q I rv h
  obtain ⟨ds, d, F, sm, r, e, q⟩ := h
  unfold dictG2 at e
  split at e
  · next d' h1 => cases e; exact b_dict hc pins s σ H vs us Q I rv ⟨ds, _, F, sm, r, h1, q⟩
  · exact b_copy pins s σ H vs us Q I rv ⟨ds, _, F, sm, r, e, q⟩
end
end DL

namespace DL
open PySem L2
/-! ### rows of ints and other things that many laws share -/
def iD (l : List Int) : List D := l.map D.int
theorem lastI {l : List Int} {z : Int} : idxD (.lst (iD (l ++ [z]))) (.int (-1)) = some (.int z) := by
  unfold iD
  rw [List.map_append]
  exact idxD_lstL
theorem lastT {l : List Int} {z : Int} : idxD (.tup (iD (l ++ [z]))) (.int (-1)) = some (.int z) := by
  unfold iD
  rw [List.map_append]
  exact idxD_tupL
theorem iD_len {l : List Int} : (iD l).length = l.length := List.length_map ..
theorem iD_snoc {l : List Int} {z : Int} : iD l ++ [D.int z] = iD (l ++ [z]) := by unfold iD; rw [List.map_append]; rfl
theorem first_filter {α : Type} {c : α → Bool} : ∀ {l : List α} {i : Nat} {a : α}, l[i]? = some a → c a = true → (∀ j b, j < i → l[j]? = some b → c b = false) → ∃ t, l.filter c = a :: t
  | [], i, a, h, _, _ => by simp at h
  | b :: l, 0, a, h, hc, _ => by simp at h; subst h; exact ⟨l.filter c, by simp [hc]⟩
  | b :: l, i + 1, a, h, hc, hn => by
    have h0 := hn 0 b (by omega) rfl
    obtain ⟨t, e⟩ := first_filter (l := l) (i := i) (by simpa using h) hc fun j b' hj hb => hn (j + 1) b' (by omega) (by simpa using hb)
    exact ⟨t, by simp [h0, e]⟩
theorem cut_last {α : Type} (l : List α) (d : α) : cutA (l ++ [d]) none (some (-1)) = l := by
  unfold cutA
  rw [show HT.sIx (l ++ [d]).length 0 none = 0 from HT.sIx_none _ _]
  have e : HT.sIx (l ++ [d]).length (l ++ [d]).length (some (-1)) = l.length := by
    unfold HT.sIx
    simp
    omega
  rw [e]
  simp
theorem range_at {n i : Nat} (h : i < n) : (rangeD 0 (n : Int))[i]? = some (.int i) := by
  unfold rangeD
  rw [List.getElem?_map, List.getElem?_range (by omega)]
  simp
theorem keysI (l : List Int) : KeysOk (iD l) := ⟨.inl fun x hx => by obtain ⟨y, _, rfl⟩ := List.mem_map.mp hx; rfl, fun x hx y hy h => by
  obtain ⟨a, _, rfl⟩ := List.mem_map.mp hx
  obtain ⟨b, _, rfl⟩ := List.mem_map.mp hy
  unfold keyEq at h
  have := of_decide_eq_true h
  simp [keyN] at this
  rw [this]⟩
theorem okDs_int : ∀ (n : Nat) (l : List Int), okDs n (iD l) = true
  | n, l => okDs_all.mpr fun x hx => by obtain ⟨y, _, rfl⟩ := List.mem_map.mp hx; simp [okD]
theorem szDs_int : ∀ (l : List Int), szDs (iD l) = l.length
  | [] => rfl
  | a :: l => by
    show szD (.int a) + szDs (iD l) = _
    rw [szDs_int l]; simp [szD]; omega
theorem ok_iD {l : List Int} (h : l.length ≤ 1000) : okD 58 (.tup (iD l)) = true ∧ szD (.tup (iD l)) ≤ 1000000 := by
  rw [okD, szD, szDs_int]
  exact ⟨okDs_int _ _, by omega⟩
theorem ok_pairD {r : Option (Nat × Nat)} : okD 58 (pairD r) = true ∧ szD (pairD r) ≤ 1000000 := by
  rcases r with _ | ⟨k, y⟩ <;> simp [pairD, okD, okDs, szD, szDs]
theorem filter_head {α : Type} {c : α → Bool} : ∀ {L : List α} {a : α} {t : List α}, L.filter c = a :: t → ∃ i : Nat, L[i]? = some a ∧ c a = true ∧ ∀ j b, j < i → L[j]? = some b → c b = false
  | [], a, t, h => by simp at h
  | b :: L, a, t, h => by
    by_cases hc : c b = true
    · rw [List.filter_cons_of_pos hc] at h
      cases h
      exact ⟨0, rfl, hc, fun j _ hj => by omega⟩
    · rw [List.filter_cons_of_neg hc] at h
      obtain ⟨i, h1, h2, h3⟩ := filter_head h
      refine ⟨i + 1, by simpa using h1, h2, fun j b' hj hb => ?_⟩
      cases j with
      | zero => simp at hb; subst hb; simpa using hc
      | succ j => exact h3 j b' (by omega) (by simpa using hb)
def DueP (xs : List D) (i : Nat) : Option (Nat × Nat) → Prop
  | none => ∀ j l, j < i → j < l → l < xs.length → ¬ sameAt xs j l
  | some (k, d) => IsFp xs.length (sameAt xs) k d
def sameC (xs : List D) (k : Nat) : D → Bool
  | .int n => match xs[n.toNat]?, xs[k]? with
    | some a, some b => eqb a b
    | _, _ => false
  | _ => false
structure EqOk (xs : List D) : Prop where
  ok : ∀ a ∈ xs, okD 60 a = true
  eq : ∀ a ∈ xs, ∀ b ∈ xs, eqb a b = true → a = b
  len : xs.length ≤ 100000
theorem eqI (l : List Int) (h : l.length ≤ 100000) : EqOk (iD l) := ⟨fun a ha => by obtain ⟨y, _, rfl⟩ := List.mem_map.mp ha; simp [okD], fun a ha b hb he => by
  obtain ⟨x, _, rfl⟩ := List.mem_map.mp ha
  obtain ⟨y, _, rfl⟩ := List.mem_map.mp hb
  have : (decide (x = y)) = true := he
  rw [of_decide_eq_true this], by rw [iD_len]; exact h⟩
theorem ones_ok (n : Nat) (L : List D) : okDs n (L.map fun _ => D.int 1) = true := okDs_all.mpr fun x hx => by obtain ⟨y, _, rfl⟩ := List.mem_map.mp hx; simp [okD]
theorem inD_ints {y : Int} {l : List Int} : inD (.int y) (.lst (iD l)) = some (.bl (l.any fun z => decide (z = y))) := by
  have e1 : okD 58 (.int y) = true := by rw [okD]
  have e2 : okDs 58 (iD l) = true := okDs_int _ _
  show (if okD 58 (.int y) && okDs 58 (iD l) then some (D.bl ((iD l).any fun z => eqb z (.int y))) else none) = _
  rw [e1, e2, Bool.and_self, if_pos rfl]
  unfold iD
  rw [List.any_map]
  congr 2
end DL

namespace DL
open PySem L2
def m_is_pair_within : SM :=
 seqM (ifM (orB (notBM (boolD (callE sem_is_tuple_of (consN 0 (consC (cE (.int 2)) (nilC)))))) (orB (notBM (boolD (callE sem_is_from (consC (bin2 idxD (nV 0) (vE (cE (.int 0)))) (consC (cE (.int 0)) (nilC)))))) (notBM (boolD (callE sem_is_from (consC (bin2 idxD (nV 0) (vE (cE (.int 1)))) (consC (cE (.int 1)) (nilC))))))))
 (retM (cE (.bl false)))
 (nopM))
 (retM (bin2 leD (vE (bin2 addD (vE (bin2 idxD (nV 0) (vE (cE (.int 0))))) (vE (bin2 idxD (nV 0) (vE (cE (.int 1))))))) (nV 1)))
def sem_is_pair_within : Sem := runF 2 m_is_pair_within
section
variable {Q : D → Env → Prop} {a b n : Int} {d e : D}
def pairOk (a b n : Int) : Bool := decide (0 ≤ a ∧ 1 ≤ b ∧ a + b ≤ n)
theorem wF_pair_ints : wF sem_is_pair_within [.sh (.tup [.int a, .int b]), .sh (.int n)] Q = Q (.bl (pairOk a b n)) [.no, .no] := by
  refine wF_of (of_wF ?_)
  unfold sem_is_pair_within m_is_pair_within
  rw [wF_run]
  by_cases h1 : 0 ≤ a
  · by_cases h2 : 1 ≤ b
    · by_cases h3 : a + b ≤ n <;> simp [wF_is_tuple_of (d := .tup [.int a, .int b]) rfl, isTupOf, wF_is_from (d := .int a) rfl, wF_is_from (d := .int b) rfl, isFrom, pairOk, h1, h2, h3]
    · simp [wF_is_tuple_of (d := .tup [.int a, .int b]) rfl, isTupOf, wF_is_from (d := .int a) rfl, wF_is_from (d := .int b) rfl, isFrom, pairOk, h1, h2]
  · simp [wF_is_tuple_of (d := .tup [.int a, .int b]) rfl, isTupOf, wF_is_from (d := .int a) rfl, wF_is_from (d := .int b) rfl, isFrom, pairOk, h1]
theorem wF_pair_not (h : notSet d = true) (h2 : isTupOf d 2 = false) : wF sem_is_pair_within [.sh d, .sh (.int n)] Q = Q (.bl false) [.no, .no] := by
  refine wF_of (of_wF ?_)
  unfold sem_is_pair_within m_is_pair_within
  rw [wF_run]
  simp [wF_is_tuple_of h, h2]
theorem wF_pair_bad (h : notSet d = true) (h' : notSet e = true) (h2 : (isFrom d 0 && isFrom e 1) = false) : wF sem_is_pair_within [.sh (.tup [d, e]), .sh (.int n)] Q = Q (.bl false) [.no, .no] := by
  refine wF_of (of_wF ?_)
  unfold sem_is_pair_within m_is_pair_within
  rw [wF_run]
  cases e1 : isFrom d 0 <;> cases e2 : isFrom e 1 <;> simp [wF_is_tuple_of (d := .tup [d, e]) rfl, isTupOf, wF_is_from h, wF_is_from h', e1, e2] <;> simp [e1, e2] at h2
end
end DL

namespace DL
open PySem L2 PySem.Spec PyProof.Rows
/-! ### tuple * int -/
theorem tuple_mulSame (l : Addr) (items : Array Value) (n : Nat) (dd : Option Addr) (sl : Array (Option Value)) (x : Int) (u : Tok) (c0 : (decide (x < -(2 ^ 63)) || decide (x ≥ 2 ^ 63)) = false) (c1 : (items.isEmpty || x == 1) = true) :
    Meets (Builtin.«tuple.__mul__» ⟨[.ref l, .int x u], []⟩) (fun _ R s => s.heap.get? l = some { cls := .type "tuple", dict := dd, data := .seq items n, slots := sl } ∧ R (.ok (.ret (.ref l))) s) :=
  .of_wp fun prog w A R s h => by
    obtain ⟨hp, g, d, tk, os⟩ := s
    obtain ⟨hl, h⟩ := h
    have f1 := AutoSeq1.idx_int
    wp_walk using wpAny_loadPart' hl
    repeat (first
      | (refine wpAny_ite_false (decide_eq_false (by rw [c0]; exact Bool.false_ne_true)) ?_; wp_walk using wpAny_loadPart' hl)
      | (refine wpAny_ite_true (decide_eq_true (by rw [c1])) ?_; wp_walk using wpAny_loadPart' hl))
    exact ⟨_, rfl, h⟩
theorem tuple_mulNone (l : Addr) (items : Array Value) (n : Nat) (dd : Option Addr) (sl : Array (Option Value)) (x : Int) (u : Tok) (c0 : (decide (x < -(2 ^ 63)) || decide (x ≥ 2 ^ 63)) = false) (c1 : (items.isEmpty || x == 1) = false) (c2 : (decide (x ≤ 0) || items.isEmpty) = true) :
    Meets (Builtin.«tuple.__mul__» ⟨[.ref l, .int x u], []⟩) (fun _ R s => s.heap.get? l = some { cls := .type "tuple", dict := dd, data := .seq items n, slots := sl } ∧ R (.ok (.ret (Value.ref s.heap.objs.size))) { s with heap := s.heap.push { cls := Value.type "tuple", data := Data.seq #[] }, toks := s.toks }) :=
  .of_wp fun prog w A R s h => by
    obtain ⟨hp, g, d, tk, os⟩ := s
    obtain ⟨hl, h⟩ := h
    have f1 := AutoSeq1.idx_int
    wp_walk using wpAny_loadPart' hl
    repeat (first
      | (refine wpAny_ite_false (decide_eq_false (by rw [c0]; exact Bool.false_ne_true)) ?_; wp_walk using wpAny_loadPart' hl)
      | (refine wpAny_ite_false (decide_eq_false (by rw [c1]; exact Bool.false_ne_true)) ?_; wp_walk using wpAny_loadPart' hl)
      | (refine wpAny_ite_true (decide_eq_true (by rw [c2])) ?_; wp_walk using wpAny_loadPart' hl))
    exact ⟨_, rfl, h⟩
def rRepS (K : PySem.W.Frag) : R2 := fun x y H Q => ∃ l k xs, x = .ref l ∧ y = .int k ∧ SqT K H l xs ∧ (xs = [] ∨ k = 1) ∧ -(2 ^ 62) ≤ k ∧ k ≤ 2 ^ 62 ∧ Q x H
def rRepN (K : PySem.W.Frag) : R2 := fun x y H Q => ∃ l k xs, x = .ref l ∧ y = .int k ∧ SqT K H l xs ∧ xs ≠ [] ∧ -(2 ^ 62) ≤ k ∧ k ≤ 0 ∧ NewT H [] Q
section
variable {X : Cx}
theorem op_repS : OpR X (binaryOp .Mult) (rRepS X.K) := by
  intro pins s σ H x y v u Q I rx ry h
  obtain ⟨l, k, xs, rfl, rfl, hT, hne, h1, h2, q⟩ := h
  cases rx
  obtain ⟨t, rfl⟩ := ry
  obtain ⟨its, r, ⟨⟨cls, dd, data, sl⟩, ho, hc, n, hd⟩, hs⟩ := I.tuple hT
  simp only at hc hd
  subst hc hd
  have c0 : (decide (k < -(2 ^ 63)) || decide (k ≥ 2 ^ 63)) = false := by
    rw [decide_eq_false (by omega), decide_eq_false (by omega)] <;> rfl
  have c1 : (its.toArray.isEmpty || k == 1) = true := by
    rcases hne with rfl | rfl
    · cases r; rfl
    · rw [Bool.or_eq_true]; exact .inr rfl
  exact wpAny_binaryOp_repeat_ref (T := "tuple") (U := "int") (by decide) ⟨_, ho, rfl⟩ (fun s' => typeIs_int s' k t) noFill_tuple_mul F.fills_int_mul F.slot_int_rmul repeat_tuple F.slot_int_index.lookup
    (call_meets F.slot_int_rmul (typeIs_int s k t) F.entry_int_rmul (F.args_int_rmul_2 _ _) (int_rmul_tuple k t l its.toArray n dd sl)
      ⟨ho, rfl, ⟨_, ho, rfl⟩, call_meets F.slot_tuple_mul ⟨_, ho, rfl⟩ F.entry_tuple_mul (F.args_tuple_mul_2 _ _) (tuple_mulSame l its.toArray n dd sl k t c0 c1) ⟨ho, ⟨.ref l, H, I, rfl, q⟩⟩⟩)
theorem op_repN : OpR X (binaryOp .Mult) (rRepN X.K) := by
  intro pins s σ H x y v u Q I rx ry h
  obtain ⟨l, k, xs, rfl, rfl, hT, hne, h1, h2, q⟩ := h
  cases rx
  obtain ⟨t, rfl⟩ := ry
  obtain ⟨its, r, ⟨⟨cls, dd, data, sl⟩, ho, hc, n, hd⟩, hs⟩ := I.tuple hT
  simp only at hc hd
  subst hc hd
  have hle : its.length = xs.length := r.length.symm
  have hi : its.toArray.isEmpty = false := by
    cases its with
    | nil => exact absurd (List.eq_nil_of_length_eq_zero hle.symm) hne
    | cons a b => rfl
  have c0 : (decide (k < -(2 ^ 63)) || decide (k ≥ 2 ^ 63)) = false := by
    rw [decide_eq_false (by omega), decide_eq_false (by omega)] <;> rfl
  have c1 : (its.toArray.isEmpty || k == 1) = false := by
    rw [hi, Bool.false_or]
    exact beq_eq_false_iff_ne.mpr (by omega)
  have c2 : (decide (k ≤ 0) || its.toArray.isEmpty) = true := by
    rw [decide_eq_true h2, Bool.true_or]
  refine wpAny_binaryOp_repeat_ref (T := "tuple") (U := "int") (by decide) ⟨_, ho, rfl⟩ (fun s' => typeIs_int s' k t) noFill_tuple_mul F.fills_int_mul F.slot_int_rmul repeat_tuple F.slot_int_index.lookup
    (call_meets F.slot_int_rmul (typeIs_int s k t) F.entry_int_rmul (F.args_int_rmul_2 _ _) (int_rmul_tuple k t l its.toArray n dd sl)
      ⟨ho, rfl, ⟨_, ho, rfl⟩, call_meets F.slot_tuple_mul ⟨_, ho, rfl⟩ F.entry_tuple_mul (F.args_tuple_mul_2 _ _) (tuple_mulNone l its.toArray n dd sl k t c0 c1 c2) ⟨ho, ?_⟩⟩)
  exact lay_tup (us := []) I .nil (Nat.zero_le _) q
end
def mulT : D → D → Option D
  | .tup xs, .int k => if xs.length ≤ 1000 ∧ -1000 ≤ k ∧ k ≤ 1000 then some (.tup (List.replicate k.toNat xs).flatten) else none
  | _, _ => none
theorem RepL.rep {K : Gd} {F : Hp} {ds : List D} {vs : List V} (r : RepL K F ds vs) : ∀ n, RepL K F (List.replicate n ds).flatten (List.replicate n vs).flatten
  | 0 => .nil
  | n + 1 => by
    rw [List.replicate_succ, List.replicate_succ, List.flatten_cons, List.flatten_cons]
    exact r.append (r.rep n)
theorem op_mulT {X : Cx} : OpR X (binaryOp .Mult) (rOp X.G mulT) :=
  weakOp (OpR.or op_repP (OpR.or op_repS op_repN)) fun v w H Q ⟨x, y, z, F, s, e, vx, vy, q⟩ => by
    unfold mulT at e
    split at e
    · next a k =>
      split at e
      · next hl =>
        cases e
        have fx := vx.tupF
        obtain ⟨p1, vs1, rfl, h1, r1⟩ := vx.tup s
        have hy := vy.int
        subst hy
        have hlen := r1.length
        by_cases ha : vs1 = [] ∨ k = 1
        · have ea : (List.replicate k.toNat a).flatten = a := by
            rcases ha with rfl | rfl
            · cases r1; simp
            · simp
          rw [ea] at q
          exact .inr (.inl ⟨p1, k, vs1, rfl, rfl, h1, ha, by omega, by omega, q _ _ _ Res.same fx⟩)
        · have hn : vs1 ≠ [] := fun z => ha (.inl z)
          by_cases hk : k ≤ 0
          · have ek : k.toNat = 0 := by omega
            rw [ek] at q
            exact .inr (.inr ⟨p1, k, vs1, rfl, rfl, h1, hn, by omega, hk, fun p ob hp hd => q _ _ _ (Res.new hp) (.tup (SqN.of hd) .nil)⟩)
          · have hk1 : k ≠ 1 := fun z => ha (.inr z)
            exact .inl ⟨p1, k, vs1, rfl, rfl, h1, hn, by omega, by omega, by omega, fun p ob hp hd => q _ _ _ (Res.new hp) (.tup (SqN.of hd) ((r1.rep _).mono (Same.upd (s.free hp))))⟩
      · cases e
    · cases e
@[simp] theorem mulT_tup {xs : List D} {k : Int} : mulT (.tup xs) (.int k) = if xs.length ≤ 1000 ∧ -1000 ≤ k ∧ k ≤ 1000 then some (.tup (List.replicate k.toNat xs).flatten) else none := rfl
end DL

namespace DL
open PySem L2
/-! ### ints and tuples of such -/
mutual
def pureD : D → Bool
  | .int _ => true
  | .tup xs => pureDs xs
  | _ => false
def pureDs : List D → Bool
  | [] => true
  | x :: xs => pureD x && pureDs xs
end
theorem pureDs_all : ∀ {xs : List D}, pureDs xs = true ↔ ∀ x ∈ xs, pureD x = true
  | [] => by simp [pureDs]
  | x :: xs => by rw [pureDs, Bool.and_eq_true, pureDs_all]; simp
mutual
theorem pure_some : ∀ (a : D), pureD a = true → ∃ n, keyN a = some n
  | .int i, _ => ⟨_, rfl⟩
  | .tup xs, ha => by
    rw [pureD] at ha
    obtain ⟨ns, e⟩ := pure_somes xs ha
    exact ⟨.tup ns, by rw [keyN, e]⟩
  | .non, ha => by simp [pureD] at ha
  | .bl _, ha => by simp [pureD] at ha
  | .str _, ha => by simp [pureD] at ha
  | .lst _, ha => by simp [pureD] at ha
  | .frl _, ha => by simp [pureD] at ha
  | .dic _, ha => by simp [pureD] at ha
  | .set _, ha => by simp [pureD] at ha
theorem pure_somes : ∀ (xs : List D), pureDs xs = true → ∃ n, keyNs xs = some n
  | [], _ => ⟨[], rfl⟩
  | x :: xs, ha => by
    rw [pureDs, Bool.and_eq_true] at ha
    obtain ⟨n, e⟩ := pure_some x ha.1
    obtain ⟨ns, e'⟩ := pure_somes xs ha.2
    exact ⟨n :: ns, by rw [keyNs, e, e']⟩
end
mutual
theorem pure_keyN : ∀ (a b : D), pureD a = true → pureD b = true → keyN a = keyN b → a = b
  | .int i, b, _, hb, h => by
    cases b <;> first | (simp [pureD] at hb; done) | skip
    · next j => simp [keyN] at h ⊢; exact h
    · next ys =>
      simp only [keyN] at h
      split at h <;> cases h
  | .tup xs, b, ha, hb, h => by
    cases b <;> first | (simp [pureD] at hb; done) | skip
    · next j =>
      simp only [keyN] at h
      split at h <;> cases h
    · next ys =>
      rw [pureD] at ha hb
      have hs := pure_keyNs xs ys ha hb
      simp only [keyN] at h
      obtain ⟨k1, e1⟩ := pure_somes xs ha
      obtain ⟨k2, e2⟩ := pure_somes ys hb
      rw [e1, e2] at h
      cases h
      rw [hs (by rw [e1, e2])]
  | .non, _, ha, _, _ => by simp [pureD] at ha
  | .bl _, _, ha, _, _ => by simp [pureD] at ha
  | .str _, _, ha, _, _ => by simp [pureD] at ha
  | .lst _, _, ha, _, _ => by simp [pureD] at ha
  | .frl _, _, ha, _, _ => by simp [pureD] at ha
  | .dic _, _, ha, _, _ => by simp [pureD] at ha
  | .set _, _, ha, _, _ => by simp [pureD] at ha
theorem pure_keyNs : ∀ (xs ys : List D), pureDs xs = true → pureDs ys = true → keyNs xs = keyNs ys → xs = ys
  | [], [], _, _, _ => rfl
  | [], y :: ys, _, hb, h => by
      rw [keyNs, keyNs] at h
      split at h <;> simp at h
  | x :: xs, [], ha, _, h => by
      rw [keyNs, keyNs] at h
      split at h <;> simp at h
  | x :: xs, y :: ys, ha, hb, h => by
    rw [pureDs, Bool.and_eq_true] at ha hb
    obtain ⟨k1, e1⟩ := pure_some x ha.1
    obtain ⟨k2, e2⟩ := pure_somes xs ha.2
    obtain ⟨k3, e3⟩ := pure_some y hb.1
    obtain ⟨k4, e4⟩ := pure_somes ys hb.2
    rw [keyNs, keyNs, e1, e2, e3, e4] at h
    simp at h
    rw [pure_keyN x y ha.1 hb.1 (by rw [e1, e3, h.1]), pure_keyNs xs ys ha.2 hb.2 (by rw [e2, e4, h.2])]
end
mutual
theorem pure_eqb : ∀ (a b : D), pureD a = true → pureD b = true → eqb a b = true → a = b
  | .int i, b, _, hb, h => by
    cases b <;> first | (simp [pureD] at hb; done) | skip
    · next j =>
      have : (i == j) = true := h
      rw [eq_of_beq this]
    · next ys => cases h
  | .tup xs, b, ha, hb, h => by
    cases b <;> first | (simp [pureD] at hb; done) | skip
    · next j => cases h
    · next ys =>
      rw [pureD] at ha hb
      rw [pure_eqbs xs ys ha hb h]
  | .non, _, ha, _, _ => by simp [pureD] at ha
  | .bl _, _, ha, _, _ => by simp [pureD] at ha
  | .str _, _, ha, _, _ => by simp [pureD] at ha
  | .lst _, _, ha, _, _ => by simp [pureD] at ha
  | .frl _, _, ha, _, _ => by simp [pureD] at ha
  | .dic _, _, ha, _, _ => by simp [pureD] at ha
  | .set _, _, ha, _, _ => by simp [pureD] at ha
theorem pure_eqbs : ∀ (xs ys : List D), pureDs xs = true → pureDs ys = true → PyData.eqvAll (toPys xs) (toPys ys) = true → xs = ys
  | [], [], _, _, _ => rfl
  | [], y :: ys, _, _, h => by cases h
  | x :: xs, [], _, _, h => by cases h
  | x :: xs, y :: ys, ha, hb, h => by
    rw [pureDs, Bool.and_eq_true] at ha hb
    have h' : (eqb x y && PyData.eqvAll (toPys xs) (toPys ys)) = true := h
    rw [Bool.and_eq_true] at h'
    rw [pure_eqb x y ha.1 hb.1 h'.1, pure_eqbs xs ys ha.2 hb.2 h'.2]
end
theorem eqPure {xs : List D} (h : ∀ x ∈ xs, pureD x = true ∧ okD 60 x = true) (hl : xs.length ≤ 100000) : EqOk xs := ⟨fun a ha => (h a ha).2, fun a ha b hb e => pure_eqb a b (h a ha).1 (h b hb).1 e, hl⟩
theorem keysPure {xs : List D} (h : ∀ x ∈ xs, pureD x = true ∧ tupK x = true) : KeysOk xs := ⟨.inr fun x hx => (h x hx).2, fun x hx y hy e => pure_keyN x y (h x hx).1 (h y hy).1 (of_decide_eq_true e)⟩
theorem pure_iD {l : List Int} : pureDs (iD l) = true := pureDs_all.mpr fun d hd => by obtain ⟨z, _, rfl⟩ := List.mem_map.mp hd; rw [pureD]
theorem keyNs_iD : ∀ l : List Int, keyNs (iD l) = some (l.map NestedKey.num)
  | [] => rfl
  | a :: l => by
    show (match keyN (.int a), keyNs (iD l) with | some k, some ks => some (k :: ks) | _, _ => none) = _
    rw [keyNs_iD l]; rfl
theorem depth_nums : ∀ l : List Int, NestedKey.depthAll (l.map NestedKey.num) = 0
  | [] => rfl
  | a :: l => by rw [List.map_cons, NestedKey.depthAll, depth_nums l]; rfl
theorem tupK_iD {l : List Int} : tupK (.tup (iD l)) = true := by
  have e : keyN (.tup (iD l)) = some (.tup (l.map NestedKey.num)) := by simp only [keyN, keyNs_iD]
  simp only [tupK, e, NestedKey.depth, depth_nums]
  rfl
theorem tupK_pair {a : Int} {l : List Int} : tupK (.tup [.int a, .tup (iD l)]) = true := by
  have e : keyN (.tup [.int a, .tup (iD l)]) = some (.tup [.num a, .tup (l.map NestedKey.num)]) := by simp only [keyN, keyNs, keyNs_iD]
  simp only [tupK, e, NestedKey.depth, NestedKey.depthAll, depth_nums]
  rfl
/-! ### the row of steps -/
section
variable {α : Type} (f : α → Option α)
def rowsF : Nat → α → List α
  | 0, x => [x]
  | n + 1, x => x :: (match f x with | none => [] | some y => rowsF n y)
variable {f}
theorem rowsF_none {x : α} (h : f x = none) : ∀ n, rowsF f n x = [x]
  | 0 => rfl
  | n + 1 => by rw [rowsF, h]
theorem rowsF_some {x y : α} {n : Nat} (h : f x = some y) : rowsF f (n + 1) x = x :: rowsF f n y := by rw [rowsF, h]
theorem rowsF_head {x : α} : ∀ n, x ∈ rowsF f n x
  | 0 => List.mem_singleton.mpr rfl
  | n + 1 => List.mem_cons_self
theorem rowsF_cons {x : α} : ∀ n, ∃ t, rowsF f n x = x :: t
  | 0 => ⟨[], rfl⟩
  | n + 1 => ⟨_, rfl⟩
theorem rowsF_ne {x : α} : ∀ n, rowsF f n x ≠ []
  | 0 => by simp [rowsF]
  | n + 1 => by simp [rowsF]
theorem rowsF_len : ∀ (n : Nat) (x : α), (rowsF f n x).length ≤ n + 1
  | 0, x => by simp [rowsF]
  | n + 1, x => by
    rw [rowsF]
    rcases f x with _ | y
    · simp
    · have := rowsF_len n y
      simp; omega
theorem rowsF_last : ∀ (n : Nat) (x : α), ∃ l z, rowsF f n x = l ++ [z]
  | 0, x => ⟨[], x, rfl⟩
  | n + 1, x => by
    rw [rowsF]
    rcases f x with _ | y
    · exact ⟨[], x, rfl⟩
    · obtain ⟨l, z, e⟩ := rowsF_last n y
      exact ⟨x :: l, z, by simp [e]⟩
theorem rowsF_all {P : α → Prop} (hP : ∀ x y, P x → f x = some y → P y) : ∀ (n : Nat) (x : α), P x → ∀ z ∈ rowsF f n x, P z
  | 0, x, h, z, hz => by have := List.mem_singleton.mp hz; subst this; exact h
  | n + 1, x, h, z, hz => by
    rcases e : f x with _ | y
    · rw [rowsF_none e] at hz
      have := List.mem_singleton.mp hz; subst this; exact h
    · rw [rowsF_some e] at hz
      rcases List.mem_cons.mp hz with rfl | hz
      · exact h
      · exact rowsF_all hP n y (hP x y h e) z hz
/-- a row that is shorter than it may be ends at a rest -/
theorem rowsF_short : ∀ (n : Nat) (x : α) {l : List α} {z : α}, rowsF f n x = l ++ [z] → l.length < n → f z = none
  | 0, x, l, z, e, h => by omega
  | n + 1, x, l, z, e, h => by
    rcases e1 : f x with _ | y
    · rw [rowsF_none e1] at e
      rcases l with _ | ⟨a, l⟩
      · simp at e; subst e; exact e1
      · simp at e
    · rw [rowsF_some e1] at e
      rcases l with _ | ⟨a, l⟩
      · simp at e; exact (rowsF_ne n e.2).elim
      · simp at e
        exact rowsF_short n y e.2 (by simp at h; omega)
/-- fewer steps: the row's beginning -/
theorem rowsF_take : ∀ (m n : Nat) (x : α), m ≤ n → rowsF f m x = (rowsF f n x).take (m + 1)
  | 0, 0, x, _ => rfl
  | 0, n + 1, x, _ => by rw [rowsF, rowsF]; simp
  | m + 1, n + 1, x, h => by
    rcases e : f x with _ | y
    · rw [rowsF_none e, rowsF_none e]; simp
    · rw [rowsF_some e, rowsF_some e, rowsF_take m n y (by omega)]; simp
/-- each is a step behind the one ahead of it -/
theorem rowsF_steps : ∀ (n : Nat) (x : α) {l : List α} {z : α}, rowsF f n x = l ++ [z] → ∀ a ∈ l, ∃ b, f a = some b
  | 0, x, l, z, e, a, ha => by
    rcases l with _ | ⟨b, l⟩
    · cases ha
    · simp [rowsF] at e
  | n + 1, x, l, z, e, a, ha => by
    rcases e1 : f x with _ | y
    · rw [rowsF_none e1] at e
      rcases l with _ | ⟨b, l⟩
      · cases ha
      · simp at e
    · rw [rowsF_some e1] at e
      rcases l with _ | ⟨b, l⟩
      · cases ha
      · simp at e
        obtain ⟨rfl, e⟩ := e
        rcases List.mem_cons.mp ha with rfl | ha
        · exact ⟨y, e1⟩
        · exact rowsF_steps n y e a ha
end
end DL

namespace DL
open PySem L2
def tupB : D → Bool
  | .tup _ => true
  | _ => false
section
variable {Q : D → Env → Prop} {n : Int} {d : D}
theorem wF_row_tup {xs : List D} (h : ∀ d ∈ xs, notSet d = true) (hl : xs.length ≤ 100000) : wF sem_is_row_from [.sh (.tup xs), .sh (.int n)] Q = Q (.bl (xs.all fun d => isFrom d n)) [.no, .no] := by
  refine wF_of (of_wF ?_)
  unfold sem_is_row_from m_is_row_from
  rw [wF_run]
  simp
  refine ⟨by omega, ?_⟩
  refine wX_map1 (fun d => .bl (isFrom d n)) (fun d hd => by simp [wF_is_from (h d hd)]) ?_
  simp [allG_map (l := xs) (f := fun d => .bl (isFrom d n)) (c := fun d => isFrom d n) fun _ _ => rfl]
theorem wF_row_not (h : notSet d = true) (h2 : tupB d = false) : wF sem_is_row_from [.sh d, .sh (.int n)] Q = Q (.bl false) [.no, .no] := by
  refine wF_of (of_wF ?_)
  unfold sem_is_row_from m_is_row_from
  rw [wF_run]
  cases d <;> first | (simp [notSet] at h; done) | (simp [tupB] at h2; done) | simp
end
end DL

namespace DL
open PySem L2
/-! ### a list against [] -/
def neNilD : D → D → Option D
  | .lst xs, .lst [] => some (.bl (!xs.isEmpty))
  | _, _ => none
@[simp] theorem neNilD_lst {xs : List D} : neNilD (.lst xs) (.lst []) = some (.bl (!xs.isEmpty)) := rfl
section
variable {X : Cx}
theorem op_neNil (hu : X.A.units + 64 < cLine) : OpR X (compareOp .NotEq) (rOp X.G neNilD) := by
  intro pins s σ H x y v u Q I rx ry h
  obtain ⟨a, b, z, F, sm, e, vx, vy, q⟩ := h
  unfold neNilD at e
  split at e
  · next xs =>
    cases e
    obtain ⟨p1, vs1, rfl, h1, r1⟩ := vx.lst sm
    obtain ⟨p2, vs2, rfl, h2, r2⟩ := vy.lst sm
    cases r2
    cases rx
    cases ry
    obtain ⟨its, rs, pl, _⟩ := I.list (SqL.of h1)
    obtain ⟨its2, rs2, pl2, _⟩ := I.list (SqL.of h2)
    cases rs2
    have hlen := r1.length
    have hl2 := rs.length
    unfold compareOp
    cases xs with
    | nil =>
      cases r1
      cases rs
      exact PySem.SeqAt.RcNeAt.lists (e := fun _ => true) pl.isList pl2.isList rfl (by omega) (fun j h1 => absurd h1 (by simp)) _ _ _ _ ⟨.bl _, H, I, rfl, q _ _ _ Res.same (.bl _)⟩
    | cons d ds =>
      refine PySem.SeqAt.RcNeAt.lists_lengths pl.isList pl2.isList ?_ (by omega) _ _ _ _ ⟨.bl _, H, I, rfl, q _ _ _ Res.same (.bl _)⟩
      have h9 : its.length = ds.length + 1 := by rw [← hl2, ← hlen]; rfl
      simp only [List.size_toArray, h9]
      simp
  · cases e
end
end DL

namespace DL
open PySem L2 PySem.Spec PyProof.Rows
/-! ### for k in d -/
def Itw (a : Addr) (es : Array DictEntry) (ep : Nat) (vs : List V) : It :=
  ⟨fun i H => H a = some (rawD a es ep) ∧ i < vs.length, fun i H x H' => H' = H ∧ vs[i]? = some x, fun i H => H a = some (rawD a es ep) ∧ vs.length ≤ i⟩
def KeyVs (vs : List V) (es : List DictEntry) : Prop := vs.length = es.length ∧ ∀ (i : Nat) (x : V), vs[i]? = some x → ∃ en, es[i]? = some en ∧ RelV x en.key
theorem RepKV.keys {K : Gd} {F : Hp} : ∀ {ds : List (D × D)} {es : List DictEntry}, RepKV K F ds es → ∃ vs, RepL K F (ds.map (·.1)) vs ∧ KeyVs vs es
  | _, _, .nil => ⟨[], .nil, rfl, fun i x h => by simp at h⟩
  | _, _, .cons (kv := kv) h1 h2 h3 h4 h5 h6 h7 => by
    obtain ⟨vs, r, hl, hv⟩ := RepKV.keys h7
    refine ⟨kv :: vs, .cons h3 r, by rw [List.length_cons, List.length_cons, hl], fun i x h => ?_⟩
    cases i with
    | zero => simp at h; subst h; exact ⟨_, rfl, h4⟩
    | succ i => exact hv i x (by simpa using h)
theorem turn_raw {P : Program} {w : World} {K : PySem.W.Frag} {tg : Expr} {a : Addr} {es : Array DictEntry} {ep : Nat} {vs : List V} (it : Addr) (hk : KeyVs vs es.toList) :
    Turn P w K tg (Itw a es ep vs) [it] it (fun i h => h.IsKeyIter it a i vs.length ep) where
  mem := by simp
  obj := fun i h st b hb => by
    have e : b = it := by simpa using hb
    subst e
    obtain ⟨oi, e, c, dd⟩ := st
    exact ⟨oi, e, fun v z => by rw [dd] at z; cases z⟩
  keep := fun i h h' st k => st.at fun oi e => k it (by simp) oi e
  item := by
    intro X hP hw hK hc i pins s σ H E I hf st hg
    subst hP hw hK
    obtain ⟨hd, hi⟩ := hg
    obtain ⟨f0, f1, f2, f3, f4, f5⟩ := hf it (by simp)
    obtain ⟨⟨o, hgd, hx, hdt⟩, _, _⟩ := rawD_at I hd
    have hx2 := List.getElem?_eq_getElem hi
    obtain ⟨en, hen, hkey⟩ := hk.2 i _ hx2
    have hsz : es.size = vs.length := by rw [hk.1, Array.length_toList]
    refine next_key_item st hgd hdt hsz (by simpa using hen) fun h' st' sb => ?_
    have I1 : Inv X pins σ H { s with heap := h' } := I.turned (t' := s.toks) (fun b ob hb e => (sb.2 b hb).trans e) f0 f1 f3 f4 f5
    obtain ⟨oi, e, c, dd⟩ := id st'
    exact ⟨en.key, rfl, go_of (s := { s with heap := h' }) e c dd (by decide) ⟨vs[i], H, I1, hkey, ⟨rfl, hx2⟩, st', fun b hb => (hf b hb).1⟩⟩
  done := by
    intro X hP hw hK hc i pins s σ H E I hf st hg
    subst hP hw hK
    obtain ⟨hd, hi⟩ := hg
    obtain ⟨f0, f1, f2, f3, f4, f5⟩ := hf it (by simp)
    obtain ⟨⟨o, hgd, hx, hdt⟩, _, _⟩ := rawD_at I hd
    have hsz : es.size = vs.length := by rw [hk.1, Array.length_toList]
    exact next_key_end (I.ok.hd hc) st hgd hdt hsz hi fun h' eb => ⟨rfl, I.turned (t' := s.toks) (fun b ob hb e => eb b ob hb e) f0 f1 f3 f4 f5⟩
  self := fun A i s Q E st h => wpAny_pyIter_keyiter st h
def iKeysR (td : TE) : TI := fun σ H R => td σ H fun x H1 => ∃ a es ep vs, x = .ref a ∧ H1 a = some (rawD a es ep) ∧ KeyVs vs es.toList ∧ R (Itw a es ep vs) H1
section
variable {X : Cx} {tg e : Expr} {td : TE}
theorem pi_keysR (he : PE X e td) : PI X tg e (iKeysR td) := by
  refine ⟨fun pins s σ H R I h => ?_⟩
  refine thn (he.run pins s σ H _ I h) fun u s1 ⟨x, H1, I1, rx, a, es, ep, vs, ex, hd, hk, q⟩ => ?_
  subst ex
  obtain rfl : u = Value.ref a := rx
  obtain ⟨⟨o, hgd, hx, hdt⟩, hs, _⟩ := rawD_at I1 hd
  have hsz : es.size = vs.length := by rw [hk.1, Array.length_toList]
  refine iter_keys hs hgd hx hdt (pi_one (tk := s1.toks) I1 _ (turn_raw _ hk) ⟨_, Heap.get?_push_size _ rfl, rfl, ?_⟩ q)
  rw [hsz] <;> rfl
theorem iter_raw {K : Gd} {F : Hp} {a : Addr} {es : Array DictEntry} {ep : Nat} {vs : List V} {ds : List D} (h : F a = some (rawD a es ep)) (r : RepL K F ds vs) : IterOk K (Itw a es ep vs) F ds where
  go := fun i H hi s => ⟨s _ _ h, by rw [← r.length]; exact hi⟩
  stop := fun H s => ⟨s _ _ h, by rw [r.length]; exact Nat.le_refl _⟩
  yld := fun i H x H' F2 hi s1 s2 y => by
    obtain ⟨rfl, y⟩ := y
    obtain ⟨d, hd, rd⟩ := r.getV y
    exact ⟨d, F2, hd, Res.same, rd.mono s1⟩
end
def itemsW : D → Option (List D)
  | .dic kvs => some (kvs.map (·.1))
  | d => itemsD d
def itW (m : EM) : IM := fun η => match m η with
  | some (d, η') => match itemsW d with
    | some ds => some (ds, η')
    | none => none
  | none => none
section
variable {X : Cx} {tg e : Expr}
theorem i_w {m : EM} (h : PE X e (tD X.G m)) : PI X tg e (tI X.G (itW m)) := ⟨fun pins s σ H R I ⟨B, F, Z, η, ds, η', ok, hm, q⟩ => by
  unfold itW at hm
  split at hm
  · next d η1 h1 =>
    split at hm
    · next ds' hd =>
      cases hm
      cases d with
      | dic kvs =>
        cases hd
        exact (pi_keysR (tg := tg) h).run pins s σ H R I ⟨B, F, Z, η, _, _, ok, h1, fun v H' F' s' ok' r => by
          cases r with
          | dic hs hr nd =>
            obtain ⟨vs, rk, hk⟩ := RepKV.keys hr
            exact ⟨_, _, _, vs, rfl, ok'.ff _ _ hs, hk, q _ H' F' s' ok' (iter_raw hs rk)⟩⟩
      | _ => exact (i_of (tg := tg) h).run pins s σ H R I ⟨B, F, Z, η, ds, _, ok, by unfold itE; rw [h1]; dsimp only; simp only [itemsW] at hd; rw [hd], q⟩
    · cases hm
  · cases hm⟩
end
@[simp] theorem itemsW_dic {kvs : List (D × D)} : itemsW (.dic kvs) = some (kvs.map (·.1)) := rfl
@[simp] theorem itemsW_lst {xs : List D} : itemsW (.lst xs) = some xs := rfl
@[simp] theorem itemsW_tup {xs : List D} : itemsW (.tup xs) = some xs := rfl
@[simp] theorem itemsW_frl {xs : List D} : itemsW (.frl xs) = some xs := rfl
theorem wI_itW0 {η : Env} {m : EM} {Q : List D → Env → Prop} : wI (itW m) η Q = wE m η fun d η1 => wO (itemsW d) fun ds => Q ds η1 := by
  unfold wI itW wE
  rcases m η with _ | ⟨d, η1⟩
  · rfl
  dsimp only
  rcases itemsW d with _ | ds <;> rfl
def wI_itW_k2 (Q : List D → Env → Prop) (η1 : Env) : (List D) → Prop := fun ds => Q ds η1
@[simp] theorem wI_itW_k2_eq {Q : List D → Env → Prop} {η1 : Env} {ds : List D} : wI_itW_k2 Q η1 ds = (Q ds η1) := propext Iff.rfl
def wI_itW_k1 (Q : List D → Env → Prop) : (D) → (Env) → Prop := fun d η1 => wO (itemsW d) (wI_itW_k2 Q η1)
@[simp] theorem wI_itW_k1_eq {Q : List D → Env → Prop} {d : D} {η1 : Env} : wI_itW_k1 Q d η1 = (wO (itemsW d) (wI_itW_k2 Q η1)) := propext Iff.rfl
@[simp] theorem wI_itW {m : EM} {Q : List D → Env → Prop} {η : Env} : wI (itW m) η Q = (wE m η (wI_itW_k1 Q)) := by
  rw [wI_itW0]; rfl
end DL

namespace DL
open PySem L2
/-! ### _law_same with dicts (one level, keys ints or texts) -/
def c_same2 : BM := (boolD (bin2 neNilD (nV 2) (vE (lstE (nilA)))))
def b_same2 : SM :=
 (fgM [3, 4, 6] (seqM (asgM (mut0 2 popG) (tupG 2 (consG (nameG 3) (consG (nameG 4) (nilG)))))
 (ifM (boolD (isiE "dict" (nV 4)))
 (seqM (ifM (orB (notBM (boolD (isiE "dict" (nV 3)))) (orB (boolD (bin2 neD (vE (callB lenG (consV (nV 3) (nilV)))) (vE (callB lenG (consV (nV 4) (nilV)))))) (boolD (bin2 neNilD (vE (lcE (itW (varE 4)) [5] (nameG 5) (boolD (bin2 ninD (nV 5) (nV 3))) (varE 5))) (vE (lstE (nilA)))))))
 (retM (cE (.bl false)))
 (nopM))
 (seqM (setS 6 (callB dictG2 (consV (vE (lcE (itW (varE 3)) [5] (nameG 5) (trueB) (tupE (consA (varE 5) (consA (varE 5) (nilA)))))) (nilV))))
 (exprS (mutE 2 (consA (bin2 addD (vE (lcE (itW (varE 4)) [5] (nameG 5) (trueB) (tupE (consA (bin2 idxD (nV 3) (nV 5)) (consA (bin2 idxD (nV 4) (nV 5)) (nilA)))))) (vE (lcE (itW (varE 4)) [5] (nameG 5) (trueB) (tupE (consA (bin2 idxD (nV 6) (nV 5)) (consA (varE 5) (nilA))))))) (nilA)) extG))))
 (ifM (orB (boolD (isiE "tuple" (nV 4))) (boolD (isiE "list" (nV 4))))
 (seqM (ifM (orB (boolD (bin2 neD (vE (isiE "tuple" (nV 3))) (vE (isiE "tuple" (nV 4))))) (orB (boolD (bin2 neD (vE (isiE "list" (nV 3))) (vE (isiE "list" (nV 4))))) (boolD (bin2 neD (vE (callB lenG (consV (nV 3) (nilV)))) (vE (callB lenG (consV (nV 4) (nilV))))))))
 (retM (cE (.bl false)))
 (nopM))
 (exprS (mutE 2 (consA (lcE (rng1 (callB lenG (consV (nV 4) (nilV)))) [7] (nameG 7) (trueB) (tupE (consA (bin2 idxD (nV 3) (nV 7)) (consA (bin2 idxD (nV 4) (nV 7)) (nilA))))) (nilA)) extG)))
 (ifM (orB (boolD (bin2 neD (vE (isiE "bool" (nV 3))) (vE (isiE "bool" (nV 4))))) (orB (boolD (bin2 neD (vE (isiE "int" (nV 3))) (vE (isiE "int" (nV 4))))) (orB (boolD (bin2 neD (vE (isiE "str" (nV 3))) (vE (isiE "str" (nV 4))))) (boolD (bin2 neD (nV 3) (nV 4))))))
 (retM (cE (.bl false)))
 (nopM))))))
def m__law_same2 : SM :=
 seqM (setO 2 (lstE (consA (tupE (consA (varE 0) (consA (varE 1) (nilA)))) (nilA))))
 (seqM (whileL c_same2 b_same2 fuel)
 (retM (cE (.bl true))))
def sem__law_same2 : Sem := runF 8 m__law_same2
/-- the loop, over data that are alike -/
theorem same2_loop {d0 d1 : D} {R : Out → Env → Prop} {n : Nat} {xs : List D} (h : okDs 58 xs = true) (hz : szDs xs ≤ 1000000) (hn : szDs xs < n)
    (last : R .nx [.sh d0, .sh d1, .ow (.lst []), .no, .no, .no, .no, .no]) : wS (whileL c_same2 b_same2 n) [.sh d0, .sh d1, .ow (.lst (xs.map pr)), .no, .no, .no, .no, .no] R := by
  refine wS_while (fun m η => ∃ xs : List D, okDs 58 xs = true ∧ szDs xs = m ∧ szDs xs ≤ 1000000 ∧ η = [.sh d0, .sh d1, .ow (.lst (xs.map pr)), .no, .no, .no, .no, .no]) (szDs xs) hn ⟨xs, h, rfl, hz, rfl⟩ ?_
  rintro m η ⟨xs, h1, h2, h3, rfl⟩
  unfold c_same2 b_same2
  simp
  rcases List.eq_nil_or_concat xs with rfl | ⟨ys, x, rfl⟩
  · simp; exact last
  · rw [List.concat_eq_append] at *
    rw [szDs_append] at h2 h3
    have hx : okD 58 x = true := okDs_all.mp h1 x (by simp)
    have hys : okDs 58 ys = true := okDs_all.mpr fun z hz => okDs_all.mp h1 z (by simp [hz])
    simp only [szDs] at h2 h3
    have hpos := szD_pos x
    have seqCase : ∀ (zs : List D), szD x = 1 + szDs zs → okDs 57 zs = true → okDs 58 (ys ++ zs) = true ∧ szDs (ys ++ zs) < m ∧ szDs (ys ++ zs) ≤ 1000000 := fun zs e ho => by
      refine ⟨okDs_all.mpr fun z hz => ?_, by rw [szDs_append]; omega, by rw [szDs_append]; omega⟩
      rcases List.mem_append.mp hz with hz | hz
      · exact okDs_all.mp hys z hz
      · exact okD_mono 57 58 z (by omega) (okDs_all.mp ho z hz)
    have leaf : ∃ m', m' < m ∧ ∃ xs : List D, okDs 58 xs = true ∧ szDs xs = m' ∧ szDs xs ≤ 1000000 ∧ List.map pr ys = List.map pr xs := ⟨szDs ys, by omega, ys, hys, rfl, by omega, rfl⟩
    have hlen := szDs_len ys
    simp [popG_snoc, pr]
    have walk : ∀ (f : List D → D), (f = .tup ∨ f = .lst) → ∀ zs : List D, szD (f zs) = 1 + szDs zs → okDs 57 zs = true → x = f zs → ∀ R : List D → Env → Prop,
        R (zs.map pr) [.sh d0, .sh d1, .ow (.lst (ys.map pr)), .sh (f zs), .sh (f zs), .no, .no, .no] →
        wX (lcL [7] (nameG 7) trueB (tupE (consA (bin2 idxD (nV 3) (nV 7)) (consA (bin2 idxD (nV 4) (nV 7)) nilA))) (rangeD 0 zs.length) [.sh d0, .sh d1, .ow (.lst (ys.map pr)), .sh (f zs), .sh (f zs), .no, .no, .no])
          fun ys_1 η2 => ys_1 = zs.map pr ∧ ∃ s, η2 = [.sh d0, .sh d1, .ow (.lst (ys.map pr)), .sh (f zs), .sh (f zs), .no, .no, s] := by
      intro f hf zs _ _ _ R _
      refine wX_rng (fun i ws η => ws = (zs.take i).map pr ∧ ∃ s, η = [.sh d0, .sh d1, .ow (.lst (ys.map pr)), .sh (f zs), .sh (f zs), .no, .no, s]) ⟨rfl, _, rfl⟩ ?_ ?_
      · rintro i ws η hi ⟨rfl, s, rfl⟩
        have hi' : i < zs.length := by omega
        have hg := List.getElem?_eq_getElem hi'
        have hT : (zs.take (i + 1)).map pr = (zs.take i).map pr ++ [pr zs[i]] := by
          rw [List.take_add_one, hg, List.map_append]; rfl
        rw [hT]
        rcases hf with rfl | rfl
        · simp [hg]; rfl
        · simp [hg]; rfl
      · rintro ws η ⟨rfl, s, rfl⟩
        simp
    have seqR : ∀ zs : List D, szD x = 1 + szDs zs → okDs 57 zs = true → ∃ m', m' < m ∧ ∃ xs : List D, okDs 58 xs = true ∧ szDs xs = m' ∧ szDs xs ≤ 1000000 ∧ ys.map pr ++ zs.map pr = xs.map pr := fun zs e ho => by
      obtain ⟨a, b, c⟩ := seqCase zs e ho
      exact ⟨_, b, ys ++ zs, a, rfl, c, List.map_append.symm⟩
    cases x with
    | non => simp [neD_self hx]; exact leaf
    | bl b => simp; exact leaf
    | int b => simp; exact leaf
    | str b => simp [neD_self hx]; exact leaf
    | tup zs =>
      have hz1 : szD (.tup zs) = 1 + szDs zs := by rw [szD]
      have ho : okDs 57 zs = true := by rw [okD] at hx; exact hx
      have := szDs_len zs
      simp
      refine ⟨by omega, by omega, ?_⟩
      refine wX_mono (walk .tup (.inl rfl) zs hz1 ho rfl (fun _ _ => True) True.intro) ?_
      rintro ws η ⟨rfl, s, rfl⟩
      simp
      exact ⟨by omega, seqR zs hz1 ho⟩
    | lst zs =>
      have hz1 : szD (.lst zs) = 1 + szDs zs := by rw [szD]
      have ho : okDs 57 zs = true := by rw [okD] at hx; exact hx
      have := szDs_len zs
      simp
      refine ⟨by omega, by omega, ?_⟩
      refine wX_mono (walk .lst (.inr rfl) zs hz1 ho rfl (fun _ _ => True) True.intro) ?_
      rintro ws η ⟨rfl, s, rfl⟩
      simp
      exact ⟨by omega, seqR zs hz1 ho⟩
    | frl zs => simp [okD] at hx
    | dic zs => simp [okD] at hx
    | set zs => simp [okD] at hx
    | tuz zs => simp [okD] at hx
theorem wS_while1 {c : BM} {b : SM} {n : Nat} {η : Env} {R : Out → Env → Prop} (h : wB c η fun t η1 => (t = true → wS b η1 (loopK (fun η2 => wS (whileL c b n) η2 R) R)) ∧ (t = false → R .nx η1)) : wS (whileL c b (n + 1)) η R := by
  unfold wB at h
  rcases hc : c η with _ | ⟨t, η1⟩
  · rw [hc] at h; exact h.elim
  rw [hc] at h
  dsimp only at h
  cases t with
  | false =>
    have e : whileL c b (n + 1) η = some (.nx, η1) := by simp only [whileL, hc]
    unfold wS
    rw [e]
    exact h.2 rfl
  | true =>
    have h2 := h.1 rfl
    unfold wS at h2
    rcases hb : b η1 with _ | ⟨o, η2⟩
    · rw [hb] at h2; exact h2.elim
    rw [hb] at h2
    dsimp only at h2
    cases o with
    | nx =>
      have e : whileL c b (n + 1) η = whileL c b n η2 := by simp only [whileL, hc, hb]
      rw [loopK_nx] at h2
      unfold wS
      rw [e]
      exact h2
    | bk =>
      have e : whileL c b (n + 1) η = some (.nx, η2) := by simp only [whileL, hc, hb]
      rw [loopK_bk] at h2
      unfold wS
      rw [e]
      exact h2
    | rt d =>
      have e : whileL c b (n + 1) η = some (.rt d, η2) := by simp only [whileL, hc, hb]
      rw [loopK_rt] at h2
      unfold wS
      rw [e]
      exact h2
theorem same2_plain {d : D} {Q : D → Env → Prop} (h : okD 58 d = true) (hz : szD d ≤ 1000000) : wF sem__law_same2 [.sh d, .sh d] Q = Q (.bl true) [.no, .no] := by
  refine wF_of (of_wF ?_)
  unfold sem__law_same2 m__law_same2
  rw [wF_run]
  simp
  refine same2_loop (xs := [d]) (by simp [okDs, h]) (by simp [szDs]; omega) (by unfold fuel; simp [szDs]; omega) ?_
  simp
theorem look_mem {k v : D} : ∀ {kvs : List (D × D)}, (kvs.map fun p => keyN p.1).Nodup → (k, v) ∈ kvs → lookD kvs k = some v
  | [], _, h => by cases h
  | (k', v') :: kvs, nd, h => by
    rw [List.map_cons, List.nodup_cons] at nd
    unfold lookD
    by_cases e : keyEq k' k = true
    · rcases List.mem_cons.mp h with h | h
      · cases h
        rw [List.find?_cons_of_pos (by exact e)]
        rfl
      · exfalso
        exact nd.1 (List.mem_map.mpr ⟨(k, v), h, (of_decide_eq_true e).symm⟩)
    · rcases List.mem_cons.mp h with h | h
      · cases h; exact (e keyEq_refl).elim
      · rw [List.find?_cons_of_neg (by exact e)]
        exact look_mem nd.2 h
theorem merge_new : ∀ (l a : List (D × D)), ((a ++ l).map fun p => keyN p.1).Nodup → mergeD a l = a ++ l
  | [], a, _ => by simp [mergeD]
  | (k, v) :: l, a, nd => by
    have hn : lookD a k = none := by
      unfold lookD
      rw [Option.map_eq_none_iff, List.find?_eq_none]
      intro kv hkv he
      rw [List.map_append, List.nodup_append] at nd
      exact nd.2.2 _ (List.mem_map.mpr ⟨kv, hkv, rfl⟩) _ (List.mem_map.mpr ⟨(k, v), List.mem_cons_self, rfl⟩) (of_decide_eq_true he)
    show mergeD (putD a k v) l = _
    rw [putD_new hn, merge_new l (a ++ [(k, v)]) (by rw [List.append_assoc]; exact nd), List.append_assoc]
    rfl
theorem pairsOf_pairs : ∀ (l : List (D × D)), (∀ kv ∈ l, scalK kv.1 = true) → pairsOf (l.map fun kv => .tup [kv.1, kv.2]) = some l
  | [], _ => rfl
  | kv :: l, h => by
    rw [List.map_cons, pairsOf, pairsOf_pairs l fun x hx => h x (List.mem_cons_of_mem _ hx)]
    dsimp only
    rw [if_pos (h kv List.mem_cons_self)]
structure DicOk (kvs : List (D × D)) : Prop where
  key : ∀ kv ∈ kvs, scalK kv.1 = true
  nd : (kvs.map fun p => keyN p.1).Nodup
  val : ∀ kv ∈ kvs, okD 58 kv.2 = true
  sz : szDs (kvs.map (·.2)) ≤ 400000
theorem DicOk.homog {kvs : List (D × D)} (h : DicOk kvs) {k : D} (hk : scalK k = true) : DL.homog k kvs = true := by
  unfold DL.homog
  rw [hk, show (kvs.all fun kv => scalK kv.1) = true from List.all_eq_true.mpr h.key]; rfl
theorem DicOk.len {kvs : List (D × D)} (h : DicOk kvs) : kvs.length ≤ 400000 := by
  have := szDs_len (kvs.map (·.2))
  have := h.sz
  rw [List.length_map] at *
  omega
theorem szDs_keys : ∀ {l : List D}, (∀ k ∈ l, scalK k = true) → szDs l = l.length
  | [], _ => rfl
  | k :: l, h => by
    have h1 := h k List.mem_cons_self
    rw [szDs, szDs_keys fun x hx => h x (List.mem_cons_of_mem _ hx), List.length_cons]
    cases k <;> first | (simp [scalK] at h1; done) | (simp [szD]; omega)
theorem scal_ok {k : D} (h : scalK k = true) (n : Nat) : okD n k = true := by
  cases k <;> first | (simp [scalK] at h; done) | simp [okD]
theorem same2_dic {kvs : List (D × D)} {Q : D → Env → Prop} (h : DicOk kvs) : wF sem__law_same2 [.sh (.dic kvs), .sh (.dic kvs)] Q = Q (.bl true) [.no, .no] := by
  refine wF_of (of_wF ?_)
  unfold sem__law_same2 m__law_same2
  rw [wF_run]
  have hl := h.len
  have hk : ∀ kv ∈ kvs, inD kv.1 (.dic kvs) = some (.bl true) := fun kv hkv => by rw [inD_dic (h.homog (h.key kv hkv)), look_mem h.nd hkv]; rfl
  have hnin : ∀ kv ∈ kvs, ninD kv.1 (.dic kvs) = some (.bl false) := fun kv hkv => by unfold ninD; rw [hk kv hkv]; rfl
  have hget : ∀ kv ∈ kvs, idxD (.dic kvs) kv.1 = some kv.2 := fun kv hkv => idxD_dic (h.homog (h.key kv hkv)) (look_mem h.nd hkv)
  simp
  rw [show fuel = 999999999999 + 1 from rfl]
  refine wS_while1 ?_
  generalize hC : whileL c_same2 b_same2 999999999999 = C
  unfold c_same2
  simp
  unfold b_same2
  simp [popG]
  refine ⟨by omega, ?_⟩
  refine wX_filt1 id (fun _ => false) (fun d hd => ?_) ?_
  · obtain ⟨kv, hkv, rfl⟩ := List.mem_map.mp hd
    simp [hnin kv hkv]
  rw [show (List.filter (fun _ => false) (kvs.map (·.1))) = [] from List.filter_eq_nil_iff.mpr fun _ _ => by simp]
  simp
  refine ⟨by omega, ?_⟩
  refine wX_map1 (fun k => .tup [k, k]) (fun d hd => by simp) ?_
  have hdict : dictG2 [.lst ((kvs.map (·.1)).map fun k => .tup [k, k])] = some (.dic (kvs.map fun kv => (kv.1, kv.1))) := by
    rw [show ((kvs.map (·.1)).map fun k => D.tup [k, k]) = (kvs.map fun kv => (kv.1, kv.1)).map fun kv => .tup [kv.1, kv.2] by rw [List.map_map, List.map_map]; rfl]
    unfold dictG2 dictG
    dsimp only
    rw [pairsOf_pairs (kvs.map fun kv => (kv.1, kv.1)) fun kv hkv => by obtain ⟨x, hx, rfl⟩ := List.mem_map.mp hkv; exact h.key x hx]
    dsimp only
    rw [if_pos (by simp; omega), merge_new _ _ (by rw [List.nil_append, List.map_map]; exact h.nd)]
    rfl
  have hget2 : ∀ kv ∈ kvs, idxD (.dic (kvs.map fun kv => (kv.1, kv.1))) kv.1 = some kv.1 := fun kv hkv => by
    refine idxD_dic ?_ (look_mem (by rw [List.map_map]; exact h.nd) (List.mem_map.mpr ⟨kv, hkv, rfl⟩))
    unfold DL.homog
    rw [h.key kv hkv, show ((kvs.map fun kv => (kv.1, kv.1)).all fun kv => scalK kv.1) = true from List.all_eq_true.mpr fun x hx => by obtain ⟨y, hy, rfl⟩ := List.mem_map.mp hx; exact h.key y hy]; rfl
  have hm : ∀ {f : D → D} {g : D × D → D}, (∀ kv ∈ kvs, f kv.1 = g kv) → (kvs.map (·.1)).map f = kvs.map g := fun e => by rw [List.map_map]; exact List.map_congr_left e
  simp [hdict, -List.map_map]
  refine ⟨by omega, ?_⟩
  refine wX_map1 (fun k => match lookD kvs k with | some v => .tup [v, v] | none => .non) (fun d hd => ?_) ?_
  · obtain ⟨kv, hkv, rfl⟩ := List.mem_map.mp hd
    simp [hget kv hkv, look_mem h.nd hkv]
  rw [hm (g := fun kv => pr kv.2) fun kv hkv => by rw [look_mem h.nd hkv]; rfl]
  simp [-List.map_map]
  refine ⟨by omega, ?_⟩
  refine wX_map1 pr (fun d hd => ?_) ?_
  · obtain ⟨kv, hkv, rfl⟩ := List.mem_map.mp hd
    simp [hget2 kv hkv, pr]
  simp [-List.map_map]
  have hxs : List.map (fun kv : D × D => pr kv.2) kvs ++ (kvs.map (·.1)).map pr = ((kvs.map (·.2)) ++ (kvs.map (·.1))).map pr := by rw [List.map_append, List.map_map, List.map_map]; rfl
  have hsz := h.sz
  have hks : szDs (kvs.map (·.1)) = kvs.length := by rw [szDs_keys fun k hk => by obtain ⟨x, hx, rfl⟩ := List.mem_map.mp hk; exact h.key x hx, List.length_map]
  rw [hxs]
  subst hC
  refine ⟨by omega, ?_⟩
  refine same2_loop (n := 999999999999) (xs := kvs.map (·.2) ++ kvs.map (·.1)) (okDs_all.mpr fun z hz => ?_) (by rw [szDs_append]; omega) (by rw [szDs_append]; omega) ?_
  · rcases List.mem_append.mp hz with hz | hz
    · obtain ⟨x, hx, rfl⟩ := List.mem_map.mp hz; exact h.val x hx
    · obtain ⟨x, hx, rfl⟩ := List.mem_map.mp hz; exact scal_ok (h.key x hx) _
  · simp
end DL

namespace DL
open PySem L2
/-! ### range of three -/
def rng3 (m : AM) : IM := fun η => match m η with
  | some ([.int i, .int j, .int c], η') => if c ≠ 0 ∧ c.natAbs < 1073741824 ∧ Builtin.Range.small i j c = true ∧ 0 ≤ Builtin.Range.rangeSize i j c then some (rangeC i c (Builtin.Range.rangeSize i j c).toNat, η') else none
  | _ => none
section
variable {X : Cx} {tg a b c : Expr} {p pos : Pos}
theorem i_rng3 {m : AM} (hg : Gl X "range") (hm' : X.mg "range" = none) (ha : PA X [a, b, c] (tDA X.G m)) (hs : starEach [a, b, c] X.env = (false, eval a X.env) :: starEach [b, c] X.env := by rfl) (hpl : (backTo pos (starEach [b, c] X.env)).any (·.1) = false := by rfl) :
    PI X tg (.Call (.Name "range" p) [a, b, c] [] pos) (tI X.G (rng3 m)) :=
  weakI (pi_range3 hg hm' ha hs hpl) fun σ H R ⟨B, F, Z, η, ds, η', ok, hm, q⟩ => by
    unfold rng3 at hm
    split at hm
    · next i j k η1 h1 =>
      split at hm
      · next hj =>
        cases hm
        refine ⟨B, F, Z, η, _, _, ok, h1, fun vs H' F' s' ok' r => ?_⟩
        cases r with
        | cons r1 r2 =>
          cases r2 with
          | cons r2 r3 =>
            cases r3 with
            | cons r3 r4 =>
              cases r4
              cases r1
              cases r2
              cases r3
              exact ⟨i, j, k, _, rfl, ⟨hj.1, hj.2.1, hj.2.2.1, by omega⟩, q _ H' F' s' ok' iter_rangeC⟩
      · cases hm
    · cases hm
end
theorem wI_rng30 {m : AM} {η : Env} {Q : List D → Env → Prop} : wI (rng3 m) η Q = wA m η fun ds η1 => match ds with
    | [.int i, .int j, .int c] => (c ≠ 0 ∧ c.natAbs < 1073741824 ∧ Builtin.Range.small i j c = true ∧ 0 ≤ Builtin.Range.rangeSize i j c) ∧ Q (rangeC i c (Builtin.Range.rangeSize i j c).toNat) η1
    | _ => False := by
  unfold wI rng3 wA
  rcases m η with _ | ⟨ds, η1⟩
  · rfl
  rcases ds with _ | ⟨d, _ | ⟨e, _ | ⟨f, _ | ⟨g, r⟩⟩⟩⟩
  · rfl
  · cases d <;> rfl
  · cases d <;> cases e <;> rfl
  · cases d <;> cases e <;> cases f <;> try rfl
    next i j c =>
      dsimp only
      by_cases h : c ≠ 0 ∧ c.natAbs < 1073741824 ∧ Builtin.Range.small i j c = true ∧ 0 ≤ Builtin.Range.rangeSize i j c
      · rw [if_pos h]; exact propext ⟨fun q => ⟨h, q⟩, fun q => q.2⟩
      · rw [if_neg h]; exact propext ⟨fun q => q.elim, fun q => h q.1⟩
  · cases d <;> cases e <;> cases f <;> rfl
def wI_rng3_k1 (Q : List D → Env → Prop) : (List D) → (Env) → Prop := fun ds η1 => match ds with
    | [.int i, .int j, .int c] => (c ≠ 0 ∧ c.natAbs < 1073741824 ∧ Builtin.Range.small i j c = true ∧ 0 ≤ Builtin.Range.rangeSize i j c) ∧ Q (rangeC i c (Builtin.Range.rangeSize i j c).toNat) η1
    | _ => False
theorem wI_rng3_k1_eq {Q : List D → Env → Prop} {i j c : Int} {η1 : Env} : wI_rng3_k1 Q [.int i, .int j, .int c] η1 = ((c ≠ 0 ∧ c.natAbs < 1073741824 ∧ Builtin.Range.small i j c = true ∧ 0 ≤ Builtin.Range.rangeSize i j c) ∧ Q (rangeC i c (Builtin.Range.rangeSize i j c).toNat) η1) := propext Iff.rfl
@[simp] theorem wI_rng3 {m : AM} {Q : List D → Env → Prop} {η : Env} : wI (rng3 m) η Q = (wA m η (wI_rng3_k1 Q)) := by
  rw [wI_rng30]; rfl
end DL

namespace DL
open PySem L2
/-! ### comprehensions of two -/
def lcL2 (vs : List Nat) (g : TgM) (tt : BM) (it1 : IM) (vs1 : List Nat) (g1 : TgM) (tt1 : BM) (te : EM) : List D → Env → Option (List D × Env)
  | [], η => some ([], η)
  | d :: ds, η => match g d (clearL vs η) with
    | some η1 => match tt η1 with
      | some (true, η2) => match it1 η2 with
        | some (ds1, η3) => match lcL vs1 g1 tt1 te ds1 η3 with
          | some (ys, η4) => match lcL2 vs g tt it1 vs1 g1 tt1 te ds η4 with
            | some (zs, η5) => some (ys ++ zs, η5)
            | none => none
          | none => none
        | none => none
      | some (false, η2) => lcL2 vs g tt it1 vs1 g1 tt1 te ds η2
      | none => none
    | none => none
def lcE2 (it : IM) (vs : List Nat) (g : TgM) (tt : BM) (it1 : IM) (vs1 : List Nat) (g1 : TgM) (tt1 : BM) (te : EM) : EM := fun η => match it η with
  | some (ds, η1) => if clearOk vs η1 = true then match lcL2 vs g tt it1 vs1 g1 tt1 te ds η1 with
    | some (ys, η2) => if ys.length ≤ 16777216 then some (.lst ys, restL vs η1 η2) else none
    | none => none
    else none
  | none => none
theorem wipe_sub {σ : L2.St} {vs vs1 : List Nat} (h : ∀ i ∈ vs1, i ∈ vs) : wipe (wipe σ vs1) vs = wipe σ vs := by
  apply List.ext_getElem?
  intro j
  by_cases hj : j ∈ vs
  · rw [wipe_get hj, wipe_get hj, wipe_length]
  · rw [wipe_out hj, wipe_out hj, wipe_out (fun z => hj (h j z))]
theorem lc_read2 {K : Gd} {it it1 : IM} {vs vs1 : List Nat} {g g1 : TgM} {tt tt1 : BM} {te : EM} (hsub : ∀ i ∈ vs1, i ∈ vs) (σ : L2.St) (H : Hp) (Q : VK) (h : tO K (lcE2 it vs g tt it1 vs1 g1 tt1 te) σ H Q) :
    tLc2 (tI K it) (tG K vs g) (tBt K tt) (tI K it1) (tG K vs1 g1) (tBt K tt1) (tD K te) vs vs1 σ H Q := by
  obtain ⟨B, F, Z, η, d, ηr, ok, hm, q⟩ := h
  unfold lcE2 at hm
  split at hm
  · next ds η1 h1 =>
    split at hm
    · next hc =>
      split at hm
      · next ys η2 h2 =>
        split at hm
        · next hys =>
          cases hm
          refine ⟨B, F, Z, η, ds, η1, ok, h1, fun J H1 F1 s1 ok1 iter p hp => ?_⟩
          have hB := ok1.bnone hp
          have hv : ∀ i ∈ vs, Z i = none := fun i hi => clearOk_zn ok1 hc i hi
          have hv1 : ∀ i ∈ vs1, Z i = none := fun i hi => hv i (hsub i hi)
          have sz : sizeLine = 16777216 := sizeLine_eq
          refine ⟨fun i m H => m = ds.length - i ∧ i ≤ ds.length ∧ ∃ F2 η2' acc vacc ys' σ', Same F1 F2 ∧ Ok K (upd B p (.lst vacc)) F2 Z η2' σ' H ∧ wipe σ' vs = wipe σ vs ∧ RepL K F2 acc vacc ∧
            lcL2 vs g tt it1 vs1 g1 tt1 te (ds.drop i) η2' = some (ys', η2) ∧ ys = acc ++ ys', ⟨ds.length, by omega, Nat.zero_le _, F1, η1, [], [], ys, σ, Same.refl _,
              ok1.shield hp, rfl, .nil, by rw [List.drop_zero]; exact h2, rfl⟩, ?_⟩
          rintro i m H ⟨rfl, hi, F2, η2', acc, vacc, ys', σ', s2, ok2, hw, ra, hl, hy⟩
          have sl : (wipe σ vs).length = σ'.length := by rw [wipe_length, ← wipe_eq_len hw]
          by_cases hlt : i < ds.length
          · rw [List.drop_eq_getElem_cons hlt] at hl
            unfold lcL2 at hl
            split at hl
            · next η3 h3 =>
              refine .inr ⟨iter.go i H hlt (s2.trans ok2.ff), fun H' => ∃ F5 η5 acc5 vacc5 ys5 σ5, Same F1 F5 ∧ Ok K (upd B p (.lst vacc5)) F5 Z η5 σ5 H' ∧ wipe σ5 vs = wipe σ vs ∧ RepL K F5 acc5 vacc5 ∧
                lcL2 vs g tt it1 vs1 g1 tt1 te (ds.drop (i + 1)) η5 = some (ys5, η2) ∧ ys = acc5 ++ ys5, fun H' ⟨F5, η5, acc5, vacc5, ys5, σ5, k⟩ => ⟨_, by omega, rfl, hlt, F5, η5, acc5, vacc5, ys5, σ5, k⟩, fun x H' y => ?_⟩
              obtain ⟨e, F3, he, rs, rp⟩ := iter.yld i H x H' F2 hlt s2 ok2.ff y
              have ed : ds[i] = e := by rw [List.getElem?_eq_getElem hlt] at he; exact Option.some.inj he
              rw [ed] at h3
              obtain ⟨ok3, s3⟩ := ok2.res rs
              have okw := ok3.wiped (σ' := wipe σ vs) hv sl (fun j hj => by rw [wipe_out hj]; exact (wipe_eq_out hw hj).symm)
              refine ⟨_, F3, Z, _, e, η3, okw, rp, h3, fun σ4 H4 F4 s4 ok4 w4 => ⟨w4.trans wipe_wipe, ?_⟩⟩
              have w5 : wipe σ4 vs = wipe σ vs := w4.trans wipe_wipe
              split at hl
              · next η5 h5 =>
                split at hl
                · next ds1 η6 h6 =>
                  split at hl
                  · next ys1 η7 h7 =>
                    split at hl
                    · next zs η8 h8 =>
                      cases hl
                      refine ⟨_, F4, Z, η3, true, η5, ok4, h5, fun H5 F5 s5 ok5 => ?_⟩
                      have s25 : Same F2 F5 := (s3.trans s4).trans s5
                      refine iteT ⟨_, F5, Z, η5, ds1, η6, ok5, h6, fun J1 H6 F6 s6 ok6 iter1 => ?_⟩
                      have s16 : Same F1 F6 := s2.trans (s25.trans s6)
                      refine ⟨fun j k H => k = ds1.length - j ∧ j ≤ ds1.length ∧ ∃ F7 η7' acc7 vacc7 ys7 σ7, Same F6 F7 ∧ Ok K (upd B p (.lst vacc7)) F7 Z η7' σ7 H ∧ wipe σ7 vs1 = wipe σ4 vs1 ∧ RepL K F7 acc7 vacc7 ∧
                        lcL vs1 g1 tt1 te (ds1.drop j) η7' = some (ys7, η7) ∧ ys = acc7 ++ (ys7 ++ zs), ⟨ds1.length, by omega, Nat.zero_le _, F6, η6, acc, vacc, ys1, σ4, Same.refl _, ok6, rfl, ra.mono (s25.trans s6), by rw [List.drop_zero]; exact h7, hy⟩, ?_⟩
                      rintro j k H7 ⟨rfl, hj, F7, η7', acc7, vacc7, ys7, σ7, s7, ok7, hw7, ra7, hl7, hy7⟩
                      have sl7 : (wipe σ4 vs1).length = σ7.length := by rw [wipe_length, ← wipe_eq_len hw7]
                      have wvs : ∀ {τ : L2.St}, wipe τ vs1 = wipe σ4 vs1 → wipe τ vs = wipe σ vs := fun {τ} e => by
                        rw [← wipe_sub hsub, e, wipe_sub hsub, w5]
                      by_cases hjlt : j < ds1.length
                      · rw [List.drop_eq_getElem_cons hjlt] at hl7
                        unfold lcL at hl7
                        split at hl7
                        · next ηa ha =>
                          refine .inr ⟨iter1.go j H7 hjlt (s7.trans ok7.ff), fun H' => ∃ F5 η5 acc5 vacc5 ys5 σ5, Same F6 F5 ∧ Ok K (upd B p (.lst vacc5)) F5 Z η5 σ5 H' ∧ wipe σ5 vs1 = wipe σ4 vs1 ∧ RepL K F5 acc5 vacc5 ∧
                            lcL vs1 g1 tt1 te (ds1.drop (j + 1)) η5 = some (ys5, η7) ∧ ys = acc5 ++ (ys5 ++ zs), fun H' ⟨F5, η5, acc5, vacc5, ys5, σ5, k⟩ => ⟨_, by omega, rfl, hjlt, F5, η5, acc5, vacc5, ys5, σ5, k⟩, fun x8 H8 y8 => ?_⟩
                          obtain ⟨e8, F8, he8, rs8, rp8⟩ := iter1.yld j H7 x8 H8 F7 hjlt s7 ok7.ff y8
                          have ed8 : ds1[j] = e8 := by rw [List.getElem?_eq_getElem hjlt] at he8; exact Option.some.inj he8
                          rw [ed8] at ha
                          obtain ⟨ok8, s8⟩ := ok7.res rs8
                          have okw8 := ok8.wiped (σ' := wipe σ4 vs1) hv1 sl7 (fun j hj => by rw [wipe_out hj]; exact (wipe_eq_out hw7 hj).symm)
                          refine ⟨_, F8, Z, _, e8, ηa, okw8, rp8, ha, fun σ9 H9 F9 s9 ok9 w9 => ⟨w9.trans wipe_wipe, ?_⟩⟩
                          have w9' : wipe σ9 vs1 = wipe σ4 vs1 := w9.trans wipe_wipe
                          split at hl7
                          · next ηb hb =>
                            split at hl7
                            · next y' ηc hcc =>
                              split at hl7
                              · next ys6 ηd hd =>
                                cases hl7
                                refine ⟨_, F9, Z, ηa, true, ηb, ok9, hb, fun Ha Fa sa oka => ?_⟩
                                refine iteT ⟨_, Fa, Z, ηb, y', ηc, oka, hcc, fun v Hb Fb sb okb rb => ?_⟩
                                have s7b : Same F7 Fb := ((s8.trans s9).trans sa).trans sb
                                have hlen : acc7.length < ys.length := by rw [hy7]; simp
                                refine ⟨vacc7, okb.bb p _ upd_same, by rw [← ra7.length]; omega, Fb, ηc, acc7 ++ [y'], vacc7 ++ [v], ys6, σ9, s7.trans s7b, okb.reshield, w9', (ra7.mono s7b).append (.cons rb .nil), hd, by rw [hy7]; simp⟩
                              · cases hl7
                            · cases hl7
                          · next ηb hb =>
                            refine ⟨_, F9, Z, ηa, false, ηb, ok9, hb, fun Ha Fa sa oka => ?_⟩
                            have s7a : Same F7 Fa := (s8.trans s9).trans sa
                            exact iteF ⟨Fa, ηb, acc7, vacc7, ys7, σ9, s7.trans s7a, oka, w9', ra7.mono s7a, hl7, hy7⟩
                          · cases hl7
                        · cases hl7
                      · have ej : j = ds1.length := by omega
                        subst ej
                        rw [List.drop_length] at hl7
                        unfold lcL at hl7
                        cases hl7
                        exact .inl ⟨iter1.stop H7 (s7.trans ok7.ff), F7, η7, acc7, vacc7, zs, σ7, s16.trans s7, ok7, wvs hw7, ra7, h8, hy7⟩
                    · cases hl
                  · cases hl
                · cases hl
              · next η5 h5 =>
                refine ⟨_, F4, Z, η3, false, η5, ok4, h5, fun H5 F5 s5 ok5 => ?_⟩
                have s15 : Same F2 F5 := (s3.trans s4).trans s5
                exact iteF ⟨F5, η5, acc, vacc, ys', σ4, s2.trans s15, ok5, w5, ra.mono s15, hl, hy⟩
              · cases hl
            · cases hl
          · have e : i = ds.length := by omega
            subst e
            rw [List.drop_length] at hl
            unfold lcL2 at hl
            cases hl
            rw [List.append_nil] at hy
            subst hy
            refine .inl ⟨iter.stop H (s2.trans ok2.ff), ?_⟩
            have okr := Ok.resto (η1 := η1) (σ := σ) (fun j e he => let ⟨v, k1, k2⟩ := ok1.sh j e he; ⟨v, k1, k2.mono s2⟩) hv ok2 (wipe_eq_len hw) (fun j hj => wipe_eq_out hw hj)
            obtain ⟨ok5, f5, h5, n5⟩ := okr.unshield hB
            exact q p H F2 (s1.trans s2) ok5 hB f5 (.lst h5 ra) n5
        · cases hm
      · cases hm
    · cases hm
  · cases hm
section
variable {X : Cx}
theorem po_lc2 {elt tg iter tg1 iter1 : Expr} {ifs ifs1 : List Expr} {scope : Scope} {own : List (Str × Nat)} {vs1 : List Nat} {pos : Pos} {it it1 : IM} {g g1 : TgM} {tt tt1 : BM} {te : EM} (hc : X.calm = true) (hN : X.N.Nodup) (hi : PI X tg iter (tI X.G it)) (ok : BlkOk X.N X.env.scope scope own) (hv : ∀ i ∈ vs1, i ∈ own.map (·.2))
    (hg : ∀ (s : Shared) (H : Hp) (C : Addr) (cl : List (Str × Addr)) (fp : List Addr), PG (X.blk s H scope (compEnvC scope cl C X.env) fp) tg (tG X.G (own.map (·.2)) g))
    (ht : ∀ (s : Shared) (H : Hp) (C : Addr) (cl : List (Str × Addr)) (fp : List Addr), PTs (X.blk s H scope (compEnvC scope cl C X.env) fp) ifs (tBt X.G tt))
    (hi1 : ∀ (s : Shared) (H : Hp) (C : Addr) (cl : List (Str × Addr)) (fp : List Addr), PI (X.blk s H scope (compEnvC scope cl C X.env) fp) tg1 iter1 (tI X.G it1))
    (hg1 : ∀ (s : Shared) (H : Hp) (C : Addr) (cl : List (Str × Addr)) (fp : List Addr), PG (X.blk s H scope (compEnvC scope cl C X.env) fp) tg1 (tG X.G vs1 g1))
    (ht1 : ∀ (s : Shared) (H : Hp) (C : Addr) (cl : List (Str × Addr)) (fp : List Addr), PTs (X.blk s H scope (compEnvC scope cl C X.env) fp) ifs1 (tBt X.G tt1))
    (he : ∀ (s : Shared) (H : Hp) (C : Addr) (cl : List (Str × Addr)) (fp : List Addr), PE (X.blk s H scope (compEnvC scope cl C X.env) fp) elt (tD X.G te)) (hs : ∀ x, foldedSetIterable iter X.env x = pure x := by intro _; rfl) (hs1 : ∀ env x, foldedSetIterable iter1 env x = pure x := by intro _ _; rfl) :
    PE X (.ListComp elt [⟨tg, iter, ifs, 0⟩, ⟨tg1, iter1, ifs1, 0⟩] scope pos) (tO X.G (lcE2 it (own.map (·.2)) g tt it1 vs1 g1 tt1 te)) := weakE (pe_lc2 hc hN hi ok hv hg ht hi1 hg1 ht1 he hs hs1) (lc_read2 hv)
theorem s_setLc2 {i : Nat} {y : Str} {py : Pos} {elt tg iter tg1 iter1 : Expr} {ifs ifs1 : List Expr} {scope : Scope} {own : List (Str × Nat)} {vs1 : List Nat} {pos spos : Pos} {it it1 : IM} {g g1 : TgM} {tt tt1 : BM} {te : EM} (hc : X.calm = true) (hN : X.N.Nodup) (hy : X.N[i]? = some y) (hyl : X.env.scope.names.lookup y = some .local)
    (hsw : swapsWith (.ListComp elt [⟨tg, iter, ifs, 0⟩, ⟨tg1, iter1, ifs1, 0⟩] scope pos) (some (.Name y py)) spos.line X.env = pure true) (hi : PI X tg iter (tI X.G it)) (ok : BlkOk X.N X.env.scope scope own) (hv : ∀ i ∈ vs1, i ∈ own.map (·.2))
    (hg : ∀ (s : Shared) (H : Hp) (C : Addr) (cl : List (Str × Addr)) (fp : List Addr), PG (X.blk s H scope (compEnvC scope cl C X.env) fp) tg (tG X.G (own.map (·.2)) g))
    (ht : ∀ (s : Shared) (H : Hp) (C : Addr) (cl : List (Str × Addr)) (fp : List Addr), PTs (X.blk s H scope (compEnvC scope cl C X.env) fp) ifs (tBt X.G tt))
    (hi1 : ∀ (s : Shared) (H : Hp) (C : Addr) (cl : List (Str × Addr)) (fp : List Addr), PI (X.blk s H scope (compEnvC scope cl C X.env) fp) tg1 iter1 (tI X.G it1))
    (hg1 : ∀ (s : Shared) (H : Hp) (C : Addr) (cl : List (Str × Addr)) (fp : List Addr), PG (X.blk s H scope (compEnvC scope cl C X.env) fp) tg1 (tG X.G vs1 g1))
    (ht1 : ∀ (s : Shared) (H : Hp) (C : Addr) (cl : List (Str × Addr)) (fp : List Addr), PTs (X.blk s H scope (compEnvC scope cl C X.env) fp) ifs1 (tBt X.G tt1))
    (he : ∀ (s : Shared) (H : Hp) (C : Addr) (cl : List (Str × Addr)) (fp : List Addr), PE (X.blk s H scope (compEnvC scope cl C X.env) fp) elt (tD X.G te)) (hs : ∀ x, foldedSetIterable iter X.env x = pure x := by intro _; rfl) (hs1 : ∀ env x, foldedSetIterable iter1 env x = pure x := by intro _ _; rfl) :
    PS X (.Assign [.Name y py] (.ListComp elt [⟨tg, iter, ifs, 0⟩, ⟨tg1, iter1, ifs1, 0⟩] scope pos) spos) (tS X.G (setO i (lcE2 it (own.map (·.2)) g tt it1 vs1 g1 tt1 te))) :=
  weakS (ps_setLc2 hc hN hy hyl hsw hi ok hv hg ht hi1 hg1 ht1 he hs hs1) fun D σ H h => by
    obtain ⟨B, F, Z, η, o, η', ok, hm, q⟩ := h
    unfold setO at hm
    split at hm
    · next d η1 h =>
      split at hm
      · next η2 h2 =>
        cases hm
        obtain ⟨hi, hn, rfl⟩ := setSlot_inv h2
        exact lc_read2 hv σ H _ ⟨B, F, Z, η, d, η1, ok, h, fun p H' F' s ok' hB hF hA ho => q _ H' F' s (ok'.setOw hi hn hB hF hA ho)⟩
      · cases hm
    · cases hm
end
/-! what holds behind it -/
def wLS (g : TgM) (tt : BM) (it1 : IM) (vs1 : List Nat) (g1 : TgM) (tt1 : BM) (te : EM) (d : D) (η : Env) (R : List D → Env → Prop) : Prop :=
  wO (g d η) fun η1 => wB tt η1 fun t η2 => (t = true → wI it1 η2 fun ds1 η3 => wX (lcL vs1 g1 tt1 te ds1 η3) R) ∧ (t = false → R [] η2)
def wE_lcE2_k2 (vs : List Nat) (Q : D → Env → Prop) (η1 : Env) : List D → Env → Prop := fun ys η2 => ys.length ≤ 16777216 ∧ Q (.lst ys) (restL vs η1 η2)
def wE_lcE2_k1 (vs : List Nat) (g : TgM) (tt : BM) (it1 : IM) (vs1 : List Nat) (g1 : TgM) (tt1 : BM) (te : EM) (Q : D → Env → Prop) : List D → Env → Prop := fun ds η1 => clearOk vs η1 = true ∧ wX (lcL2 vs g tt it1 vs1 g1 tt1 te ds η1) (wE_lcE2_k2 vs Q η1)
section
variable {it it1 : IM} {vs vs1 : List Nat} {g g1 : TgM} {tt tt1 : BM} {te : EM} {Q : D → Env → Prop} {η : Env} {ds : List D}
@[simp] theorem wE_lcE2_k1_eq {η1 : Env} : wE_lcE2_k1 vs g tt it1 vs1 g1 tt1 te Q ds η1 = (clearOk vs η1 = true ∧ wX (lcL2 vs g tt it1 vs1 g1 tt1 te ds η1) (wE_lcE2_k2 vs Q η1)) := propext Iff.rfl
@[simp] theorem wE_lcE2 : wE (lcE2 it vs g tt it1 vs1 g1 tt1 te) η Q = wI it η (wE_lcE2_k1 vs g tt it1 vs1 g1 tt1 te Q) := by
  unfold wE lcE2 wI
  rcases it η with _ | ⟨ds, η1⟩
  · rfl
  show _ = (clearOk vs η1 = true ∧ wX (lcL2 vs g tt it1 vs1 g1 tt1 te ds η1) (wE_lcE2_k2 vs Q η1))
  dsimp only
  by_cases h : clearOk vs η1 = true
  · rw [if_pos h, eq_true h, true_and]
    unfold wX
    rcases lcL2 vs g tt it1 vs1 g1 tt1 te ds η1 with _ | ⟨ys, η2⟩
    · rfl
    · dsimp only
      unfold wE_lcE2_k2
      by_cases hy : ys.length ≤ 16777216
      · rw [if_pos hy, eq_true hy, true_and]
      · rw [if_neg hy, eq_false hy, false_and]
  · rw [if_neg h, eq_false h, false_and]
/-- [f for d in ds for ..], each item's part told by f -/
theorem wX_two (f : D → List D) (step : ∀ d, d ∈ ds → wLS g tt it1 vs1 g1 tt1 te d (clearL vs η) fun ys η4 => ys = f d ∧ clearL vs η4 = clearL vs η)
    (hl : (ds.flatMap f).length ≤ 16777216) (last : ∀ ζ, clearL vs ζ = clearL vs η → Q (.lst (ds.flatMap f)) (restL vs η ζ)) : wX (lcL2 vs g tt it1 vs1 g1 tt1 te ds η) (wE_lcE2_k2 vs Q η) := by
  have main : ∀ (es : List D) (ζ : Env), (∀ d ∈ es, d ∈ ds) → clearL vs ζ = clearL vs η → ∃ η2, lcL2 vs g tt it1 vs1 g1 tt1 te es ζ = some (es.flatMap f, η2) ∧ clearL vs η2 = clearL vs η := by
    intro es
    induction es with
    | nil => intro ζ _ hz; exact ⟨ζ, rfl, hz⟩
    | cons d es ih =>
      intro ζ hm hz
      have h := step d (hm d List.mem_cons_self)
      unfold lcL2
      rw [hz]
      unfold wLS at h
      rcases hgd : g d (clearL vs η) with _ | η1
      · rw [hgd] at h; exact h.elim
      rw [hgd] at h
      simp only [wO_some'] at h ⊢
      unfold wB at h
      rcases htt : tt η1 with _ | ⟨t, η2⟩
      · rw [htt] at h; exact h.elim
      rw [htt] at h
      obtain ⟨h1, h2⟩ := h
      cases t with
      | false =>
        obtain ⟨e, hz2⟩ := h2 rfl
        obtain ⟨η5, r1, r2⟩ := ih η2 (fun x hx => hm x (List.mem_cons_of_mem _ hx)) hz2
        refine ⟨η5, ?_, r2⟩
        dsimp only
        rw [r1, List.flatMap_cons, ← e, List.nil_append]
      | true =>
        have h3 := h1 rfl
        unfold wI at h3
        dsimp only
        rcases hit : it1 η2 with _ | ⟨ds1, η3⟩
        · rw [hit] at h3; exact h3.elim
        rw [hit] at h3
        dsimp only at h3 ⊢
        unfold wX at h3
        rcases hlc : lcL vs1 g1 tt1 te ds1 η3 with _ | ⟨ys, η4⟩
        · rw [hlc] at h3; exact h3.elim
        rw [hlc] at h3
        dsimp only at h3 ⊢
        obtain ⟨rfl, hz4⟩ := h3
        obtain ⟨η5, r1, r2⟩ := ih η4 (fun x hx => hm x (List.mem_cons_of_mem _ hx)) hz4
        rw [r1]
        exact ⟨η5, by rw [List.flatMap_cons], r2⟩
  obtain ⟨η2, e, hz⟩ := main ds η (fun _ h => h) rfl
  unfold wX
  rw [e]
  exact ⟨hl, last η2 hz⟩
/-- [te for i in ds for j in it1] with names i, j -/
theorem wX_two1 {i j : Nat} (hij : i ≠ j) (f : D → List D)
    (step : ∀ d, d ∈ ds → wO (g d ((η.set i .no).set j .no)) fun η1 => wB tt η1 fun t η2 => (t = true → wI it1 η2 fun ds1 η3 => wX (lcL [j] g1 tt1 te ds1 η3) (wE_lcE_k2 [j] (fun y η4 => y = .lst (f d) ∧ (η4.set i .no).set j .no = (η.set i .no).set j .no) η3)) ∧
      (t = false → f d = [] ∧ (η2.set i .no).set j .no = (η.set i .no).set j .no))
    (hl : (ds.flatMap f).length ≤ 16777216) (last : Q (.lst (ds.flatMap f)) (restL [i, j] η ((η.set i .no).set j .no))) : wX (lcL2 [i, j] g tt it1 [j] g1 tt1 te ds η) (wE_lcE2_k2 [i, j] Q η) := by
  refine wX_two f (fun d hd => ?_) hl (fun ζ hz => by rw [restL2 hz hij]; exact last)
  have h := step d hd
  unfold wLS
  show wO (g d ((η.set i .no).set j .no)) _
  rcases hgd : g d ((η.set i .no).set j .no) with _ | η1
  · rw [hgd] at h; exact h
  rw [hgd] at h
  simp only [wO_some'] at h ⊢
  unfold wB at *
  rcases htt : tt η1 with _ | ⟨t, η2⟩
  · rw [htt] at h; exact h
  rw [htt] at h
  refine ⟨fun et => ?_, fun et => ⟨(h.2 et).1.symm, (h.2 et).2⟩⟩
  have h3 := h.1 et
  unfold wI at *
  rcases hit : it1 η2 with _ | ⟨ds1, η3⟩
  · rw [hit] at h3; exact h3
  rw [hit] at h3
  dsimp only at h3 ⊢
  unfold wX at *
  rcases hlc : lcL [j] g1 tt1 te ds1 η3 with _ | ⟨ys, η4⟩
  · rw [hlc] at h3; exact h3
  rw [hlc] at h3
  dsimp only at h3 ⊢
  obtain ⟨e, hz⟩ := h3
  cases e
  refine ⟨rfl, ?_⟩
  show (η4.set i .no).set j .no = (η.set i .no).set j .no
  rw [← hz]
  have hr : ∀ (ζ : Env), (restL [j] η3 ζ).set j .no = ζ.set j .no := fun ζ => by
    show ((match η3[j]? with | some (.sh d) => ζ.set j (.sh d) | _ => ζ.set j .no)).set j .no = _
    split <;> exact List.set_set ..
  have e1 : (η4.set i S.no).set j S.no = (η4.set j S.no).set i S.no := List.set_comm _ _ hij
  have e2 : ((restL [j] η3 η4).set i S.no).set j S.no = ((restL [j] η3 η4).set j S.no).set i S.no := List.set_comm _ _ hij
  rw [e1, e2, hr]
end
end DL

namespace DL
open PySem L2 PySem.Spec PyProof.Rows
/-! ### a dict against {} -/
def neDic0 : D → D → Option D
  | .dic kvs, .dic [] => if kvs.all (fun kv => scalK kv.1) = true then some (.bl (!kvs.isEmpty)) else none
  | _, _ => none
@[simp] theorem neDic0_dic {kvs : List (D × D)} : neDic0 (.dic kvs) (.dic []) = if kvs.all (fun kv => scalK kv.1) = true then some (.bl (!kvs.isEmpty)) else none := rfl
section
variable {X : Cx}
theorem op_neDic0 (hu : X.A.units + 64 < cLine) : OpR X (compareOp .NotEq) (rOp X.G neDic0) := by
  intro pins s σ H x y v u Q I rx ry h
  obtain ⟨a, b, z, F, sm, e, vx, vy, q⟩ := h
  unfold neDic0 at e
  split at e
  · next kvs =>
    split at e
    · next hsc =>
      cases e
      obtain ⟨a1, es1, ep1, rfl, h1, r1, nd1⟩ := vx.dic sm
      obtain ⟨a2, es2, ep2, rfl, h2, r2, nd2⟩ := vy.dic sm
      cases rx
      cases ry
      obtain ⟨ka, q1, d1⟩ := dictS I sm h1 r1 nd1 hsc
      obtain ⟨kb, q2, d2⟩ := dictS I sm h2 r2 nd2 rfl
      cases q2
      have hl := q1.length
      refine PySem.W.keq_ne (r := true) (rawD_at I h1).2.1 (rawD_at I h2).2.1 d1 d2 (by omega) (fun e => ?_) ⟨.bl _, H, I, ?_, q _ _ _ Res.same (.bl _)⟩
      · have : ka = [] := List.eq_nil_of_length_eq_zero e
        subst this
        exact .nil
      · cases kvs with
        | nil =>
          have : ka = [] := List.eq_nil_of_length_eq_zero hl.symm
          subst this
          rfl
        | cons p kvs =>
          cases ka with
          | nil => cases hl
          | cons k ka => rfl
    · cases e
  · cases e
end
/-! ### sorted(d) -/
def intKs : List (D × D) → Option (List Int)
  | [] => some []
  | (.int k, _) :: r => match intKs r with
    | some ks => some (k :: ks)
    | none => none
  | _ => none
def sortI (ks : List Int) : List Int := ks.mergeSort (fun a b => decide (a ≤ b))
def sortDG : List D → Option D
  | [.dic kvs] => match intKs kvs with
    | some ks => if ks.length < 64 then some (.lst ((sortI ks).map D.int)) else none
    | none => none
  | _ => none
def sort2G (ds : List D) : Option D := match sortDG ds with
  | some d => some d
  | none => sortG ds
theorem intKs_scal : ∀ {kvs : List (D × D)} {ks : List Int}, intKs kvs = some ks → (kvs.all fun kv => scalK kv.1) = true ∧ ks.length = kvs.length
  | [], _, h => by cases h; exact ⟨rfl, rfl⟩
  | (d, v) :: r, ks, h => by
    cases d <;> first | (cases h; done) | skip
    next k =>
      unfold intKs at h
      split at h
      · next ks' e =>
        cases h
        obtain ⟨a, b⟩ := intKs_scal e
        exact ⟨by rw [List.all_cons, a]; rfl, by rw [List.length_cons, List.length_cons, b]⟩
      · cases h
theorem intKs_keys {G : Gd} {F : Hp} : ∀ {kvs : List (D × D)} {ks : List Int} {vs : List (Key × Value)}, intKs kvs = some ks → RS G F kvs vs → vs.map (·.1) = ks.map Sum.inl
  | [], _, _, h, r => by cases h; cases r; rfl
  | (d, v) :: r, ks, vs, h, rs => by
    cases d <;> first | (cases h; done) | skip
    next k =>
      unfold intKs at h
      split at h
      · next ks' e =>
        cases h
        cases rs with
        | cons h1 h2 h3 h4 rr =>
          subst h2
          rw [List.map_cons, List.map_cons, intKs_keys e rr]
          rfl
      · cases h
theorem sortI_perm (ks : List Int) : (sortI ks).Perm ks := List.mergeSort_perm ..
theorem sortI_sorted (ks : List Int) : (sortI ks).Pairwise (· ≤ ·) := by
  have := List.pairwise_mergeSort (le := fun (a b : Int) => decide (a ≤ b)) (fun a b c h1 h2 => by simp only [decide_eq_true_eq] at *; omega) (fun a b => by simp only [Bool.or_eq_true, decide_eq_true_eq]; omega) ks
  exact this.imp fun h => by simpa using h
theorem sorted_uniq {xs ys : List Int} (h : xs.Perm ys) (h1 : xs.Pairwise (· ≤ ·)) (h2 : ys.Pairwise (· ≤ ·)) : xs = ys :=
  List.Perm.eq_of_pairwise (fun a b _ _ x y => by omega) h1 h2 h
theorem repL_int {K : Gd} {F : Hp} : ∀ (l : List Int), RepL K F (l.map D.int) (l.map V.int)
  | [] => .nil
  | _ :: l => .cons (.int _) (repL_int l)
section
variable {X : Cx}
theorem b_sortedD (hcalm : X.calm = true) : CallR X (.builtin "sorted") (rLo X.G sortDG) := by
  intro pins s σ H vs us Q I rv h
  obtain ⟨ds, d, F, sm, r, e, q⟩ := h
  unfold sortDG at e
  split at e
  · next kvs =>
    split at e
    · next ks hks =>
      split at e
      · next h64 =>
        cases e
        obtain ⟨v, rfl, hv⟩ := r.inv1
        obtain ⟨a, es, ep0, rfl, ha, hr, nd⟩ := hv.dic sm
        obtain ⟨u, rfl, ru⟩ := vals1 rv
        cases ru
        obtain ⟨hsc, hlk⟩ := intKs_scal hks
        obtain ⟨vs, q1, dd⟩ := dictS I sm ha hr nd hsc
        have lo := (rawD_at I ha).2.1
        obtain ⟨ep, hat⟩ := dd.dictAt
        have hkeys := intKs_keys hks q1
        have hl : vs.length = ks.length := by
          have e := congrArg List.length hkeys
          rw [List.length_map, List.length_map] at e
          exact e
        have h16 : vs.length ≤ sizeLine := by rw [hl, sizeLine_eq]; omega
        refine Calls.call_function_entry PyProof.Rows.kind_sorted PyProof.Rows.plain_sorted PyProof.Rows.entry_sorted (PyProof.Rows.args_sorted1 _) ?_
        unfold Builtin.«sorted»
        refine wpAny_bind (m := checkCount "sorted" 1 1 _) (wpAny_pure ?_)
        refine wpAny_bind (PySem.W.kdu_collect (A := X.A.in1) (PySem.W.kdl_dict (knd := mixKind X.prog X.w) (kvs := vs) (ep := ep) lo) (I.ok.hd hcalm) hat h16 fun h' tk acc hk hacc => ?_)
        have hal : acc.toList.length = ks.length := by rw [Array.length_toList, hacc.1, hl]
        have hS : IntsAre acc.toList ks := ints_each hal fun j v e => by
          obtain ⟨k, x, e1, e2⟩ := hacc.2 j v (by rw [← Array.getElem?_toList]; exact e)
          have e3 : (vs.map (·.1))[j]? = some k := by rw [List.getElem?_map, e1]; rfl
          rw [hkeys, List.getElem?_map] at e3
          cases e4 : ks[j]? with
          | none => rw [e4] at e3; cases e3
          | some y =>
            rw [e4] at e3
            have e5 : Sum.inl y = k := Option.some.inj e3
            subst e5
            rcases keyIs_shape (show keyIs (Sum.inl y) v = true from e2) with ⟨i, t, ek, ev⟩ | ⟨z, t, ek, ev⟩
            · cases ek
              exact ⟨y, t, rfl, ev⟩
            · cases ek
        have I1 : Inv X pins σ H { s with heap := h', toks := tk } := I.kept hk
        refine wpAny_bind (wpAny_newList ?_ (by rw [hal, sizeLine_eq]; omega))
        have hoL : (h'.push (seqObj "list" acc.toList.toArray 0)).get? h'.objs.size = some (seqObj "list" acc.toList.toArray 0) := Heap.get?_push_size _ rfl
        show wpAny _ _ _ _ _ { s with heap := h'.push (seqObj "list" acc.toList.toArray 0), toks := tk }
        refine wpAny_bind (wpAny_holding (wpAny_call_entry PyProof.Rows.slot_list_sort ⟨_, hoL, rfl⟩ PyProof.Rows.entry_list_sort
          (PyProof.Rows.list_sort_tree (s := { s with heap := h'.push (seqObj "list" acc.toList.toArray 0), toks := tk }) hoL hS (by rw [hal]; exact h64) fun out ys g1 g2 g3 => ⟨_, rfl, ?_⟩) (PyProof.Rows.args_list_sort _)))
        obtain ⟨e', he'⟩ := PyProof.Rows.sortedHeap_at (vs := acc.toList) (out := out) hoL
        have hlen : (ys.map V.int).length ≤ sizeLine := by
          rw [List.length_map, g2.length_eq]
          exact Nat.le_trans (Nat.le_of_lt h64) (by decide)
        have hys : ys = sortI ks := sorted_uniq (g2.trans (sortI_perm ks).symm) g3 (sortI_sorted ks)
        subst hys
        refine wpAny_pure ⟨_, rfl, .ref h'.objs.size, upd H h'.objs.size (.lst ((sortI ks).map V.int)), I1.laid (t' := tk) (fun b u e => ?_) (Nat.le_refl _)
          (show ObjOk X.prog X.w _ _ _ (.lst ((sortI ks).map V.int)) from ⟨hlen, out.toList, e', vals_of_ints g1, by rw [Array.toArray_toList]; exact he'⟩), rfl, q _ _ (I1.hok.fresh (Nat.le_refl _)) (.lst upd_same (repL_int _))⟩
        have hb : b < h'.objs.size := Heap.lt_size e
        rw [PyProof.Rows.sortedHeap_old (Nat.ne_of_lt hb) (by rw [size_push']; exact Nat.lt_succ_of_lt hb)]
        exact Heap.get?_push_of_some _ e
      · cases e
    · cases e
  · cases e
theorem b_sorted2 (hu : X.A.units + 64 < cLine) (hcalm : X.calm = true) : CallR X (.builtin "sorted") (rLo X.G sort2G) := by
  intro pins s σ H vs us Q I rv h
  obtain ⟨ds, d, F, sm, r, e, q⟩ := h
  unfold sort2G at e
  rcases hd : sortDG ds with _ | d'
  · rw [hd] at e
    exact b_sorted hu pins s σ H vs us Q I rv ⟨ds, d, F, sm, r, e, q⟩
  · rw [hd] at e
    cases e
    exact b_sortedD hcalm pins s σ H vs us Q I rv ⟨ds, d, F, sm, r, hd, q⟩
end
theorem intKs_of {l : List (Int × D)} : intKs (l.map fun p => (D.int p.1, p.2)) = some (l.map (·.1)) := by
  induction l with
  | nil => rfl
  | cons p l ih =>
    show (match intKs (l.map fun p => (D.int p.1, p.2)) with | some ks => some (p.1 :: ks) | none => none) = _
    rw [ih]
    rfl
theorem sort2G_dic {kvs : List (D × D)} {ks : List Int} (h : intKs kvs = some ks) (h64 : ks.length < 64) : sort2G [.dic kvs] = some (.lst ((sortI ks).map D.int)) := by
  unfold sort2G sortDG
  dsimp only
  rw [h]
  dsimp only
  rw [if_pos h64]
theorem sort2G_lst {xs : List D} : sort2G [.lst xs] = sortG [.lst xs] := rfl
end DL

namespace DL
open PySem L2 PySem.Spec PyProof.Rows
/-! ### list * int -/
def mulL : D → D → Option D
  | .lst xs, .int k => if xs.length ≤ 1000 ∧ -1000 ≤ k ∧ k ≤ 1000 then some (.lst (List.replicate k.toNat xs).flatten) else none
  | _, _ => none
theorem op_mulL {X : Cx} : OpR X (binaryOp .Mult) (rOp X.G mulL) :=
  weakOp op_rep fun v w H Q ⟨x, y, z, F, s, e, vx, vy, q⟩ => by
    unfold mulL at e
    split at e
    · next a k =>
      split at e
      · next hl =>
        cases e
        obtain ⟨p1, vs1, rfl, h1, r1⟩ := vx.lst s
        have hy := vy.int
        subst hy
        have hlen := r1.length
        have hb : vs1.length * k.toNat ≤ 1000 * 1000 := Nat.mul_le_mul (by omega) (by omega)
        have hs := sizeLine_eq
        exact ⟨p1, k, vs1, rfl, rfl, h1, by omega, by omega, by omega, fun p hp => q _ _ _ (Res.new hp) (.lst upd_same ((r1.rep _).mono (Same.upd (s.free hp))))⟩
      · cases e
    · cases e
@[simp] theorem mulL_lst {xs : List D} {k : Int} : mulL (.lst xs) (.int k) = if xs.length ≤ 1000 ∧ -1000 ≤ k ∧ k ≤ 1000 then some (.lst (List.replicate k.toNat xs).flatten) else none := rfl
end DL

namespace DL
open PySem L2 PySem.Spec PyProof.Rows
/-! ### list(d) -/
def listDG : List D → Option D
  | [.dic kvs] => if (kvs.all fun kv => scalK kv.1) = true ∧ kvs.length ≤ 1000000 then some (.lst (kvs.map (·.1))) else none
  | _ => none
def list2G (ds : List D) : Option D := match listDG ds with
  | some d => some d
  | none => listG ds
theorem RS.keys {G : Gd} {F : Hp} : ∀ {ds : List (D × D)} {kvs : List (Key × Value)}, RS G F ds kvs → RepL G F (ds.map (·.1)) (kvs.map fun p => kV p.1)
  | _, _, .nil => .nil
  | _, _, @RS.cons _ _ k d v c u ds kvs h1 h2 h3 h4 r => by
    subst h2
    refine .cons ?_ (RS.keys r)
    cases k <;> first | (cases h1; done) | skip
    · exact .int _
    · exact .str _
section
variable {X : Cx}
theorem b_listD (hcalm : X.calm = true) : CallR X (.type "list") (rLo X.G listDG) := by
  intro pins s σ H vs us Q I rv h
  obtain ⟨ds, d, F, sm, r, e, q⟩ := h
  unfold listDG at e
  split at e
  · next kvs =>
    split at e
    · next hc =>
      cases e
      obtain ⟨v, rfl, hv⟩ := r.inv1
      obtain ⟨a, es, ep0, rfl, ha, hr, nd⟩ := hv.dic sm
      obtain ⟨u, rfl, ru⟩ := vals1 rv
      cases ru
      obtain ⟨vs, q1, dd⟩ := dictS I sm ha hr nd hc.1
      have lo := (rawD_at I ha).2.1
      obtain ⟨ep, hat⟩ := dd.dictAt
      have hl := q1.length
      have hz : vs.length ≤ sizeLine := by rw [sizeLine_eq]; omega
      refine PySem.W.kdl_call (PySem.W.kdl_dict (knd := mixKind X.prog X.w) (kvs := vs) (ep := ep) lo) (I.ok.hd hcalm) hat hz fun h' tk acc c' hk hD hacc => ?_
      have hv : Vals (vs.map fun p => kV p.1) acc.toList := keys_at (by rw [Array.length_toList]; exact hacc.1) fun j v e => hacc.2 j v (by rw [← Array.getElem?_toList]; exact e)
      have hno := I.hok.fresh (Nat.le_refl s.heap.objs.size)
      exact ⟨.ref s.heap.objs.size, upd H s.heap.objs.size (.lst (vs.map fun p => kV p.1)), I.laid (t' := tk) hk (Nat.le_refl _)
        (show ObjOk X.prog X.w _ _ _ (.lst (vs.map fun p => kV p.1)) from ⟨by rw [List.length_map]; exact hz, acc.toList, c', hv, by rw [Array.toArray_toList]; exact hD⟩), rfl, q _ _ hno (.lst upd_same q1.keys)⟩
    · cases e
  · cases e
theorem b_list2 (hcalm : X.calm = true) : CallR X (.type "list") (rLo X.G list2G) := by
  intro pins s σ H vs us Q I rv h
  obtain ⟨ds, d, F, sm, r, e, q⟩ := h
  unfold list2G at e
  rcases hd : listDG ds with _ | d'
  · rw [hd] at e
    exact b_list pins s σ H vs us Q I rv ⟨ds, d, F, sm, r, e, q⟩
  · rw [hd] at e
    cases e
    exact b_listD hcalm pins s σ H vs us Q I rv ⟨ds, d, F, sm, r, hd, q⟩
end
@[simp] theorem list2G_lst {xs : List D} : list2G [.lst xs] = some (.lst xs) := rfl
@[simp] theorem list2G_tup {xs : List D} : list2G [.tup xs] = some (.lst xs) := rfl
theorem list2G_dic {kvs : List (D × D)} (h : (kvs.all fun kv => scalK kv.1) = true) (hl : kvs.length ≤ 1000000) : list2G [.dic kvs] = some (.lst (kvs.map (·.1))) := by
  unfold list2G listDG
  dsimp only
  rw [if_pos ⟨h, hl⟩]
end DL

namespace DL
open PySem L2 PySem.Spec PyProof.Rows
/-! ### for a, b in zip(x, y), x and y tuples -/
def Itzt (K : PySem.W.Frag) (a b : Addr) (xs ys : List V) : It :=
  ⟨fun i H => SqT K H a xs ∧ SqT K H b ys ∧ i < xs.length ∧ i < ys.length,
    fun i H v H' => ∃ T x y, v = .ref T ∧ H T = none ∧ H' = upd H T (.tup [x, y]) ∧ xs[i]? = some x ∧ ys[i]? = some y,
    fun i H => SqT K H a xs ∧ SqT K H b ys ∧ i = min xs.length ys.length⟩
theorem turn_zipT {P : Program} {w : World} {K : PySem.W.Frag} {elts : List Expr} {kk : Nat} {tpos : Pos} {a b z TI TO i1 i2 : Addr} {xs ys : List V} (S : ZipSep2 z TI TO i1 i2 [i1, a] [i2, b]) (n1 : a ≠ i1) (n2 : b ≠ i2) :
    Turn P w K (.Tuple elts kk tpos) (Itzt K a b xs ys) [z, TI, TO, i1, i2] z (fun i h => IsZip h z TI TO .none ∧ IsTupOf2 h TI (.ref i1) (.ref i2) ∧ (∃ x y, IsTupOf2 h TO x y) ∧ h.IsTupleIter i1 a i ∧ h.IsTupleIter i2 b i) where
  mem := by simp
  obj := fun i h st c hc => by
    obtain ⟨hz, hTI, ⟨x, y, hTO⟩, ⟨o1, e1, _, d1⟩, ⟨o2, e2, _, d2⟩⟩ := st
    have e' : c = z ∨ c = TI ∨ c = TO ∨ c = i1 ∨ c = i2 := by simpa using hc
    rcases e' with q | q | q | q | q
    · rw [q]; exact ⟨_, hz, fun v q => nomatch q⟩
    · rw [q]; exact ⟨_, hTI, fun v q => nomatch q⟩
    · rw [q]; exact ⟨_, hTO, fun v q => nomatch q⟩
    · rw [q]; exact ⟨o1, e1, fun v q => by rw [d1] at q; cases q⟩
    · rw [q]; exact ⟨o2, e2, fun v q => by rw [d2] at q; cases q⟩
  keep := fun i h h' st k => by
    obtain ⟨hz, hTI, ⟨x, y, hTO⟩, h1, h2⟩ := st
    exact ⟨k z (by simp) _ hz, k TI (by simp) _ hTI, ⟨x, y, k TO (by simp) _ hTO⟩, h1.at fun o q => k i1 (by simp) o q, h2.at fun o q => k i2 (by simp) o q⟩
  item := by
    intro X hP hw hK hc i pins s σ H E I hf st hg
    subst hP hw hK
    obtain ⟨hz, hTI, ⟨x0, y0, hTO⟩, h1, h2⟩ := st
    obtain ⟨hqx, hqy, hix, hiy⟩ := hg
    obtain ⟨its, rv, p, _⟩ := I.tuple hqx
    obtain ⟨its2, rv2, p2, _⟩ := I.tuple hqy
    have l1 := rv.length
    have l2 := rv2.length
    have hx := List.getElem?_eq_getElem hix
    have hy := List.getElem?_eq_getElem hiy
    obtain ⟨u, hu, ru⟩ := rv.get hx
    obtain ⟨u2, hu2, ru2⟩ := rv2.get hy
    have hh : X.A.in1.handled = none := I.ok.hd hc
    have D1 := Draws.tuple (prog := X.prog) (w := X.w) (A := X.A.in1) hh i1 a n1 its.toArray
    have D2 := Draws.tuple (prog := X.prog) (w := X.w) (A := X.A.in1) hh i2 b n2 its2.toArray
    have W := WalksT.zipD2 (A := X.A) S D1 D2
    have ch : ∀ {c : Addr}, c ∉ [z, TI, TO, i1, i2] → c ∉ [z, TO, i1, i2] := fun {c} h q => h (by
      have : c = z ∨ c = TO ∨ c = i1 ∨ c = i2 := by simpa using q
      rcases this with e | e | e | e <;> simp [e])
    refine W.item i s _ _ (by simp only [List.size_toArray]; omega) ⟨hz, hTI, ⟨x0, y0, hTO⟩, ⟨h1, p⟩, ⟨h2, p2⟩⟩ fun T vals h' tk hPt hsT hTup hM hk => ?_
    obtain ⟨v1, v2, q1, q2, rfl⟩ := hPt
    have e1 : v1 = u := by
      have : its[i]? = some v1 := by simpa using q1
      rw [hu] at this; cases this; rfl
    have e2 : v2 = u2 := by
      have : its2[i]? = some v2 := by simpa using q2
      rw [hu2] at this; cases this; rfl
    subst e1 e2
    have hap := W.apart i T h' hM
    refine ⟨_, rfl, W.go elts kk tpos i T { s with heap := h', toks := tk } _ _ hM fun h'' hst hk2 => ?_⟩
    obtain ⟨z'', ti'', ⟨y1, y2, to''⟩, ⟨st1, _⟩, ⟨st2, _⟩⟩ := hst
    have hT2 : IsTup h'' T #[v1, v2] := by
      obtain ⟨o, ho, r⟩ := hTup
      exact ⟨o, hk2 T o hap ho, r⟩
    have new : ObjOk X.prog X.w (upd H T (.tup [xs[i], ys[i]])) h'' T (.tup [xs[i], ys[i]]) :=
      ⟨by show 2 ≤ sizeLine; decide, [v1, v2], .cons ru (.cons ru2 .nil), hT2⟩
    have I1 : Inv X pins σ (upd H T (.tup [xs[i], ys[i]])) { s with heap := h'', toks := tk } :=
      I.turnedNew (t' := tk) (ch := [z, TI, TO, i1, i2]) (fun c o hb q => hk2 c o (ch hb) (hk c o (ch hb) q)) hf hsT new
    refine ⟨.ref T, _, I1, rfl, ⟨T, _, _, rfl, I.hok.fresh hsT, rfl, hx, hy⟩, ⟨z'', ti'', ⟨y1, y2, to''⟩, st1, st2⟩, fun c hcm => ?_⟩
    have hlt : c < s.heap.objs.size := by
      have e' : c = z ∨ c = TI ∨ c = TO ∨ c = i1 ∨ c = i2 := by simpa using hcm
      rcases e' with q | q | q | q | q
      · rw [q]; exact Heap.lt_size hz
      · rw [q]; exact Heap.lt_size hTI
      · rw [q]; exact Heap.lt_size hTO
      · rw [q]; obtain ⟨_, e1, _⟩ := h1; exact Heap.lt_size e1
      · rw [q]; obtain ⟨_, e2, _⟩ := h2; exact Heap.lt_size e2
    rw [upd_ne (Nat.ne_of_lt (Nat.lt_of_lt_of_le hlt hsT))]
    exact (hf c hcm).1
  done := by
    intro X hP hw hK hc i pins s σ H E I hf st hg
    subst hP hw hK
    obtain ⟨hz, hTI, ⟨x0, y0, hTO⟩, h1, h2⟩ := st
    obtain ⟨hqx, hqy, hend⟩ := hg
    obtain ⟨its, rv, p, _⟩ := I.tuple hqx
    obtain ⟨its2, rv2, p2, _⟩ := I.tuple hqy
    have l1 := rv.length
    have l2 := rv2.length
    have hh : X.A.in1.handled = none := I.ok.hd hc
    have D1 := Draws.tuple (prog := X.prog) (w := X.w) (A := X.A.in1) hh i1 a n1 its.toArray
    have D2 := Draws.tuple (prog := X.prog) (w := X.w) (A := X.A.in1) hh i2 b n2 its2.toArray
    have W := WalksT.zipD2 (A := X.A) S D1 D2
    have ch : ∀ {c : Addr}, c ∉ [z, TI, TO, i1, i2] → c ∉ [z, TO, i1, i2] := fun {c} h q => h (by
      have : c = z ∨ c = TO ∨ c = i1 ∨ c = i2 := by simpa using q
      rcases this with e | e | e | e <;> simp [e])
    have em : min its.toArray.size its2.toArray.size = i := by simp only [List.size_toArray]; omega
    refine W.done s _ _ (by rw [em]; exact ⟨hz, hTI, ⟨x0, y0, hTO⟩, ⟨h1, p⟩, ⟨h2, p2⟩⟩) fun h' tk hk => ⟨rfl, I.turnedL (t' := tk) (ch := [z, TI, TO, i1, i2]) (fun c o hb q => hk c o (ch hb) q) hf⟩
  self := fun A i s Q E st h => wpAny_pyIter_zip st.1 h
def iZipT (K : PySem.W.Frag) (ta : TA) : TI := fun σ H R => ta σ H fun vs H1 => ∃ a b xs ys, vs = [.ref a, .ref b] ∧ SqT K H1 a xs ∧ SqT K H1 b ys ∧ R (Itzt K a b xs ys) H1
theorem pi_zipT {X : Cx} {e e2 : Expr} {ta : TA} {p pos tpos : Pos} {elts : List Expr} {kk : Nat} (hg : Gl X "zip") (hm : X.mg "zip" = none) (ha : PA X [e, e2] ta)
    (hs : starEach [e, e2] X.env = (false, eval e X.env) :: starEach [e2] X.env := by rfl) (hpl : (backTo pos (starEach [e2] X.env)).any (·.1) = false := by rfl) :
    PI X (.Tuple elts kk tpos) (.Call (.Name "zip" p) [e, e2] [] pos) (iZipT X.K ta) := by
  refine ⟨fun pins s σ H R I h => ?_⟩
  refine Call_ (ld_blt I hg hm PyProof.Rows.boot_zip (PyProof.Rows.callWith_type1 (thn (ha.run pos pins s σ H _ I h) fun us s1 ⟨vs, H1, I1, r1, q1⟩ => ?_) hs hpl))
  obtain ⟨a, b, xs, ys, ex, hqx, hqy, q⟩ := q1
  subst ex
  cases r1 with
  | cons r rr =>
    cases rr with
    | cons r' rr =>
      cases rr
      cases r
      cases r'
      obtain ⟨its, rv, p1, _⟩ := I1.tuple hqx
      obtain ⟨its2, rv2, p2, _⟩ := I1.tuple hqy
      have la : a < s1.heap.objs.size := p1.lt
      have lb : b < s1.heap.objs.size := p2.lt
      refine zip_begins2 (begins_tuple a its.toArray) (begins_tuple b its2.toArray) p1 p2 fun h' hz hTI hTO h1 h2 hsz hk => wpAny_pyIter_zip hz ?_
      have I2 : Inv X pins σ H1 { s1 with heap := h' } := I1.kept (t' := s1.toks) hk
      refine ⟨s1.heap.objs.size + 4, [s1.heap.objs.size + 4, s1.heap.objs.size + 2, s1.heap.objs.size + 3, s1.heap.objs.size, s1.heap.objs.size + 1], _, _, H1, rfl, I2,
        turn_zipT (zip_sep2 (N := s1.heap.objs.size) (fp1 := [a]) (fp2 := [b]) (fun c hc => by rw [List.mem_singleton.mp hc]; exact la) (fun c hc => by rw [List.mem_singleton.mp hc]; exact lb)) (Nat.ne_of_lt la) (Nat.ne_of_lt (Nat.lt_succ_of_lt lb)),
        ⟨hz, hTI, ⟨_, _, hTO⟩, ⟨_, h1, rfl, rfl⟩, ⟨_, h2, rfl, rfl⟩⟩, fun c hcm => ?_, q⟩
      have e' : c = s1.heap.objs.size + 4 ∨ c = s1.heap.objs.size + 2 ∨ c = s1.heap.objs.size + 3 ∨ c = s1.heap.objs.size ∨ c = s1.heap.objs.size + 1 := by simpa using hcm
      have hle : s1.heap.objs.size ≤ c := by
        rcases e' with z | z | z | z | z
        · rw [z]; exact Nat.le_add_right _ _
        · rw [z]; exact Nat.le_add_right _ _
        · rw [z]; exact Nat.le_add_right _ _
        · rw [z]; exact Nat.le_refl _
        · rw [z]; exact Nat.le_add_right _ _
      exact I1.fpOk hle (I1.hok.fresh hle)
/-- the pairs -/
def zipD (xs ys : List D) : List D := (xs.zip ys).map fun p => .tuz [p.1, p.2]
theorem zipD_len (xs ys : List D) : (zipD xs ys).length = min xs.length ys.length := by unfold zipD; rw [List.length_map, List.length_zip]
theorem iter_zipT {K : Gd} {F : Hp} {a b : Addr} {vs ws : List V} {xs ys : List D} (h1 : SqT K.K F a vs) (r1 : RepL K F xs vs) (h2 : SqT K.K F b ws) (r2 : RepL K F ys ws) : IterOk K (Itzt K.K a b vs ws) F (zipD xs ys) where
  go := fun i H hi s => by
    rw [zipD_len, r1.length, r2.length] at hi
    exact ⟨Same.sqT s h1, Same.sqT s h2, by omega, by omega⟩
  stop := fun H s => ⟨Same.sqT s h1, Same.sqT s h2, by rw [zipD_len, r1.length, r2.length]⟩
  yld := fun i H x H' F2 hi s1 s2 y => by
    obtain ⟨T, v, w, rfl, hT, rfl, hv, hw⟩ := y
    obtain ⟨d1, e1, q1⟩ := r1.getV hv
    obtain ⟨d2, e2, q2⟩ := r2.getV hw
    have hF : F2 T = none := by
      rcases e : F2 T with _ | o
      · rfl
      · rw [s2 _ _ e] at hT; cases hT
    have sm : Same F2 (upd F2 T (.tup [v, w])) := Same.upd hF
    refine ⟨.tuz [d1, d2], _, ?_, Res.new hT, .tuz (SqT.of upd_same) (.cons (q1.mono (s1.trans sm)) (.cons (q2.mono (s1.trans sm)) .nil))⟩
    unfold zipD
    have : (xs.zip ys)[i]? = some (d1, d2) := List.getElem?_zip_eq_some.mpr ⟨e1, e2⟩
    rw [List.getElem?_map, this]
    rfl
def zip2I (m : AM) : IM := fun η => match m η with
  | some ([.tup xs, .tup ys], η') => some (zipD xs ys, η')
  | _ => none
section
variable {X : Cx} {e e2 : Expr} {p pos tpos : Pos} {elts : List Expr} {kk : Nat}
theorem i_zip2 {m : AM} (hg : Gl X "zip") (hm' : X.mg "zip" = none) (ha : PA X [e, e2] (tDA X.G m)) (hs : starEach [e, e2] X.env = (false, eval e X.env) :: starEach [e2] X.env := by rfl) (hpl : (backTo pos (starEach [e2] X.env)).any (·.1) = false := by rfl) :
    PI X (.Tuple elts kk tpos) (.Call (.Name "zip" p) [e, e2] [] pos) (tI X.G (zip2I m)) :=
  weakI (pi_zipT hg hm' ha hs hpl) fun σ H R ⟨B, F, Z, η, ds, η', ok, hm, q⟩ => by
    unfold zip2I at hm
    split at hm
    · next xs ys η1 h1 =>
      cases hm
      refine ⟨B, F, Z, η, _, _, ok, h1, fun vs H' F' s' ok' r => ?_⟩
      cases r with
      | cons r1 r2 =>
        cases r2 with
        | cons r2 r3 =>
          cases r3
          cases r1 with
          | tup a1 b1 =>
            cases r2 with
            | tup a2 b2 => exact ⟨_, _, _, _, rfl, Same.sqT ok'.ff a1.sqT, Same.sqT ok'.ff a2.sqT, q _ H' F' s' ok' (iter_zipT a1.sqT b1 a2.sqT b2)⟩
    · cases hm
end
theorem wI_zip20 {m : AM} {η : Env} {Q : List D → Env → Prop} : wI (zip2I m) η Q = wA m η fun ds η1 => match ds with
    | [.tup xs, .tup ys] => Q (zipD xs ys) η1
    | _ => False := by
  unfold wI zip2I wA
  rcases m η with _ | ⟨ds, η1⟩
  · rfl
  rcases ds with _ | ⟨d, _ | ⟨e, _ | ⟨f, r⟩⟩⟩
  · rfl
  · cases d <;> rfl
  · cases d <;> cases e <;> rfl
  · cases d <;> cases e <;> rfl
def wI_zip2_k1 (Q : List D → Env → Prop) : (List D) → (Env) → Prop := fun ds η1 => match ds with
    | [.tup xs, .tup ys] => Q (zipD xs ys) η1
    | _ => False
@[simp] theorem wI_zip2_k1_eq {Q : List D → Env → Prop} {xs ys : List D} {η1 : Env} : wI_zip2_k1 Q [.tup xs, .tup ys] η1 = Q (zipD xs ys) η1 := propext Iff.rfl
@[simp] theorem wI_zip2 {m : AM} {Q : List D → Env → Prop} {η : Env} : wI (zip2I m) η Q = (wA m η (wI_zip2_k1 Q)) := by
  rw [wI_zip20]; rfl
end DL

namespace DL
open PySem L2
/-! ### slices and places by naturals; rows of numbers -/
theorem cut_take {α : Type} (l : List α) (c : Nat) : cutA l none (some (c : Int)) = l.take c := by
  unfold cutA
  rw [show HT.sIx l.length 0 none = 0 from HT.sIx_none _ _, HT.sIx_nat]
  rcases Nat.le_total c l.length with h | h
  · rw [Nat.min_eq_left h]; simp
  · rw [Nat.min_eq_right h, List.take_of_length_le h]; simp
theorem cut_drop {α : Type} (l : List α) (c : Nat) : cutA l (some (c : Int)) none = l.drop c := by
  unfold cutA
  rw [show HT.sIx l.length l.length none = l.length from HT.sIx_none _ _, HT.sIx_nat]
  rcases Nat.le_total c l.length with h | h
  · rw [Nat.min_eq_left h, List.take_of_length_le (by simp)]
  · rw [Nat.min_eq_right h, List.drop_of_length_le h, List.drop_of_length_le (Nat.le_refl _)]; simp
theorem cut_mid {α : Type} (l : List α) (a b : Nat) : cutA l (some (a : Int)) (some (b : Int)) = (l.drop a).take (b - a) := by
  unfold cutA
  rw [HT.sIx_nat, HT.sIx_nat]
  apply List.ext_getElem?
  intro i
  rw [List.getElem?_take, List.getElem?_take]
  rcases Nat.le_total a l.length with h | h
  · rw [Nat.min_eq_left h]
    rcases Nat.le_total b l.length with h2 | h2
    · rw [Nat.min_eq_left h2]
    · rw [Nat.min_eq_right h2]
      by_cases h3 : i < l.length - a
      · rw [if_pos h3, if_pos (by omega)]
      · rw [if_neg h3]
        split
        · rw [List.getElem?_drop, List.getElem?_eq_none (by omega)]
        · rfl
  · rw [Nat.min_eq_right h, List.drop_of_length_le h, List.drop_of_length_le (Nat.le_refl _)]
    simp
def nD (l : List Nat) : List D := l.map fun (n : Nat) => D.int (n : Int)
theorem nD_iD (l : List Nat) : nD l = iD (l.map fun (n : Nat) => (n : Int)) := by unfold nD iD; rw [List.map_map]; rfl
theorem nD_len {l : List Nat} : (nD l).length = l.length := List.length_map ..
theorem nD_app {a b : List Nat} : nD a ++ nD b = nD (a ++ b) := by unfold nD; rw [List.map_append]
theorem nD_snoc {a : List Nat} {b : Nat} : nD a ++ [D.int (b : Int)] = nD (a ++ [b]) := by unfold nD; rw [List.map_append]; rfl
theorem nD_ok (l : List Nat) (n : Nat) : okDs n (nD l) = true := by rw [nD_iD]; exact okDs_int _ _
theorem nD_sz (l : List Nat) : szDs (nD l) = l.length := by rw [nD_iD, szDs_int, List.length_map]
theorem nD_get {l : List Nat} {i : Nat} {d : D} (h : (nD l)[i]? = some d) : ∃ v, l[i]? = some v ∧ d = .int (v : Nat) := by
  unfold nD at h
  rw [List.getElem?_map] at h
  rcases e : l[i]? with _ | v
  · rw [e] at h; cases h
  · rw [e] at h; cases h; exact ⟨v, rfl, rfl⟩
theorem nD_at {l : List Nat} {i v : Nat} (h : l[i]? = some v) : (nD l)[i]? = some (.int (v : Int)) := by unfold nD; rw [List.getElem?_map, h]; rfl
theorem nD_mem {l : List Nat} {d : D} (h : d ∈ nD l) : ∃ v ∈ l, d = .int (v : Nat) := by obtain ⟨v, hv, rfl⟩ := List.mem_map.mp h; exact ⟨v, hv, rfl⟩
theorem nD_take (l : List Nat) (c : Nat) : (nD l).take c = nD (l.take c) := List.map_take.symm
theorem nD_drop (l : List Nat) (c : Nat) : (nD l).drop c = nD (l.drop c) := List.map_drop.symm
theorem iD_take (l : List Int) (c : Nat) : (iD l).take c = iD (l.take c) := List.map_take.symm
theorem iD_drop (l : List Int) (c : Nat) : (iD l).drop c = iD (l.drop c) := List.map_drop.symm
theorem iD_at {l : List Int} {c : Nat} {z : Int} (h : l[c]? = some z) : (iD l)[c]? = some (.int z) := by unfold iD; rw [List.getElem?_map, h]; rfl
theorem iD_mem {l : List Int} {d : D} (h : d ∈ iD l) : ∃ v ∈ l, d = .int v := by obtain ⟨v, hv, rfl⟩ := List.mem_map.mp h; exact ⟨v, hv, rfl⟩
theorem inD_nat {n : Nat} {l : List Nat} : inD (.int (n : Int)) (.lst (nD l)) = some (.bl (decide (n ∈ l))) := by
  rw [nD_iD, inD_ints]
  congr 2
  rw [List.any_map, Bool.eq_iff_iff, List.any_eq_true, decide_eq_true_iff]
  constructor
  · rintro ⟨x, hx, h⟩
    have : (x : Int) = n := of_decide_eq_true h
    rw [show n = x by omega]; exact hx
  · intro h
    exact ⟨n, h, decide_eq_true rfl⟩
theorem ninD_nat {n : Nat} {l : List Nat} : ninD (.int (n : Int)) (.lst (nD l)) = some (.bl (!decide (n ∈ l))) := by
  unfold ninD; rw [inD_nat]
theorem szDs_le {c : Nat} : ∀ {l : List D}, (∀ x ∈ l, szD x ≤ c) → szDs l ≤ c * l.length
  | [], _ => by simp [szDs]
  | x :: l, h => by
    have h1 := h x List.mem_cons_self
    have h2 := szDs_le (l := l) fun y hy => h y (List.mem_cons_of_mem _ hy)
    rw [szDs, List.length_cons, Nat.mul_succ]
    omega
theorem same_bl {b : Bool} {Q : D → Env → Prop} : wF sem__law_same [.sh (.bl b), .sh (.bl b)] Q = Q (.bl true) [.no, .no] := wF_same (by simp [okD]) (by simp [szD])
theorem same_int {b : Int} {Q : D → Env → Prop} : wF sem__law_same [.sh (.int b), .sh (.int b)] Q = Q (.bl true) [.no, .no] := wF_same (by simp [okD]) (by simp [szD])
theorem same_non {Q : D → Env → Prop} : wF sem__law_same [.sh .non, .sh .non] Q = Q (.bl true) [.no, .no] := wF_same (by simp [okD]) (by simp [szD])
theorem same_pairD {r : Option (Nat × Nat)} {Q : D → Env → Prop} : wF sem__law_same [.sh (pairD r), .sh (pairD r)] Q = Q (.bl true) [.no, .no] := wF_same ok_pairD.1 ok_pairD.2
theorem getA_lst {xs : List D} {c : Nat} : getA (.lst xs) (.int (c : Int)) = xs[c]? := by
  show atI xs (c : Int) = _
  exact atI_nn (by omega)
theorem putAny_lst {xs : List D} {c : Nat} {v : D} (h : c < xs.length) : putAny (.lst xs) (.int (c : Int)) v = some (.lst (xs.set c v)) := by
  have e : ixN xs.length (c : Int) = some c := by unfold ixN; simp; omega
  show (match ixN xs.length (c : Int) with | some j => some (D.lst (xs.set j v)) | none => none) = _
  rw [e]
theorem eqD_str {s t : Str} : eqD (.str s) (.str t) = some (.bl (decide (s = t))) := by
  show some (D.bl (s == t)) = _
  congr 2
/-- == of data that are equal just where they are alike -/
theorem eqD_pure {a b : D} (ha : pureD a = true) (hb : pureD b = true) (oa : okD 60 a = true) (ob : okD 60 b = true) [Decidable (a = b)] : eqD a b = some (.bl (decide (a = b))) := by
  unfold eqD
  rw [oa, ob]
  simp only [Bool.and_self, if_true]
  congr 2
  rw [Bool.eq_iff_iff, decide_eq_true_iff]
  exact ⟨pure_eqb a b ha hb, fun e => by subst e; exact eqb_refl oa⟩
theorem neD_pure {a b : D} (ha : pureD a = true) (hb : pureD b = true) (oa : okD 60 a = true) (ob : okD 60 b = true) [Decidable (a = b)] : neD a b = some (.bl (!decide (a = b))) := by
  unfold neD
  rw [oa, ob]
  simp only [Bool.and_self, if_true]
  congr 3
  rw [Bool.eq_iff_iff, decide_eq_true_iff]
  exact ⟨pure_eqb a b ha hb, fun e => by subst e; exact eqb_refl oa⟩
end DL

namespace DL
open PySem L2
/-! ### a row of steps by places; the first pair that is right -/
section
variable {α : Type} {f : α → Option α}
def iterO (f : α → Option α) : Nat → α → Option α
  | 0, x => some x
  | n + 1, x => (f x).bind (iterO f n)
theorem iterO_add : ∀ (i j : Nat) (x : α), iterO f (i + j) x = (iterO f i x).bind (iterO f j)
  | 0, j, x => by rw [Nat.zero_add]; rfl
  | i + 1, j, x => by
    rw [show i + 1 + j = (i + j) + 1 by omega]
    show (f x).bind (iterO f (i + j)) = ((f x).bind (iterO f i)).bind (iterO f j)
    rcases f x with _ | y
    · rfl
    · exact iterO_add i j y
theorem iterO_succ (i : Nat) (x : α) : iterO f (i + 1) x = (iterO f i x).bind f := by
  rw [iterO_add]
  congr 1
  funext y
  show (f y).bind some = f y
  cases f y <;> rfl
theorem rows_get : ∀ (n : Nat) (x : α) (i : Nat), (rowsF f n x)[i]? = if i ≤ n then iterO f i x else none
  | 0, x, i => by
    cases i with
    | zero => rfl
    | succ i => rw [if_neg (by omega)]; rfl
  | n + 1, x, 0 => by rw [rowsF, if_pos (Nat.zero_le _)]; rfl
  | n + 1, x, i + 1 => by
    rw [rowsF, List.getElem?_cons_succ]
    show _ = if i + 1 ≤ n + 1 then (f x).bind (iterO f i) else none
    rcases f x with _ | y
    · simp
    · dsimp only
      rw [rows_get n y i]
      by_cases h : i ≤ n
      · rw [if_pos h, if_pos (by omega)]; rfl
      · rw [if_neg h, if_neg (by omega)]
theorem rows_at {n i : Nat} {x y : α} (h : (rowsF f n x)[i]? = some y) : i ≤ n ∧ iterO f i x = some y := by
  rw [rows_get] at h
  by_cases hi : i ≤ n
  · rw [if_pos hi] at h; exact ⟨hi, h⟩
  · rw [if_neg hi] at h; cases h
theorem rows_of {n i : Nat} {x y : α} (hi : i ≤ n) (h : iterO f i x = some y) : (rowsF f n x)[i]? = some y := by
  rw [rows_get, if_pos hi, h]
theorem iterO_all {P : α → Prop} (hP : ∀ x y, P x → f x = some y → P y) : ∀ (i : Nat) {x y : α}, P x → iterO f i x = some y → P y
  | 0, x, y, h, e => by cases e; exact h
  | i + 1, x, y, h, e => by
    have e' : (f x).bind (iterO f i) = some y := e
    rcases hf : f x with _ | z
    · rw [hf] at e'; cases e'
    · rw [hf] at e'; exact iterO_all hP i (hP x z h hf) e'
end
/-- the first pair (b, L) with b + L < n, L > 0, that is right -/
def FirstIs (n : Nat) (g : Nat → Nat → Bool) : Option (Nat × Nat) → Prop
  | none => ∀ b L, 0 < L → b + L < n → g b L = false
  | some (b, L) => 0 < L ∧ b + L < n ∧ g b L = true ∧ ∀ b' L', 0 < L' → b' + L' < n → (b' < b ∨ b' = b ∧ L' < L) → g b' L' = false
theorem FirstIs.unique {n : Nat} {g : Nat → Nat → Bool} : ∀ {r r' : Option (Nat × Nat)}, FirstIs n g r → FirstIs n g r' → r = r'
  | none, none, _, _ => rfl
  | none, some (b, L), h, ⟨h1, h2, h3, _⟩ => by rw [h b L h1 h2] at h3; cases h3
  | some (b, L), none, ⟨h1, h2, h3, _⟩, h => by rw [h b L h1 h2] at h3; cases h3
  | some (b, L), some (b', L'), ⟨h1, h2, h3, h4⟩, ⟨k1, k2, k3, k4⟩ => by
    rcases Nat.lt_trichotomy b b' with h | h | h
    · rw [k4 b L h1 h2 (.inl h)] at h3; cases h3
    · subst h
      rcases Nat.lt_trichotomy L L' with h | h | h
      · rw [k4 b L h1 h2 (.inr ⟨rfl, h⟩)] at h3; cases h3
      · subst h; rfl
      · rw [h4 b L' k1 k2 (.inr ⟨rfl, h⟩)] at k3; cases k3
    · rw [h4 b' L' k1 k2 (.inl h)] at k3; cases k3
/-- ahead of (k, j) -/
def FirstUp (n : Nat) (g : Nat → Nat → Bool) (k j : Nat) : Option (Nat × Nat) → Prop
  | none => ∀ b L, 0 < L → b + L < n → (b < k ∨ b = k ∧ L < j) → g b L = false
  | some (b, L) => (b < k ∨ b = k ∧ L < j) ∧ FirstIs n g (some (b, L))
section
variable {n k j : Nat} {g : Nat → Nat → Bool} {r : Option (Nat × Nat)}
theorem FirstUp.zero : FirstUp n g 0 1 none := fun b L h1 h2 h3 => by omega
theorem FirstUp.row (h : FirstUp n g k j r) (hj : n ≤ k + j) : FirstUp n g (k + 1) 1 r := by
  cases r with
  | none => exact fun b L h1 h2 h3 => h b L h1 h2 (by omega)
  | some q => exact ⟨by have := h.1; omega, h.2⟩
theorem FirstUp.miss (h : FirstUp n g k j r) (hg : r = none → g k j = false) : FirstUp n g k (j + 1) r := by
  cases r with
  | none =>
    intro b L h1 h2 h3
    rcases Nat.lt_or_ge b k with c | c
    · exact h b L h1 h2 (.inl c)
    · have e : b = k := by omega
      subst e
      rcases Nat.lt_or_ge L j with c | c
      · exact h b L h1 h2 (.inr ⟨rfl, c⟩)
      · have e : L = j := by omega
        subst e
        exact hg rfl
  | some q => exact ⟨by have := h.1; omega, h.2⟩
theorem FirstUp.hit (h : FirstUp n g k j none) (h0 : 0 < j) (hn : k + j < n) (hg : g k j = true) : FirstUp n g k (j + 1) (some (k, j)) ∧ FirstIs n g (some (k, j)) := by
  have : FirstIs n g (some (k, j)) := ⟨h0, hn, hg, fun b L h1 h2 h3 => h b L h1 h2 h3⟩
  exact ⟨⟨.inr ⟨rfl, Nat.lt_succ_self _⟩, this⟩, this⟩
theorem FirstUp.done (h : FirstUp n g k j r) (hk : n ≤ k) : FirstIs n g r := by
  cases r with
  | none => exact fun b L h1 h2 => h b L h1 h2 (.inl (by omega))
  | some q => exact h.2
end
end DL

namespace DL
open PySem L2 PyProof.Rows
/-! ### dict displays whose keys may be tuples -/
def dispE2 (ps : List (EM × EM)) : EM := fun η => match pairsM ps η with
  | some (l, η') => if (l.all fun kv => scalK kv.1) = true ∨ (l.all fun kv => tupK kv.1) = true then some (.dic (mergeD [] l), η') else none
  | none => none
theorem RepP.carriesH {X : Cx} {pins : List (Addr × Obj)} {σ : L2.St} {H F : Hp} {s : Shared} (I : Inv X pins σ H s) (sm : Same F H) : ∀ {l : List (D × D)} {ws : List (Value × Value)}, RepP X.G F l ws → (l.all fun kv => tupK kv.1) = true →
    ∃ prs : List (NestedKey × Addr × Value), CarriesH (nestedKind X.prog X.w) s.heap ws prs ∧ ∀ {a : List (D × D)} {acc : List (NestedKey × Addr × Value)}, RT X.G F a acc → RT X.G F (mergeD a l) (storedAllH acc prs)
  | [], _, h, _ => by cases h; exact ⟨[], True.intro, fun r => r⟩
  | p :: l, _, h, hs => by
    cases h with
    | @cons _ b _ bs h t =>
      obtain ⟨b1, b2⟩ := b
      obtain ⟨⟨x, rx, vx⟩, ⟨y, ry, vy⟩⟩ := h
      rw [List.all_cons, Bool.and_eq_true] at hs
      obtain ⟨prs, c, q⟩ := RepP.carriesH I sm t hs.2
      obtain ⟨pk, pv⟩ := p
      obtain ⟨ys, n, rfl, en, hd⟩ := tupK_inv hs.1
      obtain ⟨a, rfl⟩ := tup_ref rx
      cases (show b1 = Value.ref a from vx)
      refine ⟨(n, a, b2) :: prs, ⟨rfl, rfl, ⟨Rep.nested I sm _ _ _ _ en rx rfl, hd⟩, c⟩, fun r => ?_⟩
      exact q (RT.put hs.1 en rx ry vy r)
theorem po_disp2 {X : Cx} {pos : Pos} {keys : List (Option Expr)} {values : List Expr} {ps : List (EM × EM)} (hu : X.A.units + 64 < cLine) (h : PPD X pos keys values ps) (hall : keys.all (·.isSome) = true) (hl : keys.length = values.length) (h0 : keys ≠ [])
    (h15 : keys.length ≤ 15) (hps : ps.length = keys.length) : PE X (.Dict keys values pos) (tO X.G (dispE2 ps)) := by
  refine ⟨fun pins s σ H Q I ⟨B, F, Z, η, d, η', ok, hm, q⟩ => ?_⟩
  unfold dispE2 at hm
  split at hm
  · next l η1 h1 =>
    split at hm
    · next hs =>
      cases hm
      by_cases hsc : (l.all fun kv => scalK kv.1) = true
      · exact (po_disp h hall hl h0 h15 hps).run pins s σ H Q I ⟨B, F, Z, η, _, η', ok, by unfold dispE; rw [h1]; dsimp only; rw [if_pos hsc], q⟩
      · have ht := hs.resolve_left hsc
        have hp := I.hok.fresh (Nat.le_refl s.heap.objs.size)
        have I1 := I.laid (a := s.heap.objs.size) (o := rawD s.heap.objs.size #[] 0) (h' := s.heap.push { cls := .type "dict", data := .dict #[] }) (t' := s.toks) (fun _ _ q => Heap.get?_push_of_some _ q) (Nat.le_refl _)
          (rawD_ok (Heap.get?_push_size _ rfl) ⟨rfl, rfl, rfl⟩ rfl (beq_eq_false_iff_ne.mpr (Ne.symm (Nat.ne_of_lt I.big))) (Nat.zero_le _))
        have hn := pairTrees_length keys values X.env pos hall hl
        rw [arm_eval_Dict, zip_pairTrees keys values X.env pos hall hl, dictDisplay_pairs _ (fun he => by rw [he] at hn; exact h0 (List.length_eq_zero_iff.mp hn.symm)) (by rw [hn]; omega)]
        refine wpAny_bind (wpAny_standAt (wpAny_bind (wpAny_subDictH (knd := nestedKind X.prog X.w) (by show X.A.units + 8 < cLine; omega) (by rw [hn]; exact h15) ?_)))
        refine thn (h.run pins _ σ _ _ F Z η _ _ I1 (ok.shield hp) h1) fun ws s2 ⟨H2, F2, I2, sm, ok2, rp⟩ => ?_
        have e2 : H2 s.heap.objs.size = some (rawD s.heap.objs.size #[] 0) := ok2.bb _ _ upd_same
        obtain ⟨xs0, q1, dd⟩ := dictT (ds := []) I2 ok2.ff e2 .nil List.nodup_nil rfl
        cases q1
        obtain ⟨prs, c, q2⟩ := rp.carriesH I2 ok2.ff ht
        refine ⟨prs, c, dd, fun h' tk dd' hsb => wpAny_pure ?_⟩
        obtain ⟨o', es', ep', ho', hx', hd', hes, his, hnd⟩ := dd'
        have q3 : RepKV X.G F2 (mergeD [] l) es'.toList := by rw [hes]; exact RT.back (q2 .nil)
        have hz : es'.size ≤ sizeLine := by
          have h1 := q3.length
          have h2 : es'.toList.length = es'.size := Array.length_toList
          have h3 := mergeD_length l []
          have h4 := pairsM_len ‹_›
          have h5 : sizeLine = 16777216 := sizeLine_eq
          rw [List.length_nil] at h3
          omega
        have I3 := d_write (t' := tk) I2 (by rw [e2]; exact True.intro) hsb ⟨o', ho'⟩ (rawD_ok ho' hx' hd' (rawD_at I2 e2).2.1 hz)
        have hB := ok.bnone hp
        obtain ⟨ok5, f5, h5, n5⟩ := (ok2.reshield (o' := rawD s.heap.objs.size es' ep')).unshield hB
        exact ⟨.ref s.heap.objs.size, _, I3, rfl, q _ _ F2 sm ok5 hB f5 (.dic upd_same q3 (mergeD_nodup l [] List.nodup_nil)) n5⟩
    · cases hm
  · cases hm
section
variable {P : D → Env → Prop} {η : Env} {l : List (D × D)} {r : List (EM × EM)}
def dispK2 (Q : D → Env → Prop) : List (D × D) → Env → Prop := fun l η => ((l.all fun kv => scalK kv.1) = true ∨ (l.all fun kv => tupK kv.1) = true) ∧ Q (.dic (mergeD [] l)) η
@[simp] theorem dispK2_eq : dispK2 P l η = (((l.all fun kv => scalK kv.1) = true ∨ (l.all fun kv => tupK kv.1) = true) ∧ P (.dic (mergeD [] l)) η) := propext Iff.rfl
@[simp] theorem wE_dispE2 : wE (dispE2 r) η P = wPs r η (dispK2 P) := by
  unfold wE dispE2 wPs dispK2
  rcases pairsM r η with _ | ⟨l, η1⟩
  · rfl
  dsimp only
  by_cases h : (l.all fun kv => scalK kv.1) = true ∨ (l.all fun kv => tupK kv.1) = true
  · rw [if_pos h, eq_true h, true_and]
  · rw [if_neg h, eq_false h, false_and]
end
end DL

namespace DL
open PySem L2
/-! ### dicts whose keys are an image -/
section
variable {α : Type} [DecidableEq α]
structure KeyEmb (g : α → D) : Prop where
  kind : (∀ a, scalK (g a) = true) ∨ (∀ a, tupK (g a) = true)
  inj : ∀ a b, keyEq (g a) (g b) = decide (a = b)
variable {β : Type}
def kvG (g : α → D) (f : β → D) (C : List (α × β)) : List (D × D) := C.map fun r => (g r.1, f r.2)
def agetG (C : List (α × β)) (v : α) : Option β := (C.find? fun r => decide (r.1 = v)).map (·.2)
def aputG (C : List (α × β)) (v : α) (x : β) : List (α × β) := if C.any (fun r => decide (r.1 = v)) = true then C.map fun r => if r.1 = v then (r.1, x) else r else C ++ [(v, x)]
variable {g : α → D} {f : β → D} {C : List (α × β)} {v : α} {x : β}
theorem look_kvG (h : KeyEmb g) : lookD (kvG g f C) (g v) = (agetG C v).map f := by
  unfold lookD agetG kvG
  rw [List.find?_map, Option.map_map, Option.map_map]
  have e : ((fun kv : D × D => keyEq kv.1 (g v)) ∘ fun r : α × β => (g r.1, f r.2)) = fun r => decide (r.1 = v) := by
    funext r
    exact h.inj r.1 v
  rw [e]
  rfl
theorem homog_kvG (h : KeyEmb g) : DL.homog (g v) (kvG g f C) = true := by
  unfold DL.homog kvG
  rw [List.all_map, List.all_map]
  rcases h.kind with k | k
  · rw [k v, show C.all ((fun kv : D × D => scalK kv.1) ∘ fun r => (g r.1, f r.2)) = true from List.all_eq_true.mpr fun r _ => k r.1]; rfl
  · rw [k v, show C.all ((fun kv : D × D => tupK kv.1) ∘ fun r => (g r.1, f r.2)) = true from List.all_eq_true.mpr fun r _ => k r.1]; simp
theorem put_kvG (h : KeyEmb g) : putD (kvG g f C) (g v) (f x) = kvG g f (aputG C v x) := by
  unfold putD aputG kvG
  rw [List.any_map]
  have e : ((fun kv : D × D => keyEq kv.1 (g v)) ∘ fun r : α × β => (g r.1, f r.2)) = fun r => decide (r.1 = v) := by
    funext r
    exact h.inj r.1 v
  rw [e]
  by_cases hc : C.any (fun r => decide (r.1 = v)) = true
  · rw [if_pos hc, if_pos hc, List.map_map, List.map_map]
    refine List.map_congr_left fun r _ => ?_
    show (if keyEq (g r.1) (g v) = true then (g r.1, f x) else (g r.1, f r.2)) = _
    rw [h.inj]
    by_cases hr : r.1 = v
    · rw [if_pos (decide_eq_true hr)]
      show _ = (g (if r.1 = v then (r.1, x) else r).1, f (if r.1 = v then (r.1, x) else r).2)
      rw [if_pos hr]
    · rw [if_neg (by simpa using hr)]
      show _ = (g (if r.1 = v then (r.1, x) else r).1, f (if r.1 = v then (r.1, x) else r).2)
      rw [if_neg hr]
  · rw [if_neg hc, if_neg hc, List.map_append]
    rfl
theorem len_kvG : (kvG g f C).length = C.length := List.length_map ..
theorem idx_kvG (h : KeyEmb g) (hv : agetG C v = some x) : idxD (.dic (kvG g f C)) (g v) = some (f x) :=
  idxD_dic (homog_kvG h) (by rw [look_kvG h, hv]; rfl)
theorem in_kvG (h : KeyEmb g) : inD (g v) (.dic (kvG g f C)) = some (.bl (agetG C v).isSome) := by
  rw [inD_dic (homog_kvG h), look_kvG h]
  cases agetG C v <;> rfl
theorem nin_kvG (h : KeyEmb g) : ninD (g v) (.dic (kvG g f C)) = some (.bl (!(agetG C v).isSome)) := by
  unfold ninD; rw [in_kvG h]
theorem putAny_kvG (h : KeyEmb g) (hl : C.length < 16777216) : putAny (.dic (kvG g f C)) (g v) (f x) = some (.dic (kvG g f (aputG C v x))) := by
  rw [putAny_dic (homog_kvG h) (by rw [len_kvG]; exact hl), put_kvG h]
theorem agetG_mem : (agetG C v).isSome = true ↔ v ∈ C.map (·.1) := by
  unfold agetG
  rw [Option.isSome_map, List.find?_isSome, List.mem_map]
  constructor
  · rintro ⟨r, hr, e⟩; exact ⟨r, hr, by simpa using e⟩
  · rintro ⟨r, hr, e⟩; exact ⟨r, hr, by simpa using e⟩
theorem agetG_in (h : agetG C v = some x) : (v, x) ∈ C := by
  unfold agetG at h
  rcases e : C.find? (fun r => decide (r.1 = v)) with _ | r
  · rw [e] at h; cases h
  · rw [e] at h
    cases h
    have h1 := List.mem_of_find?_eq_some e
    have h2 := List.find?_some e
    have h3 : r.1 = v := by simpa using h2
    rw [← h3]; exact h1
theorem aputG_len : (aputG C v x).length ≤ C.length + 1 := by unfold aputG; split <;> simp
theorem aputG_mem {r : α × β} (h : r ∈ aputG C v x) : r = (v, x) ∨ r ∈ C := by
  unfold aputG at h
  split at h
  · obtain ⟨q, hq, rfl⟩ := List.mem_map.mp h
    split
    · next e => left; rw [e]
    · exact .inr hq
  · rcases List.mem_append.mp h with h | h
    · exact .inr h
    · exact .inl (List.mem_singleton.mp h)
theorem aputG_new (h : agetG C v = none) : aputG C v x = C ++ [(v, x)] := by
  unfold aputG
  rw [if_neg]
  intro hc
  have : (agetG C v).isSome = true := by
    rw [agetG_mem]
    obtain ⟨r, hr, e⟩ := List.any_eq_true.mp hc
    exact List.mem_map.mpr ⟨r, hr, by simpa using e⟩
  rw [h] at this; cases this
theorem agetG_put {u : α} : agetG (aputG C v x) u = if u = v then some x else agetG C u := by
  unfold aputG
  by_cases hc : C.any (fun r => decide (r.1 = v)) = true
  · rw [if_pos hc]
    unfold agetG
    rw [List.find?_map, Option.map_map]
    have e : ((fun r : α × β => decide (r.1 = u)) ∘ fun r : α × β => if r.1 = v then (r.1, x) else r) = fun r => decide (r.1 = u) := by
      funext r
      show decide ((if r.1 = v then (r.1, x) else r).1 = u) = _
      split <;> rfl
    rw [e]
    by_cases huv : u = v
    · subst huv
      rw [if_pos rfl]
      rcases hf : C.find? (fun r => decide (r.1 = u)) with _ | r
      · rw [List.find?_eq_none] at hf
        obtain ⟨r, hr, e⟩ := List.any_eq_true.mp hc
        exact absurd e (hf r hr)
      · have h2 := List.find?_some hf
        have h3 : r.1 = u := by simpa using h2
        rw [hf]
        show some (if r.1 = u then (r.1, x) else r).2 = _
        rw [if_pos h3]
    · rw [if_neg huv]
      rcases hf : C.find? (fun r => decide (r.1 = u)) with _ | r
      · rw [hf]; rfl
      · have h2 := List.find?_some hf
        have h3 : r.1 = u := by simpa using h2
        rw [hf]
        show some (if r.1 = v then (r.1, x) else r).2 = _
        rw [if_neg (fun z => huv (h3.symm.trans z))]
        rfl
  · rw [if_neg hc]
    unfold agetG
    rw [List.find?_append]
    by_cases huv : u = v
    · subst huv
      rw [if_pos rfl]
      have : C.find? (fun r => decide (r.1 = u)) = none := by
        rw [List.find?_eq_none]
        intro r hr e
        exact hc (List.any_eq_true.mpr ⟨r, hr, e⟩)
      rw [this]
      simp
    · rw [if_neg huv]
      have : ([(v, x)] : List (α × β)).find? (fun r => decide (r.1 = u)) = none := by
        rw [List.find?_eq_none]
        intro r hr e
        rw [List.mem_singleton.mp hr] at e
        exact huv (by simpa using (of_decide_eq_true e).symm)
      rw [this, Option.or_none]
end
theorem nodup_len : ∀ (n : Nat) (l : List Nat), l.Nodup → (∀ v ∈ l, v < n) → l.length ≤ n
  | 0, l, _, h => by
    cases l with
    | nil => exact Nat.le_refl _
    | cons a l => exact absurd (h a List.mem_cons_self) (Nat.not_lt_zero _)
  | n + 1, l, hn, h => by
    by_cases hm : n ∈ l
    · have h1 := nodup_len n (l.erase n) (hn.erase n) fun v hv => by
        have := (List.Nodup.mem_erase_iff hn).mp hv
        have := h v this.2
        omega
      rw [List.length_erase_of_mem hm] at h1
      omega
    · exact Nat.le_succ_of_le (nodup_len n l hn fun v hv => by
        have := h v hv
        have : v ≠ n := fun z => hm (z ▸ hv)
        omega)
/-! kinds of keys -/
theorem emb_nat : KeyEmb (fun n : Nat => D.int (n : Int)) := ⟨.inl fun _ => rfl, fun a b => by
  unfold keyEq
  simp only [keyN, Option.some.injEq, NestedKey.num.injEq]
  exact decide_eq_decide.mpr (by omega)⟩
theorem tupK_of {xs : List D} {ks : List NestedKey} (h : keyNs xs = some ks) (hd : (NestedKey.tup ks).depth ≤ 8) : tupK (.tup xs) = true := by
  simp only [tupK, keyN, h, hd, decide_true]
theorem emb_two : KeyEmb (fun r : Nat × Int => D.tup [.int (r.1 : Int), .int r.2]) := ⟨.inr fun a => tupK_of (ks := [.num a.1, .num a.2]) rfl (by simp [NestedKey.depth, NestedKey.depthAll]), fun a b => by
  unfold keyEq
  simp only [keyN, keyNs]
  refine decide_eq_decide.mpr ?_
  obtain ⟨a1, a2⟩ := a
  obtain ⟨b1, b2⟩ := b
  simp
  omega⟩
theorem emb_bool : KeyEmb (fun r : Nat × Bool => D.tup [.int (r.1 : Int), .bl r.2]) := ⟨.inr fun a => tupK_of (ks := [.num a.1, .num (if a.2 = true then 1 else 0)]) rfl (by simp [NestedKey.depth, NestedKey.depthAll]), fun a b => by
  unfold keyEq
  simp only [keyN, keyNs]
  refine decide_eq_decide.mpr ?_
  obtain ⟨a1, a2⟩ := a
  obtain ⟨b1, b2⟩ := b
  cases a2 <;> cases b2 <;> simp <;> omega⟩
theorem emb_nats : KeyEmb (fun r : Nat × Nat => D.tup [.int (r.1 : Int), .int (r.2 : Int)]) := ⟨.inr fun a => tupK_of (ks := [.num a.1, .num a.2]) rfl (by simp [NestedKey.depth, NestedKey.depthAll]), fun a b => by
  unfold keyEq
  simp only [keyN, keyNs]
  refine decide_eq_decide.mpr ?_
  obtain ⟨a1, a2⟩ := a
  obtain ⟨b1, b2⟩ := b
  simp
  omega⟩
def intF (F : Nat → Int) : D → D
  | .int k => .int (F k.toNat)
  | d => d
theorem range_intF (many : Nat) (F : Nat → Int) : (rangeD 0 (many : Nat)).map (intF F) = iD ((List.range many).map F) := by
  unfold rangeD iD
  rw [List.map_map, List.map_map]
  rw [show ((many : Int) - 0).toNat = many by omega]
  refine List.map_congr_left fun i _ => ?_
  show D.int (F ((0 : Int) + (i : Int)).toNat) = D.int (F i)
  congr 2
  omega
theorem rows_end {α : Type} {f : α → Option α} {n : Nat} {x z : α} (h : iterO f n x = some z) : ∃ l, rowsF f n x = l ++ [z] ∧ l.length = n := by
  obtain ⟨l, y, e⟩ := rowsF_last (f := f) n x
  have hlt : (rowsF f n x).length ≤ n + 1 := rowsF_len n x
  have hz := rows_of (Nat.le_refl n) h
  have h2 := (List.getElem?_eq_some_iff.mp hz).1
  have hl : l.length = n := by rw [e, List.length_append, List.length_singleton] at hlt h2; omega
  rw [e, ← hl, List.getElem?_concat_length] at hz
  cases hz
  exact ⟨l, e, hl⟩
/-- a row that ends at a rest -/
theorem rows_stop {α : Type} {f : α → Option α} {n k : Nat} {x z : α} (h : iterO f n x = some z) (hz : f z = none) (hk : n ≤ k) : rowsF f k x = rowsF f n x := by
  apply List.ext_getElem?
  intro i
  rw [rows_get, rows_get]
  by_cases h1 : i ≤ n
  · rw [if_pos h1, if_pos (by omega)]
  · rw [if_neg h1]
    split
    · rw [show i = n + ((i - n - 1) + 1) by omega, iterO_add, h]
      show (f z).bind _ = none
      rw [hz]; rfl
    · rfl
end DL

namespace DL
open PySem L2
/-! ### an own object laid to rest ahead of a statement -/
def rsM (i : Nat) (m : SM) : SM := fun η => match η[i]? with
  | some (.ow d) => m (η.set i (.sh d))
  | _ => m η
theorem rs_tS {K : Gd} {i : Nat} {m : SM} (D : Ends) (σ : L2.St) (H : Hp) (h : tS K (rsM i m) D σ H) : tS K m D σ H := by
  obtain ⟨B, F, Z, η, o, η', ok, hm, q⟩ := h
  unfold rsM at hm
  split at hm
  · next d hd =>
    obtain ⟨F', v, s, _, _, ok'⟩ := ok.rest hd
    exact ⟨B, F', Z, _, o, η', ok', hm, q.mono s⟩
  · exact ⟨B, F, Z, η, o, η', ok, hm, q⟩
theorem s_rs {X : Cx} {st : Stmt} {m : SM} (i : Nat) (h : PS X st (tS X.G m)) : PS X st (tS X.G (rsM i m)) := weakS h rs_tS
def restAt (i : Nat) (η : Env) : Env := match η[i]? with
  | some (.ow d) => η.set i (.sh d)
  | _ => η
@[simp] theorem restAt_eq {i : Nat} {η : Env} : restAt i η = match η[i]? with
  | some (.ow d) => η.set i (.sh d)
  | _ => η := rfl
@[simp] theorem wS_rsM {i : Nat} {m : SM} {η : Env} {R : Out → Env → Prop} : wS (rsM i m) η R = wS m (restAt i η) R := by
  unfold wS rsM restAt
  rcases h : η[i]? with _ | s
  · simp [h]
  · cases s <;> simp [h]
/-! ### sum of a tuple -/
def sumTG : List D → Option D
  | [.tup xs] => match intsD xs with
    | some l => some (.int l.sum)
    | none => none
  | _ => none
def sum2G (ds : List D) : Option D := match sumG ds with
  | some d => some d
  | none => sumTG ds
section
variable {X : Cx}
open PyProof.Rows PySem.W in
theorem b_sumT (hc : X.calm = true) : CallR X (.builtin "sum") (rL X.G sumTG) := by
  intro pins s σ H vs us Q I rv h
  obtain ⟨ds, d, F, sm, r, e, q⟩ := h
  unfold sumTG at e
  split at e
  · next xs =>
    split at e
    · next l hl =>
      cases e
      rw [intsD_inv hl] at r
      obtain ⟨v, rfl, hv⟩ := r.inv1
      obtain ⟨a, ws, rfl, ha, hr⟩ := hv.tup sm
      rw [hr.ints] at ha
      obtain ⟨u, rfl, ru⟩ := vals1 rv
      cases ru
      obtain ⟨its, r', pl, _⟩ := I.tuple ha
      have hi := r'.ints
      obtain ⟨ys, e⟩ := hi.allInts.items
      have hn : numsOf (intItems ys).toList = l := by rw [← e]; exact hi.numsOf
      rw [nums_intItems] at hn
      have hl2 : s.heap.IsTuple a (intItems ys) := by rw [← e]; exact pl
      refine ktm_sumG (I.ok.hd hc) hl2 fun h' tk t' hk => ?_
      rw [preSum_eq, List.take_of_length_le (by simp), hn]
      exact ⟨.int _, H, I.kept hk, ⟨_, rfl⟩, q _ _ _ Res.same (.int _)⟩
    · cases e
  · cases e
theorem b_sum2 (hc : X.calm = true) : CallR X (.builtin "sum") (rL X.G sum2G) := by
  intro pins s σ H vs us Q I rv h
  obtain ⟨ds, d, F, sm, r, e, q⟩ := h
  unfold sum2G at e
  split at e
  · next d' h1 => cases e; exact b_sum hc pins s σ H vs us Q I rv ⟨ds, _, F, sm, r, h1, q⟩
  · exact b_sumT hc pins s σ H vs us Q I rv ⟨ds, _, F, sm, r, e, q⟩
end
theorem intsD_iD : ∀ l : List Int, intsD (iD l) = some l
  | [] => rfl
  | a :: l => by
    show (match intsD (iD l) with | some l => some (a :: l) | none => none) = _
    rw [intsD_iD l]
@[simp] theorem sum2G_tup {l : List Int} : sum2G [.tup (iD l)] = some (.int l.sum) := by
  show (match intsD (iD l) with | some l => some (D.int l.sum) | none => none) = _
  rw [intsD_iD]
@[simp] theorem sum2G_lst {l : List Int} : sum2G [.lst (iD l)] = some (.int l.sum) := by
  have : sumG [.lst (iD l)] = some (.int l.sum) := by
    show (match intsD (iD l) with | some l => some (D.int l.sum) | none => none) = _
    rw [intsD_iD]
  unfold sum2G
  rw [this]
end DL

namespace DL
open PySem L2
/-! ### min(xs) of a list of tuples of numbers (nested) -/
def ltD' (a b : D) : Bool := PySem.W.dataLt (toPy a) (toPy b)
def minDG : List D → Option D
  | [.lst (x :: xs)] => if okDs 50 (x :: xs) = true ∧ pureDs (x :: xs) = true ∧ alikeB (x :: xs) = true then some (xs.foldl (fun a y => if ltD' y a = true then y else a) x) else none
  | _ => none
def minAG (ds : List D) : Option D := match bestG min ds with
  | some d => some d
  | none => minDG ds
theorem fold_py (x : D) (xs : List D) : toPy (xs.foldl (fun a y => if ltD' y a = true then y else a) x) = PySem.W.minD (toPy x) (toPys xs) := by
  unfold PySem.W.minD
  induction xs generalizing x with
  | nil => rfl
  | cons y xs ih =>
    rw [List.foldl_cons, ih, toPys, List.foldl_cons]
    congr 1
    unfold ltD'
    cases PySem.W.dataLt (toPy y) (toPy x) <;> rfl
theorem fold_mem (x : D) (xs : List D) : xs.foldl (fun a y => if ltD' y a = true then y else a) x ∈ x :: xs := by
  induction xs generalizing x with
  | nil => exact List.mem_cons_self
  | cons y xs ih =>
    rw [List.foldl_cons]
    have h := ih (if ltD' y x = true then y else x)
    rcases List.mem_cons.mp h with e | h
    · rw [e]
      split
      · exact List.mem_cons_of_mem _ List.mem_cons_self
      · exact List.mem_cons_self
    · exact List.mem_cons_of_mem _ (List.mem_cons_of_mem _ h)
theorem pure_toPy {a b : D} (ha : pureD a = true) (hb : pureD b = true) (oa : okD 60 a = true) (h : toPy a = toPy b) : a = b := by
  refine pure_eqb a b ha hb ?_
  have := eqb_refl oa
  unfold eqb at this ⊢
  rw [← h]; exact this
section
variable {X : Cx}
theorem vals_at : ∀ {ws : List V} {its : List Value} {i : Nat} {v : Value}, Vals ws its → its[i]? = some v → ∃ w, ws[i]? = some w ∧ RelV w v
  | _, _, i, v, .nil, h => by simp at h
  | _, _, 0, v, .cons r _, h => by simp at h; subst h; exact ⟨_, rfl, r⟩
  | _, _, i + 1, v, .cons _ rs, h => vals_at (i := i) rs (by simpa using h)
open PyProof.Rows PySem.W in
theorem b_minD (hc : X.calm = true) (hu : X.A.units + 64 < cLine) : CallR X (.builtin "min") (rL X.G minDG) := by
  intro pins s σ H vs us Q I rv h
  obtain ⟨ds, d, F, sm, r, e, q⟩ := h
  unfold minDG at e
  split at e
  · next x xs =>
    split at e
    · next hcond =>
      obtain ⟨hok, hpu, hal⟩ := hcond
      cases e
      obtain ⟨v, rfl, hv⟩ := r.inv1
      obtain ⟨a, ws, rfl, ha, hr⟩ := hv.lst sm
      obtain ⟨u, rfl, ru⟩ := vals1 rv
      cases ru
      obtain ⟨its, rs, pl, _⟩ := I.list (SqL.of ha)
      have hpy := okDs_py 50 (x :: xs) hok
      obtain ⟨as, ra⟩ := RepL.reads I sm (x :: xs) ws its hpy.1 hr rs
      have hall : PySem.W.AlikeAll (toPy x :: toPys xs) := by
        have e1 : toPy x :: toPys xs = (x :: xs).map toPy := by rw [← toPys, toPys_map]
        rw [e1]
        refine ⟨fun p hp p2 hp2 => ?_, fun p hp => ?_⟩
        · obtain ⟨z, hz, rfl⟩ := List.mem_map.mp hp
          obtain ⟨z2, hz2, rfl⟩ := List.mem_map.mp hp2
          exact List.all_eq_true.mp (List.all_eq_true.mp hal z hz) z2 hz2
        · obtain ⟨z, hz, rfl⟩ := List.mem_map.mp hp
          have := pureDs_all.mp hpu z hz
          cases z <;> first | (simp [pureD] at this; done) | simp [toPy]
      have hd := hpy.2
      refine PySem.W.min_list_data (I.ok.hd hc) pl.isList ra hall (by show X.A.units + 1 + PyData.depthAll (toPys (x :: xs)) < cLine; omega) fun i v h' tk bs hi hrd hk => ?_
      have hi' : its[i]? = some v := by simpa using hi
      obtain ⟨w, hw, rw'⟩ := vals_at rs hi'
      obtain ⟨y, hy, ry⟩ := hr.getV hw
      have hym := List.mem_of_getElem? hy
      have hoy := okDs_all.mp hok y hym
      obtain ⟨as2, r2⟩ := Rep.reads I sm y w v (okD_py 50 y hoy).1 ry rw'
      rw [← fold_py] at hrd
      have hdet := reads_det (h := s.heap) (h' := h') (fun b o hb _ => hk b o hb) r2 hrd
      have hfm := fold_mem x xs
      have heq := pure_toPy (pureDs_all.mp hpu _ hfm) (pureDs_all.mp hpu y hym) (okD_mono 50 60 _ (by decide) (okDs_all.mp hok _ hfm)) hdet.1
      rw [heq] at q
      exact ⟨w, H, I.kept hk, rw', q _ _ _ Res.same ry⟩
    · cases e
  · cases e
theorem b_minA (hc : X.calm = true) (hu : X.A.units + 64 < cLine) : CallR X (.builtin "min") (rL X.G minAG) := by
  intro pins s σ H vs us Q I rv h
  obtain ⟨ds, d, F, sm, r, e, q⟩ := h
  unfold minAG at e
  split at e
  · next d' h1 => cases e; exact b_min1 hc hu pins s σ H vs us Q I rv ⟨ds, _, F, sm, r, h1, q⟩
  · exact b_minD hc hu pins s σ H vs us Q I rv ⟨ds, _, F, sm, r, e, q⟩
end
end DL

namespace DL
open PySem PySem.Spec L2 PyProof.Rows
/-! ### set(xs) of a list of ints, with what sorted() of it asks -/
abbrev newSet (w : World) : Obj := { cls := .type "set", dict := none, data := .set #[] 0 (.fresh 0 0 (!w.params.followText "set-order")) }
section
variable {P : Program} {w : World} {A : Around} {E : Value → Shared → Prop} {s : Shared}
theorem set_of_list {l : Addr} {xs : Array Value} {ns : List Int} {Q : Value → Shared → Prop} (hh : A.handled = none) (hl : s.heap.IsList l xs) (hi : IntsAre xs.toList ns) (hb : ns.length + 1 < scanBound)
    (done : ∀ (h' : Heap) (tk c : Nat), SetR w h' s.heap.objs.size (fun j => decide (j ∈ ns)) c → c ≤ ns.length → (∀ b o, s.heap.get? b = some o → h'.get? b = some o) → Q (.ref s.heap.objs.size) { s with heap := h', toks := tk }) :
    wpAny (model P w) A (call (.type "set") [.ref l]) Q E s := by
  have len : xs.size = ns.length := by have := IntsAre.length hi; rw [Array.length_toList] at this; exact this
  have vals : ∀ (i : Nat) (v : Value), xs[i]? = some v → ∃ k t, ns[i]? = some k ∧ v = .int k t := fun i v hv => by
    have hlt := (Array.getElem?_eq_some_iff.mp hv).1
    obtain ⟨t, e⟩ := IntsAre.int_at hi i v (by rw [Array.getElem?_toList]; exact hv)
    refine ⟨ns[i], t, List.getElem?_eq_getElem (by omega), ?_⟩
    rw [e, List.getD_eq_getElem?_getD, List.getElem?_eq_getElem (by omega)]; rfl
  obtain ⟨ol, hol, hcl, nl, hdl⟩ := hl
  obtain ⟨_, odict, _, oslots⟩ := ol
  simp only at hcl hdl
  subst hcl hdl
  have old : ∀ {b : Addr} {o : Obj}, s.heap.get? b = some o → b ≠ s.heap.objs.size ∧ b ≠ (s.heap.push (newSet w)).objs.size := fun {b o} e => by
    have := Heap.lt_size e
    rw [Heap.size_push]
    exact ⟨Nat.ne_of_lt this, Nat.ne_of_lt (Nat.lt_succ_of_lt this)⟩
  obtain ⟨m1, m2, hmro⟩ := F.called_set.mro
  have hmade := F.called_set.made
  have hsub := F.called_set.sub
  have h1 := F.called_set.notType
  have h2 := F.called_set.canCreate
  have hct := F.typeCall_set_1 (.ref l)
  refine wpAny_call (codeAny_of_tree ?_)
  show wpAny _ _ (callAny (.type "set") _) _ _ _
  refine wpAny_pure ⟨Code.quiet_builtin _ (by decide +kernel), codeAny_builtin F.entry_type_call ?_⟩
  rw [Around.under_plain (weight_type_call_type "set" [.ref l] []) rfl]
  repeat (any_goals (first | assumption | wp_step))
  refine codeAny_mono (code_set_led1 (.ref l) (E := E) (Q₁ := fun v s1 => v = .ref s.heap.objs.size ∧ s1 = { s with heap := s.heap.push (newSet w) }) ⟨rfl, rfl⟩) fun r s1 hr => ?_
  cases r with
  | error e => exact hr
  | ok fl =>
    cases fl with
    | ret v =>
      obtain ⟨rfl, rfl⟩ := hr
      have at0 : (s.heap.push (newSet w)).get? s.heap.objs.size = some (newSet w) := Heap.get?_push_size _ rfl
      have hT : Shared.TypeIs { s with heap := s.heap.push (newSet w) } (.ref s.heap.objs.size) "set" := ⟨_, at0, rfl⟩
      have hli := F.called_set.init.lookup
      have hbi := F.called_set.init.bind (.ref s.heap.objs.size)
      repeat (any_goals (first | assumption | wp_step))
      refine codeAny_mono (codeAny_call_builtin (R := wants (fun r s2 => r = .none ∧ ∃ h' tk c, s2 = { s with heap := h', toks := tk } ∧ SetR w h' s.heap.objs.size (fun j => decide (j ∈ ns)) c ∧ c ≤ ns.length ∧
        (∀ b o, s.heap.get? b = some o → h'.get? b = some o)) E) F.called_set.init.plain F.entry_set_init (check_set_init_1 hT ?_)) fun r2 s2 hr2 => ?_
      · have hol' : (s.heap.push (newSet w)).get? l = some { cls := .type "list", dict := odict, data := .seq xs nl, slots := oslots } := Heap.get?_push_of_some _ hol
        have hl1 : (s.heap.push (newSet w)).IsList l xs := ⟨_, hol', rfl, nl, rfl⟩
        have k1 := F.sub_list_set
        have k2 := F.sub_list_frozenset
        have k3 : (Value.type "list" == Value.type "dict") = false := by decide
        have k4 : A.in1.in1.in1.handled = none := by simp [hh]
        have k5 : s.heap.objs.size ∉ [(s.heap.push (newSet w)).objs.size, l] := by
          rw [Heap.size_push]
          have := Heap.lt_size hol
          simp only [List.mem_cons, List.not_mem_nil, or_false, not_or]
          exact ⟨Nat.ne_of_lt (Nat.lt_succ_self _), Nat.ne_of_gt this⟩
        unfold Builtin.«set.__init__» noKeywords Builtin.Frozenset.updateFrom
        generalize hPI : pyIter = PI
        wp_walk
        subst hPI
        refine wpAny_pyIter_list hl1 ?_
        refine wpAny_bind (wpAny_runValue ?_)
        refine set_update_ints ((Walks.list k4 _ l (old hol).2 xs).toS) s.heap.objs.size k5 ns len hb vals (xs.size - 0) 0 _ (by omega) (Nat.zero_le _) ⟨⟨_, Heap.get?_push_size _ rfl, rfl, rfl⟩, hl1.push _⟩ ⟨0, Nat.le_refl 0, setR_new_at (Heap.get?_push_of_some _ at0)⟩ fun s' c hm hc hS => ?_
        obtain ⟨h', g2, d', tk', os'⟩ := s'
        have eg : g2 = s.gens := hm.gens
        have ed : d' = s.drawn := hm.drawn
        have eo : os' = s.os := hm.os
        subst eg ed eo
        show wpAny _ _ _ _ _ _
        refine wpAny_pure ?_
        show wpAny _ _ (ret Value.none) _ _ _
        rw [len] at hc
        refine wpAny_pure ⟨rfl, h', tk', c, rfl, hS, hc, fun b o e => ?_⟩
        obtain ⟨b1, b2⟩ := old e
        exact hm.heap b o (by simp only [List.mem_cons, List.not_mem_nil, or_false, not_or]; exact ⟨b1, b2⟩) (Heap.get?_push_of_some _ (Heap.get?_push_of_some _ e))
      · cases r2 with
        | error e => exact hr2
        | ok fl2 =>
          cases fl2 with
          | ret r =>
            obtain ⟨rfl, h', tk, c, rfl, hS, hc, hk⟩ := hr2
            repeat (any_goals (first | assumption | wp_step))
            exact done h' tk c hS hc hk
          | _ => exact hr2.elim
    | _ => exact hr.elim
end
end DL

namespace DL
open PySem PySem.Spec L2 PyProof.Rows
/-! ### sorted(set(xs)), xs a list or a tuple of ints -/
def dd : List Int → List Int
  | [] => []
  | a :: l => if a ∈ l then dd l else a :: dd l
theorem mem_dd {x : Int} : ∀ {l : List Int}, x ∈ dd l ↔ x ∈ l
  | [] => Iff.rfl
  | a :: l => by
    rw [dd]
    split
    · next h =>
      rw [mem_dd, List.mem_cons]
      constructor
      · exact .inr
      · rintro (rfl | h2)
        · exact h
        · exact h2
    · rw [List.mem_cons, List.mem_cons, mem_dd]
theorem nodup_dd : ∀ {l : List Int}, (dd l).Nodup
  | [] => List.nodup_nil
  | a :: l => by
    rw [dd]
    split
    · exact nodup_dd
    · next h => exact List.nodup_cons.mpr ⟨fun z => h (mem_dd.mp z), nodup_dd⟩
def ssI (l : List Int) : List Int := sortI (dd l)
theorem mem_ssI {x : Int} {l : List Int} : x ∈ ssI l ↔ x ∈ l := by unfold ssI; rw [(sortI_perm _).mem_iff, mem_dd]
theorem nodup_ssI {l : List Int} : (ssI l).Nodup := (sortI_perm _).nodup_iff.mpr nodup_dd
theorem ssI_uniq {l ns : List Int} (h : ns.Pairwise (· < ·)) (hm : ∀ k, k ∈ ns ↔ k ∈ l) : ns = ssI l := by
  have hn : ns.Nodup := List.nodup_iff_pairwise_ne.mpr (h.imp fun h => Int.ne_of_lt h)
  refine sorted_uniq ((List.perm_ext_iff_of_nodup hn nodup_ssI).mpr fun a => by rw [hm, mem_ssI]) (h.imp fun h => Int.le_of_lt h) (sortI_sorted _)
def ssG : List D → Option D
  | [.lst xs] => match intsD xs with
    | some l => if l.length ≤ 1000 ∧ (dd l).length < 64 then some (.lst (iD (ssI l))) else none
    | none => none
  | [.tup xs] => match intsD xs with
    | some l => if l.length ≤ 1000 ∧ (dd l).length < 64 then some (.lst (iD (ssI l))) else none
    | none => none
  | _ => none
theorem setR_count {w : World} {h : Heap} {a : Addr} {ns : List Int} {c : Nat} (R : SetR w h a (fun j => decide (j ∈ ns)) c) : c = (dd ns).length := by
  obtain ⟨o, es, ep, t, _, _, _, _, hnd, hmem, _, _, hc, _⟩ := R
  have hp : (es.toList.map keyOf).Perm (dd ns) := (List.perm_ext_iff_of_nodup hnd nodup_dd).mpr fun k => by
    rw [← hmem, mem_dd, decide_eq_true_iff]
  have := hp.length_eq
  rw [List.length_map, Array.length_toList] at this
  omega
section
variable {X : Cx}
def rSetI (K : PySem.W.Frag) (w : World) : List V → Hp → VK → Prop := fun xs H Q => ∃ (l : Addr) (ns : List Int), xs = [.ref l] ∧ (SqL K H l (ns.map V.int) ∨ SqT K H l (ns.map V.int)) ∧ ns.length ≤ 1000 ∧
  ∀ (a : Addr) (c : Nat), H a = none → c = (dd ns).length → Q (.ref a) (upd H a (SetO w a (fun j => decide (j ∈ ns)) c))
theorem cr_setI (hc : X.calm = true) : CallR X (.type "set") (rSetI X.K X.w) := by
  intro pins s σ H xs us Q I r h
  obtain ⟨l, ns, rfl, hl, h64, q⟩ := h
  rw [Vals.ref1 r]
  have hn : H s.heap.objs.size = none := I.hok.fresh (Nat.le_refl _)
  have hb : ns.length + 1 < scanBound := by unfold scanBound; omega
  have fin : ∀ (h' : Heap) (tk c : Nat), SetR X.w h' s.heap.objs.size (fun j => decide (j ∈ ns)) c → c ≤ ns.length → (∀ b o, s.heap.get? b = some o → h'.get? b = some o) →
      ∃ v H', Inv X pins σ H' { s with heap := h', toks := tk } ∧ RelV v (.ref s.heap.objs.size) ∧ Q v H' := fun h' tk c R hcl k =>
    ⟨.ref s.heap.objs.size, upd H s.heap.objs.size (SetO X.w s.heap.objs.size (fun j => decide (j ∈ ns)) c), I.laid (t' := tk) k (Nat.le_refl _) (setO_new R), rfl, q _ c hn (setR_count R)⟩
  rcases hl with hl | hl
  · obtain ⟨its, rv, pl, _⟩ := I.list hl
    exact set_of_list (I.ok.hd hc) pl.isList (by simpa using rv.ints) hb fin
  · obtain ⟨its, rv, pl, _⟩ := I.tuple hl
    exact call_set_tupI ns (I.ok.hd hc) pl (by simpa using rv.ints) hb fin
theorem ssG_inv {ds : List D} {d : D} (h : ssG ds = some d) : ∃ (xs : List D) (l : List Int), (ds = [.lst xs] ∨ ds = [.tup xs]) ∧ intsD xs = some l ∧ (l.length ≤ 1000 ∧ (dd l).length < 64) ∧ d = .lst (iD (ssI l)) := by
  unfold ssG at h
  split at h
  · split at h
    · next xs l hl =>
      split at h
      · next h64 => cases h; exact ⟨_, _, .inl rfl, hl, h64, rfl⟩
      · cases h
    · cases h
  · split at h
    · next xs l hl =>
      split at h
      · next h64 => cases h; exact ⟨_, _, .inr rfl, hl, h64, rfl⟩
      · cases h
    · cases h
  · cases h
theorem po_ss {e : Expr} {am : VAM} (h : PE X e (tCB (rSortedSet X.w) (tCons (tCB (rSetI X.K X.w) (tVA X.G am)) tNil))) : PE X e (tO X.G (callB ssG am)) := weakE h fun σ H Q ⟨B, F, Z, η, d, η', ok, hm, q⟩ => by
  obtain ⟨post, ds, h1, h2, h3⟩ := callB_inv hm
  obtain ⟨xs, l, hds, hl, h64, rfl⟩ := ssG_inv h3
  have hxs := intsD_inv hl
  refine ⟨B, F, Z, η, η', post, ok, h1, fun vs H1 F1 s1 ok1 r1 => ?_⟩
  have rv := r1 F1 η' H1 ds (Same.refl _) ok1 h2
  have key : ∃ p, vs = [.ref p] ∧ (SqL X.K H1 p (l.map V.int) ∨ SqT X.K H1 p (l.map V.int)) := by
    rcases hds with rfl | rfl
    · obtain ⟨v, rfl, hv⟩ := rv.inv1
      obtain ⟨a, ws, rfl, ha, hr⟩ := hv.lst ok1.ff
      rw [hxs] at hr
      rw [hr.ints] at ha
      exact ⟨a, rfl, .inl (SqL.of ha)⟩
    · obtain ⟨v, rfl, hv⟩ := rv.inv1
      obtain ⟨a, ws, rfl, ha, hr⟩ := hv.tup ok1.ff
      rw [hxs] at hr
      rw [hr.ints] at ha
      exact ⟨a, rfl, .inr ha⟩
  obtain ⟨p, rfl, hp⟩ := key
  refine ⟨p, l, rfl, hp, h64.1, fun a c ha hc => ?_⟩
  have ok2 := ok1.newH (o := SetO X.w a (fun j => decide (j ∈ l)) c) ha
  refine ⟨a, _, c, rfl, upd_same, by rw [hc]; exact h64.2, fun ns b hs hmem hlen hb => ?_⟩
  have hns : ns = ssI l := ssI_uniq hs fun k => by rw [hmem]; simp
  subst hns
  exact q _ _ _ s1 (ok2.newH hb) (ok2.bnone hb) (ok2.free hb) (.lst upd_same (repL_int _)) fun i e hi => ok2.notNew hb i e hi
end
end DL

namespace DL
open PySem PySem.Spec L2 PyProof.Rows
/-! ### sorted(set(xs)), xs a list of tuples of ints of one length (none empty, numbers from 0 on) -/
def ddA {α : Type} [DecidableEq α] : List α → List α
  | [] => []
  | a :: l => if a ∈ l then ddA l else a :: ddA l
section
variable {α : Type} [DecidableEq α]
theorem mem_ddA {x : α} : ∀ {l : List α}, x ∈ ddA l ↔ x ∈ l
  | [] => Iff.rfl
  | a :: l => by
    rw [ddA]
    split
    · next h =>
      rw [mem_ddA, List.mem_cons]
      constructor
      · exact .inr
      · rintro (rfl | h2)
        · exact h
        · exact h2
    · rw [List.mem_cons, List.mem_cons, mem_ddA]
theorem nodup_ddA : ∀ {l : List α}, (ddA l).Nodup
  | [] => List.nodup_nil
  | a :: l => by
    rw [ddA]
    split
    · exact nodup_ddA
    · next h => exact List.nodup_cons.mpr ⟨fun z => h (mem_ddA.mp z), nodup_ddA⟩
end
def leLL (a b : List Int) : Bool := !decide (b < a)
def sortLL (l : List (List Int)) : List (List Int) := (ddA l).mergeSort leLL
theorem leLL_iff {a b : List Int} : leLL a b = true ↔ ¬ b < a := by unfold leLL; simp
theorem sortLL_sorted (l : List (List Int)) : (sortLL l).Pairwise fun a b => ¬ b < a := by
  have := List.pairwise_mergeSort (le := leLL) (fun a b c h1 h2 => by
    rw [leLL_iff] at *
    exact fun z => h1 (by
      have h3 : a ≤ b := h1
      have h4 : b ≤ c := h2
      exact absurd z (List.not_lt.mpr (List.le_trans h3 h4)))) (fun a b => by
    rw [Bool.or_eq_true, leLL_iff, leLL_iff]
    by_cases h : b < a
    · exact .inr (List.lt_asymm h)
    · exact .inl h) (ddA l)
  exact this.imp fun h => leLL_iff.mp h
theorem mem_sortLL {x : List Int} {l : List (List Int)} : x ∈ sortLL l ↔ x ∈ l := by unfold sortLL; rw [List.mem_mergeSort, mem_ddA]
theorem nodup_sortLL {l : List (List Int)} : (sortLL l).Nodup := (List.mergeSort_perm _ _).nodup_iff.mpr nodup_ddA
theorem sortLL_uniq {l ns : List (List Int)} (hn : ns.Nodup) (hp : ns.Pairwise fun a b => ¬ b < a) (hm : ∀ k, k ∈ ns ↔ k ∈ l) : ns = sortLL l :=
  List.Perm.eq_of_pairwise (fun a b _ _ h1 h2 => List.le_antisymm h1 h2) hp (sortLL_sorted l) ((List.perm_ext_iff_of_nodup hn nodup_sortLL).mpr fun a => by rw [hm, mem_sortLL])
theorem code_iff {B : Int} : ∀ {a b : List Int}, a.length = b.length → TS.Bd B a → TS.Bd B b → (TS.code B a < TS.code B b ↔ a < b)
  | [], [], _, _, _ => by simp
  | [], _ :: _, h, _, _ => by simp at h
  | _ :: _, [], h, _, _ => by simp at h
  | x :: a, y :: b, h, ha, hb => by
    have hl : a.length = b.length := by simpa using h
    rw [List.cons_lt_cons_iff]
    rcases Int.lt_trichotomy x y with c | c | c
    · exact ⟨fun _ => .inl c, fun _ => TS.code_lt hl ha.tail hb.tail c⟩
    · subst c
      rw [TS.code_same hl, code_iff hl ha.tail hb.tail]
      constructor
      · intro z; exact .inr ⟨rfl, z⟩
      · rintro (z | ⟨_, z⟩)
        · omega
        · exact z
    · have := TS.code_lt hl.symm hb.tail ha.tail c
      constructor
      · intro z; omega
      · rintro (z | ⟨z, _⟩) <;> omega
def tupsI : List D → Option (List (List Int))
  | [] => some []
  | .tup xs :: r => match intsD xs, tupsI r with
    | some l, some ls => some (l :: ls)
    | _, _ => none
  | _ => none
def rowsI (ls : List (List Int)) : List D := ls.map fun l => .tup (iD l)
theorem tupsI_inv : ∀ {ds : List D} {ls : List (List Int)}, tupsI ds = some ls → ds = rowsI ls
  | [], ls, h => by cases h; rfl
  | d :: r, ls, h => by
    unfold tupsI at h
    split at h
    · next e => cases e
    · next xs r' e =>
      cases e
      split at h
      · next l ls' h1 h2 =>
        cases h
        rw [intsD_inv h1, tupsI_inv h2]; rfl
      · cases h
    · cases h
def sameT : List (List Int) → Bool
  | [] => true
  | a :: l => decide (1 ≤ a.length) && (a :: l).all fun b => decide (b.length = a.length) && b.all fun v => decide (0 ≤ v ∧ v < 1000000)
def ssTG : List D → Option D
  | [.lst xs] => match tupsI xs with
    | some ls => if ls.length < 64 ∧ sameT ls = true then some (.lst (rowsI (sortLL ls))) else none
    | none => none
  | _ => none
def ss2G (ds : List D) : Option D := match ssG ds with
  | some d => some d
  | none => ssTG ds
def rOr (r s : List V → Hp → VK → Prop) : List V → Hp → VK → Prop := fun xs H Q => r xs H Q ∨ s xs H Q
section
variable {X : Cx}
theorem cr_or {f : Value} {r s : List V → Hp → VK → Prop} (h1 : CallR X f r) (h2 : CallR X f s) : CallR X f (rOr r s) := by
  intro pins s' σ H vs us Q I rv h
  rcases h with h | h
  · exact h1 pins s' σ H vs us Q I rv h
  · exact h2 pins s' σ H vs us Q I rv h
theorem ssTG_inv {ds : List D} {d : D} (h : ssTG ds = some d) : ∃ ls : List (List Int), ds = [.lst (rowsI ls)] ∧ ls.length < 64 ∧ sameT ls = true ∧ d = .lst (rowsI (sortLL ls)) := by
  unfold ssTG at h
  split at h
  · split at h
    · next xs ls hl =>
      split at h
      · next hc => cases h; exact ⟨ls, by rw [tupsI_inv hl], hc.1, hc.2, rfl⟩
      · cases h
    · cases h
  · cases h
theorem rows_refs {K : Gd} {F H : Hp} (sm : Same F H) : ∀ {ls : List (List Int)} {vs : List V}, RepL K F (rowsI ls) vs → ∃ ks : List (Addr × List Int), vs = ks.map (fun p => V.ref p.1) ∧ ks.map (·.2) = ls ∧ ∀ p ∈ ks, SqT K.K H p.1 (p.2.map V.int) ∧ Rep K F (.tup (iD p.2)) (.ref p.1)
  | [], _, .nil => ⟨[], rfl, rfl, fun p h => nomatch h⟩
  | l :: ls, _, .cons r rs => by
    obtain ⟨ks, h1, h2, h3⟩ := rows_refs sm rs
    cases r with
    | @tup a vs ds ht hr =>
      have hv := hr.ints
      subst hv
      refine ⟨(a, l) :: ks, by rw [h1]; rfl, by rw [← h2]; rfl, fun p hp => ?_⟩
      rcases List.mem_cons.mp hp with rfl | hp
      · exact ⟨Same.sqT sm ht.sqT, .tup ht hr⟩
      · exact h3 p hp
theorem refs_rep {K : Gd} {F : Hp} : ∀ {L : List (Addr × List Int)}, (∀ p ∈ L, Rep K F (.tup (iD p.2)) (.ref p.1)) → RepL K F (rowsI (L.map (·.2))) (L.map fun p => V.ref p.1)
  | [], _ => .nil
  | p :: L, h => .cons (h p List.mem_cons_self) (refs_rep fun q hq => h q (List.mem_cons_of_mem _ hq))
theorem po_ss2 {e : Expr} {am : VAM} (h : PE X e (tCB (rOr (rSortedSet X.w) (rSortedT X.K X.prog X.w)) (tCons (tCB (rOr (rSetI X.K X.w) (rSetOfT X.K X.prog X.w)) (tVA X.G am)) tNil))) : PE X e (tO X.G (callB ss2G am)) := weakE h fun σ H Q ⟨B, F, Z, η, d, η', ok, hm, q⟩ => by
  obtain ⟨post, ds, h1, h2, h3⟩ := callB_inv hm
  refine ⟨B, F, Z, η, η', post, ok, h1, fun vs H1 F1 s1 ok1 r1 => ?_⟩
  have rv := r1 F1 η' H1 ds (Same.refl _) ok1 h2
  unfold ss2G at h3
  split at h3
  · next d' h4 =>
    cases h3
    obtain ⟨xs, l, hds, hl, h64, rfl⟩ := ssG_inv h4
    have hxs := intsD_inv hl
    have key : ∃ p, vs = [.ref p] ∧ (SqL X.K H1 p (l.map V.int) ∨ SqT X.K H1 p (l.map V.int)) := by
      rcases hds with rfl | rfl
      · obtain ⟨v, rfl, hv⟩ := rv.inv1
        obtain ⟨a, ws, rfl, ha, hr⟩ := hv.lst ok1.ff
        rw [hxs] at hr
        rw [hr.ints] at ha
        exact ⟨a, rfl, .inl (SqL.of ha)⟩
      · obtain ⟨v, rfl, hv⟩ := rv.inv1
        obtain ⟨a, ws, rfl, ha, hr⟩ := hv.tup ok1.ff
        rw [hxs] at hr
        rw [hr.ints] at ha
        exact ⟨a, rfl, .inr ha⟩
    obtain ⟨p, rfl, hp⟩ := key
    refine .inl ⟨p, l, rfl, hp, h64.1, fun a c ha hc => ?_⟩
    have ok2 := ok1.newH (o := SetO X.w a (fun j => decide (j ∈ l)) c) ha
    refine .inl ⟨a, _, c, rfl, upd_same, by rw [hc]; exact h64.2, fun ns b hs hmem hlen hb => ?_⟩
    have hns : ns = ssI l := ssI_uniq hs fun k => by rw [hmem]; simp
    subst hns
    exact q _ _ _ s1 (ok2.newH hb) (ok2.bnone hb) (ok2.free hb) (.lst upd_same (repL_int _)) fun i e hi => ok2.notNew hb i e hi
  · obtain ⟨ls, rfl, h64, hsame, rfl⟩ := ssTG_inv h3
    obtain ⟨v, rfl, hv⟩ := rv.inv1
    obtain ⟨a0, ws, rfl, ha0, hr⟩ := hv.lst ok1.ff
    obtain ⟨ks, rfl, hks, hk⟩ := rows_refs (K := X.G) ok1.ff hr
    have hlen : ks.length < 64 := by
      have := congrArg List.length hks
      rw [List.length_map] at this; omega
    refine .inr ⟨a0, ks, rfl, SqL.of ha0, fun p hp => (hk p hp).1, hlen, fun a L ha hsub hall => ?_⟩
    have ok2 := ok1.newH (o := SetTO X.prog X.w a L) ha
    obtain ⟨d, hd1, hdl⟩ : ∃ d : Nat, 1 ≤ d ∧ ∀ l ∈ ls, l.length = d ∧ TS.Bd 1000000 l := by
      cases ls with
      | nil => exact ⟨1, Nat.le_refl _, fun l h => nomatch h⟩
      | cons x ls =>
        unfold sameT at hsame
        rw [Bool.and_eq_true] at hsame
        refine ⟨x.length, of_decide_eq_true hsame.1, fun l hl => ?_⟩
        have := List.all_eq_true.mp hsame.2 l hl
        rw [Bool.and_eq_true] at this
        exact ⟨of_decide_eq_true this.1, fun m hm => of_decide_eq_true (List.all_eq_true.mp this.2 m hm)⟩
    have hLs : ∀ p ∈ L, p.2 ∈ ls := fun p hp => by rw [← hks]; exact List.mem_map.mpr ⟨p, hsub p hp, rfl⟩
    refine .inr ⟨a, L, d, 1000000, rfl, upd_same, fun p hp => ?_, hd1, fun p hp => hdl _ (hLs p hp), fun L' b hperm hnd h64' hsort hb => ?_⟩
    · have := (hk p (hsub p hp)).1
      exact Same.sqT (fun x o hx => by
        by_cases e : x = a
        · subst e; rw [ha] at hx; cases hx
        · rw [upd_ne e]; exact hx) this
    · have hL' : L'.map (·.2) = sortLL ls := by
        refine sortLL_uniq hnd ?_ fun k => ?_
        · rw [List.pairwise_map]
          refine hsort.imp_of_mem fun {p r} hp hr hle hlt => ?_
          have p1 := hdl _ (hLs p (hperm.mem_iff.mp hp))
          have r1' := hdl _ (hLs r (hperm.mem_iff.mp hr))
          have := (code_iff (by rw [p1.1, r1'.1]) r1'.2 p1.2).mpr hlt
          omega
        · rw [List.mem_map]
          constructor
          · rintro ⟨p, hp, rfl⟩; exact hLs p (hperm.mem_iff.mp hp)
          · intro hk2
            rw [← hks] at hk2
            obtain ⟨p, hp, rfl⟩ := List.mem_map.mp hk2
            obtain ⟨r, hr, e⟩ := List.mem_map.mp (hall p hp)
            exact ⟨r, hperm.mem_iff.mpr hr, e⟩
      rw [← hL'] at q
      have hrep : RepL X.G F1 (rowsI (L'.map (·.2))) (L'.map fun p => V.ref p.1) := refs_rep fun p hp => (hk p (hsub p (hperm.mem_iff.mp hp))).2
      exact q _ _ _ s1 (ok2.newH hb) (ok2.bnone hb) (ok2.free hb) (.lst upd_same hrep) fun i e hi => ok2.notNew hb i e hi
end
end DL

namespace DL
open PySem L2 PyProof.Rows
/-! ### sorted(t) of a tuple of ints, fewer than 64 -/
def sortTG : List D → Option D
  | [.tup xs] => match intsD xs with
    | some l => if l.length < 64 then some (.lst ((sortI l).map D.int)) else none
    | none => none
  | _ => none
def sort3G (ds : List D) : Option D := match sort2G ds with
  | some d => some d
  | none => sortTG ds
section
variable {X : Cx}
theorem b_sortedTup : CallR X (.builtin "sorted") (rLo X.G sortTG) := by
  intro pins s σ H vs us Q I rv h
  obtain ⟨ds, d, F, sm, r, e, q⟩ := h
  unfold sortTG at e
  split at e
  · next xs =>
    split at e
    · next l hl =>
      split at e
      · next h64 =>
        cases e
        rw [intsD_inv hl] at r
        obtain ⟨v, rfl, hv⟩ := r.inv1
        obtain ⟨a, ws, rfl, ha, hr⟩ := hv.tup sm
        rw [hr.ints] at ha
        obtain ⟨u, rfl, ru⟩ := vals1 rv
        cases ru
        obtain ⟨its, r', pl, hsz⟩ := I.tuple ha
        have hS : IntsAre its l := r'.ints
        have hal : its.length = l.length := by have := r'.length; rw [List.length_map] at this; omega
        obtain ⟨o, ho, hc, n, hd⟩ := pl
        refine Calls.call_function_entry PyProof.Rows.kind_sorted PyProof.Rows.plain_sorted PyProof.Rows.entry_sorted (PyProof.Rows.args_sorted1 _) ?_
        unfold Builtin.«sorted»
        refine wpAny_bind (m := checkCount "sorted" 1 1 _) (wpAny_pure ?_)
        refine wpAny_bind (wpAny_collect_seq (A := X.A.in1) a (.inr rfl) ho hc hd (fun h' hk => ?_) (by rw [List.size_toArray, sizeLine_eq]; omega))
        have I1 : Inv X pins σ H { s with heap := h' } := I.kept (t' := s.toks) hk
        refine wpAny_bind (wpAny_newList ?_ (by show its.toArray.toList.length ≤ _; rw [List.toList_toArray, hal, sizeLine_eq]; omega))
        have hoL : (h'.push (seqObj "list" its.toArray.toList.toArray 0)).get? h'.objs.size = some (seqObj "list" its.toArray.toList.toArray 0) := Heap.get?_push_size _ rfl
        show wpAny _ _ _ _ _ { s with heap := h'.push (seqObj "list" its.toArray.toList.toArray 0) }
        refine wpAny_bind (wpAny_holding (wpAny_call_entry PyProof.Rows.slot_list_sort ⟨_, hoL, rfl⟩ PyProof.Rows.entry_list_sort
          (PyProof.Rows.list_sort_tree (s := { s with heap := h'.push (seqObj "list" its.toArray.toList.toArray 0) }) hoL hS (by show its.toArray.toList.length < 64; rw [List.toList_toArray, hal]; exact h64) fun out ys g1 g2 g3 => ⟨_, rfl, ?_⟩) (PyProof.Rows.args_list_sort _)))
        obtain ⟨e', he'⟩ := PyProof.Rows.sortedHeap_at (vs := its.toArray.toList) (out := out) hoL
        have hlen : (ys.map V.int).length ≤ sizeLine := by
          rw [List.length_map, g2.length_eq]
          exact Nat.le_trans (Nat.le_of_lt h64) (by decide)
        have hys : ys = sortI l := sorted_uniq (g2.trans (sortI_perm l).symm) g3 (sortI_sorted l)
        subst hys
        refine wpAny_pure ⟨_, rfl, .ref h'.objs.size, upd H h'.objs.size (.lst ((sortI l).map V.int)), I1.laid (t' := s.toks) (fun b u e => ?_) (Nat.le_refl _)
          (show ObjOk X.prog X.w _ _ _ (.lst ((sortI l).map V.int)) from ⟨hlen, out.toList, e', vals_of_ints g1, by rw [Array.toArray_toList]; exact he'⟩), rfl, q _ _ (I1.hok.fresh (Nat.le_refl _)) (.lst upd_same (repL_int _))⟩
        have hb : b < h'.objs.size := Heap.lt_size e
        rw [PyProof.Rows.sortedHeap_old (Nat.ne_of_lt hb) (by rw [size_push']; exact Nat.lt_succ_of_lt hb)]
        exact Heap.get?_push_of_some _ e
      · cases e
    · cases e
  · cases e
theorem b_sorted3 (hu : X.A.units + 64 < cLine) (hcalm : X.calm = true) : CallR X (.builtin "sorted") (rLo X.G sort3G) := by
  intro pins s σ H vs us Q I rv h
  obtain ⟨ds, d, F, sm, r, e, q⟩ := h
  unfold sort3G at e
  split at e
  · next d' h1 => cases e; exact b_sorted2 hu hcalm pins s σ H vs us Q I rv ⟨ds, _, F, sm, r, h1, q⟩
  · exact b_sortedTup pins s σ H vs us Q I rv ⟨ds, _, F, sm, r, e, q⟩
end
end DL

namespace DL
open PySem L2

/-! ### a method with one argument, of a list or a tuple: x.index(k), x.count(k) -/
def kindD : D → Option String
  | .lst _ => some "list"
  | .tup _ => some "tuple"
  | .frl _ => some "list"
  | _ => none
def meth1E (g : D → D → Option D) (a : VM) (k : EM) : EM := fun η => match a η with
  | some (η1, pa) => match pa η1 with
    | some x0 => if (kindD x0).isSome = true then match k η1 with
      | some (dk, η2) => match pa η2 with
        | some x => if kindD x = kindD x0 then match g x dk with
          | some d => some (d, η2)
          | none => none
          else none
        | none => none
      | none => none
      else none
    | none => none
  | none => none
/-- the rule of a method for values of the kind T -/
def MRule (X : Cx) (name : Str) (g : D → D → Option D) (T id : String) : Prop :=
  PlainAttrs T ∧ Slot T name id ∧ typeOf (.builtin id) = pure (.type "method_descriptor") ∧
  ∀ (pins : List (Addr × Obj)) (s : Shared) (σ : L2.St) (H F : Hp) (x k d : D) (v y : V) (u u2 : Value) (Q : VK), Inv X pins σ H s → Same F H → View X.G F H x v → RelV v u → kindD x = some T → Rep X.G F k y → RelV y u2 → g x k = some d →
    (∀ w F' H', Res F H F' H' → Rep X.G F' d w → Q w H') → wpAny (model X.prog X.w) X.A (call (.builtin id) [u, u2]) (EP X pins σ Q) X.xe s
theorem kind_type {X : Cx} {pins : List (Addr × Obj)} {σ : L2.St} {H F : Hp} {s : Shared} {x : D} {v : V} {u : Value} {T : String} (I : Inv X pins σ H s) (sm : Same F H) (vx : View X.G F H x v) (r : RelV v u) (h : kindD x = some T) :
    s.TypeIs u T ∧ ∀ a, u = .ref a → ∃ ob, s.heap.get? a = some ob ∧ ob.dict = none := by
  cases x with
  | lst xs =>
    cases h
    obtain ⟨a, vs, rfl, ha, _⟩ := vx.lst sm
    obtain rfl : u = Value.ref a := r
    obtain ⟨its, _, ⟨o, n, ho, hc, hd, _⟩, _⟩ := I.list (SqL.of ha)
    exact ⟨⟨o, ho, hc⟩, fun b e => by cases e; exact ⟨o, ho, hd⟩⟩
  | frl xs =>
    cases h
    obtain ⟨a, vs, rfl, ha, _⟩ := vx.frl sm
    obtain rfl : u = Value.ref a := r
    obtain ⟨its, _, ⟨o, n, ho, hc, hd, _⟩, _⟩ := I.list ha
    exact ⟨⟨o, ho, hc⟩, fun b e => by cases e; exact ⟨o, ho, hd⟩⟩
  | tup xs =>
    cases h
    obtain ⟨a, vs, rfl, ha, _⟩ := vx.tupN sm
    obtain rfl : u = Value.ref a := r
    obtain ⟨its, _, ⟨o, ho, hc, _⟩, _⟩ := I.tuple ha.sqT
    obtain ⟨ob, h1, h2⟩ := ha.none I rfl
    rw [ho] at h1; cases h1
    exact ⟨⟨o, ho, hc⟩, fun b e => by cases e; exact ⟨o, ho, h2⟩⟩
  | _ => cases h
section
variable {X : Cx} {o e : Expr} {apos cpos : Pos} {ma : VM} {mk : EM} {name : Str} {g : D → D → Option D} {idL idT : String}
theorem pd_meth1 (hl : MRule X name g "list" idL) (ht : MRule X name g "tuple" idT) (ho : PE X o (tV X.G ma)) (he : PE X e (tD X.G mk)) (m : M1 X o name apos e cpos := by exact ⟨rfl, rfl, rfl, rfl⟩) :
    PE X (.Call (.Attribute o name apos) [e] [] cpos) (tD X.G (meth1E g ma mk)) := by
  refine ⟨fun pins s σ H Q I ⟨B, F, Z, η, d, η', ok, hm, q⟩ => ?_⟩
  unfold meth1E at hm
  split at hm
  · next η1 pa h1 =>
    split at hm
    · next x0 h2 =>
      split at hm
      · next h3 =>
        split at hm
        · next dk η2 h4 =>
          split at hm
          · next x h5 =>
            split at hm
            · next hk =>
              split at hm
              · next d' h6 =>
                cases hm
                obtain ⟨T, hT⟩ := Option.isSome_iff_exists.mp h3
                have hr : ∃ id, MRule X name g T id := by
                  cases x0 <;> first | (cases hT; exact ⟨_, hl⟩) | (cases hT; exact ⟨_, ht⟩) | (cases hT; done)
                obtain ⟨id, pa', sl, ty, hc⟩ := hr
                refine wpAny_Call_method_late m.base m.few m.line rfl (thn (ho.run pins s σ H (fun v H1 => ∃ F1, Same F F1 ∧ Ok X.G B F1 Z η1 σ H1 ∧ ∀ (F2 : Hp) (η2 : Env) (H2 : Hp) (d : D), Same F1 F2 → Ok X.G B F2 Z η2 σ H2 → pa η2 = some d → View X.G F2 H2 d v) I ⟨B, F, Z, η, η1, pa, ok, h1, fun v H1 F1 s1 ok1 r1 => ⟨F1, s1, ok1, r1⟩⟩) fun u s1 ⟨v, H1, I1, rv, F1, sm1, ok1, r1⟩ => ?_)
                have v0 := r1 F1 η1 H1 _ (Same.refl _) ok1 h2
                obtain ⟨t1, t2⟩ := kind_type I1 ok1.ff v0 rv hT
                refine ⟨T, id, pa', sl, ty, t1, t2, ?_⟩
                rw [m.trees]
                refine Calls.callWith_builtin rfl (Calls.evalArgs_plain (Calls.spliced_cons (thn (he.run pins s1 σ H1 (fun v H2 => ∃ F2, Same F1 F2 ∧ Ok X.G B F2 Z _ σ H2 ∧ Rep X.G F2 dk v) I1 ⟨B, F1, Z, η1, dk, _, ok1, h4, fun v H2 F2 s2 ok2 r2 => ⟨F2, s2, ok2, r2⟩⟩) fun iv s2 ⟨y, H2, I2, ry, F2, sm2, ok2, r2⟩ => Calls.spliced_nil ?_)))
                exact hc pins s2 σ H2 F2 x dk d v y u iv Q I2 ok2.ff (r1 F2 _ H2 x sm2 ok2 h5) rv (hk.trans hT) r2 ry h6 fun w F' H' rs rw' => by
                  obtain ⟨ok3, s3⟩ := ok2.res rs
                  exact q w H' F' ((sm1.trans sm2).trans s3) ok3 rw'
              · cases hm
            · cases hm
          · cases hm
        · cases hm
      · cases hm
    · cases hm
  · cases hm
end
def seqD : D → Option (List D)
  | .lst xs => some xs
  | .tup xs => some xs
  | .frl xs => some xs
  | _ => none
def indexG (x k : D) : Option D := match seqD x with
  | some xs => if okDs 58 xs = true ∧ okD 58 k = true then (xs.findIdx? fun z => eqb z k).map fun j => .int (j : Nat) else none
  | none => none
def countG (x k : D) : Option D := match seqD x with
  | some xs => if okDs 58 xs = true ∧ okD 58 k = true then some (.int (xs.countP fun z => eqb z k : Nat)) else none
  | none => none
theorem place_idx {α : Type} {f : α → Bool} : ∀ {l : List α} {j : Nat}, l.findIdx? f = some j → true ∈ l.map f ∧ (l.map f).idxOf true = j
  | [], _, h => by cases h
  | x :: l, j, h => by
    rw [List.findIdx?_cons] at h
    rw [List.map_cons, List.idxOf_cons]
    by_cases c : f x = true
    · rw [if_pos c] at h
      cases h
      rw [c]; exact ⟨List.mem_cons_self, rfl⟩
    · rw [if_neg c] at h
      obtain ⟨i, hi, rfl⟩ := Option.map_eq_some_iff.mp h
      obtain ⟨h1, h2⟩ := place_idx hi
      rw [Bool.not_eq_true] at c
      rw [c]
      exact ⟨List.mem_cons_of_mem _ h1, by rw [h2]; rfl⟩
/-- a list or tuple, read -/
theorem seq_list {X : Cx} {pins : List (Addr × Obj)} {σ : L2.St} {H F : Hp} {s : Shared} {x : D} {v : V} {u : Value} (I : Inv X pins σ H s) (sm : Same F H) (vx : View X.G F H x v) (r : RelV v u) (h : kindD x = some "list") :
    ∃ a xs its as, u = .ref a ∧ seqD x = some xs ∧ PlainL s.heap a (List.toArray its) ∧ its.length ≤ sizeLine ∧ (okDs 58 xs = true → PySem.ReadsAll s.heap its (toPys xs) as) := by
  cases x with
  | lst xs =>
    obtain ⟨a, vs, rfl, ha, hr⟩ := vx.lst sm
    obtain rfl : u = Value.ref a := r
    obtain ⟨its, rv, pl, hz⟩ := I.list (SqL.of ha)
    by_cases c : okDs 58 xs = true
    · obtain ⟨as, r1⟩ := RepL.reads I sm xs vs its (okDs_py 58 xs c).1 hr rv
      exact ⟨a, xs, its, as, rfl, rfl, pl, rv.length ▸ hz, fun _ => r1⟩
    · exact ⟨a, xs, its, default, rfl, rfl, pl, rv.length ▸ hz, fun h => (c h).elim⟩
  | frl xs =>
    obtain ⟨a, vs, rfl, ha, hr⟩ := vx.frl sm
    obtain rfl : u = Value.ref a := r
    obtain ⟨its, rv, pl, hz⟩ := I.list ha
    by_cases c : okDs 58 xs = true
    · obtain ⟨as, r1⟩ := RepL.reads I sm xs vs its (okDs_py 58 xs c).1 hr rv
      exact ⟨a, xs, its, as, rfl, rfl, pl, rv.length ▸ hz, fun _ => r1⟩
    · exact ⟨a, xs, its, default, rfl, rfl, pl, rv.length ▸ hz, fun h => (c h).elim⟩
  | _ => simp [kindD] at h
theorem seq_tup {X : Cx} {pins : List (Addr × Obj)} {σ : L2.St} {H F : Hp} {s : Shared} {x : D} {v : V} {u : Value} (I : Inv X pins σ H s) (sm : Same F H) (vx : View X.G F H x v) (r : RelV v u) (h : kindD x = some "tuple") :
    ∃ a xs its as, u = .ref a ∧ seqD x = some xs ∧ PyProof.Rows.IsTup s.heap a (List.toArray its) ∧ its.length ≤ sizeLine ∧ (okDs 58 xs = true → PySem.ReadsAll s.heap its (toPys xs) as) := by
  cases x with
  | tup xs =>
    obtain ⟨a, vs, rfl, ha, hr⟩ := vx.tup sm
    obtain rfl : u = Value.ref a := r
    obtain ⟨its, rv, pl, hz⟩ := I.tuple ha
    by_cases c : okDs 58 xs = true
    · obtain ⟨as, r1⟩ := RepL.reads I sm xs vs its (okDs_py 58 xs c).1 hr rv
      exact ⟨a, xs, its, as, rfl, rfl, pl, rv.length ▸ hz, fun _ => r1⟩
    · exact ⟨a, xs, its, default, rfl, rfl, pl, rv.length ▸ hz, fun h => (c h).elim⟩
  | _ => simp [kindD] at h
section
variable {X : Cx}
theorem mr_indexL (hu : X.A.units + 64 < cLine) : MRule X "index" indexG "list" "list.index" := by
  refine ⟨PySem.F.plainAttrs_list, PySem.F.slot_list_index, PySem.F.type_list_index, ?_⟩
  intro pins s σ H F x k d v y u u2 Q I sm vx rv hk rk ry hg q
  obtain ⟨a, xs, its, as, rfl, hs, ⟨⟨cls, dd, data, sls⟩, n, ho, hc, hdn, hdt⟩, hz, hr⟩ := seq_list I sm vx rv hk
  unfold indexG at hg
  rw [hs] at hg
  dsimp only at hg hc hdt
  subst hc hdt
  split at hg
  · next hok =>
    obtain ⟨j, hj, rfl⟩ := Option.map_eq_some_iff.mp hg
    have p1 := okDs_py 58 xs hok.1
    have p2 := okD_py 58 k hok.2
    obtain ⟨bs, r2⟩ := Rep.reads I sm k y u2 p2.1 rk ry
    have hp : SeqAt.dataPlace (toPys xs) (toPy k) = some j := by
      unfold SeqAt.dataPlace
      rw [toPys_map, List.findIdx?_map]
      exact hj
    obtain ⟨hj1, hit, hno⟩ := SeqAt.hit_at (vs := its.toArray) (by exact hr hok.1) p1.1 hp
    have e1 : sizeLine = 16777216 := sizeLine_eq
    have e2 : its.toArray.size = its.length := List.size_toArray
    exact call_meets PySem.F.slot_list_index ⟨_, ho, rfl⟩ PySem.F.entry_list_index (PySem.F.args_list_index_2 _ _)
      (SeqAt.list_indexAt a its.toArray n dd sls u2 _ j hj1 (by omega) hit hno) ⟨ho, SeqAt.items_plain (vs := its.toArray) (by exact hr hok.1) r2 p1.1 p2.1 (by show X.A.units + 1 + _ < cLine; omega), ⟨.int _, H, I.tok _, ⟨_, rfl⟩, q _ _ _ Res.same (.int _)⟩⟩
  · cases hg
theorem mr_indexT (hu : X.A.units + 64 < cLine) : MRule X "index" indexG "tuple" "tuple.index" := by
  refine ⟨PySem.F.plainAttrs_tuple, PySem.F.slot_tuple_index, PySem.F.type_tuple_index, ?_⟩
  intro pins s σ H F x k d v y u u2 Q I sm vx rv hk rk ry hg q
  obtain ⟨a, xs, its, as, rfl, hs, hT, hz, hr⟩ := seq_tup I sm vx rv hk
  unfold indexG at hg
  rw [hs] at hg
  dsimp only at hg
  split at hg
  · next hok =>
    obtain ⟨j, hj, rfl⟩ := Option.map_eq_some_iff.mp hg
    have p1 := okDs_py 58 xs hok.1
    have p2 := okD_py 58 k hok.2
    obtain ⟨bs, r2⟩ := Rep.reads I sm k y u2 p2.1 rk ry
    have hp : (toPys xs).findIdx? (fun z => PyData.eqv z (toPy k)) = some j := by
      rw [toPys_map, List.findIdx?_map]
      exact hj
    obtain ⟨hm, hix⟩ := place_idx hp
    have ra := hr hok.1
    have heq := SeqAt.items_plain (A := X.A) (vs := its.toArray) (by exact ra) r2 p1.1 p2.1 (by show X.A.units + 1 + _ < cLine; omega)
    have hlen : its.length = (toPys xs).length := by
      have := SeqAt.readsAll_map_plain (toPys xs) _ _ p1.1 ra
      rw [← this, List.length_map]
    refine SeqAt.call_tuple_index (ks := (toPys xs).map fun z => PyData.eqv z (toPy k)) (k := true) hT ⟨by rw [List.length_map, hlen], fun i h1 h2 => ?_⟩ hm ?_
    · have h3 := heq its[i] (List.mem_toArray.mpr (List.getElem_mem h1))
      obtain ⟨h4, h5⟩ := SeqAt.readOf_at (vs := its.toArray) (by exact ra) p1.1 i (by simpa using h1)
      refine h3.cast ?_
      have h6 : SeqAt.readOf s.heap its[i] = (toPys xs)[i] := by simpa using h5
      rw [h6, List.getElem_map]
      simp
    · rw [hix]
      exact ⟨.int _, H, I.tok _, ⟨_, rfl⟩, q _ _ _ Res.same (.int _)⟩
  · cases hg
theorem mr_countL (hu : X.A.units + 64 < cLine) : MRule X "count" countG "list" "list.count" := by
  refine ⟨PySem.F.plainAttrs_list, PySem.F.slot_list_count, PySem.F.type_list_count, ?_⟩
  intro pins s σ H F x k d v y u u2 Q I sm vx rv hk rk ry hg q
  obtain ⟨a, xs, its, as, rfl, hs, hL, hz, hr⟩ := seq_list I sm vx rv hk
  unfold countG at hg
  rw [hs] at hg
  dsimp only at hg
  split at hg
  · next hok =>
    cases hg
    have p1 := okDs_py 58 xs hok.1
    have p2 := okD_py 58 k hok.2
    obtain ⟨bs, r2⟩ := Rep.reads I sm k y u2 p2.1 rk ry
    refine SeqAt.count_list_data (vs := its.toArray) hL.isList (by exact hr hok.1) r2 p1.1 p2.1 (by omega) ?_
    rw [toPys_map, List.countP_map]
    exact ⟨.int _, H, I.tok _, ⟨_, rfl⟩, q _ _ _ Res.same (.int _)⟩
  · cases hg
theorem mr_countT (hu : X.A.units + 64 < cLine) : MRule X "count" countG "tuple" "tuple.count" := by
  refine ⟨PySem.F.plainAttrs_tuple, PySem.F.slot_tuple_count, PySem.F.type_tuple_count, ?_⟩
  intro pins s σ H F x k d v y u u2 Q I sm vx rv hk rk ry hg q
  obtain ⟨a, xs, its, as, rfl, hs, hT, hz, hr⟩ := seq_tup I sm vx rv hk
  unfold countG at hg
  rw [hs] at hg
  dsimp only at hg
  split at hg
  · next hok =>
    cases hg
    have p1 := okDs_py 58 xs hok.1
    have p2 := okD_py 58 k hok.2
    obtain ⟨bs, r2⟩ := Rep.reads I sm k y u2 p2.1 rk ry
    refine SeqAt.count_tuple_data (vs := its.toArray) hT (by exact hr hok.1) r2 p1.1 p2.1 (by omega) ?_
    rw [toPys_map, List.countP_map]
    exact ⟨.int _, H, I.tok _, ⟨_, rfl⟩, q _ _ _ Res.same (.int _)⟩
  · cases hg
theorem pd_index2 {o e : Expr} {apos cpos : Pos} {ma : VM} {mk : EM} (hu : X.A.units + 64 < cLine) (ho : PE X o (tV X.G ma)) (he : PE X e (tD X.G mk)) (m : M1 X o "index" apos e cpos := by exact ⟨rfl, rfl, rfl, rfl⟩) :
    PE X (.Call (.Attribute o "index" apos) [e] [] cpos) (tD X.G (meth1E indexG ma mk)) := pd_meth1 (mr_indexL hu) (mr_indexT hu) ho he m
theorem pd_count {o e : Expr} {apos cpos : Pos} {ma : VM} {mk : EM} (hu : X.A.units + 64 < cLine) (ho : PE X o (tV X.G ma)) (he : PE X e (tD X.G mk)) (m : M1 X o "count" apos e cpos := by exact ⟨rfl, rfl, rfl, rfl⟩) :
    PE X (.Call (.Attribute o "count" apos) [e] [] cpos) (tD X.G (meth1E countG ma mk)) := pd_meth1 (mr_countL hu) (mr_countT hu) ho he m
end
def m1_k2 (g : D → D → Option D) (Q : D → Env → Prop) (pa : Env → Option D) (x0 : D) : D → Env → Prop := fun dk η => wO (pa η) fun x => kindD x = kindD x0 ∧ wO (g x dk) fun d => Q d η
def m1_k1 (g : D → D → Option D) (k : EM) (Q : D → Env → Prop) : (Env → Option D) → Env → Prop := fun pa η => wO (pa η) fun x => (kindD x).isSome = true ∧ wE k η (m1_k2 g Q pa x)
section
variable {η : Env} {a : VM} {k : EM} {Q : D → Env → Prop} {pa : Env → Option D} {dk x0 : D} {g : D → D → Option D}
@[simp] theorem m1_k2_eq : m1_k2 g Q pa x0 dk η = wO (pa η) fun x => kindD x = kindD x0 ∧ wO (g x dk) fun d => Q d η := propext Iff.rfl
@[simp] theorem m1_k1_eq : m1_k1 g k Q pa η = wO (pa η) fun x => (kindD x).isSome = true ∧ wE k η (m1_k2 g Q pa x) := propext Iff.rfl
@[simp] theorem kind_lst {xs : List D} : kindD (.lst xs) = some "list" := rfl
@[simp] theorem kind_tup {xs : List D} : kindD (.tup xs) = some "tuple" := rfl
@[simp] theorem kind_frl {xs : List D} : kindD (.frl xs) = some "list" := rfl
@[simp] theorem wE_meth1E : wE (meth1E g a k) η Q = wV a η (m1_k1 g k Q) := by
  unfold wE meth1E wV m1_k1 m1_k2 wE
  rcases a η with _ | ⟨η1, pa⟩
  · rfl
  dsimp only
  rcases pa η1 with _ | x0
  · rfl
  dsimp only [wO_some]
  by_cases h : (kindD x0).isSome = true
  · rw [if_pos h, eq_true h, true_and]
    rcases k η1 with _ | ⟨dk, η2⟩
    · rfl
    dsimp only
    rcases pa η2 with _ | x
    · rfl
    dsimp only [wO_some]
    by_cases h2 : kindD x = kindD x0
    · rw [if_pos h2, eq_true h2, true_and]
      rcases g x dk with _ | d <;> rfl
    · rw [if_neg h2, eq_false h2, false_and]
  · rw [if_neg h, eq_false h, false_and]
end
end DL

namespace DL
open PySem L2

/-! ### dict(d), keys tuples whose hashes differ -/
mutual
/-- the hash of a key without texts -/
def hashO : NestedKey → Option Int
  | .none => some (reduceHash 0xFCA86420)
  | .num i => some (hashInt i)
  | .text _ => none
  | .tup ks => (hashOs ks).map fun hs => reduceHash (Builtin.Tuple.tupleHashOf hs)
def hashOs : List NestedKey → Option (List Int)
  | [] => some []
  | k :: ks => match hashO k, hashOs ks with
    | some h, some hs => some (h :: hs)
    | _, _ => none
end
mutual
theorem hashO_eq (w : World) : ∀ (k : NestedKey) (h : Int), hashO k = some h → k.hash w = h
  | .none, h, e => by simp only [hashO, Option.some.injEq] at e; rw [← e]; rfl
  | .num i, h, e => by simp only [hashO, Option.some.injEq] at e; rw [← e]; rfl
  | .text _, h, e => by simp [hashO] at e
  | .tup ks, h, e => by
    rw [hashO] at e
    obtain ⟨hs, h1, h2⟩ := Option.map_eq_some_iff.mp e
    rw [NestedKey.hash, hashOs_eq w ks hs h1, h2]
theorem hashOs_eq (w : World) : ∀ (ks : List NestedKey) (hs : List Int), hashOs ks = some hs → NestedKey.hashes w ks = hs
  | [], hs, e => by simp only [hashOs, Option.some.injEq] at e; rw [← e]; rfl
  | k :: ks, hs, e => by
    rw [hashOs] at e
    split at e
    · next h hs' e1 e2 =>
      cases e
      rw [NestedKey.hashes, hashO_eq w k h e1, hashOs_eq w ks hs' e2]
    · cases e
end
/-- the hash of a key -/
def hashK (d : D) : Option Int := (keyN d).bind hashO
/-- the keys' hashes are known and differ -/
def apartK (kvs : List (D × D)) : Bool := (kvs.all fun kv => (hashK kv.1).isSome) && decide (kvs.map fun kv => hashK kv.1).Nodup
section
variable {prog : Program} {w : World} {K : Type} [DecidableEq K] {knd : HeapKind prog w K} {A : Around} {E : Value → Shared → Prop} {s : Shared}
theorem call_dictH {o : Addr} {xs : List (K × Addr × Value)} {Q : Value → Shared → Prop} (hu : knd.room A.in1.in1) (hoS : (o == sysModules) = false) (ho : s.heap.DictOfH knd o xs) (hty : ∀ x ∈ xs, s.TypeIs (.ref x.2.1) "tuple") (hap : (xs.map fun x => knd.hash x.1).Nodup)
    (hst : ∀ h', (∀ b u, s.heap.get? b = some u → h'.get? b = some u) → ∀ x ∈ xs, knd.is h' x.1 x.2.1) (hsz : xs.length ≤ sizeLine)
    (h : ∀ h' tk, h'.DictOfH knd s.heap.objs.size xs → (∀ b u, s.heap.get? b = some u → h'.get? b = some u) → Q (.ref s.heap.objs.size) { s with heap := h', toks := tk }) :
    wpAny (model prog w) A (call (.type "dict") [.ref o]) Q E s := by
  refine callType_codes (Q₁ := fun ob sn => ob = .ref s.heap.objs.size ∧ sn = { s with heap := s.heap.push { cls := .type "dict", data := .dict #[] } }) F.kt_called_dict (F.kt_typeCall_dict_1 _) F.entry_dict_init (kt_code_dict_new _ ⟨rfl, rfl⟩) ?_
  rintro ob sn ⟨rfl, rfl⟩
  have keep : ∀ b u, s.heap.get? b = some u → (s.heap.push { cls := .type "dict", data := .dict #[] }).get? b = some u := fun b u e => Heap.get?_push_of_some _ e
  have new : (s.heap.push { cls := .type "dict", data := .dict #[] }).DictOfH knd s.heap.objs.size [] := Heap.DictOfH.new s.heap
  have src : (s.heap.push { cls := .type "dict", data := .dict #[] }).DictOfH knd o xs := by
    obtain ⟨ob, es, ep, h1, h2, h3, h4, _, h6⟩ := ho
    exact ⟨ob, es, ep, keep _ _ h1, h2, h3, h4, hst _ keep, h6⟩
  have ne : s.heap.objs.size ≠ o := by
    obtain ⟨_, _, _, hg, _⟩ := ho
    exact fun e => absurd (Heap.lt_size hg) (by rw [e]; exact Nat.lt_irrefl _)
  refine ⟨new.typeIs, F.args_dict_init_2 _ _, ?_⟩
  unfold Builtin.«dict.__init__»
  refine wpAny_bind ?_
  unfold Builtin.Dict.selfAndRest
  refine wpAny_bind (wpAny_notOrdered_dict new.typeIs ?_)
  show wpAny _ _ (pure (s.heap.objs.size, [Value.ref o])) _ _ _
  refine wpAny_pure ?_
  show wpAny _ _ (Builtin.Dict.updateFrom "dict.__init__" s.heap.objs.size (.ref o) [] .none) _ _ _
  refine updateFrom_dictH (kvs := []) .none hu ne hoS new src (.inr ⟨fun x hx => ?_, hap⟩) (by simpa using hsz) fun h' hd _ hs => ?_
  · obtain ⟨u, e1, e2⟩ := hty x hx
    exact ⟨u, keep _ _ e1, e2⟩
  · rw [storedAllH_nil_of_nodup xs ho.nodup] at hd
    exact ⟨rfl, h h' _ hd fun b u e => (hs.2 b (Nat.ne_of_lt (Heap.lt_size e))).trans (keep b u e)⟩
end
def copyTG : List D → Option D
  | [.dic kvs] => if (kvs.all fun kv => tupK kv.1) = true ∧ apartK kvs = true ∧ kvs.length ≤ 1000000 then some (.dic kvs) else none
  | _ => none
theorem RT.apart {G : Gd} {F : Hp} : ∀ {ds : List (D × D)} {xs : List (NestedKey × Addr × Value)}, RT G F ds xs → (ds.all fun kv => (hashK kv.1).isSome) = true → (ds.map fun kv => hashK kv.1) = xs.map fun x => some (x.1.hash G.w)
  | _, _, .nil, _ => rfl
  | _, _, @RT.cons _ _ k d n b v u ds xs h1 h2 h3 h4 h5 r, h => by
    rw [List.all_cons, Bool.and_eq_true] at h
    rw [List.map_cons, List.map_cons, RT.apart r h.2]
    congr 1
    obtain ⟨z, hz⟩ := Option.isSome_iff_exists.mp h.1
    show hashK k = _
    have hz' : hashK k = some z := hz
    rw [hz']
    unfold hashK at hz'
    rw [h2] at hz'
    rw [hashO_eq G.w n z hz']
section
variable {X : Cx}
theorem b_copyT (hu : X.A.units + 64 < cLine) : CallR X (.type "dict") (rLo X.G copyTG) := by
  intro pins s σ H vs us Q I rv h
  obtain ⟨ds, d, F, sm, r, e, q⟩ := h
  unfold copyTG at e
  split at e
  · next kvs =>
    split at e
    · next hc =>
      cases e
      obtain ⟨v, rfl, hv⟩ := r.inv1
      obtain ⟨a, es, ep, rfl, ha, hr, nd⟩ := hv.dic sm
      obtain ⟨u, rfl, ru⟩ := vals1 rv
      cases ru
      obtain ⟨xs, q1, dd⟩ := dictT I sm ha hr nd hc.1
      have hs : sizeLine = 16777216 := sizeLine_eq
      have hap2 := hc.2.1
      unfold apartK at hap2
      rw [Bool.and_eq_true] at hap2
      have hap : (xs.map fun x => x.1.hash X.w).Nodup := by
        have h2 := of_decide_eq_true hap2.2
        rw [q1.apart hap2.1, List.nodup_iff_pairwise_ne, List.pairwise_map] at h2
        rw [List.nodup_iff_pairwise_ne, List.pairwise_map]
        exact h2.imp fun {x y} h e => h (congrArg some e)
      have his := RT.isAll I sm q1
      refine call_dictH (knd := nestedKind X.prog X.w) (by show X.A.units + 1 + 1 + 8 < cLine; omega) (rawD_at I ha).2.1 dd (fun x hx => nestedKind_stays.tuple (s := s) (his x hx)) hap (fun h' hk x hx => nestedKind_stays.stays (fun b o _ _ e _ => hk b o e) (his x hx)) (by rw [← q1.length]; omega) fun h' tk dd' hk => ?_
      obtain ⟨o', es', ep', ho', hx', hd', hes, _, _⟩ := dd'
      have q3 : RepKV X.G F kvs es'.toList := by rw [hes]; exact RT.back q1
      have hz : es'.size ≤ sizeLine := by
        have h1 := q3.length
        have h2 : es'.toList.length = es'.size := Array.length_toList
        omega
      have hno : H s.heap.objs.size = none := I.hok.fresh (Nat.le_refl _)
      have I2 := I.laid (a := s.heap.objs.size) (o := rawD s.heap.objs.size es' ep') (t' := tk) hk (Nat.le_refl _) (rawD_ok ho' hx' hd' (beq_eq_false_iff_ne.mpr (Ne.symm (Nat.ne_of_lt I.big))) hz)
      exact ⟨.ref s.heap.objs.size, _, I2, rfl, q _ _ hno (.dic upd_same q3 nd)⟩
    · cases e
  · cases e
end
end DL

namespace DL
open PySem L2 PyProof.Rows

/-! ### dict(pairs): a list or a tuple of pairs, keys ints or texts, or tuples -/
def pairsK : List D → Option (List (D × D))
  | [] => some []
  | .tup [k, v] :: r => (pairsK r).map fun l => (k, v) :: l
  | _ => none
inductive PR (G : Gd) (F : Hp) (h : Heap) : List (D × D) → List (Addr × Value × Value) → Prop
  | nil : PR G F h [] []
  | cons {k d : D} {kv v : V} {b : Addr} {ku u : Value} {l : List (D × D)} {zs : List (Addr × Value × Value)} : Rep G F k kv → RelV kv ku → Rep G F d v → RelV v u → IsTup h b #[ku, u] → PR G F h l zs → PR G F h ((k, d) :: l) ((b, ku, u) :: zs)
theorem pairs_rel {X : Cx} {pins : List (Addr × Obj)} {σ : L2.St} {H F : Hp} {s : Shared} (I : Inv X pins σ H s) (sm : Same F H) : ∀ {xs : List D} {l : List (D × D)} {ws : List V} {its : List Value}, pairsK xs = some l → RepL X.G F xs ws → Vals ws its →
    ∃ zs, PR X.G F s.heap l zs ∧ its = zs.map fun z => Value.ref z.1
  | [], l, _, _, h, r, v => by
    cases h; cases r; cases v
    exact ⟨[], .nil, rfl⟩
  | d :: xs, l, _, _, h, r, v => by
    unfold pairsK at h
    split at h
    · next e => cases e
    · next k d2 r' e =>
      cases e
      obtain ⟨l', hl, rfl⟩ := Option.map_eq_some_iff.mp h
      cases r with
      | cons r1 r2 =>
        cases v with
        | cons v1 v2 =>
          obtain ⟨zs, q1, q2⟩ := pairs_rel I sm hl r2 v2
          cases r1 with
          | @tup b vs ds ht hr =>
            cases hr with
            | cons ra hr =>
              cases hr with
              | cons rb hr =>
                cases hr
                cases v1
                obtain ⟨ts, vt, it, _⟩ := I.tuple (Same.sqT sm ht.sqT)
                cases vt with
                | @cons _ uk _ _ vk vt =>
                  cases vt with
                  | @cons _ uv _ _ vv vt =>
                    cases vt
                    exact ⟨(b, uk, uv) :: zs, .cons ra vk rb vv it q1, by rw [q2]; rfl⟩
    · cases h
section
variable {G : Gd} {F : Hp} {h : Heap}
theorem PR.length : ∀ {l : List (D × D)} {zs : List (Addr × Value × Value)}, PR G F h l zs → l.length = zs.length
  | _, _, .nil => rfl
  | _, _, .cons _ _ _ _ _ r => by rw [List.length_cons, List.length_cons, r.length]
theorem PR.isTup : ∀ {l : List (D × D)} {zs : List (Addr × Value × Value)} {j : Nat} {z : Addr × Value × Value}, PR G F h l zs → zs[j]? = some z → IsTup h z.1 #[z.2.1, z.2.2]
  | _, _, _, _, .nil, e => by cases e
  | _, _, 0, _, .cons _ _ _ _ t _, e => by cases e; exact t
  | _, _, j + 1, _, .cons _ _ _ _ _ r, e => r.isTup (j := j) e
/-- ints and texts -/
def prsS : List (D × D) → List (Addr × Value × Value) → List (Key × Value)
  | kv :: l, z :: zs => (keyS kv.1, z.2.2) :: prsS l zs
  | _, _ => []
theorem PR.scal {P : Program} {w : World} : ∀ {l : List (D × D)} {zs : List (Addr × Value × Value)}, PR G F h l zs → (l.all fun kv => scalK kv.1) = true →
    (prsS l zs).length = zs.length ∧ (∀ {a : List (D × D)} {kvs : List (Key × Value)}, RS G F a kvs → RS G F (mergeD a l) (merged kvs (prsS l zs))) ∧
      ∀ (j : Nat) (z : Addr × Value × Value), zs[j]? = some z → ∃ k, (prsS l zs)[j]? = some (k, z.2.2) ∧ (mixKind P w).is k z.2.1 = true
  | _, _, .nil, _ => ⟨rfl, fun q => q, fun j z e => by cases e⟩
  | _, _, @PR.cons _ _ _ k d kv v b ku u l zs h1 h2 h3 h4 _ r, ha => by
    rw [List.all_cons, Bool.and_eq_true] at ha
    obtain ⟨q1, q2, q3⟩ := r.scal (P := P) (w := w) ha.2
    have ek := scal_rep ha.1 h1
    subst ek
    refine ⟨by show (prsS l zs).length + 1 = _; rw [q1]; rfl, fun q => q2 (RS.put ha.1 h3 h4 q), fun j z e => ?_⟩
    cases j with
    | zero => cases e; exact ⟨keyS k, rfl, kV_is h2⟩
    | succ j => exact q3 j z e
/-- tuples -/
theorem PR.tup : ∀ {l : List (D × D)} {zs : List (Addr × Value × Value)}, PR G F h l zs → (l.all fun kv => tupK kv.1) = true →
    ∃ ps : List (NestedKey × Addr × Value), ps.length = zs.length ∧ (∀ {a : List (D × D)} {xs : List (NestedKey × Addr × Value)}, RT G F a xs → RT G F (mergeD a l) (storedAllH xs ps)) ∧ RT G F l ps ∧
      ∀ (j : Nat) (z : Addr × Value × Value), zs[j]? = some z → ∃ n b, ps[j]? = some (n, b, z.2.2) ∧ z.2.1 = .ref b
  | _, _, .nil, _ => ⟨[], rfl, fun q => q, .nil, fun j z e => by cases e⟩
  | _, _, @PR.cons _ _ _ k d kv v b ku u l zs h1 h2 h3 h4 _ r, ha => by
    rw [List.all_cons, Bool.and_eq_true] at ha
    obtain ⟨ps, q1, q2, q3, q4⟩ := r.tup ha.2
    obtain ⟨ys, n, hk, hn, hd⟩ := tupK_inv ha.1
    have ht : tupK k = true := ha.1
    have hn' : keyN k = some n := hn
    obtain ⟨b', rfl⟩ : ∃ b', kv = .ref b' := by
      have hk' : k = .tup ys := hk
      subst hk'
      exact tup_ref h1
    obtain rfl : ku = Value.ref b' := h2
    refine ⟨(n, b', u) :: ps, by rw [List.length_cons, List.length_cons, q1], fun q => q2 (RT.put ht hn' h1 h3 h4 q), .cons ht hn' h1 h3 h4 q3, fun j z e => ?_⟩
    cases j with
    | zero => cases e; exact ⟨n, b', rfl, rfl⟩
    | succ j => exact q4 j z e
end
def dictG3 : List D → Option D
  | [x] => match seqD x with
    | some xs => match pairsK xs with
      | some l => if ((l.all fun kv => scalK kv.1) = true ∨ (l.all fun kv => tupK kv.1) = true) ∧ xs.length ≤ 1000000 then some (.dic (mergeD [] l)) else none
      | none => none
    | none => none
  | _ => none
theorem pairsK_len : ∀ {xs : List D} {l : List (D × D)}, pairsK xs = some l → l.length = xs.length
  | [], l, h => by cases h; rfl
  | d :: xs, l, h => by
    unfold pairsK at h
    split at h
    · next e => cases e
    · next e =>
      cases e
      obtain ⟨l', hl, rfl⟩ := Option.map_eq_some_iff.mp h
      rw [List.length_cons, List.length_cons, pairsK_len hl]
    · cases h
section
variable {X : Cx} {pins : List (Addr × Obj)} {σ : L2.St} {H F : Hp} {s : Shared}
/-- a sequence of pairs as the argument of dict() -/
theorem seq_pairs {x : D} {v : V} {u : Value} {xs : List D} {l : List (D × D)} (I : Inv X pins σ H s) (sm : Same F H) (vx : View X.G F H x v) (r : RelV v u) (hs : seqD x = some xs) (hl : pairsK xs = some l) :
    ∃ (a : Addr) (T : String) (zs : List (Addr × Value × Value)) (its : Array Value), u = .ref a ∧ (T = "list" ∨ T = "tuple") ∧ PR X.G F s.heap l zs ∧ PlainSeq T s.heap a its ∧ PairItems s.heap its (fun j => (zs[j]?.map (·.1)).getD 0) (zs.map (·.2)) := by
  have fin : ∀ {its : List Value} {zs : List (Addr × Value × Value)}, PR X.G F s.heap l zs → its = zs.map (fun z => Value.ref z.1) → PairItems s.heap its.toArray (fun j => (zs[j]?.map (·.1)).getD 0) (zs.map (·.2)) := fun {its zs} q e => by
    subst e
    refine ⟨by simp, fun j k w hj => ?_⟩
    rw [List.getElem?_map] at hj
    obtain ⟨z, hz, e2⟩ := Option.map_eq_some_iff.mp hj
    have it := q.isTup hz
    rw [e2] at it
    refine ⟨by simp [hz], ?_⟩
    show PairAt s.heap ((Option.map (fun x => x.1) zs[j]?).getD 0) k w
    rw [hz]
    exact .inl it
  cases x with
  | lst ys =>
    cases hs
    obtain ⟨a, vs, rfl, ha, hr⟩ := vx.lst sm
    obtain rfl : u = Value.ref a := r
    obtain ⟨its, rv, ⟨o, n, ho, hc, hd, hdt⟩, hz⟩ := I.list (SqL.of ha)
    obtain ⟨zs, q1, q2⟩ := pairs_rel I sm hl hr rv
    exact ⟨a, "list", zs, its.toArray, rfl, .inl rfl, q1, ⟨o, n, ho, hc, hd, hdt⟩, fin q1 q2⟩
  | frl ys =>
    cases hs
    obtain ⟨a, vs, rfl, ha, hr⟩ := vx.frl sm
    obtain rfl : u = Value.ref a := r
    obtain ⟨its, rv, ⟨o, n, ho, hc, hd, hdt⟩, hz⟩ := I.list ha
    obtain ⟨zs, q1, q2⟩ := pairs_rel I sm hl hr rv
    exact ⟨a, "list", zs, its.toArray, rfl, .inl rfl, q1, ⟨o, n, ho, hc, hd, hdt⟩, fin q1 q2⟩
  | tup ys =>
    cases hs
    obtain ⟨a, vs, rfl, ha, hr⟩ := vx.tupN sm
    obtain rfl : u = Value.ref a := r
    obtain ⟨its, rv, ⟨o, ho, hc, n, hdt⟩, hz⟩ := I.tuple ha.sqT
    obtain ⟨ob, h1, h2⟩ := ha.none I rfl
    rw [ho] at h1; cases h1
    obtain ⟨zs, q1, q2⟩ := pairs_rel I sm hl hr rv
    exact ⟨a, "tuple", zs, its.toArray, rfl, .inr rfl, q1, ⟨o, n, ho, hc, h2, hdt⟩, fin q1 q2⟩
  | _ => cases hs
theorem b_dict3 (hc : X.calm = true) (hu : X.A.units + 64 < cLine) : CallR X (.type "dict") (rLo X.G dictG3) := by
  intro pins s σ H vs us Q I rv h
  obtain ⟨ds, d, F, sm, r, e, q⟩ := h
  unfold dictG3 at e
  split at e
  · next x =>
    split at e
    · next xs hxs =>
      split at e
      · next l hl =>
        split at e
        · next hcond =>
          cases e
          obtain ⟨v, rfl, hv⟩ := r.inv1
          obtain ⟨u, rfl, ru⟩ := vals1 rv
          obtain ⟨a, T, zs, its, rfl, hT, q1, ps, pi⟩ := seq_pairs I sm hv ru hxs hl
          have e1 : sizeLine = 16777216 := sizeLine_eq
          have hlen := q1.length
          have hlx := pairsK_len hl
          have hno : H s.heap.objs.size = none := I.hok.fresh (Nat.le_refl _)
          have hmz := mergeD_length l []
          rw [List.length_nil, Nat.zero_add] at hmz
          have key : ∃ fp, PairArg X.prog X.w T a fp [] (zs.map (·.2)).length (PairRel (zs.map (·.2))) (fun h => PlainSeq T h a its ∧ PairItems h its (fun j => (zs[j]?.map (·.1)).getD 0) (zs.map (·.2))) := by
            rcases hT with rfl | rfl
            · exact ⟨_, PairArg.list a its _ _⟩
            · exact ⟨_, PairArg.tuple a its _ _⟩
          obtain ⟨fp, P⟩ := key
          have hn : (zs.map (·.2)).length = zs.length := List.length_map ..
          have done : ∀ h' tk o' es' ep', (∀ b ob, s.heap.get? b = some ob → h'.get? b = some ob) → h'.get? s.heap.objs.size = some o' → o'.ExactDict → o'.data = .dict es' ep' → RepKV X.G F (mergeD [] l) es'.toList → EP X pins σ Q (.ref s.heap.objs.size) { s with heap := h', toks := tk } := fun h' tk o' es' ep' kp ho' hx' hd' q3 => by
            have hz : es'.size ≤ sizeLine := by
              have h1 := q3.length
              have h2 : es'.toList.length = es'.size := Array.length_toList
              omega
            have I2 := I.laid (a := s.heap.objs.size) (o := rawD s.heap.objs.size es' ep') (t' := tk) kp (Nat.le_refl _) (rawD_ok ho' hx' hd' (beq_eq_false_iff_ne.mpr (Ne.symm (Nat.ne_of_lt I.big))) hz)
            exact ⟨.ref s.heap.objs.size, _, I2, rfl, q _ _ hno (.dic upd_same q3 (mergeD_nodup l [] List.nodup_nil))⟩
          rcases hcond.1 with hsc | htp
          · obtain ⟨p2, p4, p5⟩ := q1.scal (P := X.prog) (w := X.w) hsc
            refine PySem.call_dict_pairs (knd := mixKind X.prog X.w) (kvs := prsS l zs) P (I.ok.hd hc) ⟨ps, pi⟩ ⟨by rw [hn, p2], fun i key w hr => ?_⟩ (by omega) fun h' tk dd kp => ?_
            · have hr' : (zs.map (·.2))[i]? = some (key, w) := hr
              rw [List.getElem?_map] at hr'
              obtain ⟨z, hz, e2⟩ := Option.map_eq_some_iff.mp hr'
              have := p5 i z hz
              rw [e2] at this
              exact this
            · obtain ⟨o', es', ep', ho', hx', hd', hks, hpr, hnd⟩ := dd
              exact done h' tk o' es' ep' (fun b ob e => kp b ob (fun z => nomatch z) e) ho' hx' hd' (RS.back (p4 (a := []) .nil) hpr fun z hz => hks z (Array.mem_toList_iff.mp hz))
          · obtain ⟨pk, p2, p4, p6, p5⟩ := q1.tup htp
            have his := RT.isAll I sm p6
            refine call_dict_pairsH (knd := nestedKind X.prog X.w) (ps := pk) P (I.ok.hd hc) (by show X.A.units + 1 + 1 + 8 < cLine; omega) ⟨ps, pi⟩ ⟨by rw [hn, p2], fun i key w hr => ?_⟩ (fun h' hk y hy => nestedKind_stays.stays (fun b o _ _ e _ => hk b o (Nat.ne_of_lt (Heap.lt_size e)) (fun z => nomatch z) e) (his y hy)) (by omega) fun h' tk dd kp => ?_
            · have hr' : (zs.map (·.2))[i]? = some (key, w) := hr
              rw [List.getElem?_map] at hr'
              obtain ⟨z, hz, e2⟩ := Option.map_eq_some_iff.mp hr'
              have := p5 i z hz
              rw [e2] at this
              exact this
            · obtain ⟨o', es', ep', ho', hx', hd', hes, _, _⟩ := dd
              exact done h' tk o' es' ep' (fun b ob e => kp b ob (fun z => nomatch z) e) ho' hx' hd' (by rw [hes]; exact RT.back (p4 (a := []) .nil))
        · cases e
      · cases e
    · cases e
  · cases e
/-- dict(x): pairs, or a copy -/
def dictG4 (ds : List D) : Option D := match dictG3 ds with
  | some d => some d
  | none => match copyG ds with
    | some d => some d
    | none => copyTG ds
theorem b_dict4 (hc : X.calm = true) (hu : X.A.units + 64 < cLine) : CallR X (.type "dict") (rLo X.G dictG4) := by
  intro pins s σ H vs us Q I rv h
  obtain ⟨ds, d, F, sm, r, e, q⟩ := h
  unfold dictG4 at e
  split at e
  · next d' h1 => cases e; exact b_dict3 hc hu pins s σ H vs us Q I rv ⟨ds, _, F, sm, r, h1, q⟩
  · split at e
    · next d' h1 => cases e; exact b_copy pins s σ H vs us Q I rv ⟨ds, _, F, sm, r, h1, q⟩
    · exact b_copyT hu pins s σ H vs us Q I rv ⟨ds, _, F, sm, r, e, q⟩
end
end DL

namespace DL
open PySem L2 PyProof.Rows

/-! ### t[::-1] -/
theorem back_adjust (n : Nat) : Builtin.Slice.sliceAdjust none none (-1) (n : Int) = ((n : Int) - 1, -1) := by
  unfold Builtin.Slice.sliceAdjust
  simp
theorem back_places (n : Nat) : Builtin.Slice.slicePlaces ((n : Int) - 1) (-1) (-1) = n := by
  unfold Builtin.Slice.slicePlaces
  simp
  omega
theorem fm_congr {α β : Type} {f g : α → Option β} : ∀ {l : List α}, (∀ x ∈ l, f x = g x) → l.filterMap f = l.filterMap g
  | [], _ => rfl
  | x :: l, h => by rw [List.filterMap_cons, List.filterMap_cons, h x List.mem_cons_self, fm_congr fun y hy => h y (List.mem_cons_of_mem _ hy)]
theorem back_pick (xs : Array Value) : ((List.range xs.size).filterMap fun (m : Nat) => xs[(((xs.size : Int) - 1) + (m : Int) * (-1)).toNat]?).toArray = xs.toList.reverse.toArray := by
  congr 1
  have e : ((List.range xs.size).filterMap fun (m : Nat) => xs[(((xs.size : Int) - 1) + (m : Int) * (-1)).toNat]?) = ((List.range xs.size).map fun k => xs.size - 1 - k).filterMap (xs[·]?) := by
    rw [List.filterMap_map]
    refine fm_congr fun m hm => ?_
    have hl := List.mem_range.mp hm
    show xs[(((xs.size : Int) - 1) + (m : Int) * (-1)).toNat]? = xs[xs.size - 1 - m]?
    congr 1
    omega
  rw [e, PySem.W.krv_range, List.filterMap_reverse, PySem.W.krv_all]
section
variable {prog : Program} {w : World} {A : Around} {E : Value → Shared → Prop} {s : Shared}
theorem getItem_back {t sl : Addr} {xs : Array Value} {vl vu vs : Value} {Q : Value → Shared → Prop} (ht : IsTup s.heap t xs) (hs : s.heap.IsSliceOf sl vl vu vs) (pl : IsPart vl none) (pu : IsPart vu none) (ps : IsPart vs (some (-1)))
    (h : Q (.ref s.heap.objs.size) { s with heap := s.heap.push { cls := .type "tuple", data := .seq xs.toList.reverse.toArray } }) (hz : xs.size ≤ sizeLine) : wpAny (model prog w) A (getItem (.ref t) (.ref sl)) Q E s := by
  have hrs : sizeOk (.seq xs.toList.reverse.toArray) := by
    show xs.toList.reverse.toArray.size ≤ sizeLine
    rw [List.size_toArray, List.length_reverse, Array.length_toList]; exact hz
  obtain ⟨os, hos, hcs, hds⟩ := id hs
  have hTs : s.TypeIs (.ref sl) "slice" := ⟨os, hos, hcs⟩
  unfold getItem
  try with_reducible refine wpAny_holding ?_
  refine wpAny_bind (wpAny_sequenceKey ht.typeIs (by decide) ?_)
  refine wpAny_bind (wpAny_callSpecial?_slot (name := Str.ofString "__getitem__") ht.typeIs PyProof.Rows.slot_tuple_getitem (wpAny_call_entry PyProof.Rows.slot_tuple_getitem ht.typeIs entry_tuple_getitem ?_ (args_tuple_getitem _ _)))
  show wpAny _ _ (Builtin.Tuple.tupleItemsOf (.ref t) >>= _) _ _ s
  refine wpAny_bind (tupleItemsOf_ ht (wpAny_bind (wpAny_typeOf hTs ?_)))
  rw [if_pos (by decide)]
  refine wpAny_bind ?_
  unfold Builtin.Slice.sliceApplied Builtin.Slice.sliceFields
  refine wpAny_bind (wpAny_bind (wpAny_field hos hds (x := vl) rfl (wpAny_bind (wpAny_field hos hds (x := vu) rfl (wpAny_bind (wpAny_field hos hds (x := vs) rfl (wpAny_pure ?_)))))))
  refine wpAny_bind (HT.slicePart_ ps ?_)
  show wpAny _ _ (if ((-1 : Int) == 0) = true then _ else _) _ _ s
  rw [if_neg (by decide)]
  refine wpAny_bind (HT.slicePart_ pl (wpAny_bind (HT.slicePart_ pu (wpAny_bind (wpAny_pure ?_)))))
  show wpAny _ _ (match Builtin.Slice.sliceAdjust none none (-1) (xs.size : Int) with | (lo, hi) => pure (lo, (-1 : Int), Builtin.Slice.slicePlaces lo hi (-1))) _ _ s
  rw [back_adjust]
  show wpAny _ _ (pure ((xs.size : Int) - 1, (-1 : Int), Builtin.Slice.slicePlaces ((xs.size : Int) - 1) (-1) (-1))) _ _ s
  rw [back_places]
  refine wpAny_pure ?_
  show wpAny _ _ (if (((xs.size : Int) - 1) == 0 && (-1 : Int) == 1 && xs.size == xs.size) = true then _ else _) _ _ s
  rw [if_neg (by
    intro q
    rw [Bool.and_eq_true, Bool.and_eq_true] at q
    exact absurd q.1.2 (by decide)), back_pick]
  first
    | exact wpAny_bind (m := Builtin.Tuple.tupleExact _) (wpAny_newObj_type (wpAny_pure ⟨_, rfl, wpAny_pure h⟩) hrs)
    | exact wpAny_bind (m := Builtin.Tuple.tupleExact _) (wpAny_newObj_type (wpAny_bind (wpAny_pure (wpAny_pure ⟨_, rfl, wpAny_pure h⟩))) hrs)
    | exact wpAny_bind (wpAny_bind (m := Builtin.Tuple.tupleExact _) (wpAny_newObj_type (wpAny_pure (wpAny_pure ⟨_, rfl, wpAny_pure h⟩)) hrs))
    | exact wpAny_bind (wpAny_bind (m := Builtin.Tuple.tupleExact _) (wpAny_newObj_type (wpAny_pure ⟨_, rfl, wpAny_pure h⟩) hrs))
end
section
variable {X : Cx}
/-- x[::-1] of a list or a tuple -/
def tRevA (K : PySem.W.Frag) (te : TE) : TE := fun σ H Q => te σ H fun x H1 => ∃ a vs, x = .ref a ∧ ((SqL K H1 a vs ∧ ∀ p, H1 p = none → Q (.ref p) (upd H1 p (.lst vs.reverse))) ∨ (SqT K H1 a vs ∧ NewT H1 vs.reverse Q))
theorem pe_revA {e : Expr} {te : TE} {k : Nat} {p1 p2 p3 pos : Pos} (he : PE X e te) : PE X (.Subscript e (.Slice none none (some (.UnaryOp .USub (.Constant (.int 1) k p1) p2)) p3) pos) (tRevA X.K te) := ⟨fun pn s0 σ0 H0 Q0 I0 h0 => by
  refine Subscript_ (thn (he.run pn s0 σ0 H0 _ I0 h0) fun v s1 ⟨x, H1, I1, r1, q1⟩ => ?_)
  obtain ⟨a, vs, rfl, q1⟩ := q1
  cases r1
  have hst : PO X (some (.UnaryOp .USub (.Constant (.int 1) k p1) p2)) (tPart (L2.tUn (L2.rU fun i => .int (-i)) (L2.tC (.int 1)))) := po_some (pe_un L2.un_neg pe_int)
  refine wpAny_Slice (thn (po_none.run pn s1 σ0 H1 (fun o H2 => o = none ∧ H2 = H1) I1 ⟨rfl, rfl⟩) fun vl s2 ⟨l, H2, I2, pl, el, e2⟩ => ?_)
  subst el e2
  refine thn (po_none.run pn s2 σ0 H2 (fun o H3 => o = none ∧ H3 = H2) I2 ⟨rfl, rfl⟩) fun vu s3 ⟨u, H3, I3, pu, eu, e3⟩ => ?_
  subst eu e3
  refine thn (hst.run pn s3 σ0 H3 (fun o H4 => o = some (-1) ∧ H4 = H3) I3 ⟨1, rfl, -1, rfl, rfl, rfl⟩) fun vt s4 ⟨o, H4, I4, ps, eo, e4⟩ => ?_
  subst eo e4
  have I5 : Inv X pn σ0 H4 { s4 with heap := s4.heap.push { cls := .type "slice", data := .fields #[vl, vu, vt] } } := I4.kept (t' := s4.toks) fun b ob q => Heap.get?_push_of_some _ q
  show wpAny (model X.prog X.w) X.A (subscriptTail e (.Slice none none (some (.UnaryOp .USub (.Constant (.int 1) k p1) p2)) p3) (.ref a) (.ref s4.heap.objs.size)) (EP X pn σ0 Q0) X.xe { s4 with heap := s4.heap.push { cls := .type "slice", data := .fields #[vl, vu, vt] } }
  rcases q1 with ⟨hx, q⟩ | ⟨hx, q⟩
  · obtain ⟨its, r, ht, hz⟩ := I5.list hx
    refine tail_any (ops := [.ref a, .ref s4.heap.objs.size]) ht.isList.typeIs (PySem.slot_list_getitem.lookup) ?_ (by with_unfolding_all rfl)
    refine wpAny_getItem_list_slice ht.isList (Heap.IsSliceOf.new _ vl vu vt) pl pu ps (by decide) ?_ (by rw [List.size_toArray, ← r.length]; omega)
    rw [PySem.W.krv_pick]
    refine ⟨.ref _, _, I5.laid (t' := s4.toks) (o := .lst vs.reverse) (fun c oc q => Heap.get?_push_of_some _ q) (Nat.le_refl _) ?_, rfl, q _ (I5.hok.fresh (Nat.le_refl _))⟩
    exact ⟨by rw [List.length_reverse]; exact hz, _, 0, r.reverse, Heap.get?_push_size _ rfl⟩
  · obtain ⟨its, r, ht, hz⟩ := I5.tuple hx
    refine tail_any (ops := [.ref a, .ref s4.heap.objs.size]) ht.typeIs (PyProof.Rows.slot_tuple_getitem.lookup) ?_ (by with_unfolding_all rfl)
    refine getItem_back ht (Heap.IsSliceOf.new _ vl vu vt) pl pu ps ?_ (by rw [List.size_toArray, ← r.length]; exact hz)
    exact lay_tup I5 r.reverse (by rw [List.length_reverse]; exact hz) q⟩
def rev2D : D → Option D
  | .lst xs => some (.lst xs.reverse)
  | .tup xs => some (.tup xs.reverse)
  | _ => none
theorem pd_rev2 {a : Expr} {pos : Pos} {ma : VM} {k : Nat} {p1 p2 p3 : Pos} (ha : PE X a (tV X.G ma)) : PE X (.Subscript a (.Slice none none (some (.UnaryOp .USub (.Constant (.int 1) k p1) p2)) p3) pos) (tD X.G (un1 rev2D ma)) :=
  weakE (pe_revA ha) fun σ H Q ⟨B, F, Z, η, d, η', ok, hm, q⟩ => by
    obtain ⟨pa, x, h1, h2, h3⟩ := un1_inv hm
    refine ⟨B, F, Z, η, η', pa, ok, h1, fun v H1 F1 s1 ok1 r1 => ?_⟩
    have vw := r1 F1 _ H1 x (Same.refl _) ok1 h2
    unfold rev2D at h3
    split at h3
    · cases h3
      obtain ⟨p, vs, rfl, hp, r⟩ := vw.lst ok1.ff
      refine ⟨p, vs, rfl, .inl ⟨SqL.of hp, fun p' hp' => ?_⟩⟩
      exact q _ _ _ (s1.trans (Same.upd (ok1.free hp'))) (ok1.newF hp') (.lst upd_same (r.reverse.mono (Same.upd (ok1.free hp'))))
    · cases h3
      obtain ⟨p, vs, rfl, hp, r⟩ := vw.tup ok1.ff
      refine ⟨p, vs, rfl, .inr ⟨hp, fun p' ob hp' hd => ?_⟩⟩
      exact q _ _ _ (s1.trans (Same.upd (ok1.free hp'))) (ok1.newF hp') (.tup (SqN.of hd) (r.reverse.mono (Same.upd (ok1.free hp'))))
    · cases h3
end
@[simp] theorem rev2D_lst {xs : List D} : rev2D (.lst xs) = some (.lst xs.reverse) := rfl
@[simp] theorem rev2D_tup {xs : List D} : rev2D (.tup xs) = some (.tup xs.reverse) := rfl
end DL

namespace DL
open PySem L2 PyProof.Rows

/-! ### list(range(..)), tuple(range(..)) -/
def rgOf : List D → Option (Int × Int)
  | [.int n] => some (0, n)
  | [.int i, .int j] => some (i, j)
  | _ => none
def rgOk (p : Int × Int) : Bool := decide (-(2 ^ 62) ≤ p.1 ∧ p.1 < 2 ^ 62 ∧ -(2 ^ 62) ≤ p.2 ∧ p.2 < 2 ^ 62 ∧ (p.2 - p.1).toNat ≤ 1000000)
theorem rgOk_inv {p : Int × Int} (h : rgOk p = true) : RgOk p.1 p.2 := by
  have := of_decide_eq_true h
  exact ⟨this.1, this.2.1, this.2.2.1, this.2.2.2.1, by omega⟩
def lrgE (am : AM) : EM := fun η => match am η with
  | some (ds, η1) => match rgOf ds with
    | some p => if rgOk p = true then some (.lst (rangeD p.1 p.2), η1) else none
    | none => none
  | none => none
def trgE (am : AM) : EM := fun η => match am η with
  | some (ds, η1) => match rgOf ds with
    | some p => if rgOk p = true then some (.tup (rangeD p.1 p.2), η1) else none
    | none => none
  | none => none
theorem rg_rep {K : Gd} {F : Hp} (i j : Int) : RepL K F (rangeD i j) (rgV i j) := by
  unfold rangeD rgV
  generalize List.range (j - i).toNat = l
  induction l with
  | nil => exact .nil
  | cons x l ih => exact .cons (.int _) ih
section
variable {X : Cx}
def tTupRgN (te : L2.St → Hp → (Int → Int → Hp → Prop) → Prop) : TE := fun σ H Q => te σ H fun a b H1 => RgOk a b ∧ NewT H1 (rgV a b) Q
theorem pe_tupRgN {e : Expr} {te : L2.St → Hp → (Int → Int → Hp → Prop) → Prop} {p pos : Pos} (hc : X.calm = true) (hg : Gl X "tuple") (hm : X.mg "tuple" = none) (he : PRg X e te) (na : starEach [e] X.env = (false, eval e X.env) :: starEach [] X.env := by rfl) : PE X (.Call (.Name "tuple" p) [e] [] pos) (tTupRgN te) := ⟨fun pn s0 σ0 H0 Q0 I0 h0 => by
  refine Call_ (ld_blt I0 hg hm boot_tuple (PyProof.Rows.callWith_type1 (args_cons (thn (he pn s0 σ0 H0 _ I0 h0) fun x s1 ⟨r, a, b, t, u, v, H1, ex, hr, I1, ok, q⟩ => args_nil ?_) na) na))
  subst ex
  obtain ⟨b1, b2, b3, b4, b5⟩ := ok
  refine call_tuple_range (n := (b - a).toNat) (I1.ok.hd hc) hr (small_one b1 b2 b3 b4) (rangeSize_nat a b) b5 fun h' tk acc hk hi => ?_
  have I2 : Inv X pn σ0 H1 { s1 with heap := h', toks := tk } := I1.kept hk
  have := lay_tup (n := 0) I2 (vals_rg hi) (by rw [rgV_length, sizeLine_eq]; omega) q
  rw [Array.toArray_toList] at this
  exact this⟩
variable {a b : Expr} {p p2 pos pos2 : Pos} {ma mb : EM}
theorem rg1_D {m : EM} {σ : L2.St} {H : Hp} {B F : Hp} {Z : Pins} {η η' : Env} {ds : List D} (ok : Ok X.G B F Z η σ H) (hm : consA m nilA η = some (ds, η')) : ∃ d, m η = some (d, η') ∧ ds = [d] := by
  unfold consA nilA at hm
  split at hm
  · next d η1 h1 => cases hm; exact ⟨d, h1, rfl⟩
  · cases hm
theorem rg2_D {m n : EM} {η η' : Env} {ds : List D} (hm : consA m (consA n nilA) η = some (ds, η')) : ∃ d e η1, m η = some (d, η1) ∧ n η1 = some (e, η') ∧ ds = [d, e] := by
  unfold consA nilA at hm
  split at hm
  · next d η1 h1 =>
    dsimp only at hm
    cases hn : n η1 with
    | none => rw [hn] at hm; cases hm
    | some z => obtain ⟨e, η2⟩ := z; rw [hn] at hm; cases hm; exact ⟨d, e, η1, h1, hn, rfl⟩
  · cases hm
theorem rgOf1 {d : D} {q : Int × Int} (h : rgOf [d] = some q) : ∃ n, d = .int n ∧ q = (0, n) := by
  cases d <;> first | (cases h; exact ⟨_, rfl, rfl⟩) | (simp [rgOf] at h)
theorem rgOf2 {d e : D} {q : Int × Int} (h : rgOf [d, e] = some q) : ∃ i j, d = .int i ∧ e = .int j ∧ q = (i, j) := by
  cases d <;> cases e <;> first | (cases h; exact ⟨_, _, rfl, rfl, rfl⟩) | (simp [rgOf] at h)
theorem po_lrg1 (hc : X.calm = true) (hg : Gl X "list") (hm : X.mg "list" = none) (hg2 : Gl X "range") (hm2 : X.mg "range" = none) (ha : PE X a (tD X.G ma)) (hs : starEach [.Call (.Name "range" p2) [a] [] pos2] X.env = (false, eval (.Call (.Name "range" p2) [a] [] pos2) X.env) :: starEach [] X.env := by rfl) (hs2 : starEach [a] X.env = (false, eval a X.env) :: starEach [] X.env := by rfl) :
    PE X (.Call (.Name "list" p) [.Call (.Name "range" p2) [a] [] pos2] [] pos) (tO X.G (lrgE (consA ma nilA))) := weakE (pe_listRg hc hg hm (prg_1 hg2 hm2 ha hs2) hs) fun σ H Q ⟨B, F, Z, η, d, η', ok, hx, q⟩ => by
  unfold lrgE at hx
  split at hx
  · next ds η1 h1 =>
    split at hx
    · next r hr =>
      split at hx
      · next hok =>
        cases hx
        obtain ⟨d, h2, rfl⟩ := rg1_D ok h1
        obtain ⟨n, rfl, rfl⟩ := rgOf1 hr
        refine ⟨B, F, Z, η, _, _, ok, h2, fun v H1 F1 s1 ok1 r1 => ?_⟩
        cases r1
        exact ⟨n, rfl, rgOk_inv hok, fun p hp => q _ _ _ s1 (ok1.newH hp) (ok1.bnone hp) (ok1.free hp) (.lst upd_same (rg_rep _ _)) fun i e hi => ok1.notNew hp i e hi⟩
      · cases hx
    · cases hx
  · cases hx
theorem po_lrg2 (hc : X.calm = true) (hg : Gl X "list") (hm : X.mg "list" = none) (hg2 : Gl X "range") (hm2 : X.mg "range" = none) (ha : PE X a (tD X.G ma)) (hb : PE X b (tD X.G mb)) (hs : starEach [.Call (.Name "range" p2) [a, b] [] pos2] X.env = (false, eval (.Call (.Name "range" p2) [a, b] [] pos2) X.env) :: starEach [] X.env := by rfl)
    (na : starEach [a, b] X.env = (false, eval a X.env) :: starEach [b] X.env := by rfl) (nb : starEach [b] X.env = (false, eval b X.env) :: starEach [] X.env := by rfl) (hp : (backTo pos2 (starEach [b] X.env)).any (·.1) = false := by rfl) :
    PE X (.Call (.Name "list" p) [.Call (.Name "range" p2) [a, b] [] pos2] [] pos) (tO X.G (lrgE (consA ma (consA mb nilA)))) := weakE (pe_listRg hc hg hm (prg_2 hg2 hm2 ha hb na nb hp) hs) fun σ H Q ⟨B, F, Z, η, d, η', ok, hx, q⟩ => by
  unfold lrgE at hx
  split at hx
  · next ds η1 h1 =>
    split at hx
    · next r hr =>
      split at hx
      · next hok =>
        cases hx
        obtain ⟨d, e, η2, h2, h3, rfl⟩ := rg2_D h1
        obtain ⟨i, j, rfl, rfl, rfl⟩ := rgOf2 hr
        refine ⟨B, F, Z, η, _, _, ok, h2, fun v H1 F1 s1 ok1 r1 => ⟨B, F1, Z, _, _, _, ok1, h3, fun w H2 F2 s2 ok2 r2 => ?_⟩⟩
        cases r1
        cases r2
        exact ⟨i, j, rfl, rfl, rgOk_inv hok, fun p hp => q _ _ _ (s1.trans s2) (ok2.newH hp) (ok2.bnone hp) (ok2.free hp) (.lst upd_same (rg_rep _ _)) fun i e hi => ok2.notNew hp i e hi⟩
      · cases hx
    · cases hx
  · cases hx
theorem pd_trg1 (hc : X.calm = true) (hg : Gl X "tuple") (hm : X.mg "tuple" = none) (hg2 : Gl X "range") (hm2 : X.mg "range" = none) (ha : PE X a (tD X.G ma)) (hs : starEach [.Call (.Name "range" p2) [a] [] pos2] X.env = (false, eval (.Call (.Name "range" p2) [a] [] pos2) X.env) :: starEach [] X.env := by rfl) (hs2 : starEach [a] X.env = (false, eval a X.env) :: starEach [] X.env := by rfl) :
    PE X (.Call (.Name "tuple" p) [.Call (.Name "range" p2) [a] [] pos2] [] pos) (tD X.G (trgE (consA ma nilA))) := weakE (pe_tupRgN hc hg hm (prg_1 hg2 hm2 ha hs2) hs) fun σ H Q ⟨B, F, Z, η, d, η', ok, hx, q⟩ => by
  unfold trgE at hx
  split at hx
  · next ds η1 h1 =>
    split at hx
    · next r hr =>
      split at hx
      · next hok =>
        cases hx
        obtain ⟨d, h2, rfl⟩ := rg1_D ok h1
        obtain ⟨n, rfl, rfl⟩ := rgOf1 hr
        refine ⟨B, F, Z, η, _, _, ok, h2, fun v H1 F1 s1 ok1 r1 => ?_⟩
        cases r1
        exact ⟨n, rfl, rgOk_inv hok, fun p ob hp hd => q _ _ _ (s1.trans (Same.upd (ok1.free hp))) (ok1.newF hp) (.tup (SqN.of hd) (rg_rep _ _))⟩
      · cases hx
    · cases hx
  · cases hx
theorem pd_trg2 (hc : X.calm = true) (hg : Gl X "tuple") (hm : X.mg "tuple" = none) (hg2 : Gl X "range") (hm2 : X.mg "range" = none) (ha : PE X a (tD X.G ma)) (hb : PE X b (tD X.G mb)) (hs : starEach [.Call (.Name "range" p2) [a, b] [] pos2] X.env = (false, eval (.Call (.Name "range" p2) [a, b] [] pos2) X.env) :: starEach [] X.env := by rfl)
    (na : starEach [a, b] X.env = (false, eval a X.env) :: starEach [b] X.env := by rfl) (nb : starEach [b] X.env = (false, eval b X.env) :: starEach [] X.env := by rfl) (hp : (backTo pos2 (starEach [b] X.env)).any (·.1) = false := by rfl) :
    PE X (.Call (.Name "tuple" p) [.Call (.Name "range" p2) [a, b] [] pos2] [] pos) (tD X.G (trgE (consA ma (consA mb nilA)))) := weakE (pe_tupRgN hc hg hm (prg_2 hg2 hm2 ha hb na nb hp) hs) fun σ H Q ⟨B, F, Z, η, d, η', ok, hx, q⟩ => by
  unfold trgE at hx
  split at hx
  · next ds η1 h1 =>
    split at hx
    · next r hr =>
      split at hx
      · next hok =>
        cases hx
        obtain ⟨d, e, η2, h2, h3, rfl⟩ := rg2_D h1
        obtain ⟨i, j, rfl, rfl, rfl⟩ := rgOf2 hr
        refine ⟨B, F, Z, η, _, _, ok, h2, fun v H1 F1 s1 ok1 r1 => ⟨B, F1, Z, _, _, _, ok1, h3, fun w H2 F2 s2 ok2 r2 => ?_⟩⟩
        cases r1
        cases r2
        exact ⟨i, j, rfl, rfl, rgOk_inv hok, fun p ob hp hd => q _ _ _ ((s1.trans s2).trans (Same.upd (ok2.free hp))) (ok2.newF hp) (.tup (SqN.of hd) (rg_rep _ _))⟩
      · cases hx
    · cases hx
  · cases hx
end
def lrg_k1 (f : List D → D) (Q : D → Env → Prop) : List D → Env → Prop := fun ds η => wO (rgOf ds) fun p => rgOk p = true ∧ Q (f (rangeD p.1 p.2)) η
section
variable {η : Env} {am : AM} {Q : D → Env → Prop} {i j : Int} {f : List D → D} {ds : List D}
@[simp] theorem lrg_k1_eq : lrg_k1 f Q ds η = wO (rgOf ds) fun p => rgOk p = true ∧ Q (f (rangeD p.1 p.2)) η := propext Iff.rfl
@[simp] theorem rgOf_1 : rgOf [.int i] = some (0, i) := rfl
@[simp] theorem rgOf_2 : rgOf [.int i, .int j] = some (i, j) := rfl
@[simp] theorem rgOk_eq : (rgOk (i, j) = true) = (-(2 ^ 62) ≤ i ∧ i < 2 ^ 62 ∧ -(2 ^ 62) ≤ j ∧ j < 2 ^ 62 ∧ (j - i).toNat ≤ 1000000) := by
  unfold rgOk; exact propext decide_eq_true_iff
@[simp] theorem wE_lrgE : wE (lrgE am) η Q = wA am η (lrg_k1 .lst Q) := by
  unfold wE lrgE wA lrg_k1
  rcases am η with _ | ⟨ds, η1⟩
  · rfl
  dsimp only
  rcases rgOf ds with _ | p
  · rfl
  dsimp only [wO_some]
  by_cases h : rgOk p = true <;> simp [h]
@[simp] theorem wE_trgE : wE (trgE am) η Q = wA am η (lrg_k1 .tup Q) := by
  unfold wE trgE wA lrg_k1
  rcases am η with _ | ⟨ds, η1⟩
  · rfl
  dsimp only
  rcases rgOf ds with _ | p
  · rfl
  dsimp only [wO_some]
  by_cases h : rgOk p = true <;> simp [h]
end
end DL

namespace DL
open PySem L2
/-! ### rows of ints: the greatest, the place, sorted -/
theorem foldI_mem (f : Int → Int → Int) (hf : ∀ a b, f a b = a ∨ f a b = b) : ∀ (l : List Int) (a : Int), l.foldl f a ∈ a :: l
  | [], a => List.mem_cons_self
  | b :: l, a => by
    rw [List.foldl_cons]
    rcases List.mem_cons.mp (foldI_mem f hf l (f a b)) with h | h
    · rcases hf a b with e | e
      · rw [h, e]; exact List.mem_cons_self
      · rw [h, e]; simp
    · exact List.mem_cons_of_mem _ (List.mem_cons_of_mem _ h)
theorem max_ex {l : List Int} (h : l ≠ []) : ∃ M, M ∈ l ∧ bestG max [.lst (iD l)] = some (.int M) ∧ bestG max [.tup (iD l)] = some (.int M) := by
  cases l with
  | nil => exact (h rfl).elim
  | cons a l =>
    refine ⟨l.foldl max a, foldI_mem max (fun a b => by omega) l a, ?_, ?_⟩
    · unfold bestG; simp only [intsD_iD]
    · unfold bestG; simp only [intsD_iD]
theorem eqb_int (a b : Int) : eqb (.int a) (.int b) = decide (a = b) := rfl
theorem index_ex {l : List Int} {y : Int} (h : y ∈ l) : ∃ j : Nat, indexG (.lst (iD l)) (.int y) = some (.int (j : Int)) ∧ indexG (.tup (iD l)) (.int y) = some (.int (j : Int)) := by
  have hk : ∃ j, (iD l).findIdx? (fun z => eqb z (.int y)) = some j := by
    rcases e : (iD l).findIdx? (fun z => eqb z (.int y)) with _ | j
    · rw [List.findIdx?_eq_none_iff] at e
      have := e (.int y) (List.mem_map.mpr ⟨y, h, rfl⟩)
      rw [eqb_int, decide_eq_false_iff_not] at this
      exact (this rfl).elim
    · exact ⟨j, rfl⟩
  obtain ⟨j, hj⟩ := hk
  have h1 : okDs 58 (iD l) = true := okDs_int 58 l
  refine ⟨j, ?_, ?_⟩ <;> (unfold indexG seqD; dsimp only; rw [if_pos ⟨h1, by simp [okD]⟩, hj]; rfl)
theorem in_tl {l : List Int} {y : Int} : inD (.int y) (.tup (iD l)) = some (.bl (l.any fun z => decide (z = y))) := inD_ints (y := y) (l := l)
theorem leI_int (a b : Int) : leD' (.int a) (.int b) = decide (a ≤ b) := by
  show (!PySem.W.dataLt (.int b) (.int a)) = _
  rw [PySem.W.dataLt_int]
  by_cases h : a ≤ b
  · rw [decide_eq_true h, decide_eq_false (by omega)]; rfl
  · rw [decide_eq_false h, decide_eq_true (by omega)]; rfl
theorem alike_iD (l : List Int) : alikeB (iD l) = true := by
  unfold alikeB
  refine List.all_eq_true.mpr fun x hx => List.all_eq_true.mpr fun y hy => ?_
  obtain ⟨a, _, rfl⟩ := iD_mem hx
  obtain ⟨b, _, rfl⟩ := iD_mem hy
  rfl
theorem sort_ints (l : List Int) (h : l.length ≤ 100000) : sort2G [.lst (iD l)] = some (.lst (iD (sortI l))) := by
  have hsb : sortB (iD l) = true := by
    unfold sortB
    rw [Bool.or_eq_true]
    right
    refine List.all_eq_true.mpr fun x hx => ?_
    obtain ⟨a, _, rfl⟩ := iD_mem hx
    rfl
  rw [sort2G_lst]
  unfold sortG
  dsimp only
  rw [if_pos ⟨okDs_int 50 l, alike_iD l, hsb, by rw [iD_len]; omega⟩]
  congr 2
  unfold iD sortI
  exact (List.map_mergeSort (r := fun a b => decide (a ≤ b)) (s := leD') (f := D.int) (l := l) (fun a _ b _ => (leI_int a b).symm)).symm
end DL

namespace DL
open PySem L2
/-! ### the sorts again, in a form that the kernel runs -/
def insB {α : Type} (le : α → α → Bool) (a : α) : List α → List α
  | [] => [a]
  | b :: l => if le a b = true then a :: b :: l else b :: insB le a l
def isrt {α : Type} (le : α → α → Bool) : List α → List α
  | [] => []
  | a :: l => insB le a (isrt le l)
theorem mergeSort_isrt {α : Type} {le : α → α → Bool} (tr : ∀ a b c : α, le a b = true → le b c = true → le a c = true) (tot : ∀ a b : α, (le a b || le b a) = true) : ∀ l : List α, l.mergeSort le = isrt le l
  | [] => by rw [List.mergeSort_nil]; rfl
  | a :: l => by
    obtain ⟨l1, l2, e1, e2, h⟩ := List.mergeSort_cons tr tot a l
    have hs := List.pairwise_mergeSort tr tot (a :: l)
    rw [e1] at hs ⊢
    show _ = insB le a (isrt le l)
    rw [← mergeSort_isrt tr tot l, e2]
    have hs2 := (List.pairwise_append.mp hs).2.1
    clear e1 e2 hs
    induction l1 with
    | nil =>
      cases l2 with
      | nil => rfl
      | cons y l2 =>
        have := (List.pairwise_cons.mp hs2).1 y List.mem_cons_self
        show _ = insB le a (y :: l2)
        rw [insB, if_pos this]; rfl
    | cons b l1 ih =>
      have hb := h b List.mem_cons_self
      rw [Bool.not_eq_true'] at hb
      show b :: (l1 ++ a :: l2) = insB le a (b :: (l1 ++ l2))
      rw [insB, if_neg (by rw [hb]; exact Bool.false_ne_true), ih fun c hc => h c (List.mem_cons_of_mem _ hc)]
theorem leD_total : PySem.W.TotalLe leD' := PySem.W.sortLe_total (PyProof.Rows.listOrd PyProof.Rows.itemOrd) false (fun b : D => PySem.W.keyToks (toPy b))
def leIB : Int → Int → Bool := fun a b => decide (a ≤ b)
def sortIK (ks : List Int) : List Int := isrt leIB ks
theorem sortI_K (ks : List Int) : sortI ks = sortIK ks := mergeSort_isrt (le := leIB) (fun a b c h1 h2 => by unfold leIB at *; rw [decide_eq_true_iff] at *; omega) (fun a b => by unfold leIB; rw [Bool.or_eq_true, decide_eq_true_iff, decide_eq_true_iff]; omega) ks
def sort2K (ds : List D) : Option D := match ds with
  | [.dic kvs] => match intKs kvs with
    | some ks => if ks.length < 64 then some (.lst ((sortIK ks).map D.int)) else none
    | none => none
  | [.lst xs] => if okDs 50 xs = true ∧ alikeB xs = true ∧ sortB xs = true ∧ xs.length ≤ 16777216 then some (.lst (isrt leD' xs)) else none
  | _ => none
theorem sort2_K : sort2G = sort2K := by
  funext ds
  rcases ds with _ | ⟨d, _ | ⟨e, r⟩⟩
  · rfl
  · cases d <;> try rfl
    · next xs =>
      show (if okDs 50 xs = true ∧ alikeB xs = true ∧ sortB xs = true ∧ xs.length ≤ 16777216 then some (D.lst (xs.mergeSort leD')) else none) = _
      rw [mergeSort_isrt leD_total.trans fun a b => by rw [Bool.or_eq_true]; exact leD_total.total a b]
      rfl
    · next kvs =>
      unfold sort2G sortDG sort2K
      dsimp only
      rcases intKs kvs with _ | ks
      · rfl
      · dsimp only
        by_cases h : ks.length < 64
        · rw [if_pos h, if_pos h, sortI_K]
        · rw [if_neg h, if_neg h]; rfl
  · unfold sort2G sortDG sort2K sortG; cases d <;> rfl
theorem leLL_tr (a b c : List Int) (h1 : leLL a b = true) (h2 : leLL b c = true) : leLL a c = true := by
  rw [leLL_iff] at *
  exact List.not_lt.mpr (List.le_trans (List.not_lt.mp h1) (List.not_lt.mp h2))
theorem leLL_tot (a b : List Int) : (leLL a b || leLL b a) = true := by
  rw [Bool.or_eq_true, leLL_iff, leLL_iff]
  by_cases h : b < a
  · exact .inr fun z => List.lt_irrefl _ (List.lt_trans h z)
  · exact .inl h
def ssK : List D → Option D
  | [.lst xs] => match intsD xs with
    | some l => if l.length ≤ 1000 ∧ (dd l).length < 64 then some (.lst (iD (sortIK (dd l)))) else none
    | none => none
  | [.tup xs] => match intsD xs with
    | some l => if l.length ≤ 1000 ∧ (dd l).length < 64 then some (.lst (iD (sortIK (dd l)))) else none
    | none => none
  | _ => none
def ssTK : List D → Option D
  | [.lst xs] => match tupsI xs with
    | some ls => if ls.length < 64 ∧ sameT ls = true then some (.lst (rowsI (isrt leLL (ddA ls)))) else none
    | none => none
  | _ => none
def ss2K (ds : List D) : Option D := match ssK ds with
  | some d => some d
  | none => ssTK ds
theorem ss_K : ssG = ssK := by
  funext ds
  have e : ∀ l, ssI l = sortIK (dd l) := fun l => sortI_K (dd l)
  unfold ssG ssK
  simp only [e]
  all_goals rfl
theorem ssT_K : ssTG = ssTK := by
  funext ds
  have e : ∀ l, sortLL l = isrt leLL (ddA l) := fun l => mergeSort_isrt leLL_tr leLL_tot (ddA l)
  unfold ssTG ssTK
  simp only [e]
  all_goals rfl
theorem ss2_K : ss2G = ss2K := by
  funext ds
  unfold ss2G ss2K
  rw [ss_K, ssT_K]
  all_goals rfl
end DL

namespace DL
open PySem L2
/-! ### a module's number, by its name -/
theorem pd_gint {X : Cx} {x : Str} {i : Int} {pos : Pos} (hg : Gl X x) (h : ∃ u, X.mg x = some u ∧ RelV (.int i) u) (hd : (x == ("__debug__" : Str)) = false := by decide) : PE X (.Name x pos) (tD X.G (cE (.int i))) := by
  obtain ⟨u, hm, r⟩ := h
  exact pd_const (pe_glob hg hm r hd) fun _ _ => .int _
end DL
namespace DL
open PySem L2
/-- a value that stands in the open state for good -/
def GRep (K : PySem.W.Frag) (d : D) (u : Value) : Prop := ∃ v, RelV v u ∧ ∀ P w F, Rep ⟨P, w, K⟩ F d v
theorem GRep.int {K : PySem.W.Frag} {i : Int} {u : Value} (h : ∃ t, u = .int i t) : GRep K (.int i) u := ⟨.int i, h, fun _ _ _ => .int _⟩
inductive GReps (K : PySem.W.Frag) : List D → List Value → Prop
  | nil : GReps K [] []
  | cons {d : D} {u : Value} {ds : List D} {us : List Value} : GRep K d u → GReps K ds us → GReps K (d :: ds) (u :: us)
theorem GReps.ex {K : PySem.W.Frag} : ∀ {ds : List D} {us : List Value}, GReps K ds us → ∃ vs, Vals vs us ∧ ∀ P w F, RepL ⟨P, w, K⟩ F ds vs
  | _, _, .nil => ⟨[], .nil, fun _ _ _ => .nil⟩
  | _, _, .cons h t => by
    obtain ⟨v, h1, h2⟩ := h
    obtain ⟨vs, h3, h4⟩ := t.ex
    exact ⟨v :: vs, .cons h1 h3, fun P w F => .cons (h2 P w F) (h4 P w F)⟩
theorem GRep.tup {K : PySem.W.Frag} {a : Addr} {o : Obj} {its : Array Value} {n : Nat} {ds : List D} (h : K.lookup a = some o) (h1 : o.cls = .type "tuple") (h2 : o.dict = none) (h3 : o.data = .seq its n) (h4 : its.size ≤ sizeLine) (h5 : GReps K ds its.toList) : GRep K (.tup ds) (.ref a) := by
  obtain ⟨vs, q1, q2⟩ := h5.ex
  exact ⟨.ref a, rfl, fun P w F => .tup (.inr ⟨o, its, n, h, h1, h2, h3, h4, q1⟩) (q2 P w F)⟩
theorem pd_gval {X : Cx} {x : Str} {d : D} {pos : Pos} (hg : Gl X x) (h : ∃ u, X.mg x = some u ∧ GRep X.K d u) (hd : (x == ("__debug__" : Str)) = false := by decide) : PE X (.Name x pos) (tD X.G (cE d)) := by
  obtain ⟨u, hm, v, r, hr⟩ := h
  refine weakE (pe_glob hg hm r hd) fun σ H Q ⟨B, F, Z, η, d', η', ok, hm, q⟩ => ?_
  cases hm
  exact q _ _ _ (Same.refl _) ok (hr _ _ _)
end DL
namespace DL
open PySem L2
/-! ### x is True, x is False, x a truth -/
theorem bl_beq (a b : Bool) : (Value.bool a == Value.bool b) = decide (a = b) := by
  by_cases e : a = b
  · subst e
    exact (beq_self_eq_true (Value.bool a)).trans (decide_eq_true (p := a = a) rfl).symm
  · exact (beq_eq_false_iff_ne.mpr fun z => e (Value.bool.inj z)).trans (decide_eq_false e).symm
section
variable {X : Cx}
theorem op_isBl : OpR X (compareOp .Is) (fun x y H Q => ∃ a b, x = .bl a ∧ y = .bl b ∧ Q (.bl (decide (a = b))) H) := by
  intro pins s σ H x y v u Q I rx ry h
  obtain ⟨a, b, rfl, rfl, q⟩ := h
  cases (show v = Value.bool a from rx)
  cases (show u = Value.bool b from ry)
  exact wpAny_is_plain rfl (fin_bl I q (bl_beq a b).symm)
theorem op_isnBl : OpR X (compareOp .IsNot) (fun x y H Q => ∃ a b, x = .bl a ∧ y = .bl b ∧ Q (.bl (!decide (a = b))) H) := by
  intro pins s σ H x y v u Q I rx ry h
  obtain ⟨a, b, rfl, rfl, q⟩ := h
  cases (show v = Value.bool a from rx)
  cases (show u = Value.bool b from ry)
  exact wpAny_isNot_plain rfl (fin_bl I q (congrArg not (bl_beq a b).symm))
def isB : D → D → Option D
  | .bl a, .bl b => some (.bl (decide (a = b)))
  | _, _ => none
def isnB : D → D → Option D
  | .bl a, .bl b => some (.bl (!decide (a = b)))
  | _, _ => none
theorem View.blV {K : Gd} {F H : Hp} {b : Bool} {v : V} (h : View K F H (.bl b) v) : v = .bl b := by
  cases h with
  | rep h => cases h; rfl
  | «at» h => cases h
theorem op_isB' : OpR X (compareOp .Is) (rOp X.G isB) := weakOp op_isBl fun v w H Q ⟨x, y, z, F, s, e, vx, vy, q⟩ => by
  unfold isB at e
  split at e
  · next a b => cases e; exact ⟨a, b, vx.blV, vy.blV, q _ _ _ Res.same (.bl _)⟩
  · cases e
theorem op_isnB' : OpR X (compareOp .IsNot) (rOp X.G isnB) := weakOp op_isnBl fun v w H Q ⟨x, y, z, F, s, e, vx, vy, q⟩ => by
  unfold isnB at e
  split at e
  · next a b => cases e; exact ⟨a, b, vx.blV, vy.blV, q _ _ _ Res.same (.bl _)⟩
  · cases e
@[simp] theorem isB_bl {a b : Bool} : isB (.bl a) (.bl b) = some (.bl (decide (a = b))) := rfl
@[simp] theorem isnB_bl {a b : Bool} : isnB (.bl a) (.bl b) = some (.bl (!decide (a = b))) := rfl
end
end DL

namespace DL
open PySem L2
/-! ### list + list, list * int, one's own -/
def rOpO (K : Gd) (g : D → D → Option D) : R2 := fun v w H Q => ∃ (x y z : D) (F : Hp), Same F H ∧ g x y = some z ∧ View K F H x v ∧ View K F H y w ∧ ∀ (a : Addr) (o : HO), H a = none → At K F (upd H a o) z a → Q (.ref a) (upd H a o)
def catL : D → D → Option D
  | .lst a, .lst b => if a.length + b.length ≤ 16777216 then some (.lst (a ++ b)) else none
  | _, _ => none
def repL : D → D → Option D
  | .lst xs, .int k => if xs.length ≤ 1000 ∧ -1000 ≤ k ∧ k ≤ 1000 then some (.lst (List.replicate k.toNat xs).flatten) else none
  | _, _ => none
section
variable {X : Cx} {a b : Expr} {pos : Pos}
theorem op_catO : OpR X (binaryOp .Add) (rOpO X.G catL) :=
  weakOp op_cat fun v w H Q ⟨x, y, z, F, s, e, vx, vy, q⟩ => by
    unfold catL at e
    split at e
    · next xs ys =>
      split at e
      · next hl =>
        cases e
        obtain ⟨p1, vs1, rfl, h1, r1⟩ := vx.lst s
        obtain ⟨p2, vs2, rfl, h2, r2⟩ := vy.lst s
        exact ⟨p1, p2, vs1, vs2, rfl, rfl, h1, h2, line_eq (by rw [← r1.length, ← r2.length]; exact hl), fun p hp => q _ _ hp (.lst upd_same (r1.append r2))⟩
      · cases e
    · cases e
theorem op_repO : OpR X (binaryOp .Mult) (rOpO X.G repL) :=
  weakOp op_rep fun v w H Q ⟨x, y, z, F, s, e, vx, vy, q⟩ => by
    unfold repL at e
    split at e
    · next a k =>
      split at e
      · next hl =>
        cases e
        obtain ⟨p1, vs1, rfl, h1, r1⟩ := vx.lst s
        have hy := vy.int
        subst hy
        have hlen := r1.length
        have hb : vs1.length * k.toNat ≤ 1000 * 1000 := Nat.mul_le_mul (by omega) (by omega)
        have hs := sizeLine_eq
        exact ⟨p1, k, vs1, rfl, rfl, h1, by omega, by omega, by omega, fun p hp => q _ _ hp (.lst upd_same (r1.rep _))⟩
      · cases e
    · cases e
theorem po_op2 {op : Operator} {g : D → D → Option D} {ma mb : VM} (ho : OpR X (binaryOp op) (rOpO X.G g)) (ha : PE X a (tV X.G ma)) (hb : PE X b (tV X.G mb)) : PE X (.BinOp a op b pos) (tO X.G (bin2 g ma mb)) := weakE (pe_op ho ha hb) fun σ H Q ⟨B, F, Z, η, d, η', ok, hm, q⟩ => by
  obtain ⟨η1, pa, pb, x, y, h1, h2, h3, h4, h5⟩ := bin2_inv hm
  refine ⟨B, F, Z, η, η1, pa, ok, h1, fun v H1 F1 s1 ok1 r1 => ⟨B, F1, Z, η1, η', pb, ok1, h2, fun w H2 F2 s2 ok2 r2 => ?_⟩⟩
  refine ⟨x, y, d, F2, ok2.ff, h5, r1 F2 _ H2 x s2 ok2 h3, r2 F2 _ H2 y (Same.refl _) ok2 h4, fun p o hp hA => ?_⟩
  exact q _ _ _ (s1.trans s2) (ok2.newH hp) (ok2.bnone hp) (ok2.free hp) hA fun i e hi => ok2.notNew hp i e hi
@[simp] theorem catL_lst {xs ys : List D} : catL (.lst xs) (.lst ys) = if xs.length + ys.length ≤ 16777216 then some (.lst (xs ++ ys)) else none := rfl
@[simp] theorem repL_lst {xs : List D} {k : Int} : repL (.lst xs) (.int k) = if xs.length ≤ 1000 ∧ -1000 ≤ k ∧ k ≤ 1000 then some (.lst (List.replicate k.toNat xs).flatten) else none := rfl
end
end DL

namespace DL
open PySem L2
/-! ### rows of pairs of numbers, sorted -/
def prI (p : Int × Int) : D := .tup [.int p.1, .int p.2]
def leP (a b : Int × Int) : Bool := !decide ([b.1, b.2] < [a.1, a.2])
def sortP (l : List (Int × Int)) : List (Int × Int) := l.mergeSort leP
theorem leP_pr (a b : Int × Int) : leD' (prI a) (prI b) = leP a b := by
  have h := PySem.W.dataLt_ints [b.1, b.2] [a.1, a.2]
  show (!PySem.W.dataLt (.tuple [.int b.1, .int b.2]) (.tuple [.int a.1, .int a.2])) = _
  rw [PySem.W.dataLt_tuple]
  unfold PySem.W.rowLt at h
  simp only [List.map_cons, List.map_nil] at h
  rw [h]; rfl
theorem sort_pairs (l : List (Int × Int)) (h : l.length ≤ 100000) : sort2G [.lst (l.map prI)] = some (.lst ((sortP l).map prI)) := by
  have hok : okDs 50 (l.map prI) = true := okDs_all.mpr fun d hd => by obtain ⟨p, _, rfl⟩ := List.mem_map.mp hd; simp [prI, okD, okDs]
  have hal : alikeB (l.map prI) = true := by
    unfold alikeB
    refine List.all_eq_true.mpr fun x hx => List.all_eq_true.mpr fun y hy => ?_
    obtain ⟨a, _, rfl⟩ := List.mem_map.mp hx
    obtain ⟨b, _, rfl⟩ := List.mem_map.mp hy
    rfl
  have hsb : sortB (l.map prI) = true := by
    unfold sortB
    rw [Bool.or_eq_true]
    left
    refine List.all_eq_true.mpr fun x hx => ?_
    obtain ⟨a, _, rfl⟩ := List.mem_map.mp hx
    rfl
  rw [sort2G_lst]
  unfold sortG
  dsimp only
  rw [if_pos ⟨hok, hal, hsb, by rw [List.length_map]; omega⟩]
  congr 2
  unfold sortP
  exact (List.map_mergeSort (r := leP) (s := leD') (f := prI) (l := l) (fun a _ b _ => (leP_pr a b).symm)).symm
theorem leP_iff {a b : Int × Int} : leP a b = true ↔ a.1 < b.1 ∨ (a.1 = b.1 ∧ a.2 ≤ b.2) := by
  unfold leP
  rw [Bool.not_eq_true', decide_eq_false_iff_not, List.cons_lt_cons_iff, List.cons_lt_cons_iff]
  have h : ¬ ([] : List Int) < [] := List.not_lt_nil _
  constructor
  · intro z
    by_cases h1 : b.1 < a.1
    · exact (z (.inl h1)).elim
    · by_cases h2 : a.1 = b.1
      · right
        refine ⟨h2, ?_⟩
        by_cases h3 : b.2 < a.2
        · exact (z (.inr ⟨h2.symm, .inl h3⟩)).elim
        · omega
      · left; omega
  · rintro z (y | ⟨y1, y2 | ⟨_, y3⟩⟩)
    · omega
    · omega
    · exact h y3
/-- a row whose first numbers rise is the sorted one of every row of the same pairs -/
theorem sortP_uniq {l ns : List (Int × Int)} (hp : ns.Pairwise fun a b => a.1 < b.1) (hm : List.Perm ns l) : sortP l = ns := by
  have tr : ∀ a b c : Int × Int, leP a b = true → leP b c = true → leP a c = true := fun a b c h1 h2 => by
    rw [leP_iff] at *
    omega
  have to : ∀ a b : Int × Int, (leP a b || leP b a) = true := fun a b => by
    rw [Bool.or_eq_true, leP_iff, leP_iff]
    omega
  have hs := List.pairwise_mergeSort (le := leP) tr to l
  refine List.Perm.eq_of_pairwise (le := fun a b => leP a b = true) (fun a b _ _ h1 h2 => ?_) hs (hp.imp fun h => leP_iff.mpr (.inl h)) ((List.mergeSort_perm l leP).trans hm.symm)
  rw [leP_iff] at h1 h2
  obtain ⟨a1, a2⟩ := a
  obtain ⟨b1, b2⟩ := b
  dsimp only at *
  have e1 : a1 = b1 := by omega
  have e2 : a2 = b2 := by omega
  rw [e1, e2]
end DL

namespace DL
open PySem L2
/-! ### types whose values lie as numbers and tuples of such -/
theorem okD_keyN : ∀ (n : Nat) (d : D), pureD d = true → okD n d = true → ∃ k, keyN d = some k ∧ k.depth ≤ n
  | _, .int i, _, _ => ⟨.num i, rfl, by simp [NestedKey.depth]⟩
  | 0, .tup xs, _, h => by simp [okD] at h
  | n + 1, .tup xs, hp, h => by
    rw [okD] at h
    rw [pureD] at hp
    have key : ∀ ys : List D, pureDs ys = true → okDs n ys = true → ∃ ks, keyNs ys = some ks ∧ NestedKey.depthAll ks ≤ n := by
      intro ys
      induction ys with
      | nil => intro _ _; exact ⟨[], rfl, by simp [NestedKey.depthAll]⟩
      | cons y ys ih =>
        intro h1 h2
        rw [pureDs, Bool.and_eq_true] at h1
        rw [okDs, Bool.and_eq_true] at h2
        obtain ⟨k, e1, e2⟩ := okD_keyN n y h1.1 h2.1
        obtain ⟨ks, e3, e4⟩ := ih h1.2 h2.2
        exact ⟨k :: ks, by rw [keyNs, e1, e3], by simp only [NestedKey.depthAll]; omega⟩
    obtain ⟨ks, e1, e2⟩ := key xs hp h
    exact ⟨.tup ks, by rw [keyN, e1], by simp only [NestedKey.depth]; omega⟩
  | _, .non, ha, _ => by simp [pureD] at ha
  | _, .bl _, ha, _ => by simp [pureD] at ha
  | _, .str _, ha, _ => by simp [pureD] at ha
  | _, .lst _, ha, _ => by simp [pureD] at ha
  | _, .frl _, ha, _ => by simp [pureD] at ha
  | _, .dic _, ha, _ => by simp [pureD] at ha
  | _, .set _, ha, _ => by simp [pureD] at ha
structure PEnc (α : Type) where
  e : α → D
  pure : ∀ a, pureD (e a) = true
  inj : ∀ a b, e a = e b → a = b
  dep : Nat
  ok : ∀ a, okD dep (e a) = true
  kind : (∀ a, scalK (e a) = true) ∨ (∀ a, ∃ xs, e a = .tup xs)
namespace PEnc
variable {α β γ δ : Type}
def int : PEnc Int where
  e := .int
  pure := fun _ => rfl
  inj := fun a b h => by cases h; rfl
  dep := 0
  ok := fun _ => rfl
  kind := .inl fun _ => rfl
def nat : PEnc Nat where
  e := fun n => .int (n : Int)
  pure := fun _ => rfl
  inj := fun a b h => by simp only [D.int.injEq] at h; omega
  dep := 0
  ok := fun _ => rfl
  kind := .inl fun _ => rfl
theorem okM (A : PEnc α) {n : Nat} (a : α) (h : A.dep ≤ n) : okD n (A.e a) = true := okD_mono _ _ _ h (A.ok a)
def two (A : PEnc α) (B : PEnc β) : PEnc (α × β) where
  e := fun r => .tup [A.e r.1, B.e r.2]
  pure := fun r => by simp [pureD, pureDs, A.pure, B.pure]
  inj := fun a b h => by
    simp only [D.tup.injEq, List.cons.injEq, and_true] at h
    exact Prod.ext (A.inj _ _ h.1) (B.inj _ _ h.2)
  dep := max A.dep B.dep + 1
  ok := fun r => by rw [okD]; simp [okDs, A.okM r.1 (Nat.le_max_left A.dep B.dep), B.okM r.2 (Nat.le_max_right A.dep B.dep)]
  kind := .inr fun _ => ⟨_, rfl⟩
def three (A : PEnc α) (B : PEnc β) (C : PEnc γ) : PEnc (α × β × γ) where
  e := fun r => .tup [A.e r.1, B.e r.2.1, C.e r.2.2]
  pure := fun r => by simp [pureD, pureDs, A.pure, B.pure, C.pure]
  inj := fun a b h => by
    simp only [D.tup.injEq, List.cons.injEq, and_true] at h
    exact Prod.ext (A.inj _ _ h.1) (Prod.ext (B.inj _ _ h.2.1) (C.inj _ _ h.2.2))
  dep := max A.dep (max B.dep C.dep) + 1
  ok := fun r => by rw [okD]; simp [okDs, A.okM r.1 (show A.dep ≤ max A.dep (max B.dep C.dep) by omega), B.okM r.2.1 (show B.dep ≤ max A.dep (max B.dep C.dep) by omega), C.okM r.2.2 (show C.dep ≤ max A.dep (max B.dep C.dep) by omega)]
  kind := .inr fun _ => ⟨_, rfl⟩
def four (A : PEnc α) (B : PEnc β) (C : PEnc γ) (E : PEnc δ) : PEnc (α × β × γ × δ) where
  e := fun r => .tup [A.e r.1, B.e r.2.1, C.e r.2.2.1, E.e r.2.2.2]
  pure := fun r => by simp [pureD, pureDs, A.pure, B.pure, C.pure, E.pure]
  inj := fun a b h => by
    simp only [D.tup.injEq, List.cons.injEq, and_true] at h
    exact Prod.ext (A.inj _ _ h.1) (Prod.ext (B.inj _ _ h.2.1) (Prod.ext (C.inj _ _ h.2.2.1) (E.inj _ _ h.2.2.2)))
  dep := max A.dep (max B.dep (max C.dep E.dep)) + 1
  ok := fun r => by rw [okD]; simp [okDs, A.okM r.1 (show A.dep ≤ max A.dep (max B.dep (max C.dep E.dep)) by omega), B.okM r.2.1 (show B.dep ≤ max A.dep (max B.dep (max C.dep E.dep)) by omega), C.okM r.2.2.1 (show C.dep ≤ max A.dep (max B.dep (max C.dep E.dep)) by omega), E.okM r.2.2.2 (show E.dep ≤ max A.dep (max B.dep (max C.dep E.dep)) by omega)]
  kind := .inr fun _ => ⟨_, rfl⟩
theorem pures (A : PEnc α) (l : List α) : pureDs (l.map A.e) = true := pureDs_all.mpr fun x hx => by obtain ⟨a, _, rfl⟩ := List.mem_map.mp hx; exact A.pure a
theorem oks (A : PEnc α) (l : List α) {n : Nat} (h : A.dep ≤ n) : okDs n (l.map A.e) = true := okDs_all.mpr fun x hx => by obtain ⟨a, _, rfl⟩ := List.mem_map.mp hx; exact A.okM a h
theorem injs (A : PEnc α) : ∀ (a b : List α), a.map A.e = b.map A.e → a = b
  | [], [], _ => rfl
  | [], _ :: _, h => by cases h
  | _ :: _, [], h => by cases h
  | a :: l, b :: r, h => by
    rw [List.map_cons, List.map_cons, List.cons.injEq] at h
    rw [A.inj a b h.1, injs A l r h.2]
def row (A : PEnc α) : PEnc (List α) where
  e := fun l => .tup (l.map A.e)
  pure := fun l => by rw [pureD]; exact A.pures l
  inj := fun a b h => by simp only [D.tup.injEq] at h; exact A.injs a b h
  dep := A.dep + 1
  ok := fun l => by rw [okD]; exact A.oks l (Nat.le_refl _)
  kind := .inr fun _ => ⟨_, rfl⟩
/-- a type that another one holds -/
def sub (A : PEnc α) (f : β → α) (hf : ∀ a b, f a = f b → a = b) : PEnc β where
  e := fun b => A.e (f b)
  pure := fun b => A.pure _
  inj := fun a b h => hf a b (A.inj _ _ h)
  dep := A.dep
  ok := fun b => A.ok _
  kind := A.kind.imp (fun h b => h _) (fun h b => h _)
variable [DecidableEq α]
theorem emb (A : PEnc α) (h : A.dep ≤ 8) : KeyEmb A.e := ⟨A.kind.imp id fun k a => by
  obtain ⟨xs, e⟩ := k a
  have hp := A.pure a
  obtain ⟨n, e1, e2⟩ := okD_keyN 8 (A.e a) hp (A.okM a h)
  rw [e] at e1 ⊢
  simp only [tupK, e1]
  simpa using e2, fun a b => by
  unfold keyEq
  refine decide_eq_decide.mpr ⟨fun h => A.inj a b (pure_keyN _ _ (A.pure a) (A.pure b) h), fun h => by rw [h]⟩⟩
theorem eqb (A : PEnc α) (h : A.dep ≤ 58) (a b : α) : DL.eqb (A.e a) (A.e b) = decide (a = b) := by
  rw [Bool.eq_iff_iff, decide_eq_true_iff]
  exact ⟨fun h => A.inj a b (pure_eqb _ _ (A.pure a) (A.pure b) h), fun e => by rw [e]; exact eqb_refl (A.okM b (show A.dep ≤ 60 by omega))⟩
theorem eqD (A : PEnc α) (h : A.dep ≤ 58) (a b : α) : DL.eqD (A.e a) (A.e b) = some (.bl (decide (a = b))) := by
  unfold DL.eqD
  rw [A.okM a (show A.dep ≤ 60 by omega), A.okM b (show A.dep ≤ 60 by omega), A.eqb h]; rfl
theorem neD (A : PEnc α) (h : A.dep ≤ 58) (a b : α) : DL.neD (A.e a) (A.e b) = some (.bl (!decide (a = b))) := by
  unfold DL.neD
  rw [A.okM a (show A.dep ≤ 60 by omega), A.okM b (show A.dep ≤ 60 by omega), A.eqb h]; rfl
theorem anyq (A : PEnc α) (h : A.dep ≤ 58) (a : α) (l : List α) : (l.map A.e).any (fun y => DL.eqb y (A.e a)) = decide (a ∈ l) := by
  rw [Bool.eq_iff_iff, List.any_eq_true, decide_eq_true_iff]
  constructor
  · rintro ⟨x, hx, e⟩
    obtain ⟨b, hb, rfl⟩ := List.mem_map.mp hx
    rw [A.eqb h, decide_eq_true_iff] at e
    rw [← e]; exact hb
  · intro hm
    exact ⟨A.e a, List.mem_map.mpr ⟨a, hm, rfl⟩, by rw [A.eqb h]; simp⟩
theorem inL (A : PEnc α) (h : A.dep ≤ 58) (a : α) (l : List α) : inD (A.e a) (.lst (l.map A.e)) = some (.bl (decide (a ∈ l))) := by
  show (if okD 58 (A.e a) && okDs 58 (l.map A.e) then some (D.bl ((l.map A.e).any fun z => DL.eqb z (A.e a))) else none) = _
  rw [A.okM a h, A.oks l h, A.anyq h]; rfl
theorem inT (A : PEnc α) (h : A.dep ≤ 58) (a : α) (l : List α) : inD (A.e a) (.tup (l.map A.e)) = some (.bl (decide (a ∈ l))) := by
  show (if okD 58 (A.e a) && okDs 58 (l.map A.e) then some (D.bl ((l.map A.e).any fun z => DL.eqb z (A.e a))) else none) = _
  rw [A.okM a h, A.oks l h, A.anyq h]; rfl
theorem ninL (A : PEnc α) (h : A.dep ≤ 58) (a : α) (l : List α) : ninD (A.e a) (.lst (l.map A.e)) = some (.bl (!decide (a ∈ l))) := by unfold ninD; rw [A.inL h]
theorem ninT (A : PEnc α) (h : A.dep ≤ 58) (a : α) (l : List α) : ninD (A.e a) (.tup (l.map A.e)) = some (.bl (!decide (a ∈ l))) := by unfold ninD; rw [A.inT h]
theorem eqL (A : PEnc α) (h : A.dep ≤ 57) (a b : List α) : DL.eqD (.lst (a.map A.e)) (.lst (b.map A.e)) = some (.bl (decide (a = b))) := by
  have h1 := (A.row.eqb (show A.dep + 1 ≤ 58 by omega) a b)
  unfold DL.eqD
  rw [show okD 60 (.lst (a.map A.e)) = okDs 59 (a.map A.e) by rw [okD], show okD 60 (.lst (b.map A.e)) = okDs 59 (b.map A.e) by rw [okD], A.oks a (by omega), A.oks b (by omega)]
  show some (D.bl (DL.eqb (.lst (a.map A.e)) (.lst (b.map A.e)))) = _
  rw [show DL.eqb (.lst (a.map A.e)) (.lst (b.map A.e)) = DL.eqb (A.row.e a) (A.row.e b) from rfl, h1]
theorem neL (A : PEnc α) (h : A.dep ≤ 57) (a b : List α) : DL.neD (.lst (a.map A.e)) (.lst (b.map A.e)) = some (.bl (!decide (a = b))) := by
  have h1 := A.eqL h a b
  unfold DL.eqD at h1
  unfold DL.neD
  split at h1
  · next hc =>
    rw [if_pos hc]
    simp only [Option.some.injEq, D.bl.injEq] at h1
    rw [h1]
  · cases h1
theorem findq (A : PEnc α) (h : A.dep ≤ 58) (a : α) (l : List α) : (l.map A.e).findIdx? (fun z => DL.eqb z (A.e a)) = l.findIdx? fun b => decide (b = a) := by
  rw [List.findIdx?_map]
  congr 1
  funext b
  exact A.eqb h b a
theorem indexL (A : PEnc α) (h : A.dep ≤ 58) (a : α) (l : List α) : indexG (.lst (l.map A.e)) (A.e a) = (l.findIdx? fun b => decide (b = a)).map fun j => .int (j : Nat) := by
  unfold indexG seqD
  dsimp only
  rw [if_pos ⟨A.oks l h, A.okM a h⟩, A.findq h]
theorem indexT (A : PEnc α) (h : A.dep ≤ 58) (a : α) (l : List α) : indexG (.tup (l.map A.e)) (A.e a) = (l.findIdx? fun b => decide (b = a)).map fun j => .int (j : Nat) := by
  unfold indexG seqD
  dsimp only
  rw [if_pos ⟨A.oks l h, A.okM a h⟩, A.findq h]
theorem place (A : PEnc α) (h : A.dep ≤ 58) (a : α) (l : List α) : placeG (.lst (l.map A.e)) (A.e a) = (l.findIdx? fun b => decide (b = a)).map fun j => .int (j : Nat) := by
  unfold placeG
  dsimp only
  rw [if_pos ⟨A.oks l h, A.okM a h⟩, A.findq h]
  cases l.findIdx? fun b => decide (b = a) <;> rfl
theorem same (A : PEnc α) (h : A.dep ≤ 58) (a : α) (hz : szD (A.e a) ≤ 1000000) {Q : D → Env → Prop} : wF sem__law_same [.sh (A.e a), .sh (A.e a)] Q = Q (.bl true) [.no, .no] := wF_same (A.okM a h) hz
theorem same2 (A : PEnc α) (h : A.dep ≤ 58) (a : α) (hz : szD (A.e a) ≤ 1000000) {Q : D → Env → Prop} : wF sem__law_same2 [.sh (A.e a), .sh (A.e a)] Q = Q (.bl true) [.no, .no] := same2_plain (A.okM a h) hz
theorem sz_row (A : PEnc α) {c : Nat} (l : List α) (h : ∀ a ∈ l, szD (A.e a) ≤ c) : szD (.tup (l.map A.e)) ≤ c * l.length + 1 := by
  have := szDs_le (c := c) (l := l.map A.e) fun x hx => by obtain ⟨a, ha, rfl⟩ := List.mem_map.mp hx; exact h a ha
  rw [List.length_map] at this
  rw [szD]; omega
/-! sorted rows -/
def le (A : PEnc α) (a b : α) : Bool := leD' (A.e a) (A.e b)
end PEnc
theorem same2_bl {b : Bool} {Q : D → Env → Prop} : wF sem__law_same2 [.sh (.bl b), .sh (.bl b)] Q = Q (.bl true) [.no, .no] := same2_plain (by simp [okD]) (by simp [szD])
theorem same2_int {b : Int} {Q : D → Env → Prop} : wF sem__law_same2 [.sh (.int b), .sh (.int b)] Q = Q (.bl true) [.no, .no] := same2_plain (by simp [okD]) (by simp [szD])
theorem same2_non {Q : D → Env → Prop} : wF sem__law_same2 [.sh .non, .sh .non] Q = Q (.bl true) [.no, .no] := same2_plain (by simp [okD]) (by simp [szD])
/-- a name for an invariant, so that simp does not go into it -/
theorem nameI {α : Sort _} (P : α) : ∃ I : α, I = P := ⟨P, rfl⟩
theorem findIdx_at {α : Type} [DecidableEq α] {l : List α} {a : α} {j : Nat} (hj : l[j]? = some a) (h : ∀ i, i < j → l[i]? ≠ some a) : (l.findIdx? fun b => decide (b = a)) = some j := by
  rw [List.findIdx?_eq_some_iff_getElem]
  have hl := (List.getElem?_eq_some_iff.mp hj).1
  refine ⟨hl, by simp [(List.getElem?_eq_some_iff.mp hj).2], fun i hi => ?_⟩
  have := h i hi
  rw [List.getElem?_eq_getElem (by omega)] at this
  simpa using this
/-! ### comprehensions over typed lists -/
section
variable {η : Env} {vs : List Nat} {g : TgM} {tt : BM} {te : EM} {Q : D → Env → Prop} {i j : Nat} {α : Type} {l : List α}
theorem wX_fav (e f : α → D) (c : α → Bool)
    (step : ∀ a, a ∈ l → wO (g (e a) (clearL vs η)) fun η1 => wB tt η1 fun t η2 => t = c a ∧ (c a = true → wE te η2 fun y η3 => y = f a ∧ clearL vs η3 = clearL vs η) ∧ (c a = false → clearL vs η2 = clearL vs η))
    (last : ∀ ζ, clearL vs ζ = clearL vs η → Q (.lst ((l.filter c).map f)) (restL vs η ζ)) : wX (lcL vs g tt te (l.map e) η) (wE_lcE_k2 vs Q η) := by
  refine wX_lc (fun i ys ζ => ys = ((l.take i).filter c).map f ∧ clearL vs ζ = clearL vs η) ⟨rfl, rfl⟩ ?_ ?_
  · rintro i d ys ζ hd ⟨rfl, hz⟩
    rw [List.getElem?_map] at hd
    obtain ⟨a, ha, rfl⟩ := Option.map_eq_some_iff.mp hd
    have h := step a (List.mem_of_getElem? ha)
    rw [hz]
    rcases hgd : g (e a) (clearL vs η) with _ | η1
    · rw [hgd] at h; exact h
    rw [hgd] at h
    simp only [wO_some'] at h ⊢
    unfold wB at *
    rcases htt : tt η1 with _ | ⟨t, η2⟩
    · rw [htt] at h; exact h
    rw [htt] at h
    obtain ⟨rfl, h1, h2⟩ := h
    have ht : l.take (i + 1) = l.take i ++ [a] := by rw [List.take_add_one, ha]; rfl
    refine ⟨fun e => wE_mono (h1 e) fun y η3 ⟨a, b⟩ => ⟨?_, b⟩, fun e => ⟨?_, h2 e⟩⟩
    · rw [ht, List.filter_append, List.map_append, a]; simp [e]
    · rw [ht, List.filter_append, List.map_append]; simp [e]
  · rintro ys ζ ⟨rfl, hz⟩
    rw [List.length_map, List.take_length]
    exact last ζ hz
/-- [f(x) for x in l if c(x)] -/
theorem wX_fa (e f : α → D) (c : α → Bool)
    (step : ∀ a, a ∈ l → wO (g (e a) (η.set i .no)) fun η1 => wB tt η1 fun t η2 => t = c a ∧ (c a = true → wE te η2 fun y η3 => y = f a ∧ η3.set i .no = η.set i .no) ∧ (c a = false → η2.set i .no = η.set i .no))
    (last : Q (.lst ((l.filter c).map f)) (restL [i] η (η.set i .no))) : wX (lcL [i] g tt te (l.map e) η) (wE_lcE_k2 [i] Q η) :=
  wX_fav e f c step fun ζ hz => by rw [restL1 hz]; exact last
theorem wX_fa2 (e f : α → D) (c : α → Bool) (hij : i ≠ j)
    (step : ∀ a, a ∈ l → wO (g (e a) ((η.set i .no).set j .no)) fun η1 => wB tt η1 fun t η2 => t = c a ∧ (c a = true → wE te η2 fun y η3 => y = f a ∧ (η3.set i .no).set j .no = (η.set i .no).set j .no) ∧ (c a = false → (η2.set i .no).set j .no = (η.set i .no).set j .no))
    (last : Q (.lst ((l.filter c).map f)) (restL [i, j] η ((η.set i .no).set j .no))) : wX (lcL [i, j] g tt te (l.map e) η) (wE_lcE_k2 [i, j] Q η) :=
  wX_fav e f c step fun ζ hz => by rw [restL2 hz hij]; exact last
/-- [f(x) for x in l] -/
theorem wX_ma (e f : α → D) (step : ∀ a, a ∈ l → wO (g (e a) (η.set i .no)) fun η1 => wE te η1 fun y η3 => y = f a ∧ η3.set i .no = η.set i .no)
    (last : Q (.lst (l.map f)) (restL [i] η (η.set i .no))) : wX (lcL [i] g trueB te (l.map e) η) (wE_lcE_k2 [i] Q η) := by
  refine wX_fa e f (fun _ => true) (fun d hd => ?_) (by rw [show l.filter (fun _ => true) = l from List.filter_eq_self.mpr fun _ _ => rfl]; exact last)
  have h := step d hd
  rcases hgd : g (e d) (η.set i .no) with _ | η1
  · rw [hgd] at h; exact h
  rw [hgd] at h
  simp only [wO_some', wB_trueB] at h ⊢
  exact ⟨True.intro, fun _ => h, fun z => nomatch z⟩
theorem wX_ma2 (e f : α → D) (hij : i ≠ j) (step : ∀ a, a ∈ l → wO (g (e a) ((η.set i .no).set j .no)) fun η1 => wE te η1 fun y η3 => y = f a ∧ (η3.set i .no).set j .no = (η.set i .no).set j .no)
    (last : Q (.lst (l.map f)) (restL [i, j] η ((η.set i .no).set j .no))) : wX (lcL [i, j] g trueB te (l.map e) η) (wE_lcE_k2 [i, j] Q η) := by
  refine wX_fa2 e f (fun _ => true) hij (fun d hd => ?_) (by rw [show l.filter (fun _ => true) = l from List.filter_eq_self.mpr fun _ _ => rfl]; exact last)
  have h := step d hd
  rcases hgd : g (e d) ((η.set i .no).set j .no) with _ | η1
  · rw [hgd] at h; exact h
  rw [hgd] at h
  simp only [wO_some', wB_trueB] at h ⊢
  exact ⟨True.intro, fun _ => h, fun z => nomatch z⟩
end
theorem rangeN (n : Nat) : rangeD 0 (n : Int) = (List.range n).map fun k : Nat => .int (k : Int) := by
  unfold rangeD
  rw [show ((n : Int) - 0).toNat = n by omega]
  refine List.map_congr_left fun k _ => ?_
  rw [Int.zero_add]
theorem rangeN2 (lo hi : Int) : rangeD lo hi = (List.range (hi - lo).toNat).map fun k : Nat => .int (lo + (k : Int)) := rfl
end DL

namespace DL
open PySem L2
/-! ### a tape: rows of (place, sign), places rise, signs above 0 -/
abbrev Tp := List (Int × Int)
structure TpOk (l : Tp) : Prop where
  up : l.Pairwise fun a b => a.1 < b.1
  pos : ∀ x ∈ l, 0 < x.2
theorem TpOk.nil : TpOk [] := ⟨List.Pairwise.nil, fun x h => nomatch h⟩
theorem TpOk.tail {a : Int × Int} {l : Tp} (h : TpOk (a :: l)) : TpOk l := ⟨(List.pairwise_cons.mp h.up).2, fun x hx => h.pos x (List.mem_cons_of_mem _ hx)⟩
def look (l : Tp) (p : Int) : Int := (agetG l p).getD 0
theorem look_nil (p : Int) : look [] p = 0 := rfl
theorem look_cons (q t : Int) (l : Tp) (p : Int) : look ((q, t) :: l) p = if q = p then t else look l p := by
  unfold look agetG
  rw [List.find?_cons]
  by_cases h : q = p
  · simp [h]
  · simp [h]
theorem look_low {l : Tp} {p : Int} (h : ∀ x ∈ l, p < x.1) : look l p = 0 := by
  induction l with
  | nil => rfl
  | cons a l ih =>
    obtain ⟨q, t⟩ := a
    rw [look_cons, if_neg (by have := h _ List.mem_cons_self; dsimp at this; omega), ih fun x hx => h x (List.mem_cons_of_mem _ hx)]
theorem look_none {l : Tp} {p : Int} (h : ∀ x ∈ l, x.1 ≠ p) : look l p = 0 := by
  induction l with
  | nil => rfl
  | cons a l ih =>
    obtain ⟨q, t⟩ := a
    rw [look_cons, if_neg (h _ List.mem_cons_self), ih fun x hx => h x (List.mem_cons_of_mem _ hx)]
theorem TpOk.low {q t : Int} {l : Tp} (h : TpOk ((q, t) :: l)) {p : Int} (hp : p ≤ q) : look l p = 0 := look_low fun x hx => by
  have := (List.pairwise_cons.mp h.up).1 x hx
  dsimp only at this; omega
theorem look_nonneg : ∀ {l : Tp}, TpOk l → ∀ p, 0 ≤ look l p
  | [], _, p => by rw [look_nil]; exact Int.le_refl _
  | (q, t) :: l, h, p => by
    rw [look_cons]
    split
    · have := h.pos _ List.mem_cons_self; dsimp only at this; omega
    · exact look_nonneg h.tail p
/-- a tape is told by its signs -/
theorem tp_ext : ∀ {a b : Tp}, TpOk a → TpOk b → (∀ p, look a p = look b p) → a = b
  | [], [], _, _, _ => rfl
  | [], (q, t) :: b, _, hb, h => by
    have := h q
    rw [look_nil, look_cons, if_pos rfl] at this
    have := hb.pos _ List.mem_cons_self; dsimp only at this; omega
  | (q, t) :: a, [], ha, _, h => by
    have := h q
    rw [look_nil, look_cons, if_pos rfl] at this
    have := ha.pos _ List.mem_cons_self; dsimp only at this; omega
  | (q, t) :: a, (r, u) :: b, ha, hb, h => by
    have h1 := h q
    have h2 := h r
    have p1 := ha.pos _ List.mem_cons_self
    have p2 := hb.pos _ List.mem_cons_self
    dsimp only at p1 p2
    rw [look_cons, if_pos rfl, look_cons] at h1
    rw [look_cons, look_cons, if_pos rfl] at h2
    have e : q = r := by
      rcases Int.lt_trichotomy q r with c | c | c
      · rw [if_neg (by omega), hb.low (by omega)] at h1; omega
      · exact c
      · rw [if_neg (by omega), ha.low (by omega)] at h2; omega
    subst e
    rw [if_pos rfl] at h1
    subst h1
    congr 1
    refine tp_ext ha.tail hb.tail fun p => ?_
    have h3 := h p
    rw [look_cons, look_cons] at h3
    by_cases c : q = p
    · subst c; rw [ha.low (Int.le_refl _), hb.low (Int.le_refl _)]
    · rw [if_neg c, if_neg c] at h3; exact h3
def setT : Tp → Int → Int → Tp
  | [], p, s => if 0 < s then [(p, s)] else []
  | (q, t) :: l, p, s => if q < p then (q, t) :: setT l p s else if q = p then (if 0 < s then (p, s) :: l else l) else (if 0 < s then (p, s) :: (q, t) :: l else (q, t) :: l)
theorem setT_mem : ∀ {l : Tp} {p s : Int} {x : Int × Int}, x ∈ setT l p s → (x = (p, s) ∧ 0 < s) ∨ x ∈ l
  | [], p, s, x, h => by
    unfold setT at h
    split at h
    · next hs => rw [List.mem_singleton] at h; exact .inl ⟨h, hs⟩
    · cases h
  | (q, t) :: l, p, s, x, h => by
    unfold setT at h
    split at h
    · rcases List.mem_cons.mp h with h | h
      · right; rw [h]; exact List.mem_cons_self
      · rcases setT_mem h with h | h
        · exact .inl h
        · exact .inr (List.mem_cons_of_mem _ h)
    · split at h
      · split at h
        · next hs =>
          rcases List.mem_cons.mp h with h | h
          · exact .inl ⟨h, hs⟩
          · exact .inr (List.mem_cons_of_mem _ h)
        · exact .inr (List.mem_cons_of_mem _ h)
      · split at h
        · next hs =>
          rcases List.mem_cons.mp h with h | h
          · exact .inl ⟨h, hs⟩
          · exact .inr h
        · exact .inr h
theorem setT_len : ∀ {l : Tp} {p s : Int}, (setT l p s).length ≤ l.length + 1
  | [], p, s => by unfold setT; split <;> simp
  | (q, t) :: l, p, s => by
    have := setT_len (l := l) (p := p) (s := s)
    unfold setT
    split
    · rw [List.length_cons, List.length_cons]; omega
    · split <;> split <;> simp only [List.length_cons] <;> omega
theorem setT_ok : ∀ {l : Tp} {p s : Int}, TpOk l → TpOk (setT l p s)
  | [], p, s, _ => by
    unfold setT
    split
    · next hs => exact ⟨List.pairwise_singleton _ _, fun x hx => by rw [List.mem_singleton] at hx; rw [hx]; exact hs⟩
    · exact ⟨List.Pairwise.nil, fun x hx => nomatch hx⟩
  | (q, t) :: l, p, s, h => by
    have hup := h.up
    rw [List.pairwise_cons] at hup
    have hl : TpOk l := h.tail
    have h0 := h.pos _ List.mem_cons_self
    refine ⟨?_, fun x hx => ?_⟩
    · unfold setT
      split
      · next hqp =>
        rw [List.pairwise_cons]
        refine ⟨fun x hx => ?_, (setT_ok hl).up⟩
        rcases setT_mem hx with ⟨rfl, _⟩ | hx
        · exact hqp
        · exact hup.1 x hx
      · next hqp =>
        split
        · next e =>
          subst e
          split
          · exact List.pairwise_cons.mpr hup
          · exact hup.2
        · next e =>
          split
          · rw [List.pairwise_cons]
            refine ⟨fun x hx => ?_, h.up⟩
            rcases List.mem_cons.mp hx with rfl | hx
            · show p < q; omega
            · have := hup.1 x hx
              show p < x.1
              have : q < x.1 := this
              omega
          · exact h.up
    · rcases setT_mem hx with ⟨rfl, hs⟩ | hx
      · exact hs
      · exact h.pos x hx
theorem look_set : ∀ {l : Tp} {p s : Int}, TpOk l → 0 ≤ s → ∀ q, look (setT l p s) q = if q = p then s else look l q
  | [], p, s, _, h0, q => by
    unfold setT
    split
    · rw [look_cons, look_nil]
      by_cases c : p = q
      · rw [if_pos c, if_pos c.symm]
      · rw [if_neg c, if_neg (fun e => c e.symm)]
    · rw [look_nil]; split <;> omega
  | (r, t) :: l, p, s, h, h0, q => by
    have ih := look_set (p := p) (s := s) h.tail h0 q
    unfold setT
    split
    · next hrp =>
      rw [look_cons, look_cons, ih]
      by_cases c : r = q
      · rw [if_pos c, if_pos c, if_neg (by omega)]
      · rw [if_neg c, if_neg c]
    · next hrp =>
      split
      · next e =>
        subst e
        split
        · rw [look_cons, look_cons]
          by_cases c : r = q
          · rw [if_pos c, if_pos c.symm]
          · rw [if_neg c, if_neg c, if_neg (fun e => c e.symm)]
        · rw [look_cons]
          by_cases c : q = r
          · rw [if_pos c, c, h.low (Int.le_refl _)]; omega
          · rw [if_neg c, if_neg (fun e => c e.symm)]
      · next e =>
        split
        · rw [look_cons]
          by_cases c : p = q
          · rw [if_pos c, if_pos c.symm]
          · rw [if_neg c, if_neg (fun e => c e.symm)]
        · by_cases c : q = p
          · rw [if_pos c, c, look_cons, if_neg e, h.low (by omega)]; omega
          · rw [if_neg c]
theorem setT_same {l : Tp} {p : Int} (h : TpOk l) : setT l p (look l p) = l := tp_ext (setT_ok h) h fun q => by
  rw [look_set h (look_nonneg h p)]
  by_cases c : q = p
  · rw [if_pos c, c]
  · rw [if_neg c]
/-! the tape of a dict of signs -/
theorem aget_mem {α β : Type} [DecidableEq α] {C : List (α × β)} (hn : (C.map (·.1)).Nodup) {v : α} {x : β} : agetG C v = some x ↔ (v, x) ∈ C := by
  constructor
  · exact agetG_in
  · intro hm
    induction C with
    | nil => cases hm
    | cons r C ih =>
      unfold agetG
      rw [List.find?_cons]
      rw [List.map_cons, List.nodup_cons] at hn
      rcases List.mem_cons.mp hm with e | hm
      · subst e; simp
      · have hne : r.1 ≠ v := fun e => hn.1 (List.mem_map.mpr ⟨_, hm, e.symm⟩)
        rw [decide_eq_false hne]
        exact ih hn.2 hm
theorem aputG_nd {α β : Type} [DecidableEq α] {C : List (α × β)} {v : α} {x : β} (h : (C.map (·.1)).Nodup) : ((aputG C v x).map (·.1)).Nodup := by
  rcases e : agetG C v with _ | u
  · rw [aputG_new e, List.map_append, List.nodup_append]
    refine ⟨h, by simp, fun a ha b hb e2 => ?_⟩
    subst e2
    simp at hb
    subst hb
    have : (agetG C a).isSome = true := agetG_mem.mpr ha
    rw [e] at this; cases this
  · unfold aputG
    split
    · rw [List.map_map]
      have : ((fun r : α × β => r.1) ∘ fun r : α × β => if r.1 = v then (r.1, x) else r) = fun r => r.1 := by
        funext r
        show (if r.1 = v then (r.1, x) else r).1 = r.1
        split <;> rfl
      rw [this]; exact h
    · next hc =>
      have : (agetG C v).isSome = true := by rw [e]; rfl
      obtain ⟨r, hr, e2⟩ := List.mem_map.mp (agetG_mem.mp this)
      exact absurd (List.any_eq_true.mpr ⟨r, hr, decide_eq_true e2⟩) hc
/-- the signs of a dict, each above 0 laid in order -/
def tapeS (C : List (Int × Int)) : Tp := sortP (C.filter fun x => decide (0 < x.2))
theorem leP_lt {a b : Int × Int} (h : leP a b = true) (hn : a.1 ≠ b.1) : a.1 < b.1 := by
  rw [leP_iff] at h; omega
theorem tapeS_ok {C : List (Int × Int)} (hn : (C.map (·.1)).Nodup) : TpOk (tapeS C) := by
  have tr : ∀ a b c : Int × Int, leP a b = true → leP b c = true → leP a c = true := fun a b c h1 h2 => by
    rw [leP_iff] at *
    omega
  have to : ∀ a b : Int × Int, (leP a b || leP b a) = true := fun a b => by
    rw [Bool.or_eq_true, leP_iff, leP_iff]
    omega
  have hs := List.pairwise_mergeSort (le := leP) tr to (C.filter fun x => decide (0 < x.2))
  have hp := List.mergeSort_perm (C.filter fun x => decide (0 < x.2)) leP
  have hnd : ((tapeS C).map (·.1)).Nodup := by
    refine ((hp.map (·.1)).nodup_iff).mpr ?_
    exact hn.sublist (List.filter_sublist.map _)
  refine ⟨?_, fun x hx => ?_⟩
  · have h1 : (tapeS C).Pairwise fun a b => a.1 ≠ b.1 := by
      unfold List.Nodup at hnd
      rw [List.pairwise_map] at hnd
      exact hnd
    exact (hs.and h1).imp fun h => leP_lt h.1 h.2
  · have := hp.mem_iff.mp hx
    exact of_decide_eq_true (List.mem_filter.mp this).2
theorem tp_mem {l : Tp} (h : TpOk l) {p s : Int} : (p, s) ∈ l ↔ look l p = s ∧ 0 < s := by
  have hn : (l.map (·.1)).Nodup := by
    unfold List.Nodup
    rw [List.pairwise_map]
    exact h.up.imp fun h => Int.ne_of_lt h
  constructor
  · intro hm
    have := (aget_mem hn).mpr hm
    unfold look
    rw [this]
    exact ⟨rfl, h.pos _ hm⟩
  · rintro ⟨h1, h2⟩
    unfold look at h1
    rcases e : agetG l p with _ | u
    · rw [e] at h1; simp at h1; omega
    · rw [e] at h1; simp at h1; subst h1; exact (aget_mem hn).mp e
theorem look_tapeS {C : List (Int × Int)} (hn : (C.map (·.1)).Nodup) (p : Int) : look (tapeS C) p = max 0 ((agetG C p).getD 0) := by
  have hp := List.mergeSort_perm (C.filter fun x => decide (0 < x.2)) leP
  have hok := tapeS_ok hn
  rcases Int.lt_or_le 0 ((agetG C p).getD 0) with c | c
  · rcases e : agetG C p with _ | u
    · rw [e] at c; simp at c
    · rw [e] at c
      simp at c
      have hm := (aget_mem hn).mp e
      have : (p, u) ∈ tapeS C := hp.mem_iff.mpr (List.mem_filter.mpr ⟨hm, decide_eq_true c⟩)
      rw [((tp_mem hok).mp this).1]
      simp; omega
  · have h0 := look_nonneg hok p
    rcases Int.lt_or_le 0 (look (tapeS C) p) with d | d
    · have hm := (tp_mem hok).mpr ⟨rfl, d⟩
      have h2 := List.mem_filter.mp (hp.mem_iff.mp hm)
      have h3 := (aget_mem hn).mpr h2.1
      rw [h3] at c
      simp at c
      omega
    · omega
theorem tapeS_eq {C : List (Int × Int)} {T : Tp} (hn : (C.map (·.1)).Nodup) (hT : TpOk T) (h : ∀ p, (agetG C p).getD 0 = look T p) : tapeS C = T := tp_ext (tapeS_ok hn) hT fun p => by
  rw [look_tapeS hn, h]
  have := look_nonneg hT p
  omega
theorem tp_nd {T : Tp} (h : TpOk T) : (T.map (·.1)).Nodup := by
  unfold List.Nodup
  rw [List.pairwise_map]
  exact h.up.imp fun h => Int.ne_of_lt h
theorem tape_set {T : Tp} {p s : Int} (h : TpOk T) (hs : 0 ≤ s) : tapeS (aputG T p s) = setT T p s := by
  refine tapeS_eq (aputG_nd (tp_nd h)) (setT_ok h) fun q => ?_
  rw [agetG_put, look_set h hs]
  split <;> rfl
/-- tuple(sorted([(place, signs[place]) for place in signs if signs[place] > 0])) -/
theorem sort_tapeS {C : List (Int × Int)} (hl : C.length ≤ 100000) : sort2G [.lst ((C.filter fun x => decide (0 < x.2)).map prI)] = some (.lst ((tapeS C).map prI)) := by
  have hlen : (C.filter fun x => decide (0 < x.2)).length ≤ 100000 := Nat.le_trans (List.length_filter_le _ _) hl
  rw [sort_pairs _ hlen]; rfl
/-! ### the dict of a tape -/
theorem emb_int : KeyEmb (fun n : Int => D.int n) := ⟨.inl fun _ => rfl, fun a b => by
  unfold keyEq
  simp [keyN]⟩
abbrev intK : Int → D := fun n => D.int n
def tpD (l : List (Int × Int)) : D := .dic (kvG intK intK l)
theorem pairs_pr : ∀ l : List (Int × Int), pairsK (l.map prI) = some (kvG intK intK l)
  | [] => rfl
  | (p, s) :: l => by rw [List.map_cons]; show (pairsK (l.map prI)).map (fun r => (D.int p, D.int s) :: r) = _; rw [pairs_pr l]; rfl
theorem kv_scal (l : List (Int × Int)) : ((kvG intK intK l).all fun kv => scalK kv.1) = true := by
  rw [List.all_eq_true]
  intro kv h
  obtain ⟨r, _, rfl⟩ := List.mem_map.mp h
  rfl
theorem kv_nd : ∀ {l : List (Int × Int)}, (l.map (·.1)).Nodup → ((kvG intK intK l).map fun p => keyN p.1).Nodup
  | [], _ => List.nodup_nil
  | (q, t) :: l, h => by
    rw [List.map_cons, List.nodup_cons] at h
    show (keyN (D.int q) :: (kvG intK intK l).map fun p => keyN p.1).Nodup
    rw [List.nodup_cons]
    refine ⟨fun hm => h.1 ?_, kv_nd h.2⟩
    obtain ⟨kv, h1, h2⟩ := List.mem_map.mp hm
    obtain ⟨r, hr, rfl⟩ := List.mem_map.mp h1
    simp [keyN, intK] at h2
    exact List.mem_map.mpr ⟨r, hr, h2⟩
theorem dict_pairs {l : List (Int × Int)} (h : (l.map (·.1)).Nodup) (hl : l.length ≤ 1000) : dictG4 [.tup (l.map prI)] = some (tpD l) ∧ dictG4 [.lst (l.map prI)] = some (tpD l) := by
  have h1 : dictG3 [.tup (l.map prI)] = some (.dic (mergeD [] (kvG intK intK l))) := by
    unfold dictG3 seqD
    dsimp only
    rw [pairs_pr]
    dsimp only
    rw [if_pos ⟨.inl (kv_scal l), by rw [List.length_map]; omega⟩]
  have h2 : dictG3 [.lst (l.map prI)] = some (.dic (mergeD [] (kvG intK intK l))) := by
    unfold dictG3 seqD
    dsimp only
    rw [pairs_pr]
    dsimp only
    rw [if_pos ⟨.inl (kv_scal l), by rw [List.length_map]; omega⟩]
  have h3 : D.dic (mergeD [] (kvG intK intK l)) = tpD l := by
    rw [merge_new _ _ (by rw [List.nil_append]; exact kv_nd h), List.nil_append]
    rfl
  unfold dictG4
  rw [h1, h2, h3]
  exact ⟨rfl, rfl⟩
theorem dict_tape {l : Tp} (h : TpOk l) (hl : l.length ≤ 1000) : dictG4 [.tup (l.map prI)] = some (tpD l) := (dict_pairs (tp_nd h) hl).1
theorem get_tp {C : List (Int × Int)} {p : Int} : dicG (tpD C) (.int p) (.int 0) = some (.int ((agetG C p).getD 0)) := by
  unfold dicG tpD
  dsimp only
  have hh : homog (.int p) (kvG intK intK C) = true := homog_kvG (v := p) emb_int
  unfold getD'
  rw [if_pos hh, look_kvG (v := p) emb_int]
  cases agetG C p <;> rfl
theorem get_tape {T : Tp} {p : Int} : dicG (tpD T) (.int p) (.int 0) = some (.int (look T p)) := get_tp
theorem put_tp {C : List (Int × Int)} {p s : Int} (hl : C.length ≤ 100000) : putAny (tpD C) (.int p) (.int s) = some (tpD (aputG C p s)) := putAny_kvG (g := intK) (f := intK) (v := p) (x := s) emb_int (by omega)
@[simp] theorem isDic_tp {C : List (Int × Int)} : isDic (tpD C) = true := rfl
def ksI (C : List (Int × Int)) : List D := (C.map (·.1)).map D.int
@[simp] theorem ksI_len {C : List (Int × Int)} : (ksI C).length = C.length := by unfold ksI; rw [List.length_map, List.length_map]
@[simp] theorem items_tp {C : List (Int × Int)} : itemsW (tpD C) = some (ksI C) := by
  show some ((kvG intK intK C).map (·.1)) = _
  unfold kvG ksI
  rw [List.map_map, List.map_map]; rfl
def keyF (C : List (Int × Int)) : D → D
  | .int p => prI (p, (agetG C p).getD 0)
  | _ => .non
def keyC (C : List (Int × Int)) : D → Bool
  | .int p => decide (0 < (agetG C p).getD 0)
  | _ => false
theorem key_idx {C : List (Int × Int)} {d : D} (h : d ∈ ksI C) : ∃ p s, d = .int p ∧ agetG C p = some s ∧ idxD (tpD C) (.int p) = some (.int s) := by
  obtain ⟨p, hp, rfl⟩ := List.mem_map.mp h
  have h1 := agetG_mem.mpr hp
  rcases e : agetG C p with _ | s
  · rw [e] at h1; cases h1
  · exact ⟨p, s, rfl, e, idx_kvG (g := intK) (f := intK) (v := p) emb_int e⟩
theorem keys_filt {C : List (Int × Int)} (hn : (C.map (·.1)).Nodup) : ((ksI C).filter (keyC C)).map (keyF C) = (C.filter fun x => decide (0 < x.2)).map prI := by
  have key : ∀ L : List (Int × Int), (∀ r ∈ L, r ∈ C) → (((L.map (·.1)).map D.int).filter (keyC C)).map (keyF C) = (L.filter fun x => decide (0 < x.2)).map prI := by
    intro L
    induction L with
    | nil => intro _; rfl
    | cons r L ih =>
      intro h
      have hr := (aget_mem hn).mpr (h r List.mem_cons_self)
      have ih := ih fun x hx => h x (List.mem_cons_of_mem _ hx)
      rw [List.map_cons, List.map_cons, List.filter_cons, List.filter_cons]
      have e1 : keyC C (D.int r.1) = decide (0 < r.2) := by simp only [keyC]; rw [hr]; rfl
      have e2 : keyF C (D.int r.1) = prI r := by simp only [keyF]; rw [hr]; rfl
      rw [e1]
      by_cases c : 0 < r.2
      · rw [if_pos (decide_eq_true c), if_pos (decide_eq_true c), List.map_cons, List.map_cons, ih, e2]
      · rw [if_neg (by simpa using c), if_neg (by simpa using c), ih]
  exact key C fun r h => h
/-! a dict of pairs, keys an image -/
theorem pairsK_kv {α β : Type} (g : α → D) (f : β → D) : ∀ C : List (α × β), pairsK (C.map fun r => .tup [g r.1, f r.2]) = some (kvG g f C)
  | [] => rfl
  | r :: C => by rw [List.map_cons]; show (pairsK (C.map fun r => D.tup [g r.1, f r.2])).map (fun l => (g r.1, f r.2) :: l) = _; rw [pairsK_kv g f C]; rfl
theorem kvG_nd {α β : Type} [DecidableEq α] {g : α → D} {f : β → D} (h : KeyEmb g) : ∀ {C : List (α × β)}, (C.map (·.1)).Nodup → ((kvG g f C).map fun p => keyN p.1).Nodup
  | [], _ => List.nodup_nil
  | r :: C, hn => by
    rw [List.map_cons, List.nodup_cons] at hn
    show (keyN (g r.1) :: (kvG g f C).map fun p => keyN p.1).Nodup
    rw [List.nodup_cons]
    refine ⟨fun hm => hn.1 ?_, kvG_nd h hn.2⟩
    obtain ⟨kv, h1, h2⟩ := List.mem_map.mp hm
    obtain ⟨q, hq, rfl⟩ := List.mem_map.mp h1
    have h3 : keyEq (g q.1) (g r.1) = true := decide_eq_true h2
    rw [h.inj, decide_eq_true_iff] at h3
    exact List.mem_map.mpr ⟨q, hq, h3⟩
theorem dict_kv {α β : Type} [DecidableEq α] {g : α → D} {f : β → D} (h : KeyEmb g) {C : List (α × β)} (hn : (C.map (·.1)).Nodup) (hl : C.length ≤ 100000) :
    dictG4 [.lst (C.map fun r => .tup [g r.1, f r.2])] = some (.dic (kvG g f C)) ∧ dictG4 [.tup (C.map fun r => .tup [g r.1, f r.2])] = some (.dic (kvG g f C)) := by
  have hk : ((kvG g f C).all fun kv => scalK kv.1) = true ∨ ((kvG g f C).all fun kv => tupK kv.1) = true := by
    rcases h.kind with k | k
    · left
      rw [List.all_eq_true]
      intro kv hm
      obtain ⟨r, _, rfl⟩ := List.mem_map.mp hm
      exact k _
    · right
      rw [List.all_eq_true]
      intro kv hm
      obtain ⟨r, _, rfl⟩ := List.mem_map.mp hm
      exact k _
  have h3 : D.dic (mergeD [] (kvG g f C)) = .dic (kvG g f C) := by
    rw [merge_new _ _ (by rw [List.nil_append]; exact kvG_nd h hn), List.nil_append]
  unfold dictG4 dictG3 seqD
  dsimp only
  rw [pairsK_kv]
  dsimp only
  rw [if_pos ⟨hk, by rw [List.length_map]; omega⟩, h3]
  exact ⟨rfl, rfl⟩
theorem mulN {a b z : Nat} (h : a * b = z) (ha : a < 2 ^ 40) (hb : b < 2 ^ 40) : mulI (.int (a : Int)) (.int (b : Int)) = some (.int (z : Int)) := by
  have hN : ∀ {a : Nat}, a < 2 ^ 40 → ((a : Int)).natAbs < 2 ^ 40 := fun {a} h => by rw [Int.natAbs_natCast]; exact h
  rw [mulI_int, if_pos (mulOk' (k := 40) (l := 40) (hN ha) (hN hb) (by decide)), ← h, Int.natCast_mul]
theorem divN {a b q : Nat} (h : a / b = q) (hb : 0 < b) (hb2 : b < 2 ^ 64) : fdivD (.int (a : Int)) (.int (b : Int)) = some (.int (q : Int)) := by
  rw [fdivOk (by omega) (by omega), ← h, Int.natCast_ediv]
theorem modN {a b r : Nat} (h : a % b = r) (hb : 0 < b) : modD (.int (a : Int)) (.int (b : Int)) = some (.int (r : Int)) := by
  rw [modD_int (by omega), ← h, Int.natCast_emod]
/-! ### machines with a tape -/
abbrev En := Int × Int × Int
abbrev Tb := List ((Int × Int) × En)
abbrev Mo := Int × Int × Tp
def stepM (T : Tb) (m : Mo) : Option Mo := (agetG T (m.1, look m.2.2 m.2.1)).map fun e => (e.2.2, m.2.1 + e.2.1, setT m.2.2 m.2.1 e.1)
abbrev pairK : Int × Int → D := fun r => .tup [.int r.1, .int r.2]
theorem emb_pair : KeyEmb pairK := (PEnc.two PEnc.int PEnc.int).emb (by decide)
def enD (e : En) : D := .tup [.int e.1, .int e.2.1, .int e.2.2]
def tbD (T : Tb) : D := .dic (kvG pairK enD T)
def moD (m : Mo) : D := .tup [.int m.1, .int m.2.1, .tup (m.2.2.map prI)]
def moO : Option Mo → D
  | none => .non
  | some m => moD m
def tpE : PEnc Tp := PEnc.row (PEnc.two PEnc.int PEnc.int)
def moE : PEnc Mo := PEnc.three PEnc.int PEnc.int tpE
theorem moE_eq (m : Mo) : moD m = moE.e m := rfl
theorem tp_eq (a b : Tp) : eqD (.tup (a.map prI)) (.tup (b.map prI)) = some (.bl (decide (a = b))) := tpE.eqD (by decide) a b
theorem tp_ne (a b : Tp) : neD (.tup (a.map prI)) (.tup (b.map prI)) = some (.bl (!decide (a = b))) := tpE.neD (by decide) a b
theorem nin_tb {T : Tb} {a b : Int} : ninD (.tup [.int a, .int b]) (tbD T) = some (.bl (!(agetG T (a, b)).isSome)) := nin_kvG (v := (a, b)) emb_pair
theorem in_tb {T : Tb} {a b : Int} : inD (.tup [.int a, .int b]) (tbD T) = some (.bl (agetG T (a, b)).isSome) := in_kvG (v := (a, b)) emb_pair
theorem idx_tb {T : Tb} {a b : Int} {e : En} (h : agetG T (a, b) = some e) : idxD (tbD T) (.tup [.int a, .int b]) = some (enD e) := idx_kvG (v := (a, b)) emb_pair h
theorem put_tb {T : Tb} {a b : Int} {e : En} (hl : T.length ≤ 100000) : putAny (tbD T) (.tup [.int a, .int b]) (enD e) = some (tbD (aputG T (a, b) e)) := putAny_kvG (g := pairK) (f := enD) (v := (a, b)) emb_pair (by omega)
structure TbOk (T : Tb) : Prop where
  nn : ∀ r ∈ T, 0 ≤ r.2.1
theorem TbOk.get {T : Tb} (h : TbOk T) {k : Int × Int} {e : En} (he : agetG T k = some e) : 0 ≤ e.1 := h.nn _ (agetG_in he)
theorem stepM_ok {T : Tb} {m n : Mo} (hm : TpOk m.2.2) (h : stepM T m = some n) : TpOk n.2.2 ∧ n.2.2.length ≤ m.2.2.length + 1 := by
  unfold stepM at h
  obtain ⟨e, _, rfl⟩ := Option.map_eq_some_iff.mp h
  exact ⟨setT_ok hm, setT_len⟩
theorem setT_snoc : ∀ {T : Tp} {p s : Int}, (∀ x ∈ T, x.1 < p) → setT T p s = if 0 < s then T ++ [(p, s)] else T
  | [], p, s, _ => by unfold setT; rfl
  | (q, t) :: T, p, s, h => by
    have hq := h _ List.mem_cons_self
    dsimp only at hq
    unfold setT
    rw [if_pos hq, setT_snoc fun x hx => h x (List.mem_cons_of_mem _ hx)]
    split <;> rfl
theorem szp_tp (T : Tp) : szDs (T.map prI) = 3 * T.length := by
  induction T with
  | nil => rfl
  | cons a T ih => rw [List.map_cons, szDs, ih, List.length_cons]; simp [prI, szD, szDs]; omega
theorem same2_mo {m : Mo} (hl : m.2.2.length ≤ 100000) {Q : D → Env → Prop} : wF sem__law_same2 [.sh (moD m), .sh (moD m)] Q = Q (.bl true) [.no, .no] := by
  refine same2_plain (by rw [moE_eq]; exact moE.okM m (by decide)) ?_
  simp [moD, szD, szDs, szp_tp]; omega
theorem same_mo {m : Mo} (hl : m.2.2.length ≤ 100000) {Q : D → Env → Prop} : wF sem__law_same [.sh (moD m), .sh (moD m)] Q = Q (.bl true) [.no, .no] := by
  rw [moE_eq]
  refine moE.same (by decide) m ?_
  rw [← moE_eq]
  simp [moD, szD, szDs, szp_tp]; omega
end DL

namespace DL
open PySem L2
/-! ### rows of draws -/
section
variable {ds : List Int} {n N i : Nat} {G : Int} {η : Env} {te : EM} {Q : D → Env → Prop}
def Idle (s : Option S) : Prop := s = some .no ∨ ∃ d, s = some (.sh d)
theorem Idle.no : Idle (some .no) := .inl rfl
theorem Idle.sh {d : D} : Idle (some (.sh d)) := .inr ⟨d, rfl⟩
theorem setSlot_idle {η : Env} {i : Nat} {s : S} (h : Idle η[i]?) : setSlot η i s = some (η.set i s) := by
  unfold setSlot
  rcases h with h | ⟨d, h⟩ <;> rw [h]
theorem idle_lt {η : Env} {i : Nat} (h : Idle η[i]?) : i < η.length := by
  rcases h with h | ⟨d, h⟩ <;> exact (List.getElem?_eq_some_iff.mp h).1
/-- [_law_next(w, G) for k in range(N)]; P is told of each that is drawn -/
theorem wX_drawQ {α : Type} (w : Nat) (mk : D → S) (e : α → D) (P : Nat → α → Prop) (hi : i ≠ w) (h1 : η[w]? = some (mk (W ds n))) (hs : Idle η[i]?)
    (step : ∀ (k n' : Nat), k < N → ∃ a, P k a ∧ ∀ Q : D → Env → Prop, wE te ((η.set w (mk (W ds n'))).set i (.sh (.int (k : Int)))) Q = Q (e a) ((η.set w (mk (W ds (n' + 1)))).set i (.sh (.int (k : Int)))))
    (last : ∀ row : List α, row.length = N → (∀ k v, row[k]? = some v → P k v) → Q (.lst (row.map e)) (η.set w (mk (W ds (n + N))))) :
    wX (lcL [i] (nameG i) trueB te (rangeD 0 (N : Int)) η) (wE_lcE_k2 [i] Q η) := by
  have hil := idle_lt hs
  refine wX_rng (fun k ys ζ => ∃ (row : List α) (s : S), Idle (some s) ∧ ys = row.map e ∧ row.length = k ∧ (∀ k v, row[k]? = some v → P k v) ∧ ζ = (η.set w (mk (W ds (n + k)))).set i s) ?_ ?_ ?_
  · rcases hs with h | ⟨d, h⟩
    · exact ⟨[], .no, .no, rfl, rfl, (fun k v h => by simp at h), by rw [Nat.add_zero, ← set_id h1, ← set_id h]⟩
    · exact ⟨[], .sh d, .sh, rfl, rfl, (fun k v h => by simp at h), by rw [Nat.add_zero, ← set_id h1, ← set_id h]⟩
  · rintro k ys ζ hk ⟨row, s, hsI, rfl, hl, hb, rfl⟩
    rw [clearL_cons, clearL_nil, List.set_set]
    have hno : Idle (((η.set w (mk (W ds (n + k)))).set i .no)[i]?) := by
      rw [List.getElem?_set_self (by rw [List.length_set]; exact hil)]; exact .no
    show wO (setSlot _ i (.sh (.int (0 + (k : Int))))) _
    rw [setSlot_idle hno, List.set_set, Int.zero_add]
    simp only [wO_some', wB_trueB]
    obtain ⟨a, ha, hst⟩ := step k (n + k) (by omega)
    refine ⟨fun _ => ?_, fun z => nomatch z⟩
    rw [hst]
    refine ⟨row ++ [a], _, .sh, by rw [List.map_append]; rfl, by rw [List.length_append, hl]; rfl, fun j x hx => ?_, rfl⟩
    rcases Nat.lt_or_ge j row.length with h | h
    · rw [List.getElem?_append_left h] at hx; exact hb j x hx
    · rw [List.getElem?_append_right h] at hx
      have : j - row.length = 0 := by have := (List.getElem?_eq_some_iff.mp hx).1; simp at this; omega
      rw [this] at hx
      cases hx
      rw [show j = k by omega]
      exact ha
  · rintro ys ζ ⟨row, s, hsI, rfl, hl, hb, rfl⟩
    have hN : ((N : Int) - 0).toNat = N := by omega
    rw [hN] at hl ⊢
    have hrs : restL [i] η ((η.set w (mk (W ds (n + N)))).set i s) = η.set w (mk (W ds (n + N))) := by
      rw [restL_cons, restL_nil]
      rcases hs with h | ⟨d, h⟩
      · rw [h]
        dsimp only
        rw [List.set_set, List.set_comm _ _ (fun z => hi z.symm), ← set_id h]
      · rw [h]
        dsimp only
        rw [List.set_set, List.set_comm _ _ (fun z => hi z.symm), ← set_id h]
    show Q (.lst (row.map e)) (restL [i] η _)
    rw [hrs]
    exact last row hl hb
/-- the same, w in slot 1 -/
theorem wX_drawP {α : Type} (e : α → D) (P : Nat → α → Prop) (hi : i ≠ 1) (h1 : η[1]? = some (.ow (W ds n))) (hs : Idle η[i]?)
    (step : ∀ (k n' : Nat), k < N → ∃ a, P k a ∧ ∀ Q : D → Env → Prop, wE te ((η.set 1 (.ow (W ds n'))).set i (.sh (.int (k : Int)))) Q = Q (e a) ((η.set 1 (.ow (W ds (n' + 1)))).set i (.sh (.int (k : Int)))))
    (last : ∀ row : List α, row.length = N → (∀ k v, row[k]? = some v → P k v) → Q (.lst (row.map e)) (η.set 1 (.ow (W ds (n + N))))) :
    wX (lcL [i] (nameG i) trueB te (rangeD 0 (N : Int)) η) (wE_lcE_k2 [i] Q η) := wX_drawQ 1 .ow e P hi h1 hs step last
theorem nxtN {m : Int} (h : 0 < m) : ∃ v : Nat, nxt ds n m = (v : Int) ∧ (v : Int) < m := by
  have r := nxt_range (ds := ds) (n := n) h
  exact ⟨(nxt ds n m).toNat, by omega, by omega⟩
theorem wX_draw (hG : 0 < G) (hi : i ≠ 1) (h1 : η[1]? = some (.ow (W ds n))) (hs : Idle η[i]?)
    (step : ∀ (k n' : Nat) (Q : D → Env → Prop), k < N → wE te ((η.set 1 (.ow (W ds n'))).set i (.sh (.int (k : Int)))) Q = Q (.int (nxt ds n' G)) ((η.set 1 (.ow (W ds (n' + 1)))).set i (.sh (.int (k : Int)))))
    (last : ∀ row : List Nat, row.length = N → (∀ v ∈ row, (v : Int) < G) → Q (.lst (nD row)) (η.set 1 (.ow (W ds (n + N))))) :
    wX (lcL [i] (nameG i) trueB te (rangeD 0 (N : Int)) η) (wE_lcE_k2 [i] Q η) := by
  refine wX_drawP (fun v : Nat => D.int (v : Int)) (fun _ (v : Nat) => (v : Int) < G) hi h1 hs (fun k n' hk => ?_) fun row h1 h2 => last row h1 fun v hv => by
    obtain ⟨j, hj⟩ := List.getElem?_of_mem hv
    exact h2 j v hj
  obtain ⟨v, hv, hv2⟩ := nxtN (ds := ds) (n := n') hG
  refine ⟨v, hv2, fun Q => ?_⟩
  rw [step k n' Q hk, hv]
theorem wX_drawG (w : Nat) (mk : D → S) (hG : 0 < G) (hi : i ≠ w) (h1 : η[w]? = some (mk (W ds n))) (hs : Idle η[i]?)
    (step : ∀ (k n' : Nat) (Q : D → Env → Prop), k < N → wE te ((η.set w (mk (W ds n'))).set i (.sh (.int (k : Int)))) Q = Q (.int (nxt ds n' G)) ((η.set w (mk (W ds (n' + 1)))).set i (.sh (.int (k : Int)))))
    (last : ∀ row : List Nat, row.length = N → (∀ v ∈ row, (v : Int) < G) → Q (.lst (nD row)) (η.set w (mk (W ds (n + N))))) :
    wX (lcL [i] (nameG i) trueB te (rangeD 0 (N : Int)) η) (wE_lcE_k2 [i] Q η) := by
  refine wX_drawQ w mk (fun v : Nat => D.int (v : Int)) (fun _ (v : Nat) => (v : Int) < G) hi h1 hs (fun k n' hk => ?_) fun row h1 h2 => last row h1 fun v hv => by
    obtain ⟨j, hj⟩ := List.getElem?_of_mem hv
    exact h2 j v hj
  obtain ⟨v, hv, hv2⟩ := nxtN (ds := ds) (n := n') hG
  refine ⟨v, hv2, fun Q => ?_⟩
  rw [step k n' Q hk, hv]
end
/-- a loop that leaves all as it was but its own name -/
theorem wL_forg {k : Nat} {b : SM} {xs : List D} {η : Env} {R : Out → Env → Prop} (hk : Idle η[k]?) (step : ∀ d, d ∈ xs → wS b (η.set k (.sh d)) (loopK (fun η' => η' = η.set k .no) R)) (last0 : xs = [] → R .nx η) (last : R .nx (η.set k .no)) : wL (forL (nameG k) b xs η) R := by
  have hkl := idle_lt hk
  refine wL_for (fun i η' => (i = 0 ∧ η' = η) ∨ (0 < i ∧ η' = η.set k .no)) (.inl ⟨rfl, rfl⟩) (fun i d η' hd h => ?_) fun η' h => ?_
  · have hs := step d (List.mem_of_getElem? hd)
    have key : ∀ ζ : Env, Idle ζ[k]? → ζ.set k (.sh d) = η.set k (.sh d) → wO (nameG k d ζ) fun η1 => wS b η1 (loopK (fun η2 => (i + 1 = 0 ∧ η2 = η) ∨ (0 < i + 1 ∧ η2 = η.set k .no)) R) := fun ζ hz he => by
      show wO (setSlot ζ k (.sh d)) _
      rw [setSlot_idle hz, he]
      refine wS_mono hs fun o η2 h2 => ?_
      cases o with
      | nx => exact .inr ⟨Nat.succ_pos _, h2⟩
      | bk => exact h2
      | rt x => exact h2
    rcases h with ⟨_, rfl⟩ | ⟨_, rfl⟩
    · exact key _ hk rfl
    · exact key _ (by rw [List.getElem?_set_self hkl]; exact .no) (by rw [List.set_set])
  · rcases h with ⟨h, rfl⟩ | ⟨_, rfl⟩
    · exact last0 (List.length_eq_zero_iff.mp h)
    · exact last
end DL

namespace DL
open PySem L2
/-! ### _law_same, with dicts at any depth, keys ints, texts or tuples -/
def b_same3 : SM :=
 (fgM [3, 4, 6] (seqM (asgM (mut0 2 popG) (tupG 2 (consG (nameG 3) (consG (nameG 4) (nilG)))))
 (ifM (boolD (isiE "dict" (nV 4)))
 (seqM (ifM (orB (notBM (boolD (isiE "dict" (nV 3)))) (orB (boolD (bin2 neD (vE (callB lenG (consV (nV 3) (nilV)))) (vE (callB lenG (consV (nV 4) (nilV)))))) (boolD (bin2 neNilD (vE (lcE (itW (varE 4)) [5] (nameG 5) (boolD (bin2 ninD (nV 5) (nV 3))) (varE 5))) (vE (lstE (nilA)))))))
 (retM (cE (.bl false)))
 (nopM))
 (seqM (setS 6 (callB dictG4 (consV (vE (lcE (itW (varE 3)) [5] (nameG 5) (trueB) (tupE (consA (varE 5) (consA (varE 5) (nilA)))))) (nilV))))
 (exprS (mutE 2 (consA (bin2 addD (vE (lcE (itW (varE 4)) [5] (nameG 5) (trueB) (tupE (consA (bin2 idxD (nV 3) (nV 5)) (consA (bin2 idxD (nV 4) (nV 5)) (nilA)))))) (vE (lcE (itW (varE 4)) [5] (nameG 5) (trueB) (tupE (consA (bin2 idxD (nV 6) (nV 5)) (consA (varE 5) (nilA))))))) (nilA)) extG))))
 (ifM (orB (boolD (isiE "tuple" (nV 4))) (boolD (isiE "list" (nV 4))))
 (seqM (ifM (orB (boolD (bin2 neD (vE (isiE "tuple" (nV 3))) (vE (isiE "tuple" (nV 4))))) (orB (boolD (bin2 neD (vE (isiE "list" (nV 3))) (vE (isiE "list" (nV 4))))) (boolD (bin2 neD (vE (callB lenG (consV (nV 3) (nilV)))) (vE (callB lenG (consV (nV 4) (nilV))))))))
 (retM (cE (.bl false)))
 (nopM))
 (exprS (mutE 2 (consA (lcE (rng1 (callB lenG (consV (nV 4) (nilV)))) [7] (nameG 7) (trueB) (tupE (consA (bin2 idxD (nV 3) (nV 7)) (consA (bin2 idxD (nV 4) (nV 7)) (nilA))))) (nilA)) extG)))
 (ifM (orB (boolD (bin2 neD (vE (isiE "bool" (nV 3))) (vE (isiE "bool" (nV 4))))) (orB (boolD (bin2 neD (vE (isiE "int" (nV 3))) (vE (isiE "int" (nV 4))))) (orB (boolD (bin2 neD (vE (isiE "str" (nV 3))) (vE (isiE "str" (nV 4))))) (boolD (bin2 neD (nV 3) (nV 4))))))
 (retM (cE (.bl false)))
 (nopM))))))
def m__law_same3 : SM :=
 seqM (setO 2 (lstE (consA (tupE (consA (varE 0) (consA (varE 1) (nilA)))) (nilA))))
 (seqM (whileL c_same2 b_same3 fuel)
 (retM (cE (.bl true))))
def sem__law_same3 : Sem := runF 8 m__law_same3
/-- keys that a dict may have, and all of one kind -/
def KeysAll (kvs : List (D × D)) : Prop := (∀ kv ∈ kvs, scalK kv.1 = true) ∨ (∀ kv ∈ kvs, tupK kv.1 = true)
theorem KeysAll.homog {kvs : List (D × D)} (h : KeysAll kvs) {k v : D} (hk : (k, v) ∈ kvs) {C : List (D × D)} (hC : ∀ kv ∈ C, ∃ v', (kv.1, v') ∈ kvs) : DL.homog k C = true := by
  unfold DL.homog
  rcases h with h | h
  · rw [show scalK k = true from h _ hk, show (C.all fun kv => scalK kv.1) = true from List.all_eq_true.mpr fun kv hkv => by obtain ⟨v', hv'⟩ := hC kv hkv; exact h (kv.1, v') hv']; rfl
  · rw [show tupK k = true from h _ hk, show (C.all fun kv => tupK kv.1) = true from List.all_eq_true.mpr fun kv hkv => by obtain ⟨v', hv'⟩ := hC kv hkv; exact h (kv.1, v') hv']; simp
theorem KeysAll.self {kvs : List (D × D)} (h : KeysAll kvs) {k v : D} (hk : (k, v) ∈ kvs) : DL.homog k kvs = true := h.homog hk fun kv hkv => ⟨kv.2, hkv⟩
def leafD : D → Bool
  | .non => true
  | .bl _ => true
  | .int _ => true
  | .str _ => true
  | _ => false
mutual
def szE : D → Nat
  | .tup xs => 1 + szEs xs
  | .lst xs => 1 + szEs xs
  | .dic kvs => 1 + szEk kvs
  | _ => 1
def szEs : List D → Nat
  | [] => 0
  | x :: xs => szE x + szEs xs
def szEk : List (D × D) → Nat
  | [] => 0
  | (k, v) :: kvs => szE k + szE v + szEk kvs
end
theorem szE_pos (d : D) : 0 < szE d := by cases d <;> simp [szE] <;> omega
theorem szEs_append : ∀ {xs ys : List D}, szEs (xs ++ ys) = szEs xs + szEs ys
  | [], ys => by simp [szEs]
  | x :: xs, ys => by rw [List.cons_append, szEs, szEs, szEs_append]; omega
theorem szEs_len : ∀ xs : List D, xs.length ≤ szEs xs
  | [] => by simp [szEs]
  | x :: xs => by have := szEs_len xs; have := szE_pos x; rw [szEs, List.length_cons]; omega
theorem szEk_eq : ∀ kvs : List (D × D), szEk kvs = szEs (kvs.map (·.2)) + szEs (kvs.map (·.1))
  | [] => rfl
  | (k, v) :: kvs => by rw [szEk, szEk_eq kvs, List.map_cons, List.map_cons, szEs, szEs]; dsimp only; omega
/-- data that are the same, dicts in any order -/
def Sim : Nat → D → D → Prop
  | 0, x, y => x = y ∧ leafD x = true
  | n + 1, x, y => (x = y ∧ leafD x = true) ∨ (∃ f : List D → D, (f = .tup ∨ f = .lst) ∧ ∃ xs ys, x = f xs ∧ y = f ys ∧ xs.length = ys.length ∧ ∀ (i : Nat) (a b : D), xs[i]? = some a → ys[i]? = some b → Sim n a b) ∨
      (∃ us vs, x = .dic us ∧ y = .dic vs ∧ us.length = vs.length ∧ KeysAll us ∧ (us.map fun p => keyN p.1).Nodup ∧ (vs.map fun p => keyN p.1).Nodup ∧ ∀ k b, (k, b) ∈ vs → Sim n k k ∧ ∃ a, (k, a) ∈ us ∧ Sim n a b)
theorem sim_mono : ∀ {n : Nat} {x y : D}, Sim n x y → Sim (n + 1) x y
  | 0, x, y, h => .inl h
  | n + 1, x, y, h => by
    rcases h with h | ⟨f, hf, xs, ys, h1, h2, h3, h4⟩ | ⟨us, vs, h1, h2, h3, h4, h5, h6, h7⟩
    · exact .inl h
    · exact .inr (.inl ⟨f, hf, xs, ys, h1, h2, h3, fun i a b ha hb => sim_mono (h4 i a b ha hb)⟩)
    · exact .inr (.inr ⟨us, vs, h1, h2, h3, h4, h5, h6, fun k b hb => ⟨sim_mono (h7 k b hb).1, let ⟨a, ha, hs⟩ := (h7 k b hb).2; ⟨a, ha, sim_mono hs⟩⟩⟩)
theorem sim_plain : ∀ {n : Nat} {d : D}, okD n d = true → Sim n d d
  | 0, d, h => ⟨rfl, by cases d <;> first | rfl | (simp [okD] at h)⟩
  | n + 1, .non, _ => .inl ⟨rfl, rfl⟩
  | n + 1, .bl _, _ => .inl ⟨rfl, rfl⟩
  | n + 1, .int _, _ => .inl ⟨rfl, rfl⟩
  | n + 1, .str _, _ => .inl ⟨rfl, rfl⟩
  | n + 1, .tup xs, h => .inr (.inl ⟨.tup, .inl rfl, xs, xs, rfl, rfl, rfl, fun i a b ha hb => by
      rw [ha] at hb; cases hb
      rw [okD] at h
      exact sim_plain (okDs_all.mp h a (List.mem_of_getElem? ha))⟩)
  | n + 1, .lst xs, h => .inr (.inl ⟨.lst, .inr rfl, xs, xs, rfl, rfl, rfl, fun i a b ha hb => by
      rw [ha] at hb; cases hb
      rw [okD] at h
      exact sim_plain (okDs_all.mp h a (List.mem_of_getElem? ha))⟩)
  | n + 1, .frl _, h => by simp [okD] at h
  | n + 1, .tuz _, h => by simp [okD] at h
  | n + 1, .dic _, h => by simp [okD] at h
  | n + 1, .set _, h => by simp [okD] at h
def pp (p : D × D) : D := .tup [p.1, p.2]
theorem same3_loop {d0 d1 : D} {R : Out → Env → Prop} {n : Nat} {ps : List (D × D)} (h : ∀ p ∈ ps, Sim 60 p.1 p.2) (hz : szEs (ps.map (·.2)) ≤ 1000000) (hn : szEs (ps.map (·.2)) < n)
    (last : R .nx [.sh d0, .sh d1, .ow (.lst []), .no, .no, .no, .no, .no]) : wS (whileL c_same2 b_same3 n) [.sh d0, .sh d1, .ow (.lst (ps.map pp)), .no, .no, .no, .no, .no] R := by
  obtain ⟨I, hI⟩ := nameI (fun (m : Nat) (η : Env) => ∃ ps : List (D × D), (∀ p ∈ ps, Sim 60 p.1 p.2) ∧ szEs (ps.map (·.2)) = m ∧ szEs (ps.map (·.2)) ≤ 1000000 ∧ η = [.sh d0, .sh d1, .ow (.lst (ps.map pp)), .no, .no, .no, .no, .no])
  refine wS_while I _ hn (by rw [hI]; exact ⟨ps, h, rfl, hz, rfl⟩) fun m η hIm => ?_
  rw [hI] at hIm
  obtain ⟨ps, h1, h2, h3, rfl⟩ := hIm
  unfold c_same2 b_same3
  simp
  rcases List.eq_nil_or_concat ps with rfl | ⟨qs, ⟨x, y⟩, rfl⟩
  · simp; exact last
  · rw [List.concat_eq_append] at *
    rw [List.map_append, szEs_append] at h2 h3
    have hxy : Sim 60 x y := h1 (x, y) (by simp)
    have hqs : ∀ p ∈ qs, Sim 60 p.1 p.2 := fun p hp => h1 p (by simp [hp])
    simp only [List.map_cons, List.map_nil, szEs] at h2 h3
    have hpos := szE_pos y
    have leaf : ∃ m', m' < m ∧ I m' [.sh d0, .sh d1, .ow (.lst (qs.map pp)), .no, .no, .no, .no, .no] := ⟨szEs (qs.map (·.2)), by omega, by rw [hI]; exact ⟨qs, hqs, rfl, by omega, rfl⟩⟩
    have more : ∀ rs : List (D × D), (∀ p ∈ rs, Sim 60 p.1 p.2) → szEs (rs.map (·.2)) < szE y → ∃ m', m' < m ∧ I m' [.sh d0, .sh d1, .ow (.lst (qs.map pp ++ rs.map pp)), .no, .no, .no, .no, .no] := fun rs hr hs =>
      ⟨szEs ((qs ++ rs).map (·.2)), by rw [List.map_append, szEs_append]; omega, by
        rw [hI]
        exact ⟨qs ++ rs, fun p hp => (List.mem_append.mp hp).elim (hqs p) (hr p), rfl, by rw [List.map_append, szEs_append]; omega, by rw [List.map_append]⟩⟩
    have hlen := szEs_len (qs.map (·.2))
    rw [List.length_map] at hlen
    simp [popG_snoc, pp]
    rcases hxy with ⟨rfl, hl⟩ | ⟨f, hf, xs, ys, rfl, rfl, hxl, hs⟩ | ⟨us, vs, rfl, rfl, hul, hk, hn1, hn2, hs⟩
    · cases x with
      | non => simp [neD_self (x := .non) rfl]; exact leaf
      | bl b => simp; exact leaf
      | int b => simp; exact leaf
      | str b => simp [neD_self (x := .str b) rfl]; exact leaf
      | _ => simp [leafD] at hl
    · have hsz : szE (f ys) = 1 + szEs ys := by rcases hf with rfl | rfl <;> rw [szE]
      have hyl := szEs_len ys
      have hz2 : ∀ ys : List D, ∀ xs : List D, xs.length = ys.length → ((xs.zip ys).map (·.2)) = ys := fun ys xs e => List.map_snd_zip (by omega)
      have fin : ∃ m', m' < m ∧ I m' [.sh d0, .sh d1, .ow (.lst (qs.map pp ++ (xs.zip ys).map pp)), .no, .no, .no, .no, .no] := more (xs.zip ys) (fun p hp => by
        obtain ⟨i, hi⟩ := List.getElem?_of_mem hp
        rw [List.getElem?_zip_eq_some] at hi
        exact sim_mono (hs i _ _ hi.1 hi.2)) (by rw [hz2 ys xs hxl, hsz]; omega)
      have hzl : (xs.zip ys).length = ys.length := by rw [List.length_zip]; omega
      have go : ∀ zs : List D, zs = List.map pp (xs.zip ys) → ∀ P : List D → Env → Prop, (∀ s, P zs [.sh d0, .sh d1, .ow (.lst (qs.map pp)), .sh (f xs), .sh (f ys), .no, .no, s]) →
          wX (lcL [7] (nameG 7) trueB (tupE (consA (bin2 idxD (nV 3) (nV 7)) (consA (bin2 idxD (nV 4) (nV 7)) nilA))) (rangeD 0 ys.length) [.sh d0, .sh d1, .ow (.lst (qs.map pp)), .sh (f xs), .sh (f ys), .no, .no, .no]) P := by
        intro zs hzs P hP
        subst hzs
        refine wX_rng (fun i ws η => ws = ((xs.zip ys).take i).map pp ∧ ∃ s, η = [.sh d0, .sh d1, .ow (.lst (qs.map pp)), .sh (f xs), .sh (f ys), .no, .no, s]) ⟨rfl, _, rfl⟩ ?_ ?_
        · rintro i ws η hi ⟨rfl, s, rfl⟩
          have hiy : i < ys.length := by omega
          have hix : i < xs.length := by omega
          have gx := List.getElem?_eq_getElem hix
          have gy := List.getElem?_eq_getElem hiy
          have gz : (xs.zip ys)[i]? = some (xs[i], ys[i]) := List.getElem?_zip_eq_some.mpr ⟨gx, gy⟩
          have hT : ((xs.zip ys).take (i + 1)).map pp = ((xs.zip ys).take i).map pp ++ [pp (xs[i], ys[i])] := by
            rw [List.take_add_one, gz, List.map_append]; rfl
          rw [hT]
          rcases hf with rfl | rfl
          · simp [gx, gy]; rfl
          · simp [gx, gy]; rfl
        · rintro ws η ⟨rfl, s, rfl⟩
          rw [show ((ys.length : Int) - 0).toNat = ys.length by omega, ← hzl, List.take_length]
          exact hP s
      rcases hf with rfl | rfl
      · simp [hxl]
        refine ⟨by omega, by omega, go _ rfl _ fun s => ?_⟩
        simp [hzl]
        refine ⟨by omega, fin⟩
      · simp [hxl]
        refine ⟨by omega, by omega, go _ rfl _ fun s => ?_⟩
        simp [hzl]
        refine ⟨by omega, fin⟩
    · have hsz : szE (.dic vs) = 1 + szEk vs := by rw [szE]
      rw [szEk_eq] at hsz
      have hvl := szEs_len (vs.map (·.2))
      have hkl := szEs_len (vs.map (·.1))
      rw [List.length_map] at hvl hkl
      have hin : ∀ kv ∈ vs, inD kv.1 (.dic us) = some (.bl true) := fun kv hkv => by
        obtain ⟨_, a, ha, _⟩ := hs kv.1 kv.2 hkv
        rw [inD_dic (hk.self ha), look_mem hn1 ha]; rfl
      have hnin : ∀ kv ∈ vs, ninD kv.1 (.dic us) = some (.bl false) := fun kv hkv => by unfold ninD; rw [hin kv hkv]; rfl
      have hkv : KeysAll vs := by
        rcases hk with h | h
        · exact .inl fun kv hkv => by obtain ⟨_, a, ha, _⟩ := hs kv.1 kv.2 hkv; exact h (kv.1, a) ha
        · exact .inr fun kv hkv => by obtain ⟨_, a, ha, _⟩ := hs kv.1 kv.2 hkv; exact h (kv.1, a) ha
      have hget2 : ∀ kv ∈ vs, idxD (.dic vs) kv.1 = some kv.2 := fun kv h => idxD_dic (hkv.self h) (look_mem hn2 h)
      have hU : ∀ kv ∈ vs, ∃ a, lookD us kv.1 = some a ∧ idxD (.dic us) kv.1 = some a ∧ Sim 60 a kv.2 := fun kv h => by
        obtain ⟨_, a, ha, hsm⟩ := hs kv.1 kv.2 h
        exact ⟨a, look_mem hn1 ha, idxD_dic (hk.self ha) (look_mem hn1 ha), sim_mono hsm⟩
      simp [hul]
      refine ⟨by omega, ?_⟩
      refine wX_filt1 id (fun _ => false) (fun d hd => ?_) ?_
      · obtain ⟨kv, h, rfl⟩ := List.mem_map.mp hd
        simp [hnin kv h]
      rw [show (List.filter (fun _ => false) (vs.map (·.1))) = [] from List.filter_eq_nil_iff.mpr fun _ _ => by simp]
      simp
      refine ⟨by omega, ?_⟩
      refine wX_map1 (fun k => .tup [k, k]) (fun d hd => by simp) ?_
      have hdict : dictG4 [.lst ((us.map (·.1)).map fun k => .tup [k, k])] = some (.dic (us.map fun kv => (kv.1, kv.1))) := by
        have e : ((us.map (·.1)).map fun k => D.tup [k, k]) = (us.map fun kv => (kv.1, kv.1)).map fun r => .tup [r.1, r.2] := by rw [List.map_map, List.map_map]; rfl
        have hpk : pairsK ((us.map fun kv => (kv.1, kv.1)).map fun r => .tup [r.1, r.2]) = some (us.map fun kv => (kv.1, kv.1)) := by
          have := pairsK_kv (fun d : D => d) (fun d : D => d) (us.map fun kv => (kv.1, kv.1))
          rw [this]; unfold kvG; rw [List.map_map]; rfl
        have hkk : ((us.map fun kv => (kv.1, kv.1)).all fun kv => scalK kv.1) = true ∨ ((us.map fun kv => (kv.1, kv.1)).all fun kv => tupK kv.1) = true := by
          rcases hk with h | h
          · exact .inl (List.all_eq_true.mpr fun x hx => by obtain ⟨y, hy, rfl⟩ := List.mem_map.mp hx; exact h y hy)
          · exact .inr (List.all_eq_true.mpr fun x hx => by obtain ⟨y, hy, rfl⟩ := List.mem_map.mp hx; exact h y hy)
        rw [e]
        unfold dictG4 dictG3 seqD
        dsimp only
        rw [hpk]
        dsimp only
        rw [if_pos ⟨hkk, by rw [List.length_map, List.length_map]; omega⟩]
        dsimp only
        rw [merge_new _ _ (by rw [List.nil_append, List.map_map]; exact hn1)]
        rfl
      have hget3 : ∀ kv ∈ vs, idxD (.dic (us.map fun kv => (kv.1, kv.1))) kv.1 = some kv.1 := fun kv h => by
        obtain ⟨_, a, ha, _⟩ := hs kv.1 kv.2 h
        refine idxD_dic (hk.homog ha fun x hx => by obtain ⟨y, hy, rfl⟩ := List.mem_map.mp hx; exact ⟨y.2, hy⟩) (look_mem (by rw [List.map_map]; exact hn1) (List.mem_map.mpr ⟨(kv.1, a), ha, rfl⟩))
      have hm : ∀ {f : D → D} {g : D × D → D}, (∀ kv ∈ vs, f kv.1 = g kv) → (vs.map (·.1)).map f = vs.map g := fun e => by rw [List.map_map]; exact List.map_congr_left e
      simp [hdict, -List.map_map]
      refine ⟨by omega, ?_⟩
      refine wX_map1 (fun k => .tup [(lookD us k).getD .non, (lookD vs k).getD .non]) (fun d hd => ?_) ?_
      · obtain ⟨kv, h, rfl⟩ := List.mem_map.mp hd
        obtain ⟨a, ha1, ha2, _⟩ := hU kv h
        simp [hget2 kv h, ha1, ha2, look_mem hn2 h]
      rw [hm (g := fun kv => pp ((lookD us kv.1).getD .non, kv.2)) fun kv h => by rw [look_mem hn2 h]; rfl]
      simp [-List.map_map]
      refine ⟨by omega, ?_⟩
      refine wX_map1 (fun k => .tup [k, k]) (fun d hd => ?_) ?_
      · obtain ⟨kv, h, rfl⟩ := List.mem_map.mp hd
        simp [hget3 kv h]
      simp [-List.map_map]
      have hxs : vs.map (fun kv : D × D => pp ((lookD us kv.1).getD .non, kv.2)) ++ (vs.map (·.1)).map (fun k => D.tup [k, k]) = ((vs.map fun kv => ((lookD us kv.1).getD .non, kv.2)) ++ (vs.map fun kv => (kv.1, kv.1))).map pp := by
        rw [List.map_append, List.map_map, List.map_map, List.map_map]; rfl
      rw [hxs]
      refine ⟨by omega, by omega, more _ (fun p hp => ?_) ?_⟩
      · rcases List.mem_append.mp hp with hp | hp
        · obtain ⟨kv, h, rfl⟩ := List.mem_map.mp hp
          obtain ⟨a, ha1, ha2, ha3⟩ := hU kv h
          rw [ha1]; exact ha3
        · obtain ⟨kv, h, rfl⟩ := List.mem_map.mp hp
          exact sim_mono (hs kv.1 kv.2 h).1
      · rw [List.map_append, List.map_map, List.map_map, szEs_append, hsz]
        have e1 : szEs (vs.map ((fun p : D × D => p.2) ∘ fun kv => ((lookD us kv.1).getD .non, kv.2))) = szEs (vs.map (·.2)) := rfl
        have e2 : szEs (vs.map ((fun p : D × D => p.2) ∘ fun kv => (kv.1, kv.1))) = szEs (vs.map (·.1)) := rfl
        rw [e1, e2]; omega
theorem same3 {x y : D} {Q : D → Env → Prop} (h : Sim 60 x y) (hz : szE y ≤ 1000000) : wF sem__law_same3 [.sh x, .sh y] Q = Q (.bl true) [.no, .no] := by
  refine wF_of (of_wF ?_)
  unfold sem__law_same3 m__law_same3
  rw [wF_run]
  simp
  refine same3_loop (ps := [(x, y)]) (fun p hp => by rw [List.mem_singleton.mp hp]; exact h) (by simp [szEs]; omega) (by unfold fuel; simp [szEs]; omega) ?_
  simp
end DL

namespace DL
open PySem L2
mutual
theorem szE_plain : ∀ (n : Nat) (d : D), okD n d = true → szE d = szD d
  | _, .non, _ => by simp [szE, szD]
  | _, .bl _, _ => by simp [szE, szD]
  | _, .int _, _ => by simp [szE, szD]
  | _, .str _, _ => by simp [szE, szD]
  | 0, .tup _, h => by simp [okD] at h
  | n + 1, .tup xs, h => by rw [okD] at h; rw [szE, szD, szEs_plain n xs h]
  | 0, .lst _, h => by simp [okD] at h
  | n + 1, .lst xs, h => by rw [okD] at h; rw [szE, szD, szEs_plain n xs h]
  | _, .frl _, h => by simp [okD] at h
  | _, .tuz _, h => by simp [okD] at h
  | _, .dic _, h => by simp [okD] at h
  | _, .set _, h => by simp [okD] at h
theorem szEs_plain : ∀ (n : Nat) (l : List D), okDs n l = true → szEs l = szDs l
  | _, [], _ => rfl
  | n, x :: xs, h => by
    rw [okDs, Bool.and_eq_true] at h
    rw [szEs, szDs, szE_plain n x h.1, szEs_plain n xs h.2]
end
theorem same3_plain {d : D} {Q : D → Env → Prop} (h : okD 58 d = true) (hz : szD d ≤ 1000000) : wF sem__law_same3 [.sh d, .sh d] Q = Q (.bl true) [.no, .no] :=
  same3 (sim_plain (okD_mono 58 60 d (by omega) h)) (by rw [szE_plain 58 d h]; exact hz)
theorem same3_bl {b : Bool} {Q : D → Env → Prop} : wF sem__law_same3 [.sh (.bl b), .sh (.bl b)] Q = Q (.bl true) [.no, .no] := same3_plain (by simp [okD]) (by simp [szD])
theorem same3_int {b : Int} {Q : D → Env → Prop} : wF sem__law_same3 [.sh (.int b), .sh (.int b)] Q = Q (.bl true) [.no, .no] := same3_plain (by simp [okD]) (by simp [szD])
theorem same3_non {Q : D → Env → Prop} : wF sem__law_same3 [.sh .non, .sh .non] Q = Q (.bl true) [.no, .no] := same3_plain (by simp [okD]) (by simp [szD])
theorem same3_str {b : Str} {Q : D → Env → Prop} : wF sem__law_same3 [.sh (.str b), .sh (.str b)] Q = Q (.bl true) [.no, .no] := same3_plain (by simp [okD]) (by simp [szD])
theorem PEnc.same3 {α : Type} (A : PEnc α) (h : A.dep ≤ 58) (a : α) (hz : szD (A.e a) ≤ 1000000) {Q : D → Env → Prop} : wF sem__law_same3 [.sh (A.e a), .sh (A.e a)] Q = Q (.bl true) [.no, .no] := same3_plain (A.okM a h) hz
/-! dicts whose keys are an image -/
theorem aget_len {α β : Type} [DecidableEq α] {C C' : List (α × β)} (h1 : (C.map (·.1)).Nodup) (h2 : (C'.map (·.1)).Nodup) (h : ∀ v, agetG C v = agetG C' v) : C.length = C'.length := by
  have hp : (C.map (·.1)).Perm (C'.map (·.1)) := (List.perm_ext_iff_of_nodup h1 h2).mpr fun v => by rw [← agetG_mem, ← agetG_mem, h]
  have := hp.length_eq
  rw [List.length_map, List.length_map] at this; exact this
theorem kv_all {α β : Type} [DecidableEq α] {g : α → D} {f : β → D} (h : KeyEmb g) (C : List (α × β)) : KeysAll (kvG g f C) := by
  rcases h.kind with k | k
  · exact .inl fun kv hkv => by obtain ⟨r, _, rfl⟩ := List.mem_map.mp hkv; exact k _
  · exact .inr fun kv hkv => by obtain ⟨r, _, rfl⟩ := List.mem_map.mp hkv; exact k _
theorem sim_kv {α β : Type} [DecidableEq α] {g : α → D} {f : β → D} {C C' : List (α × β)} {n : Nat} (hg : KeyEmb g) (h1 : (C.map (·.1)).Nodup) (h2 : (C'.map (·.1)).Nodup) (h : ∀ v, agetG C v = agetG C' v)
    (hk : ∀ a, okD n (g a) = true) (hf : ∀ r ∈ C', okD n (f r.2) = true) : Sim (n + 1) (.dic (kvG g f C)) (.dic (kvG g f C')) := by
  refine .inr (.inr ⟨_, _, rfl, rfl, by rw [len_kvG, len_kvG]; exact aget_len h1 h2 h, kv_all hg C, kvG_nd hg h1, kvG_nd hg h2, fun k b hb => ?_⟩)
  obtain ⟨r, hr, e⟩ := List.mem_map.mp hb
  cases e
  refine ⟨sim_plain (hk _), f r.2, ?_, sim_plain (hf r hr)⟩
  have h3 := (aget_mem h2).mpr hr
  rw [← h] at h3
  exact List.mem_map.mpr ⟨(r.1, r.2), (aget_mem h1).mp h3, rfl⟩
theorem sz_kv {α β : Type} {g : α → D} {f : β → D} {c : Nat} : ∀ {C : List (α × β)}, (∀ r ∈ C, szE (g r.1) + szE (f r.2) ≤ c) → szE (.dic (kvG g f C)) ≤ 1 + c * C.length := by
  intro C h
  rw [szE]
  have : szEk (kvG g f C) ≤ c * C.length := by
    induction C with
    | nil => simp [kvG, szEk]
    | cons r C ih =>
      have h1 := h r List.mem_cons_self
      have h2 := ih fun x hx => h x (List.mem_cons_of_mem _ hx)
      show szE (g r.1) + szE (f r.2) + szEk (kvG g f C) ≤ _
      rw [List.length_cons, Nat.mul_succ]; omega
  omega
/-! ### comprehensions of two over typed lists -/
section
variable {it it1 : IM} {vs vs1 : List Nat} {g g1 : TgM} {tt tt1 : BM} {te : EM} {Q : D → Env → Prop} {η : Env}
/-- [f for d in ds for ..], each item's part told by f -/
theorem wX_twv {α : Type} {l : List α} (e0 : α → D) (f : α → List D) (step : ∀ d, d ∈ l → wLS g tt it1 vs1 g1 tt1 te (e0 d) (clearL vs η) fun ys η4 => ys = f d ∧ clearL vs η4 = clearL vs η)
    (hl : (l.flatMap f).length ≤ 16777216) (last : ∀ ζ, clearL vs ζ = clearL vs η → Q (.lst (l.flatMap f)) (restL vs η ζ)) : wX (lcL2 vs g tt it1 vs1 g1 tt1 te (l.map e0) η) (wE_lcE2_k2 vs Q η) := by
  have main : ∀ (es : List α) (ζ : Env), (∀ d ∈ es, d ∈ l) → clearL vs ζ = clearL vs η → ∃ η2, lcL2 vs g tt it1 vs1 g1 tt1 te (es.map e0) ζ = some (es.flatMap f, η2) ∧ clearL vs η2 = clearL vs η := by
    intro es
    induction es with
    | nil => intro ζ _ hz; exact ⟨ζ, rfl, hz⟩
    | cons d es ih =>
      intro ζ hm hz
      have h := step d (hm d List.mem_cons_self)
      rw [List.map_cons]
      unfold lcL2
      rw [hz]
      unfold wLS at h
      rcases hgd : g (e0 d) (clearL vs η) with _ | η1
      · rw [hgd] at h; exact h.elim
      rw [hgd] at h
      simp only [wO_some'] at h ⊢
      unfold wB at h
      rcases htt : tt η1 with _ | ⟨t, η2⟩
      · rw [htt] at h; exact h.elim
      rw [htt] at h
      obtain ⟨h1, h2⟩ := h
      cases t with
      | false =>
        obtain ⟨e, hz2⟩ := h2 rfl
        obtain ⟨η5, r1, r2⟩ := ih η2 (fun x hx => hm x (List.mem_cons_of_mem _ hx)) hz2
        refine ⟨η5, ?_, r2⟩
        dsimp only
        rw [r1, List.flatMap_cons, ← e, List.nil_append]
      | true =>
        have h3 := h1 rfl
        unfold wI at h3
        dsimp only
        rcases hit : it1 η2 with _ | ⟨ds1, η3⟩
        · rw [hit] at h3; exact h3.elim
        rw [hit] at h3
        dsimp only at h3 ⊢
        unfold wX at h3
        rcases hlc : lcL vs1 g1 tt1 te ds1 η3 with _ | ⟨ys, η4⟩
        · rw [hlc] at h3; exact h3.elim
        rw [hlc] at h3
        dsimp only at h3 ⊢
        obtain ⟨rfl, hz4⟩ := h3
        obtain ⟨η5, r1, r2⟩ := ih η4 (fun x hx => hm x (List.mem_cons_of_mem _ hx)) hz4
        rw [r1]
        exact ⟨η5, by rw [List.flatMap_cons], r2⟩
  obtain ⟨η2, e, hz⟩ := main l η (fun _ h => h) rfl
  unfold wX
  rw [e]
  exact ⟨hl, last η2 hz⟩
/-- [te for i in ds for j in it1] with names i, j -/
theorem wX_tw {α : Type} {l : List α} {i j : Nat} (hij : i ≠ j) (e0 : α → D) (f : α → List D)
    (step : ∀ d, d ∈ l → wO (g (e0 d) ((η.set i .no).set j .no)) fun η1 => wB tt η1 fun t η2 => (t = true → wI it1 η2 fun ds1 η3 => wX (lcL [j] g1 tt1 te ds1 η3) (wE_lcE_k2 [j] (fun y η4 => y = .lst (f d) ∧ (η4.set i .no).set j .no = (η.set i .no).set j .no) η3)) ∧
      (t = false → f d = [] ∧ (η2.set i .no).set j .no = (η.set i .no).set j .no))
    (hl : (l.flatMap f).length ≤ 16777216) (last : Q (.lst (l.flatMap f)) (restL [i, j] η ((η.set i .no).set j .no))) : wX (lcL2 [i, j] g tt it1 [j] g1 tt1 te (l.map e0) η) (wE_lcE2_k2 [i, j] Q η) := by
  refine wX_twv e0 f (fun d hd => ?_) hl (fun ζ hz => by rw [restL2 hz hij]; exact last)
  have h := step d hd
  unfold wLS
  show wO (g (e0 d) ((η.set i .no).set j .no)) _
  rcases hgd : g (e0 d) ((η.set i .no).set j .no) with _ | η1
  · rw [hgd] at h; exact h
  rw [hgd] at h
  simp only [wO_some'] at h ⊢
  unfold wB at *
  rcases htt : tt η1 with _ | ⟨t, η2⟩
  · rw [htt] at h; exact h
  rw [htt] at h
  refine ⟨fun et => ?_, fun et => ⟨(h.2 et).1.symm, (h.2 et).2⟩⟩
  have h3 := h.1 et
  unfold wI at *
  rcases hit : it1 η2 with _ | ⟨ds1, η3⟩
  · rw [hit] at h3; exact h3
  rw [hit] at h3
  dsimp only at h3 ⊢
  unfold wX at *
  rcases hlc : lcL [j] g1 tt1 te ds1 η3 with _ | ⟨ys, η4⟩
  · rw [hlc] at h3; exact h3
  rw [hlc] at h3
  dsimp only at h3 ⊢
  obtain ⟨e, hz⟩ := h3
  cases e
  refine ⟨rfl, ?_⟩
  show (η4.set i .no).set j .no = (η.set i .no).set j .no
  rw [← hz]
  have hr : ∀ (ζ : Env), (restL [j] η3 ζ).set j .no = ζ.set j .no := fun ζ => by
    show ((match η3[j]? with | some (.sh d) => ζ.set j (.sh d) | _ => ζ.set j .no)).set j .no = _
    split <;> exact List.set_set ..
  have e1 : (η4.set i S.no).set j S.no = (η4.set j S.no).set i S.no := List.set_comm _ _ hij
  have e2 : ((restL [j] η3 η4).set i S.no).set j S.no = ((restL [j] η3 η4).set j S.no).set i S.no := List.set_comm _ _ hij
  rw [e1, e2, hr]
end
end DL

namespace K22
open PySem L2 DL
def top (i : Nat) : Stmt := PySem.Challenge.pw_neveratrest_k22_whole_choices_that_must.main.body.getD i (.Pass ⟨0, 0, 0, 0⟩)
/-! ### _law_draws -/
abbrev st__law_draws : Stmt := top 12

theorem sc__law_draws : FnScope ["script", "many", "draws", "mixed", "k", "cell", "rest", "turn"] ["script", "many"] (defScope st__law_draws) := ⟨rfl, rfl, rfl, by decide +kernel, rfl, by decide +kernel, by decide +kernel⟩

/-! ### _law_lasso -/
abbrev st__law_lasso : Stmt := top 18
def m__law_lasso : SM :=
 seqM (ifM (orB (notBM (boolD (isiE "tuple" (nV 2)))) (orB (boolD (bin2 ltD (vE (callB lenG (consV (nV 2) (nilV)))) (vE (cE (.int 2))))) (boolD (bin2 neD (vE (lcE (itW (varE 2)) [3] (nameG 3) (orB (boolD (isiE "bool" (nV 3))) (orB (notBM (boolD (isiE "int" (nV 3)))) (boolD (bin2 ninD (nV 3) (nV 0))))) (varE 3))) (vE (lstE (nilA)))))))
 (retM (cE (.bl false)))
 (nopM))
 (retM (andE (bin2 eqD (vE (bin2 idxD (nV 2) (vE (cE (.int 0))))) (nV 1)) (andE (bin2 inD (vE (bin2 idxD (nV 2) (vE (un1 negD (vE (cE (.int 1))))))) (vE (sliceE (nV 2) (noO) (someO (un1 negD (vE (cE (.int 1)))))))) (bin2 eqD (vE (lcE (rng2 (consA (cE (.int 1)) (consA (callB lenG (consV (nV 2) (nilV))) (nilA)))) [4] (nameG 4) (boolD (bin2 ninD (vE (bin2 idxD (nV 2) (nV 4))) (vE (bin2 idxD (nV 0) (vE (bin2 idxD (nV 2) (vE (bin2 subD (nV 4) (vE (cE (.int 1))))))))))) (varE 4))) (vE (lstE (nilA)))))))
def sem__law_lasso : Sem := runF 5 m__law_lasso

theorem sc__law_lasso : FnScope ["steps", "place", "way", "own", "k"] ["steps", "place", "way"] (defScope st__law_lasso) := ⟨rfl, rfl, rfl, by decide +kernel, rfl, by decide +kernel, by decide +kernel⟩

/-! ### _law_longest -/
abbrev st__law_longest : Stmt := top 17
def m__law_longest : SM :=
 seqM (parM 2 3 (consA (lstE (consA (varE 1) (nilA))) (consA (cE (.int 0)) (nilA))))
 (seqM (forM (rng1 (bin2 addD (vE (callB lenG (consV (nV 0) (nilV)))) (vE (cE (.int 1))))) (nameG 4)
 (fgM [4, 5, 6] (seqM (setS 5 (lstE (nilA)))
 (seqM (forM (itW (varE 2)) (nameG 6)
 (fgM [6] (setS 5 (bin2 addD (nV 5) (vE (lcE (itW (bin2 idxD (nV 0) (nV 6))) [7] (nameG 7) (boolD (bin2 ninD (nV 7) (nV 5))) (varE 7)))))))
 (seqM (ifM (boolD (bin2 eqD (nV 5) (vE (lstE (nilA)))))
 (retM (varE 3))
 (nopM))
 (parM 2 3 (consA (varE 5) (consA (bin2 addD (nV 3) (vE (cE (.int 1)))) (nilA)))))))))
 (retM (cE .non)))
def sem__law_longest : Sem := runF 8 m__law_longest

theorem sc__law_longest : FnScope ["steps", "place", "layer", "many", "turn", "later", "own", "goal"] ["steps", "place"] (defScope st__law_longest) := ⟨rfl, rfl, rfl, by decide +kernel, rfl, by decide +kernel, by decide +kernel⟩

/-! ### _law_next -/
abbrev st__law_next : Stmt := top 13

theorem sc__law_next : FnScope ["w", "many"] ["w", "many"] (defScope st__law_next) := ⟨rfl, rfl, rfl, by decide +kernel, rfl, by decide +kernel, by decide +kernel⟩

/-! ### _law_pick -/
abbrev st__law_pick : Stmt := top 14

theorem sc__law_pick : FnScope ["w", "rows"] ["w", "rows"] (defScope st__law_pick) := ⟨rfl, rfl, rfl, by decide +kernel, rfl, by decide +kernel, by decide +kernel⟩

/-! ### _law_same -/
abbrev st__law_same : Stmt := top 15

theorem sc__law_same : FnScope ["seen", "due", "waiting", "one", "other", "key", "keys", "k"] ["seen", "due"] (defScope st__law_same) := ⟨rfl, rfl, rfl, by decide +kernel, rfl, by decide +kernel, by decide +kernel⟩

/-! ### _law_steps_drawn -/
abbrev st__law_steps_drawn : Stmt := top 16
def m__law_steps_drawn : SM :=
 seqM (setS 1 (bin2 addD (vE (cE (.int 1))) (vE (callE sem__law_next (consN 0 (consC (cE (.int 7)) (nilC)))))))
 (seqM (setS 2 (callE sem__law_next (consN 0 (consC (cE (.int 3)) (nilC)))))
 (seqM (setO 3 (dispE []))
 (seqM (forM (rng1 (varE 1)) (nameG 4)
 (fgM [4, 5] (seqM (setO 5 (lcE (rng1 (callE sem__law_next (consN 0 (consC (cE (.int 4)) (nilC))))) [6] (nameG 6) (trueB) (callE sem__law_next (consN 0 (consN 1 (nilC))))))
 (storeM 3 (varE 4) (callB tupleG (consV (vE (lcE (itW (varE 5)) [7] (nameG 7) (orB (boolD (bin2 gtD (nV 7) (nV 4))) (boolD (bin2 eqD (nV 2) (vE (cE (.int 0)))))) (varE 7))) (nilV)))))))
 (retM (varE 3)))))
def sem__law_steps_drawn : Sem := runF 8 m__law_steps_drawn

theorem sc__law_steps_drawn : FnScope ["w", "many", "low", "steps", "place", "goals", "k", "goal"] ["w"] (defScope st__law_steps_drawn) := ⟨rfl, rfl, rfl, by decide +kernel, rfl, by decide +kernel, by decide +kernel⟩

/-! ### once -/
abbrev st_once : Stmt := top 6
def m_once : SM :=
 seqM (setO 1 (lstE (nilA)))
 (seqM (forM (itW (varE 0)) (nameG 2)
 (fgM [2] (ifM (boolD (bin2 ninD (nV 2) (nV 1)))
 (exprS (mutE 1 (consA (varE 2) (nilA)) appG))
 (nopM))))
 (retM (varE 1)))
def sem_once : Sem := runF 3 m_once

theorem sc_once : FnScope ["places", "found", "place"] ["places"] (defScope st_once) := ⟨rfl, rfl, rfl, by decide +kernel, rfl, by decide +kernel, by decide +kernel⟩

/-! ### come_to -/
abbrev st_come_to : Stmt := top 5
def m_come_to : SM :=
 seqM (parS [2, 3] (consO (lstE (consA (varE 1) (nilA))) (consS (cE (.int 0)) (nilM))))
 (seqM (whileL (boolD (bin2 ltD (nV 3) (vE (callB lenG (consV (nV 2) (nilV))))))
 (seqM (exprS (mutE 2 (consA (lcE (itW (callE sem_once (consC (bin2 idxD (nV 0) (vE (bin2 idxD (nV 2) (nV 3)))) (nilC)))) [4] (nameG 4) (boolD (bin2 ninD (nV 4) (nV 2))) (varE 4)) (nilA)) extG))
 (augM 3 iaddD (cE (.int 1)))) fuel)
 (retM (callB tupleG (consV (vE (callB sort3G (consV (nV 2) (nilV)))) (nilV)))))
def sem_come_to : Sem := runF 5 m_come_to

theorem sc_come_to : FnScope ["steps", "place", "found", "at", "later"] ["steps", "place"] (defScope st_come_to) := ⟨rfl, rfl, rfl, by decide +kernel, rfl, by decide +kernel, by decide +kernel⟩

/-! ### is_number -/
abbrev st_is_number : Stmt := top 1

theorem sc_is_number : FnScope ["thing"] ["thing"] (defScope st_is_number) := ⟨rfl, rfl, rfl, by decide +kernel, rfl, by decide +kernel, by decide +kernel⟩

/-! ### is_from -/
abbrev st_is_from : Stmt := top 2

theorem sc_is_from : FnScope ["thing", "least"] ["thing", "least"] (defScope st_is_from) := ⟨rfl, rfl, rfl, by decide +kernel, rfl, by decide +kernel, by decide +kernel⟩

/-! ### is_lasso -/
abbrev st_is_lasso : Stmt := top 10
def m_is_lasso : SM :=
 seqM (ifM (orB (notBM (boolD (isiE "tuple" (nV 2)))) (orB (boolD (bin2 ltD (vE (callB lenG (consV (nV 2) (nilV)))) (vE (cE (.int 2))))) (orB (notBM (boolD (callB allG (consV (vE (lcE (itW (varE 2)) [3] (nameG 3) (trueB) (callE sem_is_from (consN 3 (consC (cE (.int 0)) (nilC)))))) (nilV))))) (boolD (bin2 neD (vE (bin2 idxD (nV 2) (vE (cE (.int 0))))) (nV 1))))))
 (retM (cE (.bl false)))
 (nopM))
 (seqM (ifM (orB (notBM (boolD (callB allG (consV (vE (lcE (itW (varE 2)) [3] (nameG 3) (trueB) (bin2 inD (nV 3) (nV 0)))) (nilV))))) (boolD (bin2 ninD (vE (bin2 idxD (nV 2) (vE (un1 negD (vE (cE (.int 1))))))) (vE (sliceE (nV 2) (noO) (someO (un1 negD (vE (cE (.int 1))))))))))
 (retM (cE (.bl false)))
 (nopM))
 (retM (callB allG (consV (vE (lcE (rng1 (bin2 subD (vE (callB lenG (consV (nV 2) (nilV)))) (vE (cE (.int 1))))) [4] (nameG 4) (trueB) (bin2 inD (vE (bin2 idxD (nV 2) (vE (bin2 addD (nV 4) (vE (cE (.int 1))))))) (vE (bin2 idxD (nV 0) (vE (bin2 idxD (nV 2) (nV 4)))))))) (nilV)))))
def sem_is_lasso : Sem := runF 5 m_is_lasso

theorem sc_is_lasso : FnScope ["steps", "place", "way", "own", "k"] ["steps", "place", "way"] (defScope st_is_lasso) := ⟨rfl, rfl, rfl, by decide +kernel, rfl, by decide +kernel, by decide +kernel⟩

/-! ### is_steps -/
abbrev st_is_steps : Stmt := top 4
def m_is_steps : SM :=
 seqM (ifM (orB (notBM (boolD (isiE "dict" (nV 0)))) (notBM (boolD (callB allG (consV (vE (lcE (itW (varE 0)) [1] (nameG 1) (trueB) (isiE "tuple" (vE (bin2 idxD (nV 0) (nV 1)))))) (nilV))))))
 (retM (cE (.bl false)))
 (nopM))
 (seqM (ifM (notBM (boolD (callB allG (consV (vE (lcE (itW (varE 0)) [1] (nameG 1) (trueB) (callE sem_is_from (consN 1 (consC (cE (.int 0)) (nilC)))))) (nilV)))))
 (retM (cE (.bl false)))
 (nopM))
 (retM (callB allG (consV (vE (lcE2 (itW (varE 0)) [1, 2] (nameG 1) (trueB) (itW (bin2 idxD (nV 0) (nV 1))) [2] (nameG 2) (trueB) (andE (callE sem_is_from (consN 2 (consC (cE (.int 0)) (nilC)))) (bin2 inD (nV 2) (nV 0))))) (nilV)))))
def sem_is_steps : Sem := runF 3 m_is_steps

theorem sc_is_steps : FnScope ["thing", "place", "later"] ["thing"] (defScope st_is_steps) := ⟨rfl, rfl, rfl, by decide +kernel, rfl, by decide +kernel, by decide +kernel⟩

/-! ### ranks -/
abbrev st_ranks : Stmt := top 7
def m_ranks : SM :=
 seqM (parS [1, 2] (consO (dispE []) (consS (cE (.bl true)) (nilM))))
 (seqM (whileL (boolD (varE 2))
 (fgM [3] (seqM (setS 2 (cE (.bl false)))
 (forM (itW (callB sort3G (consV (nV 0) (nilV)))) (nameG 3)
 (fgM [3] (ifM (andB (boolD (bin2 ninD (nV 3) (nV 1))) (boolD (callB allG (consV (vE (lcE (itW (bin2 idxD (nV 0) (nV 3))) [4] (nameG 4) (trueB) (bin2 inD (nV 4) (nV 1)))) (nilV)))))
 (seqM (storeM 1 (varE 3) (bin2 addD (vE (callB (bestG max) (consV (vE (bin2 addD (vE (lstE (consA (un1 negD (vE (cE (.int 1)))) (nilA)))) (vE (lcE (itW (bin2 idxD (nV 0) (nV 3))) [4] (nameG 4) (trueB) (bin2 idxD (nV 1) (nV 4)))))) (nilV)))) (vE (cE (.int 1)))))
 (setS 2 (cE (.bl true))))
 (nopM)))))) fuel)
 (retM (varE 1)))
def sem_ranks : Sem := runF 5 m_ranks

theorem sc_ranks : FnScope ["steps", "found", "is_new", "place", "later"] ["steps"] (defScope st_ranks) := ⟨rfl, rfl, rfl, by decide +kernel, rfl, by decide +kernel, by decide +kernel⟩

/-! ### lasso -/
abbrev st_lasso : Stmt := top 8
def m_lasso : SM :=
 seqM (setS 2 (callE sem_ranks (consN 0 (nilC))))
 (seqM (ifM (boolD (bin2 inD (nV 1) (nV 2)))
 (retM (cE .non))
 (nopM))
 (seqM (setO 3 (lstE (consA (varE 1) (nilA))))
 (whileL (boolD (cE (.bl true)))
 (fgM [4] (seqM (setS 4 (bin2 idxD (vE (lcE (itW (bin2 idxD (nV 0) (vE (bin2 idxD (nV 3) (vE (un1 negD (vE (cE (.int 1))))))))) [5] (nameG 5) (boolD (bin2 ninD (nV 5) (nV 2))) (varE 5))) (vE (cE (.int 0)))))
 (seqM (exprS (mutE 3 (consA (varE 4) (nilA)) appG))
 (ifM (boolD (bin2 inD (nV 4) (vE (sliceE (nV 3) (noO) (someO (un1 negD (vE (cE (.int 1)))))))))
 (retM (callB tupleG (consV (nV 3) (nilV))))
 (nopM))))) fuel)))
def sem_lasso : Sem := runF 6 m_lasso

theorem sc_lasso : FnScope ["steps", "place", "sure", "way", "later", "own"] ["steps", "place"] (defScope st_lasso) := ⟨rfl, rfl, rfl, by decide +kernel, rfl, by decide +kernel, by decide +kernel⟩

/-! ### must_rest -/
abbrev st_must_rest : Stmt := top 9
def m_must_rest : SM :=
 seqM (setS 2 (callE sem_ranks (consN 0 (nilC))))
 (retM (ifE (boolD (bin2 inD (nV 1) (nV 2))) (tupE (consA (cE (.str "yes")) (consA (bin2 idxD (nV 2) (nV 1)) (nilA)))) (tupE (consA (cE (.str "no")) (consA (callE sem_lasso (consN 0 (consN 1 (nilC)))) (nilA))))))
def sem_must_rest : Sem := runF 3 m_must_rest

theorem sc_must_rest : FnScope ["steps", "place", "sure"] ["steps", "place"] (defScope st_must_rest) := ⟨rfl, rfl, rfl, by decide +kernel, rfl, by decide +kernel, by decide +kernel⟩

/-! ### law -/
abbrev st_law : Stmt := top 19
def m_law : SM :=
 seqM (setO 1 (dispE [(cE (.str "draws"), callE sem__law_draws (consN 0 (consC (cE (.int 130)) (nilC)))), (cE (.str "at"), cE (.int 0))]))
 (seqM (forM (rng1 (cE (.int 3))) (nameG 2)
 (fgM [2, 3, 4, 5, 6, 7, 8, 9, 10, 11, 12, 14, 15, 16, 17] (seqM (setS 3 (callE sem__law_steps_drawn (consN 1 (nilC))))
 (seqM (setS 4 (callB dictG4 (consV (nV 3) (nilV))))
 (seqM (setO 5 (callB dictG4 (consV (nV 3) (nilV))))
 (seqM (storeM 5 (callE sem__law_next (consN 1 (consC (callB lenG (consV (nV 3) (nilV))) (nilC)))) (callE sem__law_pick (consN 1 (consC (lstE (consA (lstE (consA (cE (.int 0)) (nilA))) (consA (tupE (consA (callB lenG (consV (nV 3) (nilV))) (nilA))) (consA (tupE (consA (un1 negD (vE (cE (.int 1)))) (nilA))) (consA (cE .non) (consA (tupE (consA (cE (.str "0")) (nilA))) (consA (cE (.int 0)) (consA (tupE (consA (cE (.bl true)) (consA (cE (.str "a")) (nilA)))) (nilA))))))))) (nilC)))))
 (seqM (forM (itW (tupE (consA (tupE (consA (varE 3) (consA (cE (.bl true)) (nilA)))) (consA (tupE (consA (dispE []) (consA (cE (.bl true)) (nilA)))) (consA (tupE (consA (varE 5) (consA (cE (.bl false)) (nilA)))) (consA (tupE (consA (lstE (nilA)) (consA (cE (.bl false)) (nilA)))) (consA (tupE (consA (cE .non) (consA (cE (.bl false)) (nilA)))) (consA (tupE (consA (dispE [(cE (.str "a"), tupE (nilA))]) (consA (cE (.bl false)) (nilA)))) (consA (tupE (consA (dispE2 [(un1 negD (vE (cE (.int 1))), tupE (nilA))]) (consA (cE (.bl false)) (nilA)))) (nilA)))))))))) (tupG 2 (consG (nameG 6) (consG (nameG 7) (nilG))))
 (fgM [6, 7] (ifM (notBM (boolD (callE sem__law_same3 (consC (callE sem_is_steps (consN 6 (nilC))) (consC (varE 7) (nilC))))))
 (retM (cE (.bl false)))
 (nopM))))
 (seqM (setO 7 (dispE []))
 (seqM (forM (itW (varE 3)) (nameG 8)
 (fgM [8, 9] (seqM (setS 9 (callE sem__law_longest (consN 3 (consN 8 (nilC)))))
 (ifM (boolD (bin2 isnD (nV 9) (vE (cE .non))))
 (storeM 7 (varE 8) (varE 9))
 (nopM)))))
 (seqM (ifM (notBM (boolD (callE sem__law_same3 (consC (callE sem_ranks (consN 4 (nilC))) (consC (varE 7) (nilC))))))
 (retM (cE (.bl false)))
 (nopM))
 (seqM (forM (itW (varE 3)) (nameG 8)
 (fgM [8, 10, 11, 12, 14, 15, 16] (seqM (setS 10 (lstE (consA (varE 8) (nilA))))
 (seqM (forM (rng1 (callB lenG (consV (nV 3) (nilV)))) (nameG 11)
 (fgM [11, 12] (forM (itW (callB list2G (consV (nV 10) (nilV)))) (nameG 12)
 (fgM [12] (setS 10 (bin2 addD (nV 10) (vE (lcE (itW (bin2 idxD (nV 3) (nV 12))) [13] (nameG 13) (boolD (bin2 ninD (nV 13) (nV 10))) (varE 13)))))))))
 (seqM (ifM (notBM (boolD (callE sem__law_same3 (consC (callE sem_come_to (consN 4 (consN 8 (nilC)))) (consC (callB tupleG (consV (vE (callB ss2G (consV (nV 10) (nilV)))) (nilV))) (nilC))))))
 (retM (cE (.bl false)))
 (nopM))
 (seqM (setS 14 (callE sem_must_rest (consN 4 (consN 8 (nilC)))))
 (seqM (ifM (andB (boolD (bin2 inD (nV 8) (nV 7))) (notBM (boolD (callE sem__law_same3 (consN 14 (consC (tupE (consA (cE (.str "yes")) (consA (bin2 idxD (nV 7) (nV 8)) (nilA)))) (nilC)))))))
 (retM (cE (.bl false)))
 (nopM))
 (ifM (boolD (bin2 ninD (nV 8) (nV 7)))
 (seqM (ifM (orB (notBM (boolD (isiE "tuple" (nV 14)))) (orB (boolD (bin2 neD (vE (callB lenG (consV (nV 14) (nilV)))) (vE (cE (.int 2))))) (orB (notBM (boolD (callE sem__law_same3 (consC (bin2 idxD (nV 14) (vE (cE (.int 0)))) (consC (cE (.str "no")) (nilC)))))) (notBM (boolD (callE sem__law_lasso (consN 3 (consN 8 (consC (bin2 idxD (nV 14) (vE (cE (.int 1)))) (nilC))))))))))
 (retM (cE (.bl false)))
 (nopM))
 (seqM (setS 15 (bin2 idxD (nV 14) (vE (cE (.int 1)))))
 (forM (itW (tupE (consA (varE 15) (consA (sliceE (nV 15) (noO) (someO (un1 negD (vE (cE (.int 1)))))) (consA (sliceE (nV 15) (someO (cE (.int 1))) (noO)) (consA (callB list2G (consV (nV 15) (nilV))) (consA (bin2 addD (nV 15) (vE (tupE (consA (cE (.int 9)) (nilA))))) (consA (bin2 addD (nV 15) (vE (sliceE (nV 15) (someO (un1 negD (vE (cE (.int 1))))) (noO)))) (consA (un1 rev2D (nV 15)) (consA (tupE (nilA)) (consA (cE .non) (consA (tupE (consA (varE 8) (nilA))) (consA (bin2 addD (vE (sliceE (nV 15) (noO) (someO (un1 negD (vE (cE (.int 1))))))) (vE (tupE (consA (cE (.bl true)) (nilA))))) (consA (bin2 addD (nV 15) (vE (tupE (consA (cE .non) (nilA))))) (nilA))))))))))))))) (nameG 16)
 (fgM [16] (ifM (notBM (boolD (callE sem__law_same3 (consC (callE sem_is_lasso (consN 4 (consN 8 (consN 16 (nilC))))) (consC (callE sem__law_lasso (consN 3 (consN 8 (consN 16 (nilC))))) (nilC))))))
 (retM (cE (.bl false)))
 (nopM))))))
 (nopM)))))))))
 (seqM (setS 17 (lstE (consA (callE sem__law_next (consN 1 (consC (callB lenG (consV (nV 3) (nilV))) (nilC)))) (nilA))))
 (seqM (forM (rng1 (callE sem__law_next (consN 1 (consC (cE (.int 8)) (nilC))))) (nameG 11)
 (fgM [11] (setS 17 (bin2 addD (nV 17) (vE (lstE (consA (callE sem__law_pick (consN 1 (consC (bin2 addD (vE (callB list2G (consV (vE (bin2 idxD (nV 3) (vE (bin2 idxD (nV 17) (vE (un1 negD (vE (cE (.int 1))))))))) (nilV)))) (vE (lstE (consA (callE sem__law_next (consN 1 (consC (callB lenG (consV (nV 3) (nilV))) (nilC)))) (nilA))))) (nilC)))) (nilA))))))))
 (seqM (ifM (notBM (boolD (callE sem__law_same3 (consC (callE sem_is_lasso (consN 4 (consC (bin2 idxD (nV 17) (vE (cE (.int 0)))) (consC (callB tupleG (consV (nV 17) (nilV))) (nilC))))) (consC (callE sem__law_lasso (consN 3 (consC (bin2 idxD (nV 17) (vE (cE (.int 0)))) (consC (callB tupleG (consV (nV 17) (nilV))) (nilC))))) (nilC))))))
 (retM (cE (.bl false)))
 (nopM))
 (ifM (notBM (boolD (callE sem__law_same3 (consN 4 (consN 3 (nilC))))))
 (retM (cE (.bl false)))
 (nopM))))))))))))))))
 (retM (cE (.bl true))))
def sem_law : Sem := runF 18 m_law

theorem sc_law : FnScope ["script", "w", "turn", "steps", "handed", "spoilt", "thing", "due", "place", "most", "found", "k", "own", "goal", "paper", "way", "value", "walk"] ["script"] (defScope st_law) := ⟨rfl, rfl, rfl, by decide +kernel, rfl, by decide +kernel, by decide +kernel⟩

structure Tops (K : PySem.W.Frag) (mg : Str → Option Value) where
  f__law_draws : Addr
  d__law_draws : FuncData
  F__law_draws : Fun K "_law_draws" "_law_draws" st__law_draws f__law_draws d__law_draws
  g__law_draws : mg "_law_draws" = some (.ref f__law_draws)
  b__law_draws : Binds K d__law_draws ["script", "many"] []
  f__law_lasso : Addr
  d__law_lasso : FuncData
  F__law_lasso : Fun K "_law_lasso" "_law_lasso" st__law_lasso f__law_lasso d__law_lasso
  g__law_lasso : mg "_law_lasso" = some (.ref f__law_lasso)
  b__law_lasso : Binds K d__law_lasso ["steps", "place", "way"] []
  f__law_longest : Addr
  d__law_longest : FuncData
  F__law_longest : Fun K "_law_longest" "_law_longest" st__law_longest f__law_longest d__law_longest
  g__law_longest : mg "_law_longest" = some (.ref f__law_longest)
  b__law_longest : Binds K d__law_longest ["steps", "place"] []
  f__law_next : Addr
  d__law_next : FuncData
  F__law_next : Fun K "_law_next" "_law_next" st__law_next f__law_next d__law_next
  g__law_next : mg "_law_next" = some (.ref f__law_next)
  b__law_next : Binds K d__law_next ["w", "many"] []
  f__law_pick : Addr
  d__law_pick : FuncData
  F__law_pick : Fun K "_law_pick" "_law_pick" st__law_pick f__law_pick d__law_pick
  g__law_pick : mg "_law_pick" = some (.ref f__law_pick)
  b__law_pick : Binds K d__law_pick ["w", "rows"] []
  f__law_same : Addr
  d__law_same : FuncData
  F__law_same : Fun K "_law_same" "_law_same" st__law_same f__law_same d__law_same
  g__law_same : mg "_law_same" = some (.ref f__law_same)
  b__law_same : Binds K d__law_same ["seen", "due"] []
  f__law_steps_drawn : Addr
  d__law_steps_drawn : FuncData
  F__law_steps_drawn : Fun K "_law_steps_drawn" "_law_steps_drawn" st__law_steps_drawn f__law_steps_drawn d__law_steps_drawn
  g__law_steps_drawn : mg "_law_steps_drawn" = some (.ref f__law_steps_drawn)
  b__law_steps_drawn : Binds K d__law_steps_drawn ["w"] []
  f_once : Addr
  d_once : FuncData
  F_once : Fun K "once" "once" st_once f_once d_once
  g_once : mg "once" = some (.ref f_once)
  b_once : Binds K d_once ["places"] []
  f_come_to : Addr
  d_come_to : FuncData
  F_come_to : Fun K "come_to" "come_to" st_come_to f_come_to d_come_to
  g_come_to : mg "come_to" = some (.ref f_come_to)
  b_come_to : Binds K d_come_to ["steps", "place"] []
  f_is_number : Addr
  d_is_number : FuncData
  F_is_number : Fun K "is_number" "is_number" st_is_number f_is_number d_is_number
  g_is_number : mg "is_number" = some (.ref f_is_number)
  b_is_number : Binds K d_is_number ["thing"] []
  f_is_from : Addr
  d_is_from : FuncData
  F_is_from : Fun K "is_from" "is_from" st_is_from f_is_from d_is_from
  g_is_from : mg "is_from" = some (.ref f_is_from)
  b_is_from : Binds K d_is_from ["thing", "least"] []
  f_is_lasso : Addr
  d_is_lasso : FuncData
  F_is_lasso : Fun K "is_lasso" "is_lasso" st_is_lasso f_is_lasso d_is_lasso
  g_is_lasso : mg "is_lasso" = some (.ref f_is_lasso)
  b_is_lasso : Binds K d_is_lasso ["steps", "place", "way"] []
  f_is_steps : Addr
  d_is_steps : FuncData
  F_is_steps : Fun K "is_steps" "is_steps" st_is_steps f_is_steps d_is_steps
  g_is_steps : mg "is_steps" = some (.ref f_is_steps)
  b_is_steps : Binds K d_is_steps ["thing"] []
  f_ranks : Addr
  d_ranks : FuncData
  F_ranks : Fun K "ranks" "ranks" st_ranks f_ranks d_ranks
  g_ranks : mg "ranks" = some (.ref f_ranks)
  b_ranks : Binds K d_ranks ["steps"] []
  f_lasso : Addr
  d_lasso : FuncData
  F_lasso : Fun K "lasso" "lasso" st_lasso f_lasso d_lasso
  g_lasso : mg "lasso" = some (.ref f_lasso)
  b_lasso : Binds K d_lasso ["steps", "place"] []
  f_must_rest : Addr
  d_must_rest : FuncData
  F_must_rest : Fun K "must_rest" "must_rest" st_must_rest f_must_rest d_must_rest
  g_must_rest : mg "must_rest" = some (.ref f_must_rest)
  b_must_rest : Binds K d_must_rest ["steps", "place"] []
  f_law : Addr
  d_law : FuncData
  F_law : Fun K "law" "law" st_law f_law d_law
  g_law : mg "law" = some (.ref f_law)
  b_law : Binds K d_law ["script"] []
  z_abs : mg "abs" = none
  z_all : mg "all" = none
  z_bool : mg "bool" = none
  z_dict : mg "dict" = none
  z_int : mg "int" = none
  z_isinstance : mg "isinstance" = none
  z_len : mg "len" = none
  z_list : mg "list" = none
  z_max : mg "max" = none
  z_range : mg "range" = none
  z_set : mg "set" = none
  z_sorted : mg "sorted" = none
  z_str : mg "str" = none
  z_tuple : mg "tuple" = none
section
variable {P : Program} {w : World} {K : PySem.W.Frag} {mg : Str → Option Value} {base : Heap}
theorem ok__law_draws {k : Nat} (T : Tops K mg) : FnOk P w K mg base CX0 (k + 1) T.f__law_draws T.d__law_draws ["script", "many"] (spD ⟨P, w, K⟩ 2 sem__law_draws) :=
 fn_ok (ps := ["script", "many"]) T.F__law_draws sc__law_draws fun cdv A outer s H E hr => have hu := hr.units
 ss_cons (s_setO (i := 2) sc__law_draws.nd rfl (by first | exact .inl rfl | exact .inr rfl) (po_lst (pda_nil)))
 (ss_cons (s_set (i := 3) sc__law_draws.nd rfl (by first | exact .inl rfl | exact .inr rfl) (pd_int))
 (ss_cons (s_for (vs := [4]) PassesOwn.never rfl (i_rng1 (by rfl) T.z_range (pd_cb (pe_callB b_len (by rfl) T.z_len PySem.boot_len (pva_cons (pv_name (pv 0)) (pva_nil))))) (g_name (by decide) sc__law_draws.nd rfl (by first | exact .inl rfl | exact .inr rfl))
 (ss_fg [4, 5, 6, 7] (ss_cons (s_set (i := 5) sc__law_draws.nd rfl (by first | exact .inl rfl | exact .inr rfl) (pd_cb (pe_callB b_abs (by rfl) T.z_abs PyProof.Rows.boot_abs (pva_cons (pv_of (pd_cb (pe_callTy b_int (by rfl) T.z_int PyProof.Rows.boot_int (pva_cons (pv_of (pd_ix hu (pv_name (pv 0)) (pv_name (pv 4)) (fun _ _ => rfl))) (pva_nil))))) (pva_nil)))))
 (ss_cons (s_set (i := 3) sc__law_draws.nd rfl (by first | exact .inl rfl | exact .inr rfl) (pd_op op_mod' (pv_of (pd_cb (pe_callTy b_int (by rfl) T.z_int PyProof.Rows.boot_int (pva_cons (pv_of (pd_op op_add' (pv_of (pd_op op_add' (pv_of (pd_op op_mul' (pv_name (pv 3)) (pv_of (pd_int)))) (pv_of (pd_op op_mod' (pv_name (pv 5)) (pv_of (pd_int)))))) (pv_name (pv 4)))) (pva_nil))))) (pv_of (pd_int))))
 (ss_cons (s_set (i := 6) sc__law_draws.nd rfl (by first | exact .inl rfl | exact .inr rfl) (pd_int))
 (ss_cons (s_if (pb_cmp (op_ge' hu) (pv_name (pv 5)) (pv_of (pd_op op_pow' (pv_of (pd_int)) (pv_of (pd_int)))) (nomark _))
 (ss_one (s_set (i := 6) sc__law_draws.nd rfl (by first | exact .inl rfl | exact .inr rfl) (pd_var (pv 5))))
 (ss_cons (s_expr (pd_append (pv 2) (pda_cons (pd_op op_mod' (pv_of (pd_cb (pe_callTy b_int (by rfl) T.z_int PyProof.Rows.boot_int (pva_cons (pv_name (pv 5)) (pva_nil))))) (pv_of (pd_int))) (pda_nil))))
 (ss_one (s_expr (pd_append (pv 2) (pda_cons (pd_op op_mod' (pv_of (pd_op op_mod' (pv_of (pd_cb (pe_callTy b_int (by rfl) T.z_int PyProof.Rows.boot_int (pva_cons (pv_of (pd_op op_add' (pv_of (pd_op op_mul' (pv_name (pv 3)) (pv_of (pd_int)))) (pv_of (pd_int)))) (pva_nil))))) (pv_of (pd_int)))) (pv_of (pd_int))) (pda_nil)))))))
 (ss_one (s_for (vs := [7]) PassesOwn.never rfl (i_rng1 (by rfl) T.z_range (pd_int)) (g_name (by decide) sc__law_draws.nd rfl (by first | exact .inl rfl | exact .inr rfl))
 (ss_fg [7] (ss_one (s_if (pb_cmp (op_gt' hu) (pv_name (pv 6)) (pv_of (pd_int)) (nomark _))
 (ss_cons (s_expr (pd_append (pv 2) (pda_cons (pd_op op_mod' (pv_of (pd_cb (pe_callTy b_int (by rfl) T.z_int PyProof.Rows.boot_int (pva_cons (pv_name (pv 6)) (pva_nil))))) (pv_of (pd_int))) (pda_nil))))
 (ss_one (s_set (i := 6) sc__law_draws.nd rfl (by first | exact .inl rfl | exact .inr rfl) (pd_op op_fdiv' (pv_name (pv 6)) (pv_of (pd_int))))))
 (ss_nil))))))))))))
 (ss_cons (s_for (vs := [4]) PassesOwn.never rfl (i_rng1 (by rfl) T.z_range (pd_var (pv 1))) (g_name (by decide) sc__law_draws.nd rfl (by first | exact .inl rfl | exact .inr rfl))
 (ss_fg [4] (ss_cons (s_set (i := 3) sc__law_draws.nd rfl (by first | exact .inl rfl | exact .inr rfl) (pd_op op_mod' (pv_of (pd_cb (pe_callTy b_int (by rfl) T.z_int PyProof.Rows.boot_int (pva_cons (pv_of (pd_op op_add' (pv_of (pd_op op_add' (pv_of (pd_op op_mul' (pv_name (pv 3)) (pv_of (pd_int)))) (pv_name (pv 4)))) (pv_of (pd_int)))) (pva_nil))))) (pv_of (pd_int))))
 (ss_one (s_expr (pd_append (pv 2) (pda_cons (pd_op op_mod' (pv_of (pd_cb (pe_callTy b_int (by rfl) T.z_int PyProof.Rows.boot_int (pva_cons (pv_name (pv 3)) (pva_nil))))) (pv_of (pd_int))) (pda_nil))))))))
 (ss_one (s_ret (pd_slice (pv_name (pv 2)) (po_no) (po_sm (pd_var (pv 1)))))))))
theorem ok__law_lasso {k : Nat} (T : Tops K mg) : FnOk P w K mg base CX0 (k + 1) T.f__law_lasso T.d__law_lasso ["steps", "place", "way"] (spD ⟨P, w, K⟩ 3 sem__law_lasso) :=
 fn_ok (ps := ["steps", "place", "way"]) T.F__law_lasso sc__law_lasso fun cdv A outer s H E hr => have hu := hr.units
 ss_cons (s_if (pb_of (pw_or' (pb_not (pb_val (pd_isi (pv_name (pv 2)) (by rfl) T.z_isinstance (by rfl) T.z_tuple PyProof.Rows.boot_tuple (by decide)))) (pw_or' (pb_cmp (op_lt' hu) (pv_of (pd_cb (pe_callB b_len (by rfl) T.z_len PySem.boot_len (pva_cons (pv_name (pv 2)) (pva_nil))))) (pv_of (pd_int)) (nomark _)) (pw_or1' (pb_cmp (op_ne' hu) (pv_of (pd_of_po (po_lc rfl sc__law_lasso.nd (i_w (pd_var (pv 2))) (own := [("own", 3)]) (by exact blkOk_by (N := ["steps", "place", "way", "own", "k"]) (sc := defScope st__law_lasso) (by decide +kernel)) (fun _ _ _ _ _ => g_name (by decide) sc__law_lasso.nd rfl (by first | exact .inl rfl | exact .inr rfl)) (fun _ _ _ _ _ => pts_one' (pb_of (pw_or' (pb_val (pd_isi (pv_name (pv 3)) (by rfl) T.z_isinstance (by rfl) T.z_bool PyProof.Rows.boot_bool (by decide))) (pw_or' (pb_not (pb_val (pd_isi (pv_name (pv 3)) (by rfl) T.z_isinstance (by rfl) T.z_int PyProof.Rows.boot_int (by decide)))) (pw_or1' (pb_cmp (op_nin' hu) (pv_name (pv 3)) (pv_name (pv 0)) (by with_unfolding_all rfl))))))) (fun _ _ _ _ _ => pd_var (pv 3))))) (pv_of (pd_of_po (po_lst (pda_nil)))) (nomark _))))))
 (ss_one (s_ret (pd_bl)))
 (ss_nil))
 (ss_one (s_ret (pd_and (pd_cmp (op_eq' hu) (pv_of (pd_ix hu (pv_name (pv 2)) (pv_of (pd_int)) (fun _ _ => rfl))) (pv_name (pv 1)) (nomark _)) (pd_and (pd_cmp (op_in' hu) (pv_of (pd_ix hu (pv_name (pv 2)) (pv_of (pd_neg (pv_of (pd_int)))) (fun _ _ => rfl))) (pv_of (pd_slice (pv_name (pv 2)) (po_no) (po_sm (pd_neg (pv_of (pd_int)))))) (by with_unfolding_all rfl)) (pd_one (pd_cmp (op_eq' hu) (pv_of (pd_of_po (po_lc rfl sc__law_lasso.nd (i_rng2 (by rfl) T.z_range (pda_cons (pd_int) (pda_cons (pd_cb (pe_callB b_len (by rfl) T.z_len PySem.boot_len (pva_cons (pv_name (pv 2)) (pva_nil)))) (pda_nil)))) (own := [("k", 4)]) (by exact blkOk_by (N := ["steps", "place", "way", "own", "k"]) (sc := defScope st__law_lasso) (by decide +kernel)) (fun _ _ _ _ _ => g_name (by decide) sc__law_lasso.nd rfl (by first | exact .inl rfl | exact .inr rfl)) (fun _ _ _ _ _ => pts_one' (pb_cmp (op_nin' hu) (pv_of (pd_ix hu (pv_name (pv 2)) (pv_name (pv 4)) (fun _ _ => rfl))) (pv_of (pd_ix hu (pv_name (pv 0)) (pv_of (pd_ix hu (pv_name (pv 2)) (pv_of (pd_op op_sub' (pv_name (pv 4)) (pv_of (pd_int)))) (fun _ _ => rfl))) (fun _ _ => rfl))) (by with_unfolding_all rfl))) (fun _ _ _ _ _ => pd_var (pv 4))))) (pv_of (pd_of_po (po_lst (pda_nil)))) (nomark _)))))))
theorem ok__law_longest {k : Nat} (T : Tops K mg) : FnOk P w K mg base CX0 (k + 1) T.f__law_longest T.d__law_longest ["steps", "place"] (spD ⟨P, w, K⟩ 2 sem__law_longest) :=
 fn_ok (ps := ["steps", "place"]) T.F__law_longest sc__law_longest fun cdv A outer s H E hr => have hu := hr.units
 ss_cons (s_par (i := 2) (j := 3) rfl sc__law_longest.nd rfl rfl (by decide) rfl rfl (pda_cons (pd_of_po (po_lst (pda_cons (pd_var (pv 1)) (pda_nil)))) (pda_cons (pd_int) (pda_nil))))
 (ss_cons (s_for (vs := [4]) PassesOwn.never rfl (i_rng1 (by rfl) T.z_range (pd_op op_add' (pv_of (pd_cb (pe_callB b_len (by rfl) T.z_len PySem.boot_len (pva_cons (pv_name (pv 0)) (pva_nil))))) (pv_of (pd_int)))) (g_name (by decide) sc__law_longest.nd rfl (by first | exact .inl rfl | exact .inr rfl))
 (ss_fg [4, 5, 6] (ss_cons (s_set (i := 5) sc__law_longest.nd rfl (by first | exact .inl rfl | exact .inr rfl) (pd_of_po (po_lst (pda_nil))))
 (ss_cons (s_for (vs := [6]) PassesOwn.never rfl (i_w (pd_var (pv 2))) (g_name (by decide) sc__law_longest.nd rfl (by first | exact .inl rfl | exact .inr rfl))
 (ss_fg [6] (ss_one (s_set (i := 5) sc__law_longest.nd rfl (by first | exact .inl rfl | exact .inr rfl) (pd_op op_add' (pv_name (pv 5)) (pv_of (pd_of_po (po_lc rfl sc__law_longest.nd (i_w (pd_ix hu (pv_name (pv 0)) (pv_name (pv 6)) (fun _ _ => rfl))) (own := [("goal", 7)]) (by exact blkOk_by (N := ["steps", "place", "layer", "many", "turn", "later", "own", "goal"]) (sc := defScope st__law_longest) (by decide +kernel)) (fun _ _ _ _ _ => g_name (by decide) sc__law_longest.nd rfl (by first | exact .inl rfl | exact .inr rfl)) (fun _ _ _ _ _ => pts_one' (pb_cmp (op_nin' hu) (pv_name (pv 7)) (pv_name (pv 5)) (by with_unfolding_all rfl))) (fun _ _ _ _ _ => pd_var (pv 7))))))))))
 (ss_cons (s_if (pb_cmp (op_eq' hu) (pv_name (pv 5)) (pv_of (pd_of_po (po_lst (pda_nil)))) (nomark _))
 (ss_one (s_ret (pd_var (pv 3))))
 (ss_nil))
 (ss_one (s_par (i := 2) (j := 3) rfl sc__law_longest.nd rfl rfl (by decide) rfl rfl (pda_cons (pd_var (pv 5)) (pda_cons (pd_op op_add' (pv_name (pv 3)) (pv_of (pd_int))) (pda_nil))))))))))
 (ss_one (s_ret (pd_non))))
theorem ok__law_next {k : Nat} (T : Tops K mg) : FnOk P w K mg base CX0 (k + 1) T.f__law_next T.d__law_next ["w", "many"] (spD ⟨P, w, K⟩ 2 sem__law_next) :=
 fn_ok (ps := ["w", "many"]) T.F__law_next sc__law_next fun cdv A outer s H E hr => have hu := hr.units
 ss_cons (s_augSt hu (pv 0) (pd_str) (pd_int) iop_add')
 (ss_cons (s_if (pb_cmp (op_gt' hu) (pv_of (pd_ix hu (pv_name (pv 0)) (pv_of (pd_str)) (fun _ _ => rfl))) (pv_of (pd_cb (pe_callB b_len (by rfl) T.z_len PySem.boot_len (pva_cons (pv_of (pd_ix hu (pv_name (pv 0)) (pv_of (pd_str)) (fun _ _ => rfl))) (pva_nil))))) (nomark _))
 (ss_one (s_ret (pd_int)))
 (ss_nil))
 (ss_one (s_ret (pd_op op_mod' (pv_of (pd_cb (pe_callTy b_int (by rfl) T.z_int PyProof.Rows.boot_int (pva_cons (pv_of (pd_ix hu (pv_of (pd_ix hu (pv_name (pv 0)) (pv_of (pd_str)) (fun _ _ => rfl))) (pv_of (pd_op op_sub' (pv_of (pd_ix hu (pv_name (pv 0)) (pv_of (pd_str)) (fun _ _ => rfl))) (pv_of (pd_int)))) (fun _ _ => rfl))) (pva_nil))))) (pv_name (pv 1))))))
theorem ok__law_pick {k : Nat} (T : Tops K mg) : FnOk P w K mg base CX0 (k + 2) T.f__law_pick T.d__law_pick ["w", "rows"] (spD ⟨P, w, K⟩ 2 sem__law_pick) :=
 fn_ok (ps := ["w", "rows"]) T.F__law_pick sc__law_pick fun cdv A outer s H E hr => have hu := hr.units
 ss_one (s_ret (pd_ix hu (pv_name (pv 1)) (pv_of (pd_call (ok__law_next (k := k) T) hr (by rfl) T.g__law_next T.F__law_next.kp T.b__law_next (ca_nm (pv 0) (ca_val (pd_cb (pe_callB b_len (by rfl) T.z_len PySem.boot_len (pva_cons (pv_name (pv 1)) (pva_nil)))) (ca_nil))) (consN_len (consC_len (fun _ _ _ h => nilC_len h))))) (fun _ _ => rfl)))
theorem ok__law_same {k : Nat} (T : Tops K mg) : FnOk P w K mg base CX0 (k + 1) T.f__law_same T.d__law_same ["seen", "due"] (spD ⟨P, w, K⟩ 2 sem__law_same3) :=
 fn_ok (ps := ["seen", "due"]) T.F__law_same sc__law_same fun cdv A outer s H E hr => have hu := hr.units
 ss_cons (s_setO (i := 2) sc__law_same.nd rfl (by first | exact .inl rfl | exact .inr rfl) (po_lst (pda_cons (pd_tup (pda_cons (pd_var (pv 0)) (pda_cons (pd_var (pv 1)) (pda_nil)))) (pda_nil))))
 (ss_cons (s_while fuel PassesOwn.never (pb_cmp (op_neNil hu) (pv_name (pv 2)) (pv_of (pd_of_po (po_lst (pda_nil)))) (nomark _))
 (ss_fg [3, 4, 6] (ss_cons (s_asg (vs := [3, 4]) (pd_pop (pv 2)) (g_tup rfl (gs_cons (g_name (by decide) sc__law_same.nd rfl (by first | exact .inl rfl | exact .inr rfl)) (gs_cons (g_name (by decide) sc__law_same.nd rfl (by first | exact .inl rfl | exact .inr rfl)) (gs_nil)))))
 (ss_one (s_if (pb_val (pd_isi (pv_name (pv 4)) (by rfl) T.z_isinstance (by rfl) T.z_dict PyProof.Rows.boot_dict (by decide)))
 (ss_cons (s_if (pb_of (pw_or' (pb_not (pb_val (pd_isi (pv_name (pv 3)) (by rfl) T.z_isinstance (by rfl) T.z_dict PyProof.Rows.boot_dict (by decide)))) (pw_or' (pb_cmp (op_ne' hu) (pv_of (pd_cb (pe_callB b_len (by rfl) T.z_len PySem.boot_len (pva_cons (pv_name (pv 3)) (pva_nil))))) (pv_of (pd_cb (pe_callB b_len (by rfl) T.z_len PySem.boot_len (pva_cons (pv_name (pv 4)) (pva_nil))))) (nomark _)) (pw_or1' (pb_cmp (op_neNil hu) (pv_of (pd_of_po (po_lc rfl sc__law_same.nd (i_w (pd_var (pv 4))) (own := [("key", 5)]) (by exact blkOk_by (N := ["seen", "due", "waiting", "one", "other", "key", "keys", "k"]) (sc := defScope st__law_same) (by decide +kernel)) (fun _ _ _ _ _ => g_name (by decide) sc__law_same.nd rfl (by first | exact .inl rfl | exact .inr rfl)) (fun _ _ _ _ _ => pts_one' (pb_cmp (op_nin' hu) (pv_name (pv 5)) (pv_name (pv 3)) (by with_unfolding_all rfl))) (fun _ _ _ _ _ => pd_var (pv 5))))) (pv_of (pd_of_po (po_lst (pda_nil)))) (nomark _))))))
 (ss_one (s_ret (pd_bl)))
 (ss_nil))
 (ss_cons (s_set (i := 6) sc__law_same.nd rfl (by first | exact .inl rfl | exact .inr rfl) (pd_of_po (po_cb (pe_callTy (b_dict4 rfl hu) (by rfl) T.z_dict PyProof.Rows.boot_dict (pva_cons (pv_of (pd_of_po (po_lc rfl sc__law_same.nd (i_w (pd_var (pv 3))) (own := [("key", 5)]) (by exact blkOk_by (N := ["seen", "due", "waiting", "one", "other", "key", "keys", "k"]) (sc := defScope st__law_same) (by decide +kernel)) (fun _ _ _ _ _ => g_name (by decide) sc__law_same.nd rfl (by first | exact .inl rfl | exact .inr rfl)) (fun _ _ _ _ _ => pts_none) (fun _ _ _ _ _ => pd_tup (pda_cons (pd_var (pv 5)) (pda_cons (pd_var (pv 5)) (pda_nil))))))) (pva_nil))))))
 (ss_one (s_expr (pd_extend (pv 2) (pda_cons (pd_op op_add' (pv_of (pd_of_po (po_lc rfl sc__law_same.nd (i_w (pd_var (pv 4))) (own := [("key", 5)]) (by exact blkOk_by (N := ["seen", "due", "waiting", "one", "other", "key", "keys", "k"]) (sc := defScope st__law_same) (by decide +kernel)) (fun _ _ _ _ _ => g_name (by decide) sc__law_same.nd rfl (by first | exact .inl rfl | exact .inr rfl)) (fun _ _ _ _ _ => pts_none) (fun _ _ _ _ _ => pd_tup (pda_cons (pd_ix hu (pv_name (pv 3)) (pv_name (pv 5)) (fun _ _ => rfl)) (pda_cons (pd_ix hu (pv_name (pv 4)) (pv_name (pv 5)) (fun _ _ => rfl)) (pda_nil))))))) (pv_of (pd_of_po (po_lc rfl sc__law_same.nd (i_w (pd_var (pv 4))) (own := [("key", 5)]) (by exact blkOk_by (N := ["seen", "due", "waiting", "one", "other", "key", "keys", "k"]) (sc := defScope st__law_same) (by decide +kernel)) (fun _ _ _ _ _ => g_name (by decide) sc__law_same.nd rfl (by first | exact .inl rfl | exact .inr rfl)) (fun _ _ _ _ _ => pts_none) (fun _ _ _ _ _ => pd_tup (pda_cons (pd_ix hu (pv_name (pv 6)) (pv_name (pv 5)) (fun _ _ => rfl)) (pda_cons (pd_var (pv 5)) (pda_nil)))))))) (pda_nil)))))))
 (ss_one (s_if (pb_of (pw_or' (pb_val (pd_isi (pv_name (pv 4)) (by rfl) T.z_isinstance (by rfl) T.z_tuple PyProof.Rows.boot_tuple (by decide))) (pw_or1' (pb_val (pd_isi (pv_name (pv 4)) (by rfl) T.z_isinstance (by rfl) T.z_list PyProof.Rows.boot_list (by decide))))))
 (ss_cons (s_if (pb_of (pw_or' (pb_cmp (op_ne' hu) (pv_of (pd_isi (pv_name (pv 3)) (by rfl) T.z_isinstance (by rfl) T.z_tuple PyProof.Rows.boot_tuple (by decide))) (pv_of (pd_isi (pv_name (pv 4)) (by rfl) T.z_isinstance (by rfl) T.z_tuple PyProof.Rows.boot_tuple (by decide))) (nomark _)) (pw_or' (pb_cmp (op_ne' hu) (pv_of (pd_isi (pv_name (pv 3)) (by rfl) T.z_isinstance (by rfl) T.z_list PyProof.Rows.boot_list (by decide))) (pv_of (pd_isi (pv_name (pv 4)) (by rfl) T.z_isinstance (by rfl) T.z_list PyProof.Rows.boot_list (by decide))) (nomark _)) (pw_or1' (pb_cmp (op_ne' hu) (pv_of (pd_cb (pe_callB b_len (by rfl) T.z_len PySem.boot_len (pva_cons (pv_name (pv 3)) (pva_nil))))) (pv_of (pd_cb (pe_callB b_len (by rfl) T.z_len PySem.boot_len (pva_cons (pv_name (pv 4)) (pva_nil))))) (nomark _))))))
 (ss_one (s_ret (pd_bl)))
 (ss_nil))
 (ss_one (s_expr (pd_extend (pv 2) (pda_cons (pd_of_po (po_lc rfl sc__law_same.nd (i_rng1 (by rfl) T.z_range (pd_cb (pe_callB b_len (by rfl) T.z_len PySem.boot_len (pva_cons (pv_name (pv 4)) (pva_nil))))) (own := [("k", 7)]) (by exact blkOk_by (N := ["seen", "due", "waiting", "one", "other", "key", "keys", "k"]) (sc := defScope st__law_same) (by decide +kernel)) (fun _ _ _ _ _ => g_name (by decide) sc__law_same.nd rfl (by first | exact .inl rfl | exact .inr rfl)) (fun _ _ _ _ _ => pts_none) (fun _ _ _ _ _ => pd_tup (pda_cons (pd_ix hu (pv_name (pv 3)) (pv_name (pv 7)) (fun _ _ => rfl)) (pda_cons (pd_ix hu (pv_name (pv 4)) (pv_name (pv 7)) (fun _ _ => rfl)) (pda_nil)))))) (pda_nil))))))
 (ss_one (s_if (pb_of (pw_or' (pb_cmp (op_ne' hu) (pv_of (pd_isi (pv_name (pv 3)) (by rfl) T.z_isinstance (by rfl) T.z_bool PyProof.Rows.boot_bool (by decide))) (pv_of (pd_isi (pv_name (pv 4)) (by rfl) T.z_isinstance (by rfl) T.z_bool PyProof.Rows.boot_bool (by decide))) (nomark _)) (pw_or' (pb_cmp (op_ne' hu) (pv_of (pd_isi (pv_name (pv 3)) (by rfl) T.z_isinstance (by rfl) T.z_int PyProof.Rows.boot_int (by decide))) (pv_of (pd_isi (pv_name (pv 4)) (by rfl) T.z_isinstance (by rfl) T.z_int PyProof.Rows.boot_int (by decide))) (nomark _)) (pw_or' (pb_cmp (op_ne' hu) (pv_of (pd_isi (pv_name (pv 3)) (by rfl) T.z_isinstance (by rfl) T.z_str PyProof.Rows.boot_str (by decide))) (pv_of (pd_isi (pv_name (pv 4)) (by rfl) T.z_isinstance (by rfl) T.z_str PyProof.Rows.boot_str (by decide))) (nomark _)) (pw_or1' (pb_cmp (op_ne' hu) (pv_name (pv 3)) (pv_name (pv 4)) (nomark _)))))))
 (ss_one (s_ret (pd_bl)))
 (ss_nil))))))))))
 (ss_one (s_ret (pd_bl))))
theorem ok__law_steps_drawn {k : Nat} (T : Tops K mg) : FnOk P w K mg base CX0 (k + 2) T.f__law_steps_drawn T.d__law_steps_drawn ["w"] (spD ⟨P, w, K⟩ 1 sem__law_steps_drawn) :=
 fn_ok (ps := ["w"]) T.F__law_steps_drawn sc__law_steps_drawn fun cdv A outer s H E hr => have hu := hr.units
 ss_cons (s_set (i := 1) sc__law_steps_drawn.nd rfl (by first | exact .inl rfl | exact .inr rfl) (pd_op op_add' (pv_of (pd_int)) (pv_of (pd_call (ok__law_next (k := k) T) hr (by rfl) T.g__law_next T.F__law_next.kp T.b__law_next (ca_nm (pv 0) (ca_val (pd_int) (ca_nil))) (consN_len (consC_len (fun _ _ _ h => nilC_len h)))))))
 (ss_cons (s_set (i := 2) sc__law_steps_drawn.nd rfl (by first | exact .inl rfl | exact .inr rfl) (pd_call (ok__law_next (k := k) T) hr (by rfl) T.g__law_next T.F__law_next.kp T.b__law_next (ca_nm (pv 0) (ca_val (pd_int) (ca_nil))) (consN_len (consC_len (fun _ _ _ h => nilC_len h)))))
 (ss_cons (s_setO (i := 3) sc__law_steps_drawn.nd rfl (by first | exact .inl rfl | exact .inr rfl) (po_dnew))
 (ss_cons (s_for (vs := [4]) PassesOwn.never rfl (i_rng1 (by rfl) T.z_range (pd_var (pv 1))) (g_name (by decide) sc__law_steps_drawn.nd rfl (by first | exact .inl rfl | exact .inr rfl))
 (ss_fg [4, 5] (ss_cons (s_setLc (i := 5) rfl sc__law_steps_drawn.nd rfl rfl (sw_true rfl rfl rfl rfl) (i_rng1 (by rfl) T.z_range (pd_call (ok__law_next (k := k) T) hr (by rfl) T.g__law_next T.F__law_next.kp T.b__law_next (ca_nm (pv 0) (ca_val (pd_int) (ca_nil))) (consN_len (consC_len (fun _ _ _ h => nilC_len h))))) (own := [("k", 6)]) (by exact blkOk_by (N := ["w", "many", "low", "steps", "place", "goals", "k", "goal"]) (sc := defScope st__law_steps_drawn) (by decide +kernel)) (fun _ _ _ _ _ => g_name (by decide) sc__law_steps_drawn.nd rfl (by first | exact .inl rfl | exact .inr rfl)) (fun _ _ _ _ _ => pts_none) (fun _ _ _ _ _ => pd_call (ok__law_next (k := k) T) hr (by rfl) T.g__law_next T.F__law_next.kp T.b__law_next (ca_nm (pv 0) (ca_nm (pv 1) (ca_nil))) (consN_len (consN_len (fun _ _ _ h => nilC_len h)))))
 (ss_one (s_store hu (pv 3) (pd_var (pv 4)) (pd_cb (pe_callTy b_tuple (by rfl) T.z_tuple PyProof.Rows.boot_tuple (pva_cons (pv_of (pd_of_po (po_lc rfl sc__law_steps_drawn.nd (i_w (pd_var (pv 5))) (own := [("goal", 7)]) (by exact blkOk_by (N := ["w", "many", "low", "steps", "place", "goals", "k", "goal"]) (sc := defScope st__law_steps_drawn) (by decide +kernel)) (fun _ _ _ _ _ => g_name (by decide) sc__law_steps_drawn.nd rfl (by first | exact .inl rfl | exact .inr rfl)) (fun _ _ _ _ _ => pts_one' (pb_of (pw_or' (pb_cmp (op_gt' hu) (pv_name (pv 7)) (pv_name (pv 4)) (nomark _)) (pw_or1' (pb_cmp (op_eq' hu) (pv_name (pv 2)) (pv_of (pd_int)) (nomark _)))))) (fun _ _ _ _ _ => pd_var (pv 7))))) (pva_nil)))))))))
 (ss_one (s_ret (pd_var (pv 3)))))))
theorem ok_once {k : Nat} (T : Tops K mg) : FnOk P w K mg base CX0 (k + 1) T.f_once T.d_once ["places"] (spD ⟨P, w, K⟩ 1 sem_once) :=
 fn_ok (ps := ["places"]) T.F_once sc_once fun cdv A outer s H E hr => have hu := hr.units
 ss_cons (s_setO (i := 1) sc_once.nd rfl (by first | exact .inl rfl | exact .inr rfl) (po_lst (pda_nil)))
 (ss_cons (s_for (vs := [2]) PassesOwn.never rfl (i_w (pd_var (pv 0))) (g_name (by decide) sc_once.nd rfl (by first | exact .inl rfl | exact .inr rfl))
 (ss_fg [2] (ss_one (s_if (pb_cmp (op_nin' hu) (pv_name (pv 2)) (pv_name (pv 1)) (by with_unfolding_all rfl))
 (ss_one (s_expr (pd_append (pv 1) (pda_cons (pd_var (pv 2)) (pda_nil)))))
 (ss_nil)))))
 (ss_one (s_ret (pd_var (pv 1)))))
theorem ok_come_to {k : Nat} (T : Tops K mg) : FnOk P w K mg base CX0 (k + 2) T.f_come_to T.d_come_to ["steps", "place"] (spD ⟨P, w, K⟩ 2 sem_come_to) :=
 fn_ok (ps := ["steps", "place"]) T.F_come_to sc_come_to fun cdv A outer s H E hr => have hu := hr.units
 ss_cons (s_parT (is := [2, 3]) rfl (ma_ow (po_lst (pda_cons (pd_var (pv 1)) (pda_nil))) (ma_sh (pd_int) (ma_nil))) (gn_cons (i := 2) sc_come_to.nd rfl (by first | exact .inl rfl | exact .inr rfl) (gn_cons (i := 3) sc_come_to.nd rfl (by first | exact .inl rfl | exact .inr rfl) (gn_nil))) (by decide))
 (ss_cons (s_while fuel PassesOwn.never (pb_cmp (op_lt' hu) (pv_name (pv 3)) (pv_of (pd_cb (pe_callB b_len (by rfl) T.z_len PySem.boot_len (pva_cons (pv_name (pv 2)) (pva_nil))))) (nomark _))
 (ss_cons (s_expr (pd_extend (pv 2) (pda_cons (pd_of_po (po_lc rfl sc_come_to.nd (i_w (pd_call (ok_once (k := k) T) hr (by rfl) T.g_once T.F_once.kp T.b_once (ca_val (pd_ix hu (pv_name (pv 0)) (pv_of (pd_ix hu (pv_name (pv 2)) (pv_name (pv 3)) (fun _ _ => rfl))) (fun _ _ => rfl)) (ca_nil)) (consC_len (fun _ _ _ h => nilC_len h)))) (own := [("later", 4)]) (by exact blkOk_by (N := ["steps", "place", "found", "at", "later"]) (sc := defScope st_come_to) (by decide +kernel)) (fun _ _ _ _ _ => g_name (by decide) sc_come_to.nd rfl (by first | exact .inl rfl | exact .inr rfl)) (fun _ _ _ _ _ => pts_one' (pb_cmp (op_nin' hu) (pv_name (pv 4)) (pv_name (pv 2)) (by with_unfolding_all rfl))) (fun _ _ _ _ _ => pd_var (pv 4)))) (pda_nil))))
 (ss_one (s_aug (i := 3) sc_come_to.nd rfl (by first | exact .inl rfl | exact .inr rfl) (pd_int) iop_add'))))
 (ss_one (s_ret (pd_cb (pe_callTy b_tuple (by rfl) T.z_tuple PyProof.Rows.boot_tuple (pva_cons (pv_of (pd_of_po (po_cb (pe_callB (b_sorted3 hu rfl) (by rfl) T.z_sorted PyProof.Rows.boot_sorted (pva_cons (pv_name (pv 2)) (pva_nil)))))) (pva_nil)))))))
theorem ok_is_number {k : Nat} (T : Tops K mg) : FnOk P w K mg base CX0 (k + 1) T.f_is_number T.d_is_number ["thing"] (spD ⟨P, w, K⟩ 1 sem_is_number) :=
 fn_ok (ps := ["thing"]) T.F_is_number sc_is_number fun cdv A outer s H E hr => have hu := hr.units
 ss_one (s_ret (pd_and (pd_isi (pv_name (pv 0)) (by rfl) T.z_isinstance (by rfl) T.z_int PyProof.Rows.boot_int (by decide)) (pd_one (pd_not (pd_isi (pv_name (pv 0)) (by rfl) T.z_isinstance (by rfl) T.z_bool PyProof.Rows.boot_bool (by decide))))))
theorem ok_is_from {k : Nat} (T : Tops K mg) : FnOk P w K mg base CX0 (k + 2) T.f_is_from T.d_is_from ["thing", "least"] (spD ⟨P, w, K⟩ 2 sem_is_from) :=
 fn_ok (ps := ["thing", "least"]) T.F_is_from sc_is_from fun cdv A outer s H E hr => have hu := hr.units
 ss_one (s_ret (pd_and (pd_call (ok_is_number (k := k) T) hr (by rfl) T.g_is_number T.F_is_number.kp T.b_is_number (ca_nm (pv 0) (ca_nil)) (consN_len (fun _ _ _ h => nilC_len h))) (pd_one (pd_cmp (op_ge' hu) (pv_name (pv 0)) (pv_name (pv 1)) (nomark _)))))
theorem ok_is_lasso {k : Nat} (T : Tops K mg) : FnOk P w K mg base CX0 (k + 3) T.f_is_lasso T.d_is_lasso ["steps", "place", "way"] (spD ⟨P, w, K⟩ 3 sem_is_lasso) :=
 fn_ok (ps := ["steps", "place", "way"]) T.F_is_lasso sc_is_lasso fun cdv A outer s H E hr => have hu := hr.units
 ss_cons (s_if (pb_of (pw_or' (pb_not (pb_val (pd_isi (pv_name (pv 2)) (by rfl) T.z_isinstance (by rfl) T.z_tuple PyProof.Rows.boot_tuple (by decide)))) (pw_or' (pb_cmp (op_lt' hu) (pv_of (pd_cb (pe_callB b_len (by rfl) T.z_len PySem.boot_len (pva_cons (pv_name (pv 2)) (pva_nil))))) (pv_of (pd_int)) (nomark _)) (pw_or' (pb_not (pb_val (pd_cb (pe_callB (b_all rfl) (by rfl) T.z_all PyProof.Rows.boot_all (pva_cons (pv_of (pd_of_po (po_lc rfl sc_is_lasso.nd (i_w (pd_var (pv 2))) (own := [("own", 3)]) (by exact blkOk_by (N := ["steps", "place", "way", "own", "k"]) (sc := defScope st_is_lasso) (by decide +kernel)) (fun _ _ _ _ _ => g_name (by decide) sc_is_lasso.nd rfl (by first | exact .inl rfl | exact .inr rfl)) (fun _ _ _ _ _ => pts_none) (fun _ _ _ _ _ => pd_call (ok_is_from (k := k) T) hr (by rfl) T.g_is_from T.F_is_from.kp T.b_is_from (ca_nm (pv 3) (ca_val (pd_int) (ca_nil))) (consN_len (consC_len (fun _ _ _ h => nilC_len h))))))) (pva_nil)))))) (pw_or1' (pb_cmp (op_ne' hu) (pv_of (pd_ix hu (pv_name (pv 2)) (pv_of (pd_int)) (fun _ _ => rfl))) (pv_name (pv 1)) (nomark _)))))))
 (ss_one (s_ret (pd_bl)))
 (ss_nil))
 (ss_cons (s_if (pb_of (pw_or' (pb_not (pb_val (pd_cb (pe_callB (b_all rfl) (by rfl) T.z_all PyProof.Rows.boot_all (pva_cons (pv_of (pd_of_po (po_lc rfl sc_is_lasso.nd (i_w (pd_var (pv 2))) (own := [("own", 3)]) (by exact blkOk_by (N := ["steps", "place", "way", "own", "k"]) (sc := defScope st_is_lasso) (by decide +kernel)) (fun _ _ _ _ _ => g_name (by decide) sc_is_lasso.nd rfl (by first | exact .inl rfl | exact .inr rfl)) (fun _ _ _ _ _ => pts_none) (fun _ _ _ _ _ => pd_cmp (op_in' hu) (pv_name (pv 3)) (pv_name (pv 0)) (by with_unfolding_all rfl))))) (pva_nil)))))) (pw_or1' (pb_cmp (op_nin' hu) (pv_of (pd_ix hu (pv_name (pv 2)) (pv_of (pd_neg (pv_of (pd_int)))) (fun _ _ => rfl))) (pv_of (pd_slice (pv_name (pv 2)) (po_no) (po_sm (pd_neg (pv_of (pd_int)))))) (by with_unfolding_all rfl)))))
 (ss_one (s_ret (pd_bl)))
 (ss_nil))
 (ss_one (s_ret (pd_cb (pe_callB (b_all rfl) (by rfl) T.z_all PyProof.Rows.boot_all (pva_cons (pv_of (pd_of_po (po_lc rfl sc_is_lasso.nd (i_rng1 (by rfl) T.z_range (pd_op op_sub' (pv_of (pd_cb (pe_callB b_len (by rfl) T.z_len PySem.boot_len (pva_cons (pv_name (pv 2)) (pva_nil))))) (pv_of (pd_int)))) (own := [("k", 4)]) (by exact blkOk_by (N := ["steps", "place", "way", "own", "k"]) (sc := defScope st_is_lasso) (by decide +kernel)) (fun _ _ _ _ _ => g_name (by decide) sc_is_lasso.nd rfl (by first | exact .inl rfl | exact .inr rfl)) (fun _ _ _ _ _ => pts_none) (fun _ _ _ _ _ => pd_cmp (op_in' hu) (pv_of (pd_ix hu (pv_name (pv 2)) (pv_of (pd_op op_add' (pv_name (pv 4)) (pv_of (pd_int)))) (fun _ _ => rfl))) (pv_of (pd_ix hu (pv_name (pv 0)) (pv_of (pd_ix hu (pv_name (pv 2)) (pv_name (pv 4)) (fun _ _ => rfl))) (fun _ _ => rfl))) (by with_unfolding_all rfl))))) (pva_nil)))))))
theorem ok_is_steps {k : Nat} (T : Tops K mg) : FnOk P w K mg base CX0 (k + 3) T.f_is_steps T.d_is_steps ["thing"] (spD ⟨P, w, K⟩ 1 sem_is_steps) :=
 fn_ok (ps := ["thing"]) T.F_is_steps sc_is_steps fun cdv A outer s H E hr => have hu := hr.units
 ss_cons (s_if (pb_of (pw_or' (pb_not (pb_val (pd_isi (pv_name (pv 0)) (by rfl) T.z_isinstance (by rfl) T.z_dict PyProof.Rows.boot_dict (by decide)))) (pw_or1' (pb_not (pb_val (pd_cb (pe_callB (b_all rfl) (by rfl) T.z_all PyProof.Rows.boot_all (pva_cons (pv_of (pd_of_po (po_lc rfl sc_is_steps.nd (i_w (pd_var (pv 0))) (own := [("place", 1)]) (by exact blkOk_by (N := ["thing", "place", "later"]) (sc := defScope st_is_steps) (by decide +kernel)) (fun _ _ _ _ _ => g_name (by decide) sc_is_steps.nd rfl (by first | exact .inl rfl | exact .inr rfl)) (fun _ _ _ _ _ => pts_none) (fun _ _ _ _ _ => pd_isi (pv_of (pd_ix hu (pv_name (pv 0)) (pv_name (pv 1)) (fun _ _ => rfl))) (by rfl) T.z_isinstance (by rfl) T.z_tuple PyProof.Rows.boot_tuple (by decide))))) (pva_nil)))))))))
 (ss_one (s_ret (pd_bl)))
 (ss_nil))
 (ss_cons (s_if (pb_not (pb_val (pd_cb (pe_callB (b_all rfl) (by rfl) T.z_all PyProof.Rows.boot_all (pva_cons (pv_of (pd_of_po (po_lc rfl sc_is_steps.nd (i_w (pd_var (pv 0))) (own := [("place", 1)]) (by exact blkOk_by (N := ["thing", "place", "later"]) (sc := defScope st_is_steps) (by decide +kernel)) (fun _ _ _ _ _ => g_name (by decide) sc_is_steps.nd rfl (by first | exact .inl rfl | exact .inr rfl)) (fun _ _ _ _ _ => pts_none) (fun _ _ _ _ _ => pd_call (ok_is_from (k := k) T) hr (by rfl) T.g_is_from T.F_is_from.kp T.b_is_from (ca_nm (pv 1) (ca_val (pd_int) (ca_nil))) (consN_len (consC_len (fun _ _ _ h => nilC_len h))))))) (pva_nil))))))
 (ss_one (s_ret (pd_bl)))
 (ss_nil))
 (ss_one (s_ret (pd_cb (pe_callB (b_all rfl) (by rfl) T.z_all PyProof.Rows.boot_all (pva_cons (pv_of (pd_of_po (po_lc2 rfl sc_is_steps.nd (i_w (pd_var (pv 0))) (own := [("place", 1), ("later", 2)]) (by exact blkOk_by (N := ["thing", "place", "later"]) (sc := defScope st_is_steps) (by decide +kernel)) (vs1 := [2]) (by decide) (fun _ _ _ _ _ => g_name (by decide) sc_is_steps.nd rfl (by first | exact .inl rfl | exact .inr rfl)) (fun _ _ _ _ _ => pts_none) (fun _ _ _ _ _ => i_w (pd_ix hu (pv_name (pv 0)) (pv_name (pv 1)) (fun _ _ => rfl))) (fun _ _ _ _ _ => g_name (by decide) sc_is_steps.nd rfl (by first | exact .inl rfl | exact .inr rfl)) (fun _ _ _ _ _ => pts_none) (fun _ _ _ _ _ => pd_and (pd_call (ok_is_from (k := k) T) hr (by rfl) T.g_is_from T.F_is_from.kp T.b_is_from (ca_nm (pv 2) (ca_val (pd_int) (ca_nil))) (consN_len (consC_len (fun _ _ _ h => nilC_len h)))) (pd_one (pd_cmp (op_in' hu) (pv_name (pv 2)) (pv_name (pv 0)) (by with_unfolding_all rfl))))))) (pva_nil)))))))
theorem ok_ranks {k : Nat} (T : Tops K mg) : FnOk P w K mg base CX0 (k + 1) T.f_ranks T.d_ranks ["steps"] (spD ⟨P, w, K⟩ 1 sem_ranks) :=
 fn_ok (ps := ["steps"]) T.F_ranks sc_ranks fun cdv A outer s H E hr => have hu := hr.units
 ss_cons (s_parT (is := [1, 2]) rfl (ma_ow (po_dnew) (ma_sh (pd_bl) (ma_nil))) (gn_cons (i := 1) sc_ranks.nd rfl (by first | exact .inl rfl | exact .inr rfl) (gn_cons (i := 2) sc_ranks.nd rfl (by first | exact .inl rfl | exact .inr rfl) (gn_nil))) (by decide))
 (ss_cons (s_while fuel PassesOwn.never (pb_val (pd_var (pv 2)))
 (ss_fg [3] (ss_cons (s_set (i := 2) sc_ranks.nd rfl (by first | exact .inl rfl | exact .inr rfl) (pd_bl))
 (ss_one (s_for (vs := [3]) PassesOwn.never rfl (i_w (pd_of_po (po_cb (pe_callB (b_sorted3 hu rfl) (by rfl) T.z_sorted PyProof.Rows.boot_sorted (pva_cons (pv_name (pv 0)) (pva_nil)))))) (g_name (by decide) sc_ranks.nd rfl (by first | exact .inl rfl | exact .inr rfl))
 (ss_fg [3] (ss_one (s_if (pb_of (pw_and' (pb_cmp (op_nin' hu) (pv_name (pv 3)) (pv_name (pv 1)) (by with_unfolding_all rfl)) (pw_and1' (pb_val (pd_cb (pe_callB (b_all rfl) (by rfl) T.z_all PyProof.Rows.boot_all (pva_cons (pv_of (pd_of_po (po_lc rfl sc_ranks.nd (i_w (pd_ix hu (pv_name (pv 0)) (pv_name (pv 3)) (fun _ _ => rfl))) (own := [("later", 4)]) (by exact blkOk_by (N := ["steps", "found", "is_new", "place", "later"]) (sc := defScope st_ranks) (by decide +kernel)) (fun _ _ _ _ _ => g_name (by decide) sc_ranks.nd rfl (by first | exact .inl rfl | exact .inr rfl)) (fun _ _ _ _ _ => pts_none) (fun _ _ _ _ _ => pd_cmp (op_in' hu) (pv_name (pv 4)) (pv_name (pv 1)) (by with_unfolding_all rfl))))) (pva_nil))))))))
 (ss_cons (s_store hu (pv 1) (pd_var (pv 3)) (pd_op op_add' (pv_of (pd_cb (pe_callB (b_max1 rfl hu) (by rfl) T.z_max PyProof.Rows.boot_max (pva_cons (pv_of (pd_op op_add' (pv_of (pd_of_po (po_lst (pda_cons (pd_neg (pv_of (pd_int))) (pda_nil))))) (pv_of (pd_of_po (po_lc rfl sc_ranks.nd (i_w (pd_ix hu (pv_name (pv 0)) (pv_name (pv 3)) (fun _ _ => rfl))) (own := [("later", 4)]) (by exact blkOk_by (N := ["steps", "found", "is_new", "place", "later"]) (sc := defScope st_ranks) (by decide +kernel)) (fun _ _ _ _ _ => g_name (by decide) sc_ranks.nd rfl (by first | exact .inl rfl | exact .inr rfl)) (fun _ _ _ _ _ => pts_none) (fun _ _ _ _ _ => pd_ix hu (pv_name (pv 1)) (pv_name (pv 4)) (fun _ _ => rfl))))))) (pva_nil))))) (pv_of (pd_int))))
 (ss_one (s_set (i := 2) sc_ranks.nd rfl (by first | exact .inl rfl | exact .inr rfl) (pd_bl))))
 (ss_nil)))))))))
 (ss_one (s_ret (pd_var (pv 1)))))
theorem ok_lasso {k : Nat} (T : Tops K mg) : FnOk P w K mg base CX0 (k + 2) T.f_lasso T.d_lasso ["steps", "place"] (spD ⟨P, w, K⟩ 2 sem_lasso) :=
 fn_ok (ps := ["steps", "place"]) T.F_lasso sc_lasso fun cdv A outer s H E hr => have hu := hr.units
 ss_cons (s_set (i := 2) sc_lasso.nd rfl (by first | exact .inl rfl | exact .inr rfl) (pd_call (ok_ranks (k := k) T) hr (by rfl) T.g_ranks T.F_ranks.kp T.b_ranks (ca_nm (pv 0) (ca_nil)) (consN_len (fun _ _ _ h => nilC_len h))))
 (ss_cons (s_if (pb_cmp (op_in' hu) (pv_name (pv 1)) (pv_name (pv 2)) (by with_unfolding_all rfl))
 (ss_one (s_ret (pd_non)))
 (ss_nil))
 (ss_cons (s_setO (i := 3) sc_lasso.nd rfl (by first | exact .inl rfl | exact .inr rfl) (po_lst (pda_cons (pd_var (pv 1)) (pda_nil))))
 (ss_one (s_while fuel PassesOwn.never (pb_val (pd_bl))
 (ss_fg [4] (ss_cons (s_set (i := 4) sc_lasso.nd rfl (by first | exact .inl rfl | exact .inr rfl) (pd_ix hu (pv_of (pd_of_po (po_lc rfl sc_lasso.nd (i_w (pd_ix hu (pv_name (pv 0)) (pv_of (pd_ix hu (pv_name (pv 3)) (pv_of (pd_neg (pv_of (pd_int)))) (fun _ _ => rfl))) (fun _ _ => rfl))) (own := [("own", 5)]) (by exact blkOk_by (N := ["steps", "place", "sure", "way", "later", "own"]) (sc := defScope st_lasso) (by decide +kernel)) (fun _ _ _ _ _ => g_name (by decide) sc_lasso.nd rfl (by first | exact .inl rfl | exact .inr rfl)) (fun _ _ _ _ _ => pts_one' (pb_cmp (op_nin' hu) (pv_name (pv 5)) (pv_name (pv 2)) (by with_unfolding_all rfl))) (fun _ _ _ _ _ => pd_var (pv 5))))) (pv_of (pd_int)) (fun _ _ => rfl)))
 (ss_cons (s_expr (pd_append (pv 3) (pda_cons (pd_var (pv 4)) (pda_nil))))
 (ss_one (s_if (pb_cmp (op_in' hu) (pv_name (pv 4)) (pv_of (pd_slice (pv_name (pv 3)) (po_no) (po_sm (pd_neg (pv_of (pd_int)))))) (by with_unfolding_all rfl))
 (ss_one (s_ret (pd_cb (pe_callTy b_tuple (by rfl) T.z_tuple PyProof.Rows.boot_tuple (pva_cons (pv_name (pv 3)) (pva_nil))))))
 (ss_nil))))))))))
theorem ok_must_rest {k : Nat} (T : Tops K mg) : FnOk P w K mg base CX0 (k + 3) T.f_must_rest T.d_must_rest ["steps", "place"] (spD ⟨P, w, K⟩ 2 sem_must_rest) :=
 fn_ok (ps := ["steps", "place"]) T.F_must_rest sc_must_rest fun cdv A outer s H E hr => have hu := hr.units
 ss_cons (s_set (i := 2) sc_must_rest.nd rfl (by first | exact .inl rfl | exact .inr rfl) (pd_call (ok_ranks (k := k + 1) T) hr (by rfl) T.g_ranks T.F_ranks.kp T.b_ranks (ca_nm (pv 0) (ca_nil)) (consN_len (fun _ _ _ h => nilC_len h))))
 (ss_one (s_ret (pd_ifExp (pb_cmp (op_in' hu) (pv_name (pv 1)) (pv_name (pv 2)) (by with_unfolding_all rfl)) (pd_tup (pda_cons (pd_str) (pda_cons (pd_ix hu (pv_name (pv 2)) (pv_name (pv 1)) (fun _ _ => rfl)) (pda_nil)))) (pd_tup (pda_cons (pd_str) (pda_cons (pd_call (ok_lasso (k := k) T) hr (by rfl) T.g_lasso T.F_lasso.kp T.b_lasso (ca_nm (pv 0) (ca_nm (pv 1) (ca_nil))) (consN_len (consN_len (fun _ _ _ h => nilC_len h)))) (pda_nil)))))))
theorem ok_law {k : Nat} (T : Tops K mg) : FnOk P w K mg base CX0 (k + 4) T.f_law T.d_law ["script"] (spD ⟨P, w, K⟩ 1 sem_law) :=
 fn_ok (ps := ["script"]) T.F_law sc_law fun cdv A outer s H E hr => have hu := hr.units
 ss_cons (s_setO (i := 1) sc_law.nd rfl (by first | exact .inl rfl | exact .inr rfl) (po_disp (ppd_cons (pd_str) (pd_call (ok__law_draws (k := k + 2) T) hr (by rfl) T.g__law_draws T.F__law_draws.kp T.b__law_draws (ca_nm (pv 0) (ca_val (pd_int) (ca_nil))) (consN_len (consC_len (fun _ _ _ h => nilC_len h)))) (ppd_cons (pd_str) (pd_int) (ppd_nil))) rfl rfl (fun z => nomatch z) (by decide) rfl))
 (ss_cons (s_for (vs := [2]) PassesOwn.never rfl (i_rng1 (by rfl) T.z_range (pd_int)) (g_name (by decide) sc_law.nd rfl (by first | exact .inl rfl | exact .inr rfl))
 (ss_fg [2, 3, 4, 5, 6, 7, 8, 9, 10, 11, 12, 14, 15, 16, 17] (ss_cons (s_set (i := 3) sc_law.nd rfl (by first | exact .inl rfl | exact .inr rfl) (pd_call (ok__law_steps_drawn (k := k + 1) T) hr (by rfl) T.g__law_steps_drawn T.F__law_steps_drawn.kp T.b__law_steps_drawn (ca_nm (pv 1) (ca_nil)) (consN_len (fun _ _ _ h => nilC_len h))))
 (ss_cons (s_set (i := 4) sc_law.nd rfl (by first | exact .inl rfl | exact .inr rfl) (pd_of_po (po_cb (pe_callTy (b_dict4 rfl hu) (by rfl) T.z_dict PyProof.Rows.boot_dict (pva_cons (pv_name (pv 3)) (pva_nil))))))
 (ss_cons (s_setO (i := 5) sc_law.nd rfl (by first | exact .inl rfl | exact .inr rfl) (po_cb (pe_callTy (b_dict4 rfl hu) (by rfl) T.z_dict PyProof.Rows.boot_dict (pva_cons (pv_name (pv 3)) (pva_nil)))))
 (ss_cons (s_store hu (pv 5) (pd_call (ok__law_next (k := k + 2) T) hr (by rfl) T.g__law_next T.F__law_next.kp T.b__law_next (ca_nm (pv 1) (ca_val (pd_cb (pe_callB b_len (by rfl) T.z_len PySem.boot_len (pva_cons (pv_name (pv 3)) (pva_nil)))) (ca_nil))) (consN_len (consC_len (fun _ _ _ h => nilC_len h)))) (pd_call (ok__law_pick (k := k + 1) T) hr (by rfl) T.g__law_pick T.F__law_pick.kp T.b__law_pick (ca_nm (pv 1) (ca_val (pd_of_po (po_lst (pda_cons (pd_of_po (po_lst (pda_cons (pd_int) (pda_nil)))) (pda_cons (pd_tup (pda_cons (pd_cb (pe_callB b_len (by rfl) T.z_len PySem.boot_len (pva_cons (pv_name (pv 3)) (pva_nil)))) (pda_nil))) (pda_cons (pd_tup (pda_cons (pd_neg (pv_of (pd_int))) (pda_nil))) (pda_cons (pd_non) (pda_cons (pd_tup (pda_cons (pd_str) (pda_nil))) (pda_cons (pd_int) (pda_cons (pd_tup (pda_cons (pd_bl) (pda_cons (pd_str) (pda_nil)))) (pda_nil)))))))))) (ca_nil))) (consN_len (consC_len (fun _ _ _ h => nilC_len h)))))
 (ss_cons (s_for (vs := [6, 7]) PassesOwn.never rfl (i_w (pd_tup (pda_cons (pd_tup (pda_cons (pd_var (pv 3)) (pda_cons (pd_bl) (pda_nil)))) (pda_cons (pd_tup (pda_cons (pd_of_po (po_dnew)) (pda_cons (pd_bl) (pda_nil)))) (pda_cons (pd_tup (pda_cons (pd_var (pv 5)) (pda_cons (pd_bl) (pda_nil)))) (pda_cons (pd_tup (pda_cons (pd_of_po (po_lst (pda_nil))) (pda_cons (pd_bl) (pda_nil)))) (pda_cons (pd_tup (pda_cons (pd_non) (pda_cons (pd_bl) (pda_nil)))) (pda_cons (pd_tup (pda_cons (pd_of_po (po_disp (ppd_cons (pd_str) (pd_tup (pda_nil)) (ppd_nil)) rfl rfl (fun z => nomatch z) (by decide) rfl)) (pda_cons (pd_bl) (pda_nil)))) (pda_cons (pd_tup (pda_cons (pd_of_po (po_disp2 hu (ppd_cons (pd_neg (pv_of (pd_int))) (pd_tup (pda_nil)) (ppd_nil)) rfl rfl (fun z => nomatch z) (by decide) rfl)) (pda_cons (pd_bl) (pda_nil)))) (pda_nil)))))))))) (g_tup rfl (gs_cons (g_name (by decide) sc_law.nd rfl (by first | exact .inl rfl | exact .inr rfl)) (gs_cons (g_name (by decide) sc_law.nd rfl (by first | exact .inl rfl | exact .inr rfl)) (gs_nil))))
 (ss_fg [6, 7] (ss_one (s_if (pb_not (pb_val (pd_call (ok__law_same (k := k + 2) T) hr (by rfl) T.g__law_same T.F__law_same.kp T.b__law_same (ca_val (pd_call (ok_is_steps (k := k) T) hr (by rfl) T.g_is_steps T.F_is_steps.kp T.b_is_steps (ca_nm (pv 6) (ca_nil)) (consN_len (fun _ _ _ h => nilC_len h))) (ca_val (pd_var (pv 7)) (ca_nil))) (consC_len (consC_len (fun _ _ _ h => nilC_len h))))))
 (ss_one (s_ret (pd_bl)))
 (ss_nil)))))
 (ss_cons (s_setO (i := 7) sc_law.nd rfl (by first | exact .inl rfl | exact .inr rfl) (po_dnew))
 (ss_cons (s_for (vs := [8]) PassesOwn.never rfl (i_w (pd_var (pv 3))) (g_name (by decide) sc_law.nd rfl (by first | exact .inl rfl | exact .inr rfl))
 (ss_fg [8, 9] (ss_cons (s_set (i := 9) sc_law.nd rfl (by first | exact .inl rfl | exact .inr rfl) (pd_call (ok__law_longest (k := k + 2) T) hr (by rfl) T.g__law_longest T.F__law_longest.kp T.b__law_longest (ca_nm (pv 3) (ca_nm (pv 8) (ca_nil))) (consN_len (consN_len (fun _ _ _ h => nilC_len h)))))
 (ss_one (s_if (pb_cmp op_isn' (pv_name (pv 9)) (pv_of (pd_non)) (nomark _))
 (ss_one (s_store hu (pv 7) (pd_var (pv 8)) (pd_var (pv 9))))
 (ss_nil))))))
 (ss_cons (s_if (pb_not (pb_val (pd_call (ok__law_same (k := k + 2) T) hr (by rfl) T.g__law_same T.F__law_same.kp T.b__law_same (ca_val (pd_call (ok_ranks (k := k + 2) T) hr (by rfl) T.g_ranks T.F_ranks.kp T.b_ranks (ca_nm (pv 4) (ca_nil)) (consN_len (fun _ _ _ h => nilC_len h))) (ca_val (pd_var (pv 7)) (ca_nil))) (consC_len (consC_len (fun _ _ _ h => nilC_len h))))))
 (ss_one (s_ret (pd_bl)))
 (ss_nil))
 (ss_cons (s_for (vs := [8]) PassesOwn.never rfl (i_w (pd_var (pv 3))) (g_name (by decide) sc_law.nd rfl (by first | exact .inl rfl | exact .inr rfl))
 (ss_fg [8, 10, 11, 12, 14, 15, 16] (ss_cons (s_set (i := 10) sc_law.nd rfl (by first | exact .inl rfl | exact .inr rfl) (pd_of_po (po_lst (pda_cons (pd_var (pv 8)) (pda_nil)))))
 (ss_cons (s_for (vs := [11]) PassesOwn.never rfl (i_rng1 (by rfl) T.z_range (pd_cb (pe_callB b_len (by rfl) T.z_len PySem.boot_len (pva_cons (pv_name (pv 3)) (pva_nil))))) (g_name (by decide) sc_law.nd rfl (by first | exact .inl rfl | exact .inr rfl))
 (ss_fg [11, 12] (ss_one (s_for (vs := [12]) PassesOwn.never rfl (i_w (pd_of_po (po_cb (pe_callTy (b_list2 rfl) (by rfl) T.z_list PyProof.Rows.boot_list (pva_cons (pv_name (pv 10)) (pva_nil)))))) (g_name (by decide) sc_law.nd rfl (by first | exact .inl rfl | exact .inr rfl))
 (ss_fg [12] (ss_one (s_set (i := 10) sc_law.nd rfl (by first | exact .inl rfl | exact .inr rfl) (pd_op op_add' (pv_name (pv 10)) (pv_of (pd_of_po (po_lc rfl sc_law.nd (i_w (pd_ix hu (pv_name (pv 3)) (pv_name (pv 12)) (fun _ _ => rfl))) (own := [("goal", 13)]) (by exact blkOk_by (N := ["script", "w", "turn", "steps", "handed", "spoilt", "thing", "due", "place", "most", "found", "k", "own", "goal", "paper", "way", "value", "walk"]) (sc := defScope st_law) (by decide +kernel)) (fun _ _ _ _ _ => g_name (by decide) sc_law.nd rfl (by first | exact .inl rfl | exact .inr rfl)) (fun _ _ _ _ _ => pts_one' (pb_cmp (op_nin' hu) (pv_name (pv 13)) (pv_name (pv 10)) (by with_unfolding_all rfl))) (fun _ _ _ _ _ => pd_var (pv 13)))))))))))))
 (ss_cons (s_if (pb_not (pb_val (pd_call (ok__law_same (k := k + 2) T) hr (by rfl) T.g__law_same T.F__law_same.kp T.b__law_same (ca_val (pd_call (ok_come_to (k := k + 1) T) hr (by rfl) T.g_come_to T.F_come_to.kp T.b_come_to (ca_nm (pv 4) (ca_nm (pv 8) (ca_nil))) (consN_len (consN_len (fun _ _ _ h => nilC_len h)))) (ca_val (pd_cb (pe_callTy b_tuple (by rfl) T.z_tuple PyProof.Rows.boot_tuple (pva_cons (pv_of (pd_of_po (po_ss2 (pe_callB (cr_or (cr_sortedSet rfl) (cr_sortedT rfl)) (by rfl) T.z_sorted PyProof.Rows.boot_sorted (pa_cons (pe_callTy (cr_or (cr_setI rfl) (cr_setOfT rfl hu)) (by rfl) T.z_set PyProof.Rows.boot_set (pva_cons (pv_name (pv 10)) (pva_nil))) pa_nil))))) (pva_nil)))) (ca_nil))) (consC_len (consC_len (fun _ _ _ h => nilC_len h))))))
 (ss_one (s_ret (pd_bl)))
 (ss_nil))
 (ss_cons (s_set (i := 14) sc_law.nd rfl (by first | exact .inl rfl | exact .inr rfl) (pd_call (ok_must_rest (k := k) T) hr (by rfl) T.g_must_rest T.F_must_rest.kp T.b_must_rest (ca_nm (pv 4) (ca_nm (pv 8) (ca_nil))) (consN_len (consN_len (fun _ _ _ h => nilC_len h)))))
 (ss_cons (s_if (pb_of (pw_and' (pb_cmp (op_in' hu) (pv_name (pv 8)) (pv_name (pv 7)) (by with_unfolding_all rfl)) (pw_and1' (pb_not (pb_val (pd_call (ok__law_same (k := k + 2) T) hr (by rfl) T.g__law_same T.F__law_same.kp T.b__law_same (ca_nm (pv 14) (ca_val (pd_tup (pda_cons (pd_str) (pda_cons (pd_ix hu (pv_name (pv 7)) (pv_name (pv 8)) (fun _ _ => rfl)) (pda_nil)))) (ca_nil))) (consN_len (consC_len (fun _ _ _ h => nilC_len h)))))))))
 (ss_one (s_ret (pd_bl)))
 (ss_nil))
 (ss_one (s_if (pb_cmp (op_nin' hu) (pv_name (pv 8)) (pv_name (pv 7)) (by with_unfolding_all rfl))
 (ss_cons (s_if (pb_of (pw_or' (pb_not (pb_val (pd_isi (pv_name (pv 14)) (by rfl) T.z_isinstance (by rfl) T.z_tuple PyProof.Rows.boot_tuple (by decide)))) (pw_or' (pb_cmp (op_ne' hu) (pv_of (pd_cb (pe_callB b_len (by rfl) T.z_len PySem.boot_len (pva_cons (pv_name (pv 14)) (pva_nil))))) (pv_of (pd_int)) (nomark _)) (pw_or' (pb_not (pb_val (pd_call (ok__law_same (k := k + 2) T) hr (by rfl) T.g__law_same T.F__law_same.kp T.b__law_same (ca_val (pd_ix hu (pv_name (pv 14)) (pv_of (pd_int)) (fun _ _ => rfl)) (ca_val (pd_str) (ca_nil))) (consC_len (consC_len (fun _ _ _ h => nilC_len h)))))) (pw_or1' (pb_not (pb_val (pd_call (ok__law_lasso (k := k + 2) T) hr (by rfl) T.g__law_lasso T.F__law_lasso.kp T.b__law_lasso (ca_nm (pv 3) (ca_nm (pv 8) (ca_val (pd_ix hu (pv_name (pv 14)) (pv_of (pd_int)) (fun _ _ => rfl)) (ca_nil)))) (consN_len (consN_len (consC_len (fun _ _ _ h => nilC_len h))))))))))))
 (ss_one (s_ret (pd_bl)))
 (ss_nil))
 (ss_cons (s_set (i := 15) sc_law.nd rfl (by first | exact .inl rfl | exact .inr rfl) (pd_ix hu (pv_name (pv 14)) (pv_of (pd_int)) (fun _ _ => rfl)))
 (ss_one (s_for (vs := [16]) PassesOwn.never rfl (i_w (pd_tup (pda_cons (pd_var (pv 15)) (pda_cons (pd_slice (pv_name (pv 15)) (po_no) (po_sm (pd_neg (pv_of (pd_int))))) (pda_cons (pd_slice (pv_name (pv 15)) (po_sm (pd_int)) (po_no)) (pda_cons (pd_of_po (po_cb (pe_callTy (b_list2 rfl) (by rfl) T.z_list PyProof.Rows.boot_list (pva_cons (pv_name (pv 15)) (pva_nil))))) (pda_cons (pd_op op_add' (pv_name (pv 15)) (pv_of (pd_tup (pda_cons (pd_int) (pda_nil))))) (pda_cons (pd_op op_add' (pv_name (pv 15)) (pv_of (pd_slice (pv_name (pv 15)) (po_sm (pd_neg (pv_of (pd_int)))) (po_no)))) (pda_cons (pd_rev2 (pv_name (pv 15))) (pda_cons (pd_tup (pda_nil)) (pda_cons (pd_non) (pda_cons (pd_tup (pda_cons (pd_var (pv 8)) (pda_nil))) (pda_cons (pd_op op_add' (pv_of (pd_slice (pv_name (pv 15)) (po_no) (po_sm (pd_neg (pv_of (pd_int)))))) (pv_of (pd_tup (pda_cons (pd_bl) (pda_nil))))) (pda_cons (pd_op op_add' (pv_name (pv 15)) (pv_of (pd_tup (pda_cons (pd_non) (pda_nil))))) (pda_nil))))))))))))))) (g_name (by decide) sc_law.nd rfl (by first | exact .inl rfl | exact .inr rfl))
 (ss_fg [16] (ss_one (s_if (pb_not (pb_val (pd_call (ok__law_same (k := k + 2) T) hr (by rfl) T.g__law_same T.F__law_same.kp T.b__law_same (ca_val (pd_call (ok_is_lasso (k := k) T) hr (by rfl) T.g_is_lasso T.F_is_lasso.kp T.b_is_lasso (ca_nm (pv 4) (ca_nm (pv 8) (ca_nm (pv 16) (ca_nil)))) (consN_len (consN_len (consN_len (fun _ _ _ h => nilC_len h))))) (ca_val (pd_call (ok__law_lasso (k := k + 2) T) hr (by rfl) T.g__law_lasso T.F__law_lasso.kp T.b__law_lasso (ca_nm (pv 3) (ca_nm (pv 8) (ca_nm (pv 16) (ca_nil)))) (consN_len (consN_len (consN_len (fun _ _ _ h => nilC_len h))))) (ca_nil))) (consC_len (consC_len (fun _ _ _ h => nilC_len h))))))
 (ss_one (s_ret (pd_bl)))
 (ss_nil))))))))
 (ss_nil))))))))))
 (ss_cons (s_set (i := 17) sc_law.nd rfl (by first | exact .inl rfl | exact .inr rfl) (pd_of_po (po_lst (pda_cons (pd_call (ok__law_next (k := k + 2) T) hr (by rfl) T.g__law_next T.F__law_next.kp T.b__law_next (ca_nm (pv 1) (ca_val (pd_cb (pe_callB b_len (by rfl) T.z_len PySem.boot_len (pva_cons (pv_name (pv 3)) (pva_nil)))) (ca_nil))) (consN_len (consC_len (fun _ _ _ h => nilC_len h)))) (pda_nil)))))
 (ss_cons (s_for (vs := [11]) PassesOwn.never rfl (i_rng1 (by rfl) T.z_range (pd_call (ok__law_next (k := k + 2) T) hr (by rfl) T.g__law_next T.F__law_next.kp T.b__law_next (ca_nm (pv 1) (ca_val (pd_int) (ca_nil))) (consN_len (consC_len (fun _ _ _ h => nilC_len h))))) (g_name (by decide) sc_law.nd rfl (by first | exact .inl rfl | exact .inr rfl))
 (ss_fg [11] (ss_one (s_set (i := 17) sc_law.nd rfl (by first | exact .inl rfl | exact .inr rfl) (pd_op op_add' (pv_name (pv 17)) (pv_of (pd_of_po (po_lst (pda_cons (pd_call (ok__law_pick (k := k + 1) T) hr (by rfl) T.g__law_pick T.F__law_pick.kp T.b__law_pick (ca_nm (pv 1) (ca_val (pd_op op_add' (pv_of (pd_of_po (po_cb (pe_callTy (b_list2 rfl) (by rfl) T.z_list PyProof.Rows.boot_list (pva_cons (pv_of (pd_ix hu (pv_name (pv 3)) (pv_of (pd_ix hu (pv_name (pv 17)) (pv_of (pd_neg (pv_of (pd_int)))) (fun _ _ => rfl))) (fun _ _ => rfl))) (pva_nil)))))) (pv_of (pd_of_po (po_lst (pda_cons (pd_call (ok__law_next (k := k + 2) T) hr (by rfl) T.g__law_next T.F__law_next.kp T.b__law_next (ca_nm (pv 1) (ca_val (pd_cb (pe_callB b_len (by rfl) T.z_len PySem.boot_len (pva_cons (pv_name (pv 3)) (pva_nil)))) (ca_nil))) (consN_len (consC_len (fun _ _ _ h => nilC_len h)))) (pda_nil)))))) (ca_nil))) (consN_len (consC_len (fun _ _ _ h => nilC_len h)))) (pda_nil))))))))))
 (ss_cons (s_if (pb_not (pb_val (pd_call (ok__law_same (k := k + 2) T) hr (by rfl) T.g__law_same T.F__law_same.kp T.b__law_same (ca_val (pd_call (ok_is_lasso (k := k) T) hr (by rfl) T.g_is_lasso T.F_is_lasso.kp T.b_is_lasso (ca_nm (pv 4) (ca_val (pd_ix hu (pv_name (pv 17)) (pv_of (pd_int)) (fun _ _ => rfl)) (ca_val (pd_cb (pe_callTy b_tuple (by rfl) T.z_tuple PyProof.Rows.boot_tuple (pva_cons (pv_name (pv 17)) (pva_nil)))) (ca_nil)))) (consN_len (consC_len (consC_len (fun _ _ _ h => nilC_len h))))) (ca_val (pd_call (ok__law_lasso (k := k + 2) T) hr (by rfl) T.g__law_lasso T.F__law_lasso.kp T.b__law_lasso (ca_nm (pv 3) (ca_val (pd_ix hu (pv_name (pv 17)) (pv_of (pd_int)) (fun _ _ => rfl)) (ca_val (pd_cb (pe_callTy b_tuple (by rfl) T.z_tuple PyProof.Rows.boot_tuple (pva_cons (pv_name (pv 17)) (pva_nil)))) (ca_nil)))) (consN_len (consC_len (consC_len (fun _ _ _ h => nilC_len h))))) (ca_nil))) (consC_len (consC_len (fun _ _ _ h => nilC_len h))))))
 (ss_one (s_ret (pd_bl)))
 (ss_nil))
 (ss_one (s_if (pb_not (pb_val (pd_call (ok__law_same (k := k + 2) T) hr (by rfl) T.g__law_same T.F__law_same.kp T.b__law_same (ca_nm (pv 4) (ca_nm (pv 3) (ca_nil))) (consN_len (consN_len (fun _ _ _ h => nilC_len h))))))
 (ss_one (s_ret (pd_bl)))
 (ss_nil)))))))))))))))))
 (ss_one (s_ret (pd_bl))))
end
theorem all_mk {l : PySem.W.OpenLaw} {w : World} {K : PySem.W.Frag} {h : Heap} {mg : Str → Option Value} {fa f0 f1 f2 f3 f4 f5 f6 f7 f8 f9 f10 f11 f12 f13 f14 f15 f16 : Addr} (X : K.In h) (G : h.Ns mainGlobals mg) (hfa : mg "law" = some (.ref fa))
 {od0 an0 : Option Addr} {sl0 : Array (Option Value)} {oc0 kV0 dc0 pm0 cd0 ct0 : Value}
 {od1 an1 : Option Addr} {sl1 : Array (Option Value)} {oc1 kV1 dc1 pm1 cd1 ct1 : Value}
 {od2 an2 : Option Addr} {sl2 : Array (Option Value)} {oc2 kV2 dc2 pm2 cd2 ct2 : Value}
 {od3 an3 : Option Addr} {sl3 : Array (Option Value)} {oc3 kV3 dc3 pm3 cd3 ct3 : Value}
 {od4 an4 : Option Addr} {sl4 : Array (Option Value)} {oc4 kV4 dc4 pm4 cd4 ct4 : Value}
 {od5 an5 : Option Addr} {sl5 : Array (Option Value)} {oc5 kV5 dc5 pm5 cd5 ct5 : Value}
 {od6 an6 : Option Addr} {sl6 : Array (Option Value)} {oc6 kV6 dc6 pm6 cd6 ct6 : Value}
 {od7 an7 : Option Addr} {sl7 : Array (Option Value)} {oc7 kV7 dc7 pm7 cd7 ct7 : Value}
 {od8 an8 : Option Addr} {sl8 : Array (Option Value)} {oc8 kV8 dc8 pm8 cd8 ct8 : Value}
 {od9 an9 : Option Addr} {sl9 : Array (Option Value)} {oc9 kV9 dc9 pm9 cd9 ct9 : Value}
 {od10 an10 : Option Addr} {sl10 : Array (Option Value)} {oc10 kV10 dc10 pm10 cd10 ct10 : Value}
 {od11 an11 : Option Addr} {sl11 : Array (Option Value)} {oc11 kV11 dc11 pm11 cd11 ct11 : Value}
 {od12 an12 : Option Addr} {sl12 : Array (Option Value)} {oc12 kV12 dc12 pm12 cd12 ct12 : Value}
 {od13 an13 : Option Addr} {sl13 : Array (Option Value)} {oc13 kV13 dc13 pm13 cd13 ct13 : Value}
 {od14 an14 : Option Addr} {sl14 : Array (Option Value)} {oc14 kV14 dc14 pm14 cd14 ct14 : Value}
 {od15 an15 : Option Addr} {sl15 : Array (Option Value)} {oc15 kV15 dc15 pm15 cd15 ct15 : Value}
 {od16 an16 : Option Addr} {sl16 : Array (Option Value)} {oc16 kV16 dc16 pm16 cd16 ct16 : Value}
 (a0 : PySem.W.nsIn K mainGlobals "_law_draws" = some (some (.ref f0))) (l0 : K.lookup f0 = some ⟨oc0, od0, .func (PySem.W.fnOf "_law_draws" "_law_draws" (defArgs st__law_draws) (defBody st__law_draws) (defScope st__law_draws) .none kV0 dc0 pm0 an0 cd0 ct0), sl0⟩) (c0 : PySem.W.codeIn K cd0 "_law_draws" = true) (k0 : PySem.W.keepIn K (.ref f0) = true)
 (a1 : PySem.W.nsIn K mainGlobals "_law_lasso" = some (some (.ref f1))) (l1 : K.lookup f1 = some ⟨oc1, od1, .func (PySem.W.fnOf "_law_lasso" "_law_lasso" (defArgs st__law_lasso) (defBody st__law_lasso) (defScope st__law_lasso) .none kV1 dc1 pm1 an1 cd1 ct1), sl1⟩) (c1 : PySem.W.codeIn K cd1 "_law_lasso" = true) (k1 : PySem.W.keepIn K (.ref f1) = true)
 (a2 : PySem.W.nsIn K mainGlobals "_law_longest" = some (some (.ref f2))) (l2 : K.lookup f2 = some ⟨oc2, od2, .func (PySem.W.fnOf "_law_longest" "_law_longest" (defArgs st__law_longest) (defBody st__law_longest) (defScope st__law_longest) .none kV2 dc2 pm2 an2 cd2 ct2), sl2⟩) (c2 : PySem.W.codeIn K cd2 "_law_longest" = true) (k2 : PySem.W.keepIn K (.ref f2) = true)
 (a3 : PySem.W.nsIn K mainGlobals "_law_next" = some (some (.ref f3))) (l3 : K.lookup f3 = some ⟨oc3, od3, .func (PySem.W.fnOf "_law_next" "_law_next" (defArgs st__law_next) (defBody st__law_next) (defScope st__law_next) .none kV3 dc3 pm3 an3 cd3 ct3), sl3⟩) (c3 : PySem.W.codeIn K cd3 "_law_next" = true) (k3 : PySem.W.keepIn K (.ref f3) = true)
 (a4 : PySem.W.nsIn K mainGlobals "_law_pick" = some (some (.ref f4))) (l4 : K.lookup f4 = some ⟨oc4, od4, .func (PySem.W.fnOf "_law_pick" "_law_pick" (defArgs st__law_pick) (defBody st__law_pick) (defScope st__law_pick) .none kV4 dc4 pm4 an4 cd4 ct4), sl4⟩) (c4 : PySem.W.codeIn K cd4 "_law_pick" = true) (k4 : PySem.W.keepIn K (.ref f4) = true)
 (a5 : PySem.W.nsIn K mainGlobals "_law_same" = some (some (.ref f5))) (l5 : K.lookup f5 = some ⟨oc5, od5, .func (PySem.W.fnOf "_law_same" "_law_same" (defArgs st__law_same) (defBody st__law_same) (defScope st__law_same) .none kV5 dc5 pm5 an5 cd5 ct5), sl5⟩) (c5 : PySem.W.codeIn K cd5 "_law_same" = true) (k5 : PySem.W.keepIn K (.ref f5) = true)
 (a6 : PySem.W.nsIn K mainGlobals "_law_steps_drawn" = some (some (.ref f6))) (l6 : K.lookup f6 = some ⟨oc6, od6, .func (PySem.W.fnOf "_law_steps_drawn" "_law_steps_drawn" (defArgs st__law_steps_drawn) (defBody st__law_steps_drawn) (defScope st__law_steps_drawn) .none kV6 dc6 pm6 an6 cd6 ct6), sl6⟩) (c6 : PySem.W.codeIn K cd6 "_law_steps_drawn" = true) (k6 : PySem.W.keepIn K (.ref f6) = true)
 (a7 : PySem.W.nsIn K mainGlobals "once" = some (some (.ref f7))) (l7 : K.lookup f7 = some ⟨oc7, od7, .func (PySem.W.fnOf "once" "once" (defArgs st_once) (defBody st_once) (defScope st_once) .none kV7 dc7 pm7 an7 cd7 ct7), sl7⟩) (c7 : PySem.W.codeIn K cd7 "once" = true) (k7 : PySem.W.keepIn K (.ref f7) = true)
 (a8 : PySem.W.nsIn K mainGlobals "come_to" = some (some (.ref f8))) (l8 : K.lookup f8 = some ⟨oc8, od8, .func (PySem.W.fnOf "come_to" "come_to" (defArgs st_come_to) (defBody st_come_to) (defScope st_come_to) .none kV8 dc8 pm8 an8 cd8 ct8), sl8⟩) (c8 : PySem.W.codeIn K cd8 "come_to" = true) (k8 : PySem.W.keepIn K (.ref f8) = true)
 (a9 : PySem.W.nsIn K mainGlobals "is_number" = some (some (.ref f9))) (l9 : K.lookup f9 = some ⟨oc9, od9, .func (PySem.W.fnOf "is_number" "is_number" (defArgs st_is_number) (defBody st_is_number) (defScope st_is_number) .none kV9 dc9 pm9 an9 cd9 ct9), sl9⟩) (c9 : PySem.W.codeIn K cd9 "is_number" = true) (k9 : PySem.W.keepIn K (.ref f9) = true)
 (a10 : PySem.W.nsIn K mainGlobals "is_from" = some (some (.ref f10))) (l10 : K.lookup f10 = some ⟨oc10, od10, .func (PySem.W.fnOf "is_from" "is_from" (defArgs st_is_from) (defBody st_is_from) (defScope st_is_from) .none kV10 dc10 pm10 an10 cd10 ct10), sl10⟩) (c10 : PySem.W.codeIn K cd10 "is_from" = true) (k10 : PySem.W.keepIn K (.ref f10) = true)
 (a11 : PySem.W.nsIn K mainGlobals "is_lasso" = some (some (.ref f11))) (l11 : K.lookup f11 = some ⟨oc11, od11, .func (PySem.W.fnOf "is_lasso" "is_lasso" (defArgs st_is_lasso) (defBody st_is_lasso) (defScope st_is_lasso) .none kV11 dc11 pm11 an11 cd11 ct11), sl11⟩) (c11 : PySem.W.codeIn K cd11 "is_lasso" = true) (k11 : PySem.W.keepIn K (.ref f11) = true)
 (a12 : PySem.W.nsIn K mainGlobals "is_steps" = some (some (.ref f12))) (l12 : K.lookup f12 = some ⟨oc12, od12, .func (PySem.W.fnOf "is_steps" "is_steps" (defArgs st_is_steps) (defBody st_is_steps) (defScope st_is_steps) .none kV12 dc12 pm12 an12 cd12 ct12), sl12⟩) (c12 : PySem.W.codeIn K cd12 "is_steps" = true) (k12 : PySem.W.keepIn K (.ref f12) = true)
 (a13 : PySem.W.nsIn K mainGlobals "ranks" = some (some (.ref f13))) (l13 : K.lookup f13 = some ⟨oc13, od13, .func (PySem.W.fnOf "ranks" "ranks" (defArgs st_ranks) (defBody st_ranks) (defScope st_ranks) .none kV13 dc13 pm13 an13 cd13 ct13), sl13⟩) (c13 : PySem.W.codeIn K cd13 "ranks" = true) (k13 : PySem.W.keepIn K (.ref f13) = true)
 (a14 : PySem.W.nsIn K mainGlobals "lasso" = some (some (.ref f14))) (l14 : K.lookup f14 = some ⟨oc14, od14, .func (PySem.W.fnOf "lasso" "lasso" (defArgs st_lasso) (defBody st_lasso) (defScope st_lasso) .none kV14 dc14 pm14 an14 cd14 ct14), sl14⟩) (c14 : PySem.W.codeIn K cd14 "lasso" = true) (k14 : PySem.W.keepIn K (.ref f14) = true)
 (a15 : PySem.W.nsIn K mainGlobals "must_rest" = some (some (.ref f15))) (l15 : K.lookup f15 = some ⟨oc15, od15, .func (PySem.W.fnOf "must_rest" "must_rest" (defArgs st_must_rest) (defBody st_must_rest) (defScope st_must_rest) .none kV15 dc15 pm15 an15 cd15 ct15), sl15⟩) (c15 : PySem.W.codeIn K cd15 "must_rest" = true) (k15 : PySem.W.keepIn K (.ref f15) = true)
 (a16 : PySem.W.nsIn K mainGlobals "law" = some (some (.ref f16))) (l16 : K.lookup f16 = some ⟨oc16, od16, .func (PySem.W.fnOf "law" "law" (defArgs st_law) (defBody st_law) (defScope st_law) .none kV16 dc16 pm16 an16 cd16 ct16), sl16⟩) (c16 : PySem.W.codeIn K cd16 "law" = true) (k16 : PySem.W.keepIn K (.ref f16) = true)
 (z_abs : PySem.W.nsIn K mainGlobals "abs" = some none) (z_all : PySem.W.nsIn K mainGlobals "all" = some none) (z_bool : PySem.W.nsIn K mainGlobals "bool" = some none) (z_dict : PySem.W.nsIn K mainGlobals "dict" = some none) (z_int : PySem.W.nsIn K mainGlobals "int" = some none) (z_isinstance : PySem.W.nsIn K mainGlobals "isinstance" = some none) (z_len : PySem.W.nsIn K mainGlobals "len" = some none) (z_list : PySem.W.nsIn K mainGlobals "list" = some none) (z_max : PySem.W.nsIn K mainGlobals "max" = some none) (z_range : PySem.W.nsIn K mainGlobals "range" = some none) (z_set : PySem.W.nsIn K mainGlobals "set" = some none) (z_sorted : PySem.W.nsIn K mainGlobals "sorted" = some none) (z_str : PySem.W.nsIn K mainGlobals "str" = some none) (z_tuple : PySem.W.nsIn K mainGlobals "tuple" = some none) :
 ∃ fd : FuncData, (∀ (s : Shared) (v : Value), BindsTo s fd ⟨[v], []⟩ [("script", v)]) ∧ ∀ base : Heap, K.In base → base.Ns mainGlobals mg → FnOk l.prog w K mg base CX0 4 fa fd ["script"] (spD ⟨l.prog, w, K⟩ 1 sem_law) := by
  have e := hfa.symm.trans (PySem.W.mg_of X G a16)
  cases e
  have F0 := fun_mk (st := st__law_draws) l0 c0 k0
  have b0 := F0.binds (ps := ["script", "many"]) fun _ _ _ _ _ _ us hl => match us, hl with | [_, _], _ => rfl
  have F1 := fun_mk (st := st__law_lasso) l1 c1 k1
  have b1 := F1.binds (ps := ["steps", "place", "way"]) fun _ _ _ _ _ _ us hl => match us, hl with | [_, _, _], _ => rfl
  have F2 := fun_mk (st := st__law_longest) l2 c2 k2
  have b2 := F2.binds (ps := ["steps", "place"]) fun _ _ _ _ _ _ us hl => match us, hl with | [_, _], _ => rfl
  have F3 := fun_mk (st := st__law_next) l3 c3 k3
  have b3 := F3.binds (ps := ["w", "many"]) fun _ _ _ _ _ _ us hl => match us, hl with | [_, _], _ => rfl
  have F4 := fun_mk (st := st__law_pick) l4 c4 k4
  have b4 := F4.binds (ps := ["w", "rows"]) fun _ _ _ _ _ _ us hl => match us, hl with | [_, _], _ => rfl
  have F5 := fun_mk (st := st__law_same) l5 c5 k5
  have b5 := F5.binds (ps := ["seen", "due"]) fun _ _ _ _ _ _ us hl => match us, hl with | [_, _], _ => rfl
  have F6 := fun_mk (st := st__law_steps_drawn) l6 c6 k6
  have b6 := F6.binds (ps := ["w"]) fun _ _ _ _ _ _ us hl => match us, hl with | [_], _ => rfl
  have F7 := fun_mk (st := st_once) l7 c7 k7
  have b7 := F7.binds (ps := ["places"]) fun _ _ _ _ _ _ us hl => match us, hl with | [_], _ => rfl
  have F8 := fun_mk (st := st_come_to) l8 c8 k8
  have b8 := F8.binds (ps := ["steps", "place"]) fun _ _ _ _ _ _ us hl => match us, hl with | [_, _], _ => rfl
  have F9 := fun_mk (st := st_is_number) l9 c9 k9
  have b9 := F9.binds (ps := ["thing"]) fun _ _ _ _ _ _ us hl => match us, hl with | [_], _ => rfl
  have F10 := fun_mk (st := st_is_from) l10 c10 k10
  have b10 := F10.binds (ps := ["thing", "least"]) fun _ _ _ _ _ _ us hl => match us, hl with | [_, _], _ => rfl
  have F11 := fun_mk (st := st_is_lasso) l11 c11 k11
  have b11 := F11.binds (ps := ["steps", "place", "way"]) fun _ _ _ _ _ _ us hl => match us, hl with | [_, _, _], _ => rfl
  have F12 := fun_mk (st := st_is_steps) l12 c12 k12
  have b12 := F12.binds (ps := ["thing"]) fun _ _ _ _ _ _ us hl => match us, hl with | [_], _ => rfl
  have F13 := fun_mk (st := st_ranks) l13 c13 k13
  have b13 := F13.binds (ps := ["steps"]) fun _ _ _ _ _ _ us hl => match us, hl with | [_], _ => rfl
  have F14 := fun_mk (st := st_lasso) l14 c14 k14
  have b14 := F14.binds (ps := ["steps", "place"]) fun _ _ _ _ _ _ us hl => match us, hl with | [_, _], _ => rfl
  have F15 := fun_mk (st := st_must_rest) l15 c15 k15
  have b15 := F15.binds (ps := ["steps", "place"]) fun _ _ _ _ _ _ us hl => match us, hl with | [_, _], _ => rfl
  have F16 := fun_mk (st := st_law) l16 c16 k16
  have b16 := F16.binds (ps := ["script"]) fun _ _ _ _ _ _ us hl => match us, hl with | [_], _ => rfl
  exact ⟨_, fun s v => .of_eq rfl, fun base _ _ => ok_law (k := 0) ⟨_, _, F0, PySem.W.mg_of X G a0, b0, _, _, F1, PySem.W.mg_of X G a1, b1, _, _, F2, PySem.W.mg_of X G a2, b2, _, _, F3, PySem.W.mg_of X G a3, b3, _, _, F4, PySem.W.mg_of X G a4, b4, _, _, F5, PySem.W.mg_of X G a5, b5, _, _, F6, PySem.W.mg_of X G a6, b6, _, _, F7, PySem.W.mg_of X G a7, b7, _, _, F8, PySem.W.mg_of X G a8, b8, _, _, F9, PySem.W.mg_of X G a9, b9, _, _, F10, PySem.W.mg_of X G a10, b10, _, _, F11, PySem.W.mg_of X G a11, b11, _, _, F12, PySem.W.mg_of X G a12, b12, _, _, F13, PySem.W.mg_of X G a13, b13, _, _, F14, PySem.W.mg_of X G a14, b14, _, _, F15, PySem.W.mg_of X G a15, b15, _, _, F16, PySem.W.mg_of X G a16, b16, PySem.W.mg_none_of X G z_abs, PySem.W.mg_none_of X G z_all, PySem.W.mg_none_of X G z_bool, PySem.W.mg_none_of X G z_dict, PySem.W.mg_none_of X G z_int, PySem.W.mg_none_of X G z_isinstance, PySem.W.mg_none_of X G z_len, PySem.W.mg_none_of X G z_list, PySem.W.mg_none_of X G z_max, PySem.W.mg_none_of X G z_range, PySem.W.mg_none_of X G z_set, PySem.W.mg_none_of X G z_sorted, PySem.W.mg_none_of X G z_str, PySem.W.mg_none_of X G z_tuple⟩⟩
end K22
namespace K22
open PySem L2 DL
def gs (T : List (List Nat)) (u : Nat) : List Nat := (T[u]?).getD []
structure TOk (T : List (List Nat)) : Prop where
  l1 : 1 ≤ T.length
  l7 : T.length ≤ 7
  ok : ∀ l ∈ T, l.length ≤ 3 ∧ ∀ v ∈ l, v < T.length
theorem gs_ok {T : List (List Nat)} (h : TOk T) (u : Nat) : (gs T u).length ≤ 3 ∧ ∀ v ∈ gs T u, v < T.length := by
  unfold gs
  rcases e : T[u]? with _ | l
  · exact ⟨Nat.zero_le _, fun v hv => nomatch hv⟩
  · exact h.ok l (List.mem_of_getElem? e)
/-- a way of so many steps goes on from here -/
def Pth (T : List (List Nat)) : Nat → Nat → Bool
  | 0, _ => true
  | k + 1, p => (gs T p).any (Pth T k)
theorem pth_mono (T : List (List Nat)) : ∀ (k p : Nat), Pth T (k + 1) p = true → Pth T k p = true
  | 0, p, _ => rfl
  | k + 1, p, h => by
    rw [Pth, List.any_eq_true] at h ⊢
    obtain ⟨v, hv, h⟩ := h
    exact ⟨v, hv, pth_mono T k v h⟩
theorem pth_le (T : List (List Nat)) {p : Nat} : ∀ {j k : Nat}, k ≤ j → Pth T j p = true → Pth T k p = true
  | 0, k, h, e => by rw [Nat.le_zero.mp h]; exact e
  | j + 1, k, h, e => by
    rcases Nat.lt_or_ge k (j + 1) with c | c
    · exact pth_le T (by omega) (pth_mono T j p e)
    · rw [Nat.le_antisymm h c]; exact e
section
variable {T : List (List Nat)}
def Sk (T : List (List Nat)) (k : Nat) : List Nat := (List.range T.length).filter (Pth T k)
theorem sk_step (h : TOk T) {i j : Nat} (e : Sk T i = Sk T j) : Sk T (i + 1) = Sk T (j + 1) := by
  unfold Sk at *
  refine List.filter_congr fun p hp => ?_
  rw [Pth, Pth, Bool.eq_iff_iff, List.any_eq_true, List.any_eq_true]
  have key : ∀ v, v < T.length → (Pth T i v = true ↔ Pth T j v = true) := fun v hv => by
    have h1 : v ∈ (List.range T.length).filter (Pth T i) ↔ v ∈ (List.range T.length).filter (Pth T j) := by rw [e]
    rw [List.mem_filter, List.mem_filter] at h1
    constructor
    · intro z; exact (h1.mp ⟨List.mem_range.mpr hv, z⟩).2
    · intro z; exact (h1.mpr ⟨List.mem_range.mpr hv, z⟩).2
  constructor
  · rintro ⟨v, hv, z⟩; exact ⟨v, hv, (key v ((gs_ok h p).2 v hv)).mp z⟩
  · rintro ⟨v, hv, z⟩; exact ⟨v, hv, (key v ((gs_ok h p).2 v hv)).mpr z⟩
theorem sk_sub (k : Nat) : (Sk T (k + 1)).Sublist (Sk T k) := by
  unfold Sk
  have : (List.range T.length).filter (Pth T (k + 1)) = ((List.range T.length).filter (Pth T k)).filter (Pth T (k + 1)) := by
    rw [List.filter_filter]
    refine List.filter_congr fun p _ => ?_
    rcases e : Pth T (k + 1) p with _ | _
    · simp
    · simp [pth_mono T k p e]
  rw [this]
  exact List.filter_sublist
theorem sk_stable (h : TOk T) {k : Nat} (e : Sk T (k + 1) = Sk T k) : ∀ j, Sk T (k + j) = Sk T k
  | 0 => rfl
  | j + 1 => by
    have := sk_step h (sk_stable h e j)
    rw [show k + (j + 1) = k + j + 1 by omega, this, e]
theorem sk_len (h : TOk T) : ∀ k, (∀ j, Sk T (k + j) = Sk T k) ∨ (Sk T k).length + k ≤ T.length
  | 0 => .inr (by unfold Sk; have := List.length_filter_le (Pth T 0) (List.range T.length); rw [List.length_range] at this; omega)
  | k + 1 => by
    rcases sk_len h k with c | c
    · left
      intro j
      rw [show k + 1 + j = k + (1 + j) by omega, c, c 1]
    · rcases Nat.lt_or_ge (Sk T (k + 1)).length (Sk T k).length with d | d
      · right; omega
      · left
        have e : Sk T (k + 1) = Sk T k := (sk_sub k).eq_of_length_le d
        intro j
        rw [show k + 1 + j = k + (1 + j) by omega, sk_stable h e, sk_stable h e 1]
theorem pth_all (h : TOk T) {p : Nat} (hp : p < T.length) (e : Pth T T.length p = true) (k : Nat) : Pth T k p = true := by
  rcases Nat.lt_or_ge k T.length with c | c
  · exact pth_le T (by omega) e
  · have hm : p ∈ Sk T T.length := List.mem_filter.mpr ⟨List.mem_range.mpr hp, e⟩
    rcases sk_len h T.length with d | d
    · have := d (k - T.length)
      rw [show T.length + (k - T.length) = k by omega] at this
      rw [← this] at hm
      exact (List.mem_filter.mp hm).2
    · have : (Sk T T.length).length = 0 := by omega
      rw [List.length_eq_zero_iff] at this
      rw [this] at hm; cases hm
/-- the longest way to a rest -/
def rk (T : List (List Nat)) (p : Nat) : Option Nat := (List.range T.length).find? fun k => !Pth T (k + 1) p
theorem rk_some {p r : Nat} (h : TOk T) (hp : p < T.length) (h1 : Pth T r p = true) (h2 : Pth T (r + 1) p = false) : rk T p = some r := by
  unfold rk
  have hr : r < T.length := by
    rcases Nat.lt_or_ge r T.length with c | c
    · exact c
    · have := pth_all h hp (pth_le T c h1) (r + 1)
      rw [h2] at this; cases this
  rw [List.find?_range_eq_some]
  refine ⟨by rw [h2]; rfl, List.mem_range.mpr hr, fun j hj => ?_⟩
  rw [pth_le T (show j + 1 ≤ r by omega) h1]; rfl
theorem rk_none {p : Nat} (h : ∀ k, Pth T k p = true) : rk T p = none := by
  unfold rk
  rw [List.find?_range_eq_none]
  intro j _
  rw [h]; rfl
theorem rk_lt {p r : Nat} (h : rk T p = some r) : r < T.length ∧ Pth T r p = true ∧ Pth T (r + 1) p = false := by
  unfold rk at h
  rw [List.find?_range_eq_some] at h
  refine ⟨List.mem_range.mp h.2.1, ?_, by simpa using h.1⟩
  cases r with
  | zero => rfl
  | succ r => have := h.2.2 r (by omega); simpa using this
theorem rk_inf {p : Nat} (h : TOk T) (hp : p < T.length) (e : rk T p = none) : ∀ k, Pth T k p = true := by
  have h1 : Pth T T.length p = true := by
    unfold rk at e
    rw [List.find?_range_eq_none] at e
    have h0 := h.l1
    have := e (T.length - 1) (by omega)
    rw [show T.length - 1 + 1 = T.length by omega] at this
    simpa using this
  exact pth_all h hp h1
theorem rk_at {p : Nat} (h : TOk T) (hp : p < T.length) (i : Nat) (h1 : Pth T i p = true) : (Pth T (i + 1) p = false ↔ rk T p = some i) := by
  constructor
  · exact rk_some h hp h1
  · intro e; exact (rk_lt e).2.2
/-! ### the ranks, place by place -/
structure FOk (T : List (List Nat)) (F : List (Nat × Nat)) : Prop where
  nd : (F.map (·.1)).Nodup
  lt : ∀ r ∈ F, r.1 < T.length
  ok : ∀ p r, agetG F p = some r → Pth T r p = true ∧ Pth T (r + 1) p = false
theorem FOk.nil : FOk T [] := ⟨List.nodup_nil, (fun r h => nomatch h), fun p r h => by simp [agetG] at h⟩
theorem FOk.len {F : List (Nat × Nat)} (h : FOk T F) : F.length ≤ T.length := by
  have := nodup_len T.length (F.map (·.1)) h.nd fun v hv => by obtain ⟨r, hr, rfl⟩ := List.mem_map.mp hv; exact h.lt r hr
  rw [List.length_map] at this; exact this
def best (l : List Nat) : Nat := l.foldl max 0
theorem best_le : ∀ (l : List Nat) (a : Nat), a ≤ l.foldl max a ∧ ∀ v ∈ l, v ≤ l.foldl max a
  | [], a => ⟨Nat.le_refl _, fun v h => nomatch h⟩
  | b :: l, a => by
    have := best_le l (max a b)
    rw [List.foldl_cons]
    refine ⟨by omega, fun v hv => ?_⟩
    rcases List.mem_cons.mp hv with rfl | hv
    · omega
    · exact this.2 v hv
theorem best_mem : ∀ (l : List Nat) (a : Nat), l.foldl max a = a ∨ l.foldl max a ∈ l
  | [], a => .inl rfl
  | b :: l, a => by
    rw [List.foldl_cons]
    rcases best_mem l (max a b) with h | h
    · rw [h]
      rcases Nat.le_total a b with c | c
      · right; rw [Nat.max_eq_right c]; exact List.mem_cons_self
      · left; exact Nat.max_eq_left c
    · exact .inr (List.mem_cons_of_mem _ h)
/-- a new rank: all that comes next has one -/
theorem FOk.put {F : List (Nat × Nat)} (h : FOk T F) {p : Nat} (hp : p < T.length) (hn : agetG F p = none) {R : Nat → Nat} (hR : ∀ v ∈ gs T p, agetG F v = some (R v)) {r : Nat}
    (hr : r = match gs T p with | [] => 0 | _ => best ((gs T p).map R) + 1) : FOk T (F ++ [(p, r)]) := by
  have hrk : Pth T r p = true ∧ Pth T (r + 1) p = false := by
    rcases e : gs T p with _ | ⟨a, l⟩
    · rw [e] at hr
      dsimp only at hr
      subst hr
      exact ⟨rfl, by rw [Pth, e]; rfl⟩
    · rw [e] at hr
      dsimp only at hr
      rw [← e] at hr
      have hb := best_le ((gs T p).map R) 0
      constructor
      · subst hr
        rw [Pth, List.any_eq_true]
        rcases best_mem ((gs T p).map R) 0 with c | c
        · have c' : best ((gs T p).map R) = 0 := c
          rw [c']
          exact ⟨a, by rw [e]; exact List.mem_cons_self, rfl⟩
        · obtain ⟨v, hv, hv2⟩ := List.mem_map.mp c
          refine ⟨v, hv, ?_⟩
          have : best ((gs T p).map R) = R v := hv2.symm
          rw [this]
          exact (h.ok v _ (hR v hv)).1
      · rcases z : Pth T (r + 1) p with _ | _
        · rfl
        · rw [Pth, List.any_eq_true] at z
          obtain ⟨v, hv, z⟩ := z
          have h1 := (h.ok v _ (hR v hv)).2
          have h2 : R v ≤ best ((gs T p).map R) := hb.2 _ (List.mem_map.mpr ⟨v, hv, rfl⟩)
          have := pth_le T (show R v + 1 ≤ r by rw [hr]; exact Nat.succ_le_succ h2) z
          rw [h1] at this; cases this
  have hput : aputG F p r = F ++ [(p, r)] := aputG_new hn
  refine ⟨?_, fun x hx => ?_, fun q s hq => ?_⟩
  · rw [← hput]; exact aputG_nd h.nd
  · rcases List.mem_append.mp hx with c | c
    · exact h.lt x c
    · rw [List.mem_singleton.mp c]; exact hp
  · rw [← hput, agetG_put] at hq
    by_cases c : q = p
    · rw [if_pos c] at hq
      cases hq
      rw [c]; exact hrk
    · rw [if_neg c] at hq; exact h.ok q s hq
theorem FOk.done {F : List (Nat × Nat)} (hT : TOk T) (h : FOk T F) (hc : ∀ p, p < T.length → agetG F p = none → ∃ v ∈ gs T p, agetG F v = none) {p : Nat} (hp : p < T.length) : agetG F p = rk T p := by
  rcases e : agetG F p with _ | r
  · have inf : ∀ k q, q < T.length → agetG F q = none → Pth T k q = true := by
      intro k
      induction k with
      | zero => intro q _ _; rfl
      | succ k ih =>
        intro q hq hn
        obtain ⟨v, hv, hv2⟩ := hc q hq hn
        rw [Pth, List.any_eq_true]
        exact ⟨v, hv, ih v ((gs_ok hT q).2 v hv) hv2⟩
    exact (rk_none fun k => inf k p hp e).symm
  · have := h.ok p r e
    exact (rk_some hT hp this.1 this.2).symm
/-! ### ways -/
def chainB (T : List (List Nat)) (l : List Nat) : Bool := (List.range (l.length - 1)).all fun k => decide ((l[k + 1]?).getD 0 ∈ gs T ((l[k]?).getD 0))
def lasB (T : List (List Nat)) (p : Nat) (l : List Nat) : Bool := decide (2 ≤ l.length) && l.all (fun v => decide (v < T.length)) && decide (l[0]? = some p) && decide ((l[l.length - 1]?).getD 0 ∈ l.dropLast) && chainB T l
/-! ### what can be come to -/
inductive RR (T : List (List Nat)) (p : Nat) : Nat → Prop
  | zero : RR T p p
  | succ {u v : Nat} : RR T p u → v ∈ gs T u → RR T p v
structure Reach (T : List (List Nat)) (p : Nat) (l : List Nat) : Prop where
  zero : p ∈ l
  all : ∀ v ∈ l, RR T p v
theorem Reach.start {p : Nat} : Reach T p [p] := ⟨List.mem_singleton.mpr rfl, fun v hv => by rw [List.mem_singleton.mp hv]; exact .zero⟩
theorem Reach.grow {p u : Nat} {l m : List Nat} (h : Reach T p l) (hu : u ∈ l) (hm : ∀ v ∈ m, v ∈ gs T u) : Reach T p (l ++ m) := ⟨List.mem_append_left _ h.zero, fun v hv => by
  rcases List.mem_append.mp hv with c | c
  · exact h.all v c
  · exact .succ (h.all u hu) (hm v c)⟩
theorem Reach.done {p : Nat} {l : List Nat} (h : Reach T p l) (hc : ∀ u ∈ l, ∀ v ∈ gs T u, v ∈ l) (v : Nat) : v ∈ l ↔ RR T p v := by
  constructor
  · exact h.all v
  · intro r
    induction r with
    | zero => exact h.zero
    | succ r hv ih => exact hc _ ih _ hv
theorem rr_lt (hT : TOk T) {p v : Nat} (hp : p < T.length) (h : RR T p v) : v < T.length := by
  induction h with
  | zero => exact hp
  | succ r hv ih => exact (gs_ok hT _).2 _ hv
def cntIn (n : Nat) (l : List Nat) : Nat := ((List.range n).filter fun v => decide (v ∈ l)).length
theorem cnt_le (n : Nat) (l : List Nat) : cntIn n l ≤ n := by
  unfold cntIn
  have := List.length_filter_le (fun v => decide (v ∈ l)) (List.range n)
  rw [List.length_range] at this; exact this
theorem filter_lt {α : Type} {p q : α → Bool} : ∀ {l : List α}, (∀ a ∈ l, p a = true → q a = true) → (∃ a ∈ l, q a = true ∧ p a = false) → (l.filter p).length < (l.filter q).length
  | [], _, h => by obtain ⟨a, ha, _⟩ := h; cases ha
  | a :: l, h1, h2 => by
    have hle : ∀ {l : List α}, (∀ a ∈ l, p a = true → q a = true) → (l.filter p).length ≤ (l.filter q).length := by
      intro l
      induction l with
      | nil => intro _; exact Nat.le_refl _
      | cons b l ih =>
        intro h
        have := ih fun a ha => h a (List.mem_cons_of_mem _ ha)
        rw [List.filter_cons, List.filter_cons]
        by_cases c : p b = true
        · rw [if_pos c, if_pos (h b List.mem_cons_self c), List.length_cons, List.length_cons]; omega
        · rw [if_neg c]
          split
          · rw [List.length_cons]; omega
          · exact this
    rw [List.filter_cons, List.filter_cons]
    by_cases c : p a = true
    · rw [if_pos c, if_pos (h1 a List.mem_cons_self c), List.length_cons, List.length_cons]
      obtain ⟨b, hb, hb1, hb2⟩ := h2
      rcases List.mem_cons.mp hb with rfl | hb
      · rw [c] at hb2; cases hb2
      · have := filter_lt (fun a ha => h1 a (List.mem_cons_of_mem _ ha)) ⟨b, hb, hb1, hb2⟩
        omega
    · rw [if_neg c]
      by_cases d : q a = true
      · rw [if_pos d, List.length_cons]
        have := hle fun a ha => h1 a (List.mem_cons_of_mem _ ha)
        omega
      · rw [if_neg d]
        obtain ⟨b, hb, hb1, hb2⟩ := h2
        rcases List.mem_cons.mp hb with rfl | hb
        · exact (d hb1).elim
        · exact filter_lt (fun a ha => h1 a (List.mem_cons_of_mem _ ha)) ⟨b, hb, hb1, hb2⟩
theorem cnt_lt {n : Nat} {l m : List Nat} (h : ∀ v ∈ l, v ∈ m) {w : Nat} (hw : w ∈ m) (hl : w ∉ l) (hn : w < n) : cntIn n l < cntIn n m := by
  unfold cntIn
  exact filter_lt (fun a _ ha => decide_eq_true (h a (of_decide_eq_true ha))) ⟨w, List.mem_range.mpr hn, decide_eq_true hw, decide_eq_false hl⟩
theorem count_len : ∀ (n : Nat) (l : List Nat), (∀ v ∈ l, v < n) → (∀ v, l.count v ≤ 3) → l.length ≤ 3 * n
  | 0, l, h, _ => by
    cases l with
    | nil => exact Nat.le_refl _
    | cons a l => exact absurd (h a List.mem_cons_self) (Nat.not_lt_zero _)
  | n + 1, l, h, hc => by
    have h1 := count_len n (l.filter fun v => decide (v ≠ n)) (fun v hv => by
      have h2 := List.mem_filter.mp hv
      have := h v h2.1
      have := of_decide_eq_true h2.2
      omega) (fun v => Nat.le_trans (List.Sublist.count_le v List.filter_sublist) (hc v))
    have h3 := hc n
    have h4 : l.length = l.count n + (l.filter fun v => decide (v ≠ n)).length := by
      rw [List.count_eq_length_filter, ← List.countP_eq_length_filter, ← List.countP_eq_length_filter]
      rw [List.length_eq_countP_add_countP (p := fun v => v == n)]
      congr 1
      refine List.countP_congr fun v _ => ?_
      simp
    omega
end
end K22

namespace K22
open PySem L2 DL
abbrev natK : Nat → D := fun n => D.int (n : Int)
abbrev rowK : List Nat → D := fun l => .tup (nD l)
def stC (T : List (List Nat)) : List (Nat × List Nat) := (List.range T.length).map fun u => (u, gs T u)
def stD (T : List (List Nat)) : D := .dic (kvG natK rowK (stC T))
def fD (F : List (Nat × Nat)) : D := .dic (kvG natK natK F)
theorem stC_nd {T : List (List Nat)} : ((stC T).map (·.1)).Nodup := by
  unfold stC
  rw [List.map_map]
  show ((List.range T.length).map fun u => u).Nodup
  rw [List.map_id']; exact List.nodup_range
theorem stC_get {T : List (List Nat)} {u : Nat} : agetG (stC T) u = if u < T.length then some (gs T u) else none := by
  by_cases h : u < T.length
  · rw [if_pos h]; exact (aget_mem stC_nd).mpr (List.mem_map.mpr ⟨u, List.mem_range.mpr h, rfl⟩)
  · rw [if_neg h]
    rcases e : agetG (stC T) u with _ | x
    · rfl
    · obtain ⟨v, hv, e2⟩ := List.mem_map.mp (agetG_in e)
      cases e2
      exact (h (List.mem_range.mp hv)).elim
theorem idx_st {T : List (List Nat)} {u : Nat} (h : u < T.length) : idxD (stD T) (.int (u : Int)) = some (.tup (nD (gs T u))) := idx_kvG (g := natK) (f := rowK) (v := u) emb_nat (by rw [stC_get, if_pos h])
theorem in_st {T : List (List Nat)} {u : Nat} : inD (.int (u : Int)) (stD T) = some (.bl (decide (u < T.length))) := by
  have := in_kvG (g := natK) (f := rowK) (C := stC T) (v := u) emb_nat
  rw [stC_get] at this
  by_cases h : u < T.length
  · rw [if_pos h] at this; rw [decide_eq_true h]; exact this
  · rw [if_neg h] at this; rw [decide_eq_false h]; exact this
theorem nin_st {T : List (List Nat)} {u : Nat} : ninD (.int (u : Int)) (stD T) = some (.bl (!decide (u < T.length))) := by unfold ninD; rw [in_st]
theorem items_st {T : List (List Nat)} : itemsW (stD T) = some (nD (List.range T.length)) := by
  show some ((kvG natK rowK (stC T)).map (·.1)) = _
  unfold kvG stC nD
  rw [List.map_map, List.map_map]; rfl
theorem len_st {T : List (List Nat)} : lenG [stD T] = some (.int (T.length : Int)) := by
  show some (D.int ((kvG natK rowK (stC T)).length : Int)) = _
  rw [len_kvG]; unfold stC; rw [List.length_map, List.length_range]
theorem idx_f {F : List (Nat × Nat)} {u r : Nat} (h : agetG F u = some r) : idxD (fD F) (.int (u : Int)) = some (.int (r : Int)) := idx_kvG (g := natK) (f := natK) (v := u) emb_nat h
theorem in_f {F : List (Nat × Nat)} {u : Nat} : inD (.int (u : Int)) (fD F) = some (.bl (agetG F u).isSome) := in_kvG (g := natK) (f := natK) (v := u) emb_nat
theorem nin_f {F : List (Nat × Nat)} {u : Nat} : ninD (.int (u : Int)) (fD F) = some (.bl (!(agetG F u).isSome)) := nin_kvG (g := natK) (f := natK) (v := u) emb_nat
theorem put_f {F : List (Nat × Nat)} {u r : Nat} (h : F.length ≤ 1000) : putAny (fD F) (.int (u : Int)) (.int (r : Int)) = some (fD (aputG F u r)) := putAny_kvG (g := natK) (f := natK) (v := u) (x := r) emb_nat (by omega)
def upI (l : List Nat) : List Int := l.map fun n : Nat => (n : Int)
theorem sortI_up {l : List Int} (h : l.Pairwise fun a b => a ≤ b) : sortI l = l := sorted_uniq (sortI_perm _) (sortI_sorted _) h
theorem sort_st {T : List (List Nat)} (h : T.length ≤ 7) : sort3G [stD T] = some (.lst (nD (List.range T.length))) := by
  have hk : intKs (kvG natK rowK (stC T)) = some ((List.range T.length).map fun n : Nat => (n : Int)) := by
    have : ∀ L : List (Nat × List Nat), intKs (kvG natK rowK L) = some (L.map fun r => (r.1 : Int)) := by
      intro L
      induction L with
      | nil => rfl
      | cons r L ih =>
        show (match intKs (kvG natK rowK L) with | some ks => some ((r.1 : Int) :: ks) | none => none) = _
        rw [ih]; rfl
    rw [this]; unfold stC; rw [List.map_map]; rfl
  unfold sort3G stD
  rw [sort2G_dic hk (by simp; omega), sortI_up]
  · unfold nD; rw [List.map_map]; rfl
  · rw [List.pairwise_map]
    exact List.pairwise_lt_range.imp fun h => by omega
/-! ### once each -/
def onceL (l : List Nat) : List Nat := l.foldl (fun L w => if w ∈ L then L else L ++ [w]) []
theorem onceL_snoc {l : List Nat} {w : Nat} : onceL (l ++ [w]) = if w ∈ onceL l then onceL l else onceL l ++ [w] := by unfold onceL; rw [List.foldl_append]; rfl
theorem once_gen : ∀ (l L : List Nat), L.Nodup → (l.foldl (fun L w => if w ∈ L then L else L ++ [w]) L).Nodup ∧ ∀ v, v ∈ l.foldl (fun L w => if w ∈ L then L else L ++ [w]) L ↔ v ∈ L ∨ v ∈ l
  | [], L, h => ⟨h, fun v => by simp⟩
  | w :: l, L, h => by
    rw [List.foldl_cons]
    by_cases c : w ∈ L
    · rw [if_pos c]
      have ih := once_gen l L h
      refine ⟨ih.1, fun v => ?_⟩
      rw [ih.2, List.mem_cons]
      constructor
      · rintro (h1 | h1)
        · exact .inl h1
        · exact .inr (.inr h1)
      · rintro (h1 | rfl | h1)
        · exact .inl h1
        · exact .inl c
        · exact .inr h1
    · rw [if_neg c]
      have ih := once_gen l (L ++ [w]) (by
        rw [List.nodup_append]
        exact ⟨h, by simp, fun a ha b hb e => c (by rw [List.mem_singleton.mp hb] at e; rw [← e]; exact ha)⟩)
      refine ⟨ih.1, fun v => ?_⟩
      rw [ih.2, List.mem_append, List.mem_singleton, List.mem_cons, or_assoc]
theorem onceL_spec (l : List Nat) : (onceL l).Nodup ∧ ∀ v, v ∈ onceL l ↔ v ∈ l := by
  have := once_gen l [] List.nodup_nil
  exact ⟨this.1, fun v => (this.2 v).trans (by simp)⟩
section
variable {Q : D → DL.Env → Prop} {T : List (List Nat)} {p : Nat}
theorem wF_once {l : List Nat} (hl : l.length ≤ 1000) : wF sem_once [.sh (.tup (nD l))] Q = Q (.lst (nD (onceL l))) [.no] := by
  refine wF_of (of_wF ?_)
  unfold sem_once m_once
  rw [wF_run]
  simp
  refine wL_for (fun k η => η = [.sh (.tup (nD l)), .ow (.lst (nD (onceL (l.take k)))), .no]) rfl (fun k d η hd h => ?_) fun η h => ?_
  · subst h
    obtain ⟨v, hv, rfl⟩ := nD_get hd
    have ht : l.take (k + 1) = l.take k ++ [v] := by rw [List.take_add_one, hv]; rfl
    have hlen : (onceL (l.take k)).length ≤ 1000 := by
      have h1 := onceL_spec (l.take k)
      have : (onceL (l.take k)).length ≤ (l.take k).length := by
        have := L2.nat_nodup_len (onceL (l.take k)) (l.take k) h1.1 fun x hx => (h1.2 x).mp hx
        exact this
      rw [List.length_take] at this; omega
    rw [ht, onceL_snoc]
    by_cases c : v ∈ onceL (l.take k)
    · simp [ninD_nat, c]
    · simp [ninD_nat, c, nD_len, nD_snoc]; omega
  · subst h
    rw [nD_len, List.take_length]
    simp
theorem sortL {l : List Nat} (h : l.length ≤ 1000) : sort3G [.lst (nD l)] = some (.lst (iD (sortI (upI l)))) := by
  unfold sort3G
  rw [nD_iD, sort_ints _ (by rw [List.length_map]; omega)]
  rfl
/-- the places that can be come to -/
structure BInv (T : List (List Nat)) (p : Nat) (B : List Nat) (at' : Nat) : Prop where
  nd : B.Nodup
  r : Reach T p B
  cl : ∀ i u, i < at' → B[i]? = some u → ∀ v ∈ gs T u, v ∈ B
  le : at' ≤ B.length
theorem BInv.step {B : List Nat} {a u : Nat} (h : BInv T p B a) (hu : B[a]? = some u) : BInv T p (B ++ (onceL (gs T u)).filter fun v => !decide (v ∈ B)) (a + 1) where
  nd := by
    rw [List.nodup_append]
    refine ⟨h.nd, (onceL_spec _).1.sublist List.filter_sublist, fun x hx y hy e => ?_⟩
    subst e
    have := (List.mem_filter.mp hy).2
    simp [hx] at this
  r := h.r.grow (List.mem_of_getElem? hu) fun v hv => ((onceL_spec _).2 v).mp (List.mem_filter.mp hv).1
  cl := fun i x hi hx v hv => by
    have hia : i < B.length := by have := (List.getElem?_eq_some_iff.mp hu).1; omega
    rw [List.getElem?_append_left hia] at hx
    rcases Nat.lt_or_ge i a with c | c
    · exact List.mem_append_left _ (h.cl i x c hx v hv)
    · have : i = a := by omega
      subst this
      rw [hu] at hx
      cases hx
      by_cases d : v ∈ B
      · exact List.mem_append_left _ d
      · exact List.mem_append_right _ (List.mem_filter.mpr ⟨((onceL_spec _).2 v).mpr hv, by simp [d]⟩)
  le := by
    have := (List.getElem?_eq_some_iff.mp hu).1
    rw [List.length_append]; omega
theorem BInv.lt {B : List Nat} {a : Nat} (hT : TOk T) (hp : p < T.length) (h : BInv T p B a) : (∀ v ∈ B, v < T.length) ∧ B.length ≤ T.length := by
  have h1 : ∀ v ∈ B, v < T.length := fun v hv => rr_lt hT hp (h.r.all v hv)
  exact ⟨h1, nodup_len T.length B h.nd h1⟩
theorem come_ex (hT : TOk T) (hp : p < T.length) : ∃ B : List Nat, B.Nodup ∧ (∀ v, v ∈ B ↔ RR T p v) ∧ ∀ Q : D → DL.Env → Prop, wF sem_come_to [.sh (stD T), .sh (.int (p : Int))] Q = Q (.tup (iD (sortI (upI B)))) [.no, .no] := by
  have key : wF sem_come_to [.sh (stD T), .sh (.int (p : Int))] fun d c => ∃ B : List Nat, B.Nodup ∧ (∀ v, v ∈ B ↔ RR T p v) ∧ d = .tup (iD (sortI (upI B))) ∧ c = [.no, .no] := by
    unfold sem_come_to m_come_to
    rw [wF_run]
    have h7 := hT.l7
    simp
    obtain ⟨I, hI⟩ := nameI (fun (m : Nat) (η : DL.Env) => ∃ (B : List Nat) (a : Nat), a + m = T.length ∧ BInv T p B a ∧ η = [.sh (stD T), .sh (.int (p : Int)), .ow (.lst (nD B)), .sh (.int (a : Int)), .no])
    refine wS_while I T.length (by unfold fuel; omega) (by
      rw [hI]
      exact ⟨[p], 0, by omega, ⟨by simp, Reach.start, fun i u hi => by omega, by simp⟩, rfl⟩) fun m η h => ?_
    rw [hI] at h
    obtain ⟨B, a, hm, hB, rfl⟩ := h
    have hlt := hB.lt hT hp
    simp [nD_len]
    refine ⟨fun hc => ?_, fun hc => ?_⟩
    · have hg := List.getElem?_eq_getElem hc
      generalize B[a] = u at hg
      have hu := hlt.1 u (List.mem_of_getElem? hg)
      have hx := idx_st hu
      have ho := fun Q => wF_once (Q := Q) (l := gs T u) (by have := (gs_ok hT u).1; omega)
      have hst := hB.step hg
      have hol : (onceL (gs T u)).length ≤ 1000 := by
        have := L2.nat_nodup_len (onceL (gs T u)) (gs T u) (onceL_spec _).1 fun x hx => ((onceL_spec _).2 x).mp hx
        have := (gs_ok hT u).1
        omega
      simp [nD_at hg, hx, ho, nD_len]
      refine ⟨by omega, ?_⟩
      refine wX_fa natK natK (fun v => !decide (v ∈ B)) (fun v hv => by
        by_cases c : v ∈ B <;> simp [ninD_nat, c]) ?_
      have hfl : ((onceL (gs T u)).filter fun v => !decide (v ∈ B)).length ≤ (onceL (gs T u)).length := List.length_filter_le _ _
      have hB2 := hst.lt hT hp
      simp [nD_len]
      refine ⟨by omega, m - 1, by omega, ?_⟩
      rw [hI]
      exact ⟨_, a + 1, by omega, hst, by unfold nD; rw [List.map_append]; rfl⟩
    · have ha : a = B.length := by have := hB.le; omega
      have hs := sortL (l := B) (by omega)
      simp [hs]
      refine ⟨B, hB.nd, fun v => hB.r.done (fun u hu v hv => ?_) v, rfl⟩
      obtain ⟨i, hi⟩ := List.getElem?_of_mem hu
      exact hB.cl i u (by have := (List.getElem?_eq_some_iff.mp hi).1; omega) hi v hv
  obtain ⟨d, c, e, B, h1, h2, rfl, rfl⟩ := key.ex
  exact ⟨B, h1, h2, fun Q => wF_of e⟩
end
end K22

namespace K22
open PySem L2 DL
section
variable {Q : D → DL.Env → Prop} {T : List (List Nat)} {p : Nat}
theorem max_best (l : List Nat) : bestG max [.lst (.int (-1) :: nD l)] = some (.int (match l with | [] => -1 | _ => (best l : Int))) := by
  have e : (D.int (-1) :: nD l) = iD (-1 :: l.map fun n : Nat => (n : Int)) := by rw [nD_iD]; rfl
  rw [e]
  unfold bestG
  simp only [intsD_iD]
  congr 2
  cases l with
  | nil => rfl
  | cons a l =>
    have key : ∀ (l : List Nat) (a : Nat), (l.map fun n : Nat => (n : Int)).foldl max (a : Int) = ((l.foldl max a : Nat) : Int) := by
      intro l
      induction l with
      | nil => intro a; rfl
      | cons b l ih =>
        intro a
        rw [List.map_cons, List.foldl_cons, List.foldl_cons, ← ih (max a b)]
        congr 1
        omega
    rw [List.map_cons, List.foldl_cons]
    show (l.map fun n : Nat => (n : Int)).foldl max (max (-1) (a : Int)) = _
    rw [show max (-1) (a : Int) = ((a : Nat) : Int) by omega, key]
    unfold best
    rw [List.foldl_cons, Nat.zero_max]
/-- one look at all places -/
structure RInv (T : List (List Nat)) (F0 F : List (Nat × Nat)) (fl : Bool) (k : Nat) : Prop where
  ok : FOk T F
  grow : fl = true → F0.length < F.length
  same : fl = false → F = F0 ∧ ∀ q, q < k → agetG F q = none → ∃ v ∈ gs T q, agetG F v = none
theorem ranks_ex (hT : TOk T) : ∃ F : List (Nat × Nat), FOk T F ∧ (∀ q, q < T.length → agetG F q = none → ∃ v ∈ gs T q, agetG F v = none) ∧ ∀ Q : D → DL.Env → Prop, wF sem_ranks [.sh (stD T)] Q = Q (fD F) [.no] := by
  have key : wF sem_ranks [.sh (stD T)] fun d c => ∃ F : List (Nat × Nat), FOk T F ∧ (∀ q, q < T.length → agetG F q = none → ∃ v ∈ gs T q, agetG F v = none) ∧ d = fD F ∧ c = [.no] := by
    unfold sem_ranks m_ranks
    rw [wF_run]
    have h7 := hT.l7
    have hs := sort_st h7
    simp
    rw [show D.dic (mergeD [] []) = fD [] from rfl]
    obtain ⟨I, hI⟩ := nameI (fun (m : Nat) (η : DL.Env) => ∃ (F : List (Nat × Nat)) (fl : Bool), m = 2 * (T.length - F.length) + (if fl then 1 else 0) ∧ FOk T F ∧ (fl = false → ∀ q, q < T.length → agetG F q = none → ∃ v ∈ gs T q, agetG F v = none) ∧ η = [.sh (stD T), .ow (fD F), .sh (.bl fl), .no, .no])
    refine wS_while I (2 * T.length + 1) (by unfold fuel; omega) (by
      rw [hI]
      exact ⟨[], true, by simp, FOk.nil, (fun z => nomatch z), rfl⟩) fun m η h => ?_
    rw [hI] at h
    obtain ⟨F0, fl, hm, hF0, hcl, rfl⟩ := h
    simp [hs]
    refine ⟨fun hfl => ?_, fun hfl => ?_⟩
    · subst hfl
      obtain ⟨J, hJ⟩ := nameI (fun (k : Nat) (η : DL.Env) => ∃ (F : List (Nat × Nat)) (fl : Bool), RInv T F0 F fl k ∧ η = [.sh (stD T), .ow (fD F), .sh (.bl fl), .no, .no])
      refine wL_for J (by rw [hJ]; exact ⟨F0, false, ⟨hF0, (fun z => nomatch z), fun _ => ⟨rfl, fun q hq => by omega⟩⟩, rfl⟩) (fun k d η hd h => ?_) fun η h => ?_
      · rw [hJ] at h
        obtain ⟨F, fl, hR, rfl⟩ := h
        obtain ⟨v, hv, rfl⟩ := nD_get hd
        obtain ⟨hkl, hv2⟩ := List.getElem?_eq_some_iff.mp hv
        rw [List.getElem_range] at hv2
        subst hv2
        rw [List.length_range] at hkl
        have hx := idx_st hkl
        have hg := gs_ok hT k
        rcases e : agetG F k with _ | r
        · simp [nin_f, e, hx]
          refine ⟨by rw [nD_len]; omega, ?_⟩
          refine wX_ma natK (fun v => .bl (agetG F v).isSome) (fun v hv => by simp [in_f]) ?_
          have hall := allG_map (f := fun v => D.bl (agetG F v).isSome) (c := fun v => (agetG F v).isSome) (l := gs T k) fun _ _ => rfl
          generalize (gs T k).map (fun v => D.bl (agetG F v).isSome) = L at hall ⊢
          by_cases hc : (gs T k).all (fun v => (agetG F v).isSome) = true
          · rw [hc] at hall
            have hR2 : ∀ v ∈ gs T k, agetG F v = some ((agetG F v).getD 0) := fun v hv => by
              have := List.all_eq_true.mp hc v hv
              rcases z : agetG F v with _ | x
              · rw [z] at this; cases this
              · rfl
            simp [hall, hx]
            refine ⟨by rw [nD_len]; omega, ?_⟩
            refine wX_ma natK (fun v => natK ((agetG F v).getD 0)) (fun v hv => by
              have := idx_f (hR2 v hv)
              simp [this]) ?_
            have hmb := max_best ((gs T k).map fun v => (agetG F v).getD 0)
            have hLe : (gs T k).map (fun v => natK ((agetG F v).getD 0)) = nD ((gs T k).map fun v => (agetG F v).getD 0) := by unfold nD; rw [List.map_map]; rfl
            rw [hLe]
            obtain ⟨r, hr⟩ : ∃ r, r = match gs T k with | [] => 0 | _ => best ((gs T k).map fun v => (agetG F v).getD 0) + 1 := ⟨_, rfl⟩
            have hr2 : (match (gs T k).map fun v => (agetG F v).getD 0 with | [] => (-1 : Int) | _ => (best ((gs T k).map fun v => (agetG F v).getD 0) : Int)) + 1 = (r : Int) := by
              rw [hr]
              rcases gs T k with _ | ⟨a, l⟩
              · rfl
              · rfl
            obtain ⟨z, hz⟩ : ∃ z, (match (gs T k).map fun v => (agetG F v).getD 0 with | [] => (-1 : Int) | _ => (best ((gs T k).map fun v => (agetG F v).getD 0) : Int)) = z := ⟨_, rfl⟩
            rw [hz] at hmb hr2
            have hFl := hR.ok.len
            have hp := put_f (F := F) (u := k) (r := r) (by omega)
            rw [aputG_new e] at hp
            have hput := hR.ok.put hkl e hR2 hr
            simp [hmb, hr2, hp, nD_len]
            refine ⟨by omega, ?_⟩
            rw [hJ]
            refine ⟨_, true, ⟨hput, fun _ => ?_, fun z => nomatch z⟩, rfl⟩
            rw [List.length_append, List.length_singleton]
            cases fl with
            | true => have := hR.grow rfl; omega
            | false => rw [(hR.same rfl).1]; omega
          · rw [Bool.not_eq_true] at hc
            rw [hc] at hall
            simp [hall]
            rw [hJ]
            refine ⟨F, fl, ⟨hR.ok, hR.grow, fun hf => ⟨(hR.same hf).1, fun q hq hn => ?_⟩⟩, rfl⟩
            by_cases hqk : q < k
            · exact (hR.same hf).2 q hqk hn
            · have : q = k := by omega
              subst this
              rw [List.all_eq_false] at hc
              obtain ⟨v, hv, hv2⟩ := hc
              exact ⟨v, hv, by simpa using hv2⟩
        · simp [nin_f, e]
          rw [hJ]
          refine ⟨F, fl, ⟨hR.ok, hR.grow, fun hf => ⟨(hR.same hf).1, fun q hq hn => ?_⟩⟩, rfl⟩
          by_cases hqk : q < k
          · exact (hR.same hf).2 q hqk hn
          · have : q = k := by omega
            subst this
            rw [e] at hn; cases hn
      · rw [hJ] at h
        obtain ⟨F, fl, hR, rfl⟩ := h
        rw [nD_len, List.length_range] at hR
        have hFl := hR.ok.len
        simp
        cases fl with
        | true =>
          have := hR.grow rfl
          refine ⟨2 * (T.length - F.length) + 1, ?_, ?_⟩
          · rw [hm, if_pos rfl]; omega
          · rw [hI]; exact ⟨F, true, by simp, hR.ok, (fun z => nomatch z), rfl⟩
        | false =>
          refine ⟨2 * (T.length - F.length), ?_, ?_⟩
          · rw [hm, if_pos rfl, (hR.same rfl).1]; omega
          · rw [hI]; exact ⟨F, false, by simp, hR.ok, fun _ => (hR.same rfl).2, rfl⟩
    · exact ⟨F0, hF0, hcl hfl, rfl⟩
  obtain ⟨d, c, e, F, h1, h2, rfl, rfl⟩ := key.ex
  exact ⟨F, h1, h2, fun Q => wF_of e⟩
end
end K22

namespace K22
open PySem L2 DL
theorem cut_init {α : Type} {l : List α} {x : α} : cutA (l ++ [x]) none (some (-1)) = l := by simp [cut_last]
structure WInv (T : List (List Nat)) (F : List (Nat × Nat)) (p : Nat) (W : List Nat) : Prop where
  head : W[0]? = some p
  nd : W.Nodup
  all : ∀ v ∈ W, v < T.length ∧ agetG F v = none
  ch : ∀ k u v, W[k]? = some u → W[k + 1]? = some v → v ∈ gs T u
theorem chain_of {T : List (List Nat)} {l : List Nat} (h : ∀ k u v, l[k]? = some u → l[k + 1]? = some v → v ∈ gs T u) : chainB T l = true := by
  unfold chainB
  rw [List.all_eq_true]
  intro k hk
  have hk := List.mem_range.mp hk
  have g1 := List.getElem?_eq_getElem (show k < l.length by omega)
  have g2 := List.getElem?_eq_getElem (show k + 1 < l.length by omega)
  rw [g1, g2]
  exact decide_eq_true (h k _ _ g1 g2)
theorem ch_snoc {T : List (List Nat)} {l : List Nat} {u v : Nat} (h : ∀ k u v, (l ++ [u])[k]? = some u → (l ++ [u])[k + 1]? = some v → v ∈ gs T u) (hv : v ∈ gs T u) : True := True.intro
theorem WInv.las {T : List (List Nat)} {F : List (Nat × Nat)} {p u v : Nat} {W : List Nat} (h : WInv T F p (W ++ [u])) (hv : v ∈ gs T u) (hvT : v < T.length) (hm : v ∈ W ++ [u]) : lasB T p (W ++ [u] ++ [v]) = true := by
  unfold lasB
  have h1 : 2 ≤ (W ++ [u] ++ [v]).length := by simp
  have h2 : (W ++ [u] ++ [v]).all (fun v => decide (v < T.length)) = true := List.all_eq_true.mpr fun x hx => by
    rcases List.mem_append.mp hx with c | c
    · exact decide_eq_true (h.all x c).1
    · rw [List.mem_singleton.mp c]; exact decide_eq_true hvT
  have h3 : (W ++ [u] ++ [v])[0]? = some p := by rw [List.getElem?_append_left (by simp), h.head]
  have h4 : ((W ++ [u] ++ [v])[(W ++ [u] ++ [v]).length - 1]?).getD 0 ∈ (W ++ [u] ++ [v]).dropLast := by
    rw [List.dropLast_concat, List.length_append (bs := [v]), List.length_singleton, Nat.add_sub_cancel, List.getElem?_concat_length]
    exact hm
  have h5 : chainB T (W ++ [u] ++ [v]) = true := chain_of fun k a b ha hb => by
    have hk := (List.getElem?_eq_some_iff.mp hb).1
    rw [List.length_append, List.length_singleton] at hk
    rcases Nat.lt_or_ge (k + 1) (W ++ [u]).length with c | c
    · rw [List.getElem?_append_left (by omega)] at ha hb
      exact h.ch k a b ha hb
    · have hk2 : k + 1 = (W ++ [u]).length := by omega
      rw [hk2, List.getElem?_concat_length] at hb
      cases hb
      rw [List.getElem?_append_left (by omega)] at ha
      have : k = W.length := by rw [List.length_append, List.length_singleton] at hk2; omega
      rw [this, List.getElem?_concat_length] at ha
      cases ha
      exact hv
  rw [decide_eq_true h1, h2, decide_eq_true h3, decide_eq_true h4, h5]; rfl
theorem WInv.more {T : List (List Nat)} {F : List (Nat × Nat)} {p u v : Nat} {W : List Nat} (h : WInv T F p (W ++ [u])) (hv : v ∈ gs T u) (hvT : v < T.length) (hF : agetG F v = none) (hm : v ∉ W ++ [u]) : WInv T F p (W ++ [u] ++ [v]) where
  head := by rw [List.getElem?_append_left (by simp), h.head]
  nd := by
    rw [List.nodup_append]
    exact ⟨h.nd, by simp, fun a ha b hb e => hm (by rw [List.mem_singleton.mp hb] at e; rw [← e]; exact ha)⟩
  all := fun x hx => by
    rcases List.mem_append.mp hx with c | c
    · exact h.all x c
    · rw [List.mem_singleton.mp c]; exact ⟨hvT, hF⟩
  ch := fun k a b ha hb => by
    have hk := (List.getElem?_eq_some_iff.mp hb).1
    rw [List.length_append, List.length_singleton] at hk
    rcases Nat.lt_or_ge (k + 1) (W ++ [u]).length with c | c
    · rw [List.getElem?_append_left (by omega)] at ha hb
      exact h.ch k a b ha hb
    · have hk2 : k + 1 = (W ++ [u]).length := by omega
      rw [hk2, List.getElem?_concat_length] at hb
      cases hb
      rw [List.getElem?_append_left (by omega)] at ha
      have : k = W.length := by rw [List.length_append, List.length_singleton] at hk2; omega
      rw [this, List.getElem?_concat_length] at ha
      cases ha
      exact hv
section
variable {Q : D → DL.Env → Prop} {T : List (List Nat)} {p : Nat}
theorem lasso_ex (hT : TOk T) (hp : p < T.length) (hr : rk T p = none) : ∃ way : List Nat, lasB T p way = true ∧ way.length ≤ 8 ∧ ∀ Q : D → DL.Env → Prop, wF sem_lasso [.sh (stD T), .sh (.int (p : Int))] Q = Q (.tup (nD way)) [.no, .no] := by
  have key : wF sem_lasso [.sh (stD T), .sh (.int (p : Int))] fun d c => ∃ way : List Nat, lasB T p way = true ∧ way.length ≤ 8 ∧ d = .tup (nD way) ∧ c = [.no, .no] := by
    unfold sem_lasso m_lasso
    rw [wF_run]
    have h7 := hT.l7
    obtain ⟨F, hF, hcl, hrk⟩ := ranks_ex hT
    have hn : agetG F p = none := by rw [hF.done hT hcl hp, hr]
    simp [hrk, in_f, hn]
    obtain ⟨I, hI⟩ := nameI (fun (m : Nat) (η : DL.Env) => ∃ (W : List Nat) (u : Nat), m + (W ++ [u]).length = T.length + 1 ∧ WInv T F p (W ++ [u]) ∧ η = [.sh (stD T), .sh (.int (p : Int)), .sh (fD F), .ow (.lst (nD (W ++ [u]))), .no, .no])
    refine wS_while I T.length (by unfold fuel; omega) (by
      rw [hI]
      exact ⟨[], p, by simp, ⟨rfl, by simp, fun v hv => by rw [List.mem_singleton.mp hv]; exact ⟨hp, hn⟩, fun k u v h1 h2 => by simp at h2⟩, rfl⟩) fun m η h => ?_
    rw [hI] at h
    obtain ⟨W, u, hm, hW, rfl⟩ := h
    have hWl := nodup_len T.length (W ++ [u]) hW.nd fun v hv => (hW.all v hv).1
    obtain ⟨hu, hun⟩ := hW.all u (by simp)
    have hla : idxD (.lst (nD (W ++ [u]))) (.int (-1)) = some (.int (u : Int)) := by rw [← nD_snoc]; exact idxD_lstL
    have hx := idx_st hu
    have hg := gs_ok hT u
    simp [hla, hx]
    refine ⟨by rw [nD_len]; omega, ?_⟩
    refine wX_fa natK natK (fun v => !(agetG F v).isSome) (fun v hv => by simp [nin_f]) ?_
    obtain ⟨v0, hv0, hv0n⟩ := hcl u hu hun
    have hfn : (gs T u).filter (fun v => !(agetG F v).isSome) ≠ [] := fun z => by
      have := List.filter_eq_nil_iff.mp z v0 hv0
      rw [hv0n] at this; simp at this
    rcases hfe : (gs T u).filter (fun v => !(agetG F v).isSome) with _ | ⟨v, vs⟩
    · exact (hfn hfe).elim
    · have hvm : v ∈ (gs T u).filter (fun v => !(agetG F v).isSome) := by rw [hfe]; exact List.mem_cons_self
      obtain ⟨hv1, hv2⟩ := List.mem_filter.mp hvm
      have hvn : agetG F v = none := by
        rcases z : agetG F v with _ | x
        · rfl
        · rw [z] at hv2; simp at hv2
      have hvT := hg.2 v hv1
      have hi0 : idxD (.lst (List.map natK (v :: vs))) (.int 0) = some (.int (v : Int)) := by rw [idxD_lst (by decide)]; rfl
      have hcut : cutA (nD (W ++ [u, v])) none (some (-1)) = nD (W ++ [u]) := by
        rw [show W ++ [u, v] = W ++ [u] ++ [v] by simp, ← nD_snoc, cut_last]
      have hsl : sliceD (.lst (nD (W ++ [u, v]))) none (some (-1)) = some (.lst (nD (W ++ [u]))) := by
        unfold sliceD
        simp only [hcut]
      have hin := inD_nat (n := v) (l := W ++ [u])
      simp only [List.map_cons] at hi0
      simp [hi0, nD_snoc]
      refine ⟨by rw [nD_len]; omega, ?_⟩
      by_cases c : v ∈ W ++ [u]
      · rw [decide_eq_true c] at hin
        simp [hsl, hin]
        exact ⟨W ++ [u, v], by have := hW.las hv1 hvT c; simpa using this, by simp at hWl ⊢; omega, rfl⟩
      · rw [decide_eq_false c] at hin
        simp [hsl, hin]
        refine ⟨m - 1, by omega, ?_⟩
        rw [hI]
        exact ⟨W ++ [u], v, by rw [List.length_append (bs := [v]), List.length_singleton]; omega, hW.more hv1 hvT hvn c, by simp⟩
  obtain ⟨d, c, e, way, h1, h2, rfl, rfl⟩ := key.ex
  exact ⟨way, h1, h2, fun Q => wF_of e⟩
end
end K22

namespace K22
open PySem L2 DL
def optN : Option Nat → D
  | none => .non
  | some k => .int (k : Int)
section
variable {Q : D → DL.Env → Prop} {T : List (List Nat)} {p : Nat}
theorem wF_mustrest (hT : TOk T) (hp : p < T.length) : (∀ r, rk T p = some r → ∀ Q : D → DL.Env → Prop, wF sem_must_rest [.sh (stD T), .sh (.int (p : Int))] Q = Q (.tup [.str (Str.ofString "yes"), .int (r : Int)]) [.no, .no]) ∧
    (rk T p = none → ∃ way : List Nat, lasB T p way = true ∧ way.length ≤ 8 ∧ ∀ Q : D → DL.Env → Prop, wF sem_must_rest [.sh (stD T), .sh (.int (p : Int))] Q = Q (.tup [.str (Str.ofString "no"), .tup (nD way)]) [.no, .no]) := by
  obtain ⟨F, hF, hcl, hrk⟩ := ranks_ex hT
  have hd := hF.done hT hcl hp
  constructor
  · intro r hr Q
    refine wF_of (of_wF ?_)
    unfold sem_must_rest m_must_rest
    rw [wF_run]
    rw [hr] at hd
    simp [hrk, in_f, hd, idx_f hd]
  · intro hr
    obtain ⟨way, h1, h2, h3⟩ := lasso_ex hT hp hr
    refine ⟨way, h1, h2, fun Q => wF_of (of_wF ?_)⟩
    unfold sem_must_rest m_must_rest
    rw [wF_run]
    rw [hr] at hd
    simp [hrk, in_f, hd, h3]
theorem wF_longest (hT : TOk T) (hp : p < T.length) : wF sem__law_longest [.sh (stD T), .sh (.int (p : Int))] Q = Q (optN (rk T p)) [.no, .no] := by
  refine wF_of (of_wF ?_)
  unfold sem__law_longest m__law_longest
  rw [wF_run]
  have h7 := hT.l7
  simp [len_st]
  obtain ⟨I, hI⟩ := nameI (fun (k : Nat) (η : DL.Env) => ∃ L : List Nat, L ≠ [] ∧ (∀ v ∈ L, v < T.length) ∧ L.length ≤ 3 ^ k ∧ (∀ m, Pth T (k + m) p = L.any (Pth T m)) ∧ η = [.sh (stD T), .sh (.int (p : Int)), .sh (.lst (nD L)), .sh (.int (k : Int)), .no, .no, .no, .no])
  refine ⟨by omega, wL_rng I (by rw [hI]; exact ⟨[p], by simp, by simpa using hp, by simp, fun m => by simp, rfl⟩) (fun k η hk h => ?_) fun η h => ?_⟩
  · rw [hI] at h
    obtain ⟨L, hne, hlt, hlen, hP, rfl⟩ := h
    have hk8 : k ≤ 7 := by omega
    have hpow : 3 ^ k ≤ 3 ^ 7 := Nat.pow_le_pow_right (by decide) hk8
    have hL : L.length ≤ 2187 := by
      have e : 3 ^ 7 = 2187 := by decide
      omega
    simp
    obtain ⟨J, hJ⟩ := nameI (fun (j : Nat) (η : DL.Env) => ∃ M : List Nat, M.length ≤ 3 * j ∧ (∀ v, v ∈ M ↔ ∃ u ∈ L.take j, v ∈ gs T u) ∧ η = [.sh (stD T), .sh (.int (p : Int)), .sh (.lst (nD L)), .sh (.int (k : Int)), .sh (.int (k : Int)), .sh (.lst (nD M)), .no, .no])
    refine wL_for J (by rw [hJ]; exact ⟨[], by simp, fun v => by simp, rfl⟩) (fun j d η hd h => ?_) fun η h => ?_
    · rw [hJ] at h
      obtain ⟨M, hMl, hM, rfl⟩ := h
      obtain ⟨u, hu, rfl⟩ := nD_get hd
      have hjl := (List.getElem?_eq_some_iff.mp hu).1
      have huT := hlt u (List.mem_of_getElem? hu)
      have hx := idx_st huT
      have hg := gs_ok hT u
      simp [hx]
      refine ⟨by rw [nD_len]; omega, ?_⟩
      refine wX_fa natK natK (fun v => !decide (v ∈ M)) (fun v hv => by by_cases c : v ∈ M <;> simp [ninD_nat, c]) ?_
      have hfl := List.length_filter_le (fun v => !decide (v ∈ M)) (gs T u)
      simp [nD_len]
      refine ⟨by omega, ?_⟩
      rw [hJ]
      refine ⟨M ++ (gs T u).filter (fun v => !decide (v ∈ M)), by rw [List.length_append]; omega, fun v => ?_, by unfold nD; rw [List.map_append]⟩
      have ht : L.take (j + 1) = L.take j ++ [u] := by rw [List.take_add_one, hu]; rfl
      rw [ht, List.mem_append, hM, List.mem_filter]
      constructor
      · rintro (⟨w, h1, h2⟩ | ⟨h1, _⟩)
        · exact ⟨w, List.mem_append_left _ h1, h2⟩
        · exact ⟨u, by simp, h1⟩
      · rintro ⟨w, h1, h2⟩
        rcases List.mem_append.mp h1 with c | c
        · exact .inl ⟨w, c, h2⟩
        · rw [List.mem_singleton.mp c] at h2
          by_cases d : v ∈ M
          · exact .inl ((hM v).mp d)
          · exact .inr ⟨h2, by simp [d]⟩
    · rw [hJ] at h
      obtain ⟨M, hMl, hM, rfl⟩ := h
      rw [nD_len, List.take_length] at *
      have hq : eqD (.lst (nD M)) (.lst []) = some (.bl (decide (M = []))) := PEnc.nat.eqL (by decide) M []
      have hpk : Pth T k p = true := by
        have := hP 0
        rw [Nat.add_zero] at this
        rw [this]
        rcases L with _ | ⟨a, L⟩
        · exact (hne rfl).elim
        · rfl
      have hstep : ∀ m, Pth T (k + 1 + m) p = M.any (Pth T m) := fun m => by
        rw [show k + 1 + m = k + (m + 1) by omega, hP, Bool.eq_iff_iff, List.any_eq_true, List.any_eq_true]
        constructor
        · rintro ⟨u, hu, h⟩
          rw [Pth, List.any_eq_true] at h
          obtain ⟨v, hv, h⟩ := h
          exact ⟨v, (hM v).mpr ⟨u, hu, hv⟩, h⟩
        · rintro ⟨v, hv, h⟩
          obtain ⟨u, hu, hv2⟩ := (hM v).mp hv
          exact ⟨u, hu, by rw [Pth, List.any_eq_true]; exact ⟨v, hv2, h⟩⟩
      by_cases c : M = []
      · subst c
        have h0 := hstep 0
        rw [Nat.add_zero] at h0
        have hrk := rk_some hT hp hpk h0
        simp [hq, hrk, optN]
      · simp [hq, c]
        rw [hI]
        refine ⟨M, c, fun v hv => ?_, ?_, hstep, rfl⟩
        · obtain ⟨u, _, hv2⟩ := (hM v).mp hv
          exact (gs_ok hT u).2 v hv2
        · rw [Nat.pow_succ]; omega
  · rw [hI] at h
    obtain ⟨L, hne, hlt, hlen, hP, rfl⟩ := h
    have hall : ∀ k, Pth T k p = true := by
      have hn : Pth T T.length p = true := by
        have h0 := hP 0
        have e : ((T.length : Int) + 1 - 0).toNat = T.length + 1 := by omega
        rw [e, Nat.add_zero] at h0
        refine pth_mono T _ _ ?_
        rw [h0]
        rcases L with _ | ⟨a, L⟩
        · exact (hne rfl).elim
        · rfl
      exact pth_all hT hp hn
    simp [rk_none hall, optN]
end
end K22

namespace K22
open PySem L2 DL
section
variable {Q : D → DL.Env → Prop} {T : List (List Nat)} {p : Nat}
theorem lasB_short {l : List Nat} (h : l.length < 2) : lasB T p l = false := by
  unfold lasB
  rw [decide_eq_false (by omega)]; rfl
theorem lasB_bad {l : List Nat} (h : l.all (fun v => decide (v < T.length)) = false) : lasB T p l = false := by
  unfold lasB
  rw [h]; simp
theorem getL {l : List Nat} (h : 2 ≤ l.length) : ∃ a z m, l = a :: m ++ [z] ∧ l[0]? = some a ∧ l[l.length - 1]? = some z ∧ l.dropLast = a :: m := by
  rcases List.eq_nil_or_concat l with rfl | ⟨m, z, rfl⟩
  · simp at h
  · rw [List.concat_eq_append] at *
    cases m with
    | nil => simp at h
    | cons a m =>
      refine ⟨a, z, m, rfl, rfl, ?_, by rw [List.dropLast_concat]⟩
      rw [List.length_append, List.length_singleton, Nat.add_sub_cancel, List.getElem?_concat_length]
theorem wF_islasso {l : List Nat} (hl : l.length ≤ 100) : wF sem_is_lasso [.sh (stD T), .sh (.int (p : Int)), .sh (.tup (nD l))] Q = Q (.bl (lasB T p l)) [.no, .no, .no] := by
  refine wF_of (of_wF ?_)
  unfold sem_is_lasso m_is_lasso
  rw [wF_run]
  by_cases h2 : l.length < 2
  · have h2' : (l.length : Int) < 2 := by omega
    have h3' : ¬ 2 ≤ (l.length : Int) := by omega
    simp [nD_len, h2', h3', lasB_short h2]
  · have h2' : ¬ (l.length : Int) < 2 := by omega
    have h3' : 2 ≤ (l.length : Int) := by omega
    obtain ⟨a, z, m, hlm, h0, hz, hd⟩ := getL (l := l) (by omega)
    simp [nD_len, h2', h3']
    refine ⟨by omega, ?_⟩
    refine wX_ma natK (fun _ => .bl true) (fun v hv => by simp [wF_is_from (d := .int (v : Int)) rfl, isFrom]) ?_
    have hall := allG_map (f := fun _ : Nat => D.bl true) (c := fun _ => true) (l := l) fun _ _ => rfl
    generalize l.map (fun _ => D.bl true) = L at hall ⊢
    have i0 : idxD (.tup (nD l)) (.int 0) = some (.int (a : Int)) := by
      rw [idxD_tup (by decide)]; exact nD_at h0
    have iL : idxD (.tup (nD l)) (.int (-1)) = some (.int (z : Int)) := by
      rw [hlm, ← nD_snoc]; exact idxD_tupL
    have hsl : sliceD (.tup (nD l)) none (some (-1)) = some (.tup (nD (a :: m))) := by
      rw [hlm, ← nD_snoc]
      unfold sliceD
      simp only [cut_last]
    by_cases hap : a = p
    · subst hap
      have hb : lasB T a l = (l.all (fun v => decide (v < T.length)) && decide (z ∈ a :: m) && chainB T l) := by
        unfold lasB
        rw [h0, hz, hd, decide_eq_true (show 2 ≤ l.length by omega)]
        simp
      simp [hall, i0, nD_len]
      refine ⟨by omega, ?_⟩
      refine wX_ma natK (fun v => .bl (decide (v < T.length))) (fun v hv => by simp [in_st]) ?_
      have hall2 := allG_map (f := fun v : Nat => D.bl (decide (v < T.length))) (c := fun v => decide (v < T.length)) (l := l) fun _ _ => rfl
      generalize l.map (fun v => D.bl (decide (v < T.length))) = L2 at hall2 ⊢
      by_cases hn : l.all (fun v => decide (v < T.length)) = true
      · rw [hn] at hall2
        rw [hn] at hb
        have hlt : ∀ v ∈ l, v < T.length := fun v hv => of_decide_eq_true (List.all_eq_true.mp hn v hv)
        have hin : ninD (.int (z : Int)) (.tup (nD (a :: m))) = some (.bl (!decide (z ∈ a :: m))) := PEnc.nat.ninT (by decide) z (a :: m)
        by_cases hzm : z ∈ a :: m
        · rw [decide_eq_true hzm] at hin hb
          simp [hall2, iL, hsl, hin, nD_len]
          obtain ⟨e, he⟩ : ∃ e, l.length - 1 = e := ⟨_, rfl⟩
          rw [show ((l.length : Int) - 1) = (e : Int) by omega]
          refine ⟨by omega, by omega, ?_⟩
          rw [rangeN]
          refine wX_ma _ (fun k => .bl (decide ((l[k + 1]?).getD 0 ∈ gs T ((l[k]?).getD 0)))) (fun k hk => ?_) ?_
          · have hk := List.mem_range.mp hk
            have g1 := List.getElem?_eq_getElem (show k < l.length by omega)
            have g2 := List.getElem?_eq_getElem (show k + 1 < l.length by omega)
            have n1 := nD_at g1
            have n2 := nD_at g2
            have hx := idx_st (T := T) (hlt l[k] (List.getElem_mem _))
            have hin2 : inD (.int (l[k + 1] : Int)) (.tup (nD (gs T l[k]))) = some (.bl (decide (l[k + 1] ∈ gs T l[k]))) := PEnc.nat.inT (by decide) _ _
            have e1 : ((k : Int) + 1) = ((k + 1 : Nat) : Int) := rfl
            simp only [g1, g2]
            simp [n1, n2, e1, hx, hin2, -Int.natCast_add]
          · have hall3 := allG_map (f := fun k : Nat => D.bl (decide ((l[k + 1]?).getD 0 ∈ gs T ((l[k]?).getD 0)))) (c := fun k => decide ((l[k + 1]?).getD 0 ∈ gs T ((l[k]?).getD 0))) (l := List.range e) fun _ _ => rfl
            have hch : chainB T l = (List.range e).all fun k => decide ((l[k + 1]?).getD 0 ∈ gs T ((l[k]?).getD 0)) := by unfold chainB; rw [he]
            rw [← hch] at hall3
            generalize (List.range e).map (fun k => D.bl (decide ((l[k + 1]?).getD 0 ∈ gs T ((l[k]?).getD 0)))) = L3 at hall3 ⊢
            simp [hall3, hb]
        · rw [decide_eq_false hzm] at hin hb
          simp [hall2, iL, hsl, hin, hb]
      · rw [Bool.not_eq_true] at hn
        rw [hn] at hall2
        rw [lasB_bad hn]
        simp [hall2]
    · have hb : lasB T p l = false := by
        unfold lasB
        rw [h0, decide_eq_false (show ¬ (some a = some p) from fun z => hap (Option.some.inj z))]
        simp
      have hap' : ¬ (a : Int) = (p : Int) := by omega
      simp [hall, i0, hap', hb]
theorem wF_lawlasso {l : List Nat} (hl : l.length ≤ 100) : wF sem__law_lasso [.sh (stD T), .sh (.int (p : Int)), .sh (.tup (nD l))] Q = Q (.bl (lasB T p l)) [.no, .no, .no] := by
  refine wF_of (of_wF ?_)
  unfold sem__law_lasso m__law_lasso
  rw [wF_run]
  by_cases h2 : l.length < 2
  · have h2' : (l.length : Int) < 2 := by omega
    have h3' : ¬ 2 ≤ (l.length : Int) := by omega
    simp [nD_len, h2', h3', lasB_short h2]
  · have h2' : ¬ (l.length : Int) < 2 := by omega
    have h3' : 2 ≤ (l.length : Int) := by omega
    obtain ⟨a, z, m, hlm, h0, hz, hd⟩ := getL (l := l) (by omega)
    simp [nD_len, h2', h3']
    refine ⟨by omega, ?_⟩
    refine wX_fa natK natK (fun v => !decide (v < T.length)) (fun v hv => by by_cases c : v < T.length <;> simp [nin_st, c]) ?_
    have i0 : idxD (.tup (nD l)) (.int 0) = some (.int (a : Int)) := by
      rw [idxD_tup (by decide)]; exact nD_at h0
    have iL : idxD (.tup (nD l)) (.int (-1)) = some (.int (z : Int)) := by
      rw [hlm, ← nD_snoc]; exact idxD_tupL
    have hsl : sliceD (.tup (nD l)) none (some (-1)) = some (.tup (nD (a :: m))) := by
      rw [hlm, ← nD_snoc]
      unfold sliceD
      simp only [cut_last]
    have hq : ∀ L : List Nat, neD (.lst (L.map natK)) (.lst []) = some (.bl (!decide (L = []))) := fun L => PEnc.nat.neL (by decide) L []
    by_cases hn : l.all (fun v => decide (v < T.length)) = true
    · have hf : l.filter (fun v => !decide (v < T.length)) = [] := List.filter_eq_nil_iff.mpr fun v hv => by
        have := List.all_eq_true.mp hn v hv
        rw [this]; simp
      have hlt : ∀ v ∈ l, v < T.length := fun v hv => of_decide_eq_true (List.all_eq_true.mp hn v hv)
      rw [hf]
      have hq0 := hq []
      simp only [List.map_nil] at hq0
      simp [hq0, i0]
      by_cases hap : a = p
      · subst hap
        have hb : lasB T a l = (decide (z ∈ a :: m) && chainB T l) := by
          unfold lasB
          rw [h0, hz, hd, decide_eq_true (show 2 ≤ l.length by omega), hn]
          simp
        have hin : inD (.int (z : Int)) (.tup (nD (a :: m))) = some (.bl (decide (z ∈ a :: m))) := PEnc.nat.inT (by decide) z (a :: m)
        by_cases hzm : z ∈ a :: m
        · rw [decide_eq_true hzm] at hin hb
          simp [iL, hsl, hin, nD_len]
          refine ⟨by omega, by omega, ?_⟩
          obtain ⟨e, he⟩ : ∃ e, l.length - 1 = e := ⟨_, rfl⟩
          rw [rangeN2, show ((l.length : Int) - 1).toNat = e by omega]
          refine wX_fa _ (fun k : Nat => .int (1 + (k : Int))) (fun k => !decide ((l[k + 1]?).getD 0 ∈ gs T ((l[k]?).getD 0))) (fun k hk => ?_) ?_
          · have hk := List.mem_range.mp hk
            have g1 := List.getElem?_eq_getElem (show k < l.length by omega)
            have g2 := List.getElem?_eq_getElem (show k + 1 < l.length by omega)
            have n1 := nD_at g1
            have n2 := nD_at g2
            have hx := idx_st (T := T) (hlt l[k] (List.getElem_mem _))
            have hin2 : ninD (.int (l[k + 1] : Int)) (.tup (nD (gs T l[k]))) = some (.bl (!decide (l[k + 1] ∈ gs T l[k]))) := PEnc.nat.ninT (by decide) _ _
            have e1 : (1 + (k : Int)) = ((k + 1 : Nat) : Int) := by omega
            have e2 : ((k + 1 : Nat) : Int) - 1 = (k : Int) := by omega
            simp only [g1, g2]
            rw [e1]
            simp [n1, n2, e2, hx, hin2, -Int.natCast_add]
          · have hq3 : neD (.lst (((List.range e).filter fun k => !decide ((l[k + 1]?).getD 0 ∈ gs T ((l[k]?).getD 0))).map fun k : Nat => .int (1 + (k : Int)))) (.lst []) = some (.bl true) → True := fun _ => True.intro
            have hch : chainB T l = (List.range e).all fun k => decide ((l[k + 1]?).getD 0 ∈ gs T ((l[k]?).getD 0)) := by unfold chainB; rw [he]
            obtain ⟨R, hR⟩ : ∃ R, (List.range e).filter (fun k => !decide ((l[k + 1]?).getD 0 ∈ gs T ((l[k]?).getD 0))) = R := ⟨_, rfl⟩
            rw [hR]
            have hemp : decide (R = []) = chainB T l := by
              rw [hch, Bool.eq_iff_iff, decide_eq_true_iff, List.all_eq_true, ← hR, List.filter_eq_nil_iff]
              constructor
              · intro h k hk
                have := h k hk
                simpa using this
              · intro h k hk
                have := h k hk
                simp only [this]; simp
            have hmi : (R.map fun k : Nat => D.int (1 + (k : Int))) = (R.map fun k : Nat => 1 + (k : Int)).map D.int := by rw [List.map_map]; rfl
            have hq4 : eqD (.lst (R.map fun k : Nat => D.int (1 + (k : Int)))) (.lst []) = some (.bl (decide (R = []))) := by
              have := PEnc.int.eqL (by decide) (R.map fun k : Nat => 1 + (k : Int)) []
              rw [hmi]
              refine Eq.trans this ?_
              congr 2
              simp
            rw [hemp] at hq4
            generalize (R.map fun k : Nat => D.int (1 + (k : Int))) = L at hq4 ⊢
            simp [hq4, hb]
        · rw [decide_eq_false hzm] at hin hb
          simp [iL, hsl, hin, hb]
      · have hb : lasB T p l = false := by
          unfold lasB
          rw [h0, decide_eq_false (show ¬ (some a = some p) from fun z => hap (Option.some.inj z))]
          simp
        have hap' : ¬ (a : Int) = (p : Int) := by omega
        simp [hap', hb]
    · have hf : l.filter (fun v => !decide (v < T.length)) ≠ [] := fun z => hn (List.all_eq_true.mpr fun v hv => by
        have := List.filter_eq_nil_iff.mp z v hv
        simpa using this)
      rw [Bool.not_eq_true] at hn
      rw [lasB_bad hn]
      have hq1 := hq (l.filter (fun v => !decide (v < T.length)))
      rw [decide_eq_false hf] at hq1
      generalize (l.filter (fun v => !decide (v < T.length))).map natK = L at hq1 ⊢
      simp [hq1]
end
end K22

namespace K22
open PySem L2 DL
def badB (T : List (List Nat)) : D → Bool
  | .int z => !decide (0 ≤ z ∧ z < (T.length : Int))
  | _ => true
section
variable {Q : D → DL.Env → Prop} {T : List (List Nat)} {p : Nat}
theorem islasso_lst {xs : List D} : wF sem_is_lasso [.sh (stD T), .sh (.int (p : Int)), .sh (.lst xs)] Q = Q (.bl false) [.no, .no, .no] := by
  refine wF_of (of_wF ?_)
  unfold sem_is_lasso m_is_lasso
  rw [wF_run]
  simp
theorem islasso_non : wF sem_is_lasso [.sh (stD T), .sh (.int (p : Int)), .sh .non] Q = Q (.bl false) [.no, .no, .no] := by
  refine wF_of (of_wF ?_)
  unfold sem_is_lasso m_is_lasso
  rw [wF_run]
  simp
theorem lawlasso_lst {xs : List D} : wF sem__law_lasso [.sh (stD T), .sh (.int (p : Int)), .sh (.lst xs)] Q = Q (.bl false) [.no, .no, .no] := by
  refine wF_of (of_wF ?_)
  unfold sem__law_lasso m__law_lasso
  rw [wF_run]
  simp
theorem lawlasso_non : wF sem__law_lasso [.sh (stD T), .sh (.int (p : Int)), .sh .non] Q = Q (.bl false) [.no, .no, .no] := by
  refine wF_of (of_wF ?_)
  unfold sem__law_lasso m__law_lasso
  rw [wF_run]
  simp
theorem islasso_bad {l : List Nat} {b : D} (hb : b = .bl true ∨ b = .non) (hl : l.length ≤ 100) : wF sem_is_lasso [.sh (stD T), .sh (.int (p : Int)), .sh (.tup (nD l ++ [b]))] Q = Q (.bl false) [.no, .no, .no] := by
  refine wF_of (of_wF ?_)
  unfold sem_is_lasso m_is_lasso
  rw [wF_run]
  have hbs : isFrom b 0 = false := by rcases hb with rfl | rfl <;> rfl
  have hset : ∀ d ∈ nD l ++ [b], notSet d = true := fun d hd => by
    rcases List.mem_append.mp hd with c | c
    · obtain ⟨v, _, rfl⟩ := nD_mem c; rfl
    · rw [List.mem_singleton.mp c]; rcases hb with rfl | rfl <;> rfl
  have hall := allG_map (f := fun d : D => D.bl (isFrom d 0)) (c := fun d => isFrom d 0) (l := nD l ++ [b]) fun _ _ => rfl
  have hf : (nD l ++ [b]).all (fun d => isFrom d 0) = false := by rw [List.all_append]; simp [hbs]
  rw [hf] at hall
  have hlen : (nD l ++ [b]).length = l.length + 1 := by rw [List.length_append, nD_len]; rfl
  generalize nD l ++ [b] = xs at *
  by_cases h2 : l.length = 0
  · simp [hlen, h2]
  · have h2' : ¬ (l.length : Int) + 1 < 2 := by omega
    have h3' : 2 ≤ (l.length : Int) + 1 := by omega
    simp [hlen, h2', h3']
    refine ⟨by omega, ?_⟩
    refine wX_map1 (fun d => .bl (isFrom d 0)) (fun d hd => by simp [wF_is_from (hset d hd)]) ?_
    simp [hall]
theorem lawlasso_bad {l : List Nat} {b : D} (hb : b = .bl true ∨ b = .non) (hl : l.length ≤ 100) : wF sem__law_lasso [.sh (stD T), .sh (.int (p : Int)), .sh (.tup (nD l ++ [b]))] Q = Q (.bl false) [.no, .no, .no] := by
  refine wF_of (of_wF ?_)
  unfold sem__law_lasso m__law_lasso
  rw [wF_run]
  have hlen : (nD l ++ [b]).length = l.length + 1 := by rw [List.length_append, nD_len]; rfl
  have hok : okDs 59 ((nD l ++ [b]).filter (badB T)) = true := okDs_all.mpr fun d hd => by
    rcases List.mem_append.mp (List.mem_filter.mp hd).1 with c | c
    · obtain ⟨v, _, rfl⟩ := nD_mem c; rfl
    · rw [List.mem_singleton.mp c]; rcases hb with rfl | rfl <;> rfl
  have hne : ((nD l ++ [b]).filter (badB T)).isEmpty = false := by
    rw [List.filter_append]
    have : badB T b = true := by rcases hb with rfl | rfl <;> rfl
    rw [List.filter_cons, if_pos this]
    cases List.filter (badB T) (nD l) <;> rfl
  have hq := neD_nil hok
  rw [hne] at hq
  by_cases h2 : l.length = 0
  · simp [hlen, h2]
  · have h2' : ¬ (l.length : Int) + 1 < 2 := by omega
    have h3' : 2 ≤ (l.length : Int) + 1 := by omega
    simp only [Bool.not_false] at hq
    have hstep : ∀ d ∈ nD l ++ [b], (∃ v : Nat, d = .int (v : Int)) ∨ d = .bl true ∨ d = .non := fun d hd => by
      rcases List.mem_append.mp hd with c | c
      · obtain ⟨v, _, rfl⟩ := nD_mem c; exact .inl ⟨v, rfl⟩
      · rw [List.mem_singleton.mp c]; exact .inr hb
    generalize nD l ++ [b] = xs at *
    simp [hlen, h2', h3']
    refine ⟨by omega, ?_⟩
    refine wX_filt1 id (badB T) (fun d hd => ?_) ?_
    · rcases hstep d hd with ⟨v, rfl⟩ | rfl | rfl
      · by_cases c : v < T.length
        · have c' : (v : Int) < T.length := by omega
          simp [nin_st, c, badB, c']
        · have c' : ¬ (v : Int) < T.length := by omega
          simp [nin_st, c, badB, c']
      · simp [badB]
      · simp [badB]
    · rw [List.map_id]
      simp [hq]
/-! ### is_steps -/
def stX (n : Nat) (val : Nat → D) : D := .dic (kvG natK (fun d : D => d) ((List.range n).map fun u => (u, val u)))
theorem stX_nd {n : Nat} {val : Nat → D} : (((List.range n).map fun u => (u, val u)).map (·.1)).Nodup := by
  rw [List.map_map]
  show ((List.range n).map fun u => u).Nodup
  rw [List.map_id']; exact List.nodup_range
theorem stX_idx {n u : Nat} {val : Nat → D} (h : u < n) : idxD (stX n val) (.int (u : Int)) = some (val u) :=
  idx_kvG (g := natK) (f := fun d : D => d) (v := u) emb_nat ((aget_mem stX_nd).mpr (List.mem_map.mpr ⟨u, List.mem_range.mpr h, rfl⟩))
theorem stX_in {n v : Nat} {val : Nat → D} : inD (.int (v : Int)) (stX n val) = some (.bl (decide (v < n))) := by
  have := in_kvG (g := natK) (f := fun d : D => d) (C := (List.range n).map fun u => (u, val u)) (v := v) emb_nat
  refine Eq.trans this ?_
  congr 2
  rw [Bool.eq_iff_iff, agetG_mem, decide_eq_true_iff, List.map_map, List.mem_map]
  constructor
  · rintro ⟨u, hu, rfl⟩; exact List.mem_range.mp hu
  · intro h; exact ⟨v, List.mem_range.mpr h, rfl⟩
theorem stX_items {n : Nat} {val : Nat → D} : itemsW (stX n val) = some (nD (List.range n)) := by
  show some ((kvG natK (fun d : D => d) ((List.range n).map fun u => (u, val u))).map (·.1)) = _
  unfold kvG nD
  rw [List.map_map, List.map_map]; rfl
/-- an element of a row that may stand there -/
def elB (n : Nat) : D → Bool
  | .int z => decide (0 ≤ z ∧ z < (n : Int))
  | _ => false
def rowB (n : Nat) : D → Bool
  | .tup xs => xs.all (elB n)
  | _ => false
def scalV : D → Bool
  | .int _ => true
  | .bl _ => true
  | .str _ => true
  | _ => false
def plainV : D → Prop
  | .tup xs => xs.length ≤ 100 ∧ ∀ x ∈ xs, scalV x = true
  | .lst _ => True
  | .non => True
  | .int _ => True
  | _ => False
def isTupB : D → Bool
  | .tup _ => true
  | _ => false
def rowOf : D → List D
  | .tup xs => xs
  | _ => []
theorem wF_issteps {n : Nat} {val : Nat → D} (hn : n ≤ 10) (hv : ∀ u, u < n → plainV (val u)) : wF sem_is_steps [.sh (stX n val)] Q = Q (.bl ((List.range n).all fun u => rowB n (val u))) [.no] := by
  refine wF_of (of_wF ?_)
  unfold sem_is_steps m_is_steps
  rw [wF_run]
  have hd : isiG "dict" [stX n val] = some (.bl true) := rfl
  simp [hd, stX_items]
  refine ⟨by rw [nD_len, List.length_range]; omega, ?_⟩
  refine wX_ma natK (fun u => .bl (isTupB (val u))) (fun u hu => ?_) ?_
  · have hu := List.mem_range.mp hu
    have hp := hv u hu
    simp [stX_idx hu]
    cases h : val u <;> rw [h] at hp <;> first | (exact hp.elim) | simp [isTupB]
  have hall := allG_map (f := fun u : Nat => D.bl (isTupB (val u))) (c := fun u => isTupB (val u)) (l := List.range n) fun _ _ => rfl
  generalize (List.range n).map (fun u => D.bl (isTupB (val u))) = L at hall ⊢
  by_cases ht : (List.range n).all (fun u => isTupB (val u)) = true
  · rw [ht] at hall
    have hT : ∀ u, u < n → val u = .tup (rowOf (val u)) ∧ (rowOf (val u)).length ≤ 100 ∧ ∀ x ∈ rowOf (val u), scalV x = true := fun u hu => by
      have h1 := List.all_eq_true.mp ht u (List.mem_range.mpr hu)
      have h2 := hv u hu
      cases h : val u <;> rw [h] at h1 h2 <;> first | (cases h1; done) | exact ⟨rfl, h2.1, h2.2⟩
    simp [hall, stX_items]
    refine ⟨by rw [nD_len, List.length_range]; omega, ?_⟩
    refine wX_ma natK (fun _ => .bl true) (fun u hu => by simp [wF_is_from (d := .int (u : Int)) rfl, isFrom]) ?_
    have hall2 := allG_map (f := fun _ : Nat => D.bl true) (c := fun _ => true) (l := List.range n) fun _ _ => rfl
    generalize (List.range n).map (fun _ => D.bl true) = L2 at hall2 ⊢
    simp [hall2, stX_items]
    refine wX_tw (by decide) natK (fun u => (rowOf (val u)).map fun x => .bl (elB n x)) (fun u hu => ?_) ?_ ?_
    · have hu := List.mem_range.mp hu
      obtain ⟨h1, h2, h3⟩ := hT u hu
      simp [stX_idx hu]
      rw [h1]
      simp
      refine wX_map1 (fun x => .bl (elB n x)) (fun x hx => ?_) ?_
      · have hs := h3 x hx
        cases x with
        | int z =>
          by_cases c : 0 ≤ z
          · obtain ⟨k, rfl⟩ : ∃ k : Nat, z = (k : Int) := ⟨z.toNat, by omega⟩
            simp [wF_is_from (d := .int (k : Int)) rfl, isFrom, stX_in, elB]
          · simp [wF_is_from (d := .int z) rfl, isFrom, c, elB]
        | bl b => simp [wF_is_from (d := .bl b) rfl, isFrom, elB]
        | str b => simp [wF_is_from (d := .str b) rfl, isFrom, elB]
        | _ => cases hs
      · simp [rowOf]
    · have : ∀ l : List Nat, (∀ u ∈ l, u < n) → (l.flatMap fun u => (rowOf (val u)).map fun x => D.bl (elB n x)).length ≤ 100 * l.length := by
        intro l
        induction l with
        | nil => intro _; simp
        | cons a l ih =>
          intro h
          have h1 := (hT a (h a List.mem_cons_self)).2.1
          have h2 := ih fun u hu => h u (List.mem_cons_of_mem _ hu)
          rw [List.flatMap_cons, List.length_append, List.length_map, List.length_cons]; omega
      have := this (List.range n) fun u hu => List.mem_range.mp hu
      rw [List.length_range] at this; omega
    · have e : ((List.range n).flatMap fun u => (rowOf (val u)).map fun x => D.bl (elB n x)) = ((List.range n).flatMap fun u => rowOf (val u)).map fun x => D.bl (elB n x) := by
        rw [List.map_flatMap]
      have hall3 := allG_map (f := fun x : D => D.bl (elB n x)) (c := elB n) (l := (List.range n).flatMap fun u => rowOf (val u)) fun _ _ => rfl
      rw [e]
      have hall4 : ((List.range n).flatMap fun u => rowOf (val u)).all (elB n) = (List.range n).all fun u => rowB n (val u) := by
        rw [List.all_flatMap, Bool.eq_iff_iff, List.all_eq_true, List.all_eq_true]
        have key : ∀ u ∈ List.range n, (rowOf (val u)).all (elB n) = rowB n (val u) := fun u hu => by
          have h1 := (hT u (List.mem_range.mp hu)).1
          rw [h1]; rfl
        constructor
        · intro h u hu; rw [← key u hu]; exact h u hu
        · intro h u hu; rw [key u hu]; exact h u hu
      rw [hall4] at hall3
      generalize ((List.range n).flatMap fun u => rowOf (val u)).map (fun x => D.bl (elB n x)) = L3 at hall3 ⊢
      simp [hall3]
  · rw [Bool.not_eq_true] at ht
    rw [ht] at hall
    have hr : ((List.range n).all fun u => rowB n (val u)) = false := by
      rw [List.all_eq_false] at ht ⊢
      obtain ⟨u, hu, h⟩ := ht
      refine ⟨u, hu, fun z => h ?_⟩
      cases e : val u <;> rw [e] at z <;> first | rfl | (cases z)
    simp [hall, hr]
end
end K22

namespace K22
open PySem L2 DL
theorem stC_snoc {R : List (List Nat)} {r : List Nat} : stC (R ++ [r]) = stC R ++ [(R.length, r)] := by
  unfold stC
  rw [List.length_append, List.length_singleton, List.range_succ, List.map_append]
  congr 1
  · refine List.map_congr_left fun u hu => ?_
    have hu := List.mem_range.mp hu
    unfold gs
    rw [List.getElem?_append_left hu]
  · unfold gs
    simp
theorem put_st {R : List (List Nat)} {r : List Nat} (h : R.length ≤ 100) : putAny (stD R) (.int (R.length : Int)) (.tup (nD r)) = some (stD (R ++ [r])) := by
  have := putAny_kvG (g := natK) (f := rowK) (C := stC R) (v := R.length) (x := r) emb_nat (by unfold stC; rw [List.length_map, List.length_range]; omega)
  rw [aputG_new (by rw [stC_get, if_neg (by omega)])] at this
  rw [← stC_snoc] at this
  exact this
section
variable {Q : D → DL.Env → Prop} {ds : List Int} {n : Nat}
theorem drawn_ex : ∃ T n', TOk T ∧ ∀ Q : D → DL.Env → Prop, wF sem__law_steps_drawn [.io (W ds n)] Q = Q (stD T) [.io (W ds n')] := by
  have key : wF sem__law_steps_drawn [.io (W ds n)] fun d c => ∃ T n', TOk T ∧ d = stD T ∧ c = [.io (W ds n')] := by
    unfold sem__law_steps_drawn m__law_steps_drawn
    rw [wF_run]
    obtain ⟨N0, hN0, hN7⟩ := nxtN (ds := ds) (n := n) (m := 7) (by decide)
    obtain ⟨lo, hlo, hlo3⟩ := nxtN (ds := ds) (n := n + 1) (m := 3) (by decide)
    obtain ⟨N, hN⟩ : ∃ N : Nat, N = N0 + 1 := ⟨_, rfl⟩
    have hNe : 1 + (N0 : Int) = (N : Int) := by omega
    simp [hN0, hlo, hNe]
    refine ⟨by omega, ?_⟩
    rw [show D.dic (mergeD [] []) = stD [] from rfl]
    obtain ⟨I, hI⟩ := nameI (fun (k : Nat) (η : DL.Env) => ∃ R n', R.length = k ∧ (∀ l ∈ R, l.length ≤ 3 ∧ ∀ v ∈ l, v < N) ∧ η = [.io (W ds n'), .sh (.int (N : Int)), .sh (.int (lo : Int)), .ow (stD R), .no, .no, .no, .no])
    refine wL_rng I (by rw [hI]; exact ⟨[], _, rfl, (fun l h => nomatch h), rfl⟩) (fun k η hk h => ?_) fun η h => ?_
    · rw [hI] at h
      obtain ⟨R, n', hR, hRok, rfl⟩ := h
      obtain ⟨M, hM, hM4⟩ := nxtN (ds := ds) (n := n') (m := 4) (by decide)
      simp [hM]
      refine ⟨by omega, by omega, ?_⟩
      refine wX_drawG (G := (N : Int)) 0 .io (by omega) (by decide) rfl .no (fun k n'' Q hk => by
        have hN0 : 0 < N := by omega
        simp [hN0]) fun row hrl hrv => ?_
      have hfl := List.length_filter_le (fun v : Nat => decide (k < v) || decide (lo = 0)) row
      simp [nD_len]
      refine ⟨by omega, ?_⟩
      refine wX_fa natK natK (fun v => decide (k < v) || decide (lo = 0)) (fun v hv => by
        by_cases c : k < v
        · have c' : (k : Int) < (v : Int) := by omega
          simp [c, c']
        · have c' : ¬ (k : Int) < (v : Int) := by omega
          by_cases d : lo = 0 <;> simp [c, c', d]) ?_
      have hp := put_st (R := R) (r := row.filter fun v => decide (k < v) || decide (lo = 0)) (by omega)
      rw [hR] at hp
      have hp' : putAny (stD R) (.int (k : Int)) (.tup ((row.filter fun v => decide (k < v) || decide (lo = 0)).map natK)) = some (stD (R ++ [row.filter fun v => decide (k < v) || decide (lo = 0)])) := hp
      generalize hf : (row.filter fun v => decide (k < v) || decide (lo = 0)) = row2 at hp' hfl ⊢
      simp [hp']
      rw [hI]
      refine ⟨R ++ [row2], _, by rw [List.length_append, hR]; rfl, fun l hl => ?_, rfl⟩
      rcases List.mem_append.mp hl with c | c
      · exact hRok l c
      · rw [List.mem_singleton.mp c]
        refine ⟨by omega, fun v hv => ?_⟩
        rw [← hf] at hv
        have := hrv v (List.mem_filter.mp hv).1
        omega
    · rw [hI] at h
      obtain ⟨R, n', hR, hRok, rfl⟩ := h
      simp
      have hRN : R.length = N := by omega
      exact ⟨R, ⟨by omega, by omega, fun l hl => ⟨(hRok l hl).1, fun v hv => by rw [hRN]; exact (hRok l hl).2 v hv⟩⟩, ⟨rfl, _, rfl⟩⟩
  obtain ⟨d, c, e, T, n', h1, rfl, rfl⟩ := key.ex
  exact ⟨T, n', h1, fun Q => wF_of e⟩
end
/-! the lists of places that are found -/
structure GInv (T : List (List Nat)) (p : Nat) (L : List Nat) : Prop where
  r : Reach T p L
  c : ∀ v, L.count v ≤ 3
theorem GInv.lt {T : List (List Nat)} {p : Nat} {L : List Nat} (hT : TOk T) (hp : p < T.length) (h : GInv T p L) : (∀ v ∈ L, v < T.length) ∧ L.length ≤ 21 := by
  have h1 : ∀ v ∈ L, v < T.length := fun v hv => rr_lt hT hp (h.r.all v hv)
  have := count_len T.length L h1 h.c
  have := hT.l7
  exact ⟨h1, by omega⟩
theorem GInv.grow {T : List (List Nat)} {p u : Nat} {L : List Nat} (hT : TOk T) (h : GInv T p L) (hu : u ∈ L) : GInv T p (L ++ (gs T u).filter fun v => !decide (v ∈ L)) := ⟨h.r.grow hu fun v hv => (List.mem_filter.mp hv).1, fun v => by
  rw [List.count_append]
  by_cases c : v ∈ L
  · have : ((gs T u).filter fun v => !decide (v ∈ L)).count v = 0 := List.count_eq_zero.mpr fun z => by
      have := (List.mem_filter.mp z).2
      simp [c] at this
    have := h.c v
    omega
  · have h0 : L.count v = 0 := List.count_eq_zero.mpr c
    have h1 : ((gs T u).filter fun v => !decide (v ∈ L)).count v ≤ ((gs T u).filter fun v => !decide (v ∈ L)).length := List.count_le_length
    have h2 := List.length_filter_le (fun v => !decide (v ∈ L)) (gs T u)
    have := (gs_ok hT u).1
    omega⟩
theorem ss_sort {B L : List Nat} (hB : B.Nodup) (hL : ∀ v, v ∈ B ↔ v ∈ L) : sortI (upI B) = ssI (upI L) := by
  have hn : (upI B).Nodup := by
    unfold upI List.Nodup at *
    rw [List.pairwise_map]
    exact hB.imp fun h e => h (by omega)
  have hp := sortI_perm (upI B)
  refine ssI_uniq ?_ fun k => ?_
  · have h1 := sortI_sorted (upI B)
    have h2 : (sortI (upI B)).Nodup := hp.nodup_iff.mpr hn
    unfold List.Nodup at h2
    exact (h1.and h2).imp fun h => by omega
  · rw [hp.mem_iff]
    unfold upI
    rw [List.mem_map, List.mem_map]
    constructor
    · rintro ⟨v, hv, e⟩; exact ⟨v, (hL v).mp hv, e⟩
    · rintro ⟨v, hv, e⟩; exact ⟨v, (hL v).mpr hv, e⟩
theorem ss_call {L : List Nat} (h : L.length ≤ 60) : ss2G [.lst (nD L)] = some (.lst (iD (ssI (upI L)))) := by
  have hd : (dd (upI L)).length ≤ (upI L).length := by
    have : ∀ l : List Int, (dd l).length ≤ l.length := by
      intro l
      induction l with
      | nil => exact Nat.le_refl _
      | cons a l ih => unfold dd; split <;> simp only [List.length_cons] <;> omega
    exact this _
  have hl : (upI L).length = L.length := List.length_map ..
  unfold ss2G ssG
  rw [nD_iD]
  simp only [intsD_iD]
  rw [if_pos ⟨by rw [List.length_map]; omega, by rw [show (L.map fun n : Nat => (n : Int)) = upI L from rfl]; omega⟩]
  rfl
/-- the due ranks -/
def dueC (T : List (List Nat)) (k : Nat) : List (Nat × Nat) := (List.range k).filterMap fun p => (rk T p).map fun r => (p, r)
theorem due_mem {T : List (List Nat)} {k p r : Nat} : (p, r) ∈ dueC T k ↔ p < k ∧ rk T p = some r := by
  unfold dueC
  rw [List.mem_filterMap]
  constructor
  · rintro ⟨q, hq, h⟩
    obtain ⟨x, hx, e⟩ := Option.map_eq_some_iff.mp h
    cases e
    exact ⟨List.mem_range.mp hq, hx⟩
  · rintro ⟨h1, h2⟩
    exact ⟨p, List.mem_range.mpr h1, by rw [h2]; rfl⟩
theorem due_succ {T : List (List Nat)} {k : Nat} : dueC T (k + 1) = dueC T k ++ (match rk T k with | none => [] | some r => [(k, r)]) := by
  unfold dueC
  rw [List.range_succ, List.filterMap_append]
  congr 1
  rcases h : rk T k with _ | r
  · simp [h]
  · simp [h]
theorem due_nd {T : List (List Nat)} : ∀ k, ((dueC T k).map (·.1)).Nodup
  | 0 => List.nodup_nil
  | k + 1 => by
    rw [due_succ, List.map_append, List.nodup_append]
    refine ⟨due_nd k, ?_, fun a ha b hb e => ?_⟩
    · split <;> simp
    · obtain ⟨r, hr, rfl⟩ := List.mem_map.mp ha
      have h1 := (due_mem.mp (show (r.1, r.2) ∈ dueC T k from hr)).1
      split at hb
      · cases hb
      · simp at hb; omega
theorem due_get {T : List (List Nat)} {k p : Nat} : agetG (dueC T k) p = if p < k then rk T p else none := by
  rcases e : agetG (dueC T k) p with _ | r
  · split
    · next h =>
      rcases e2 : rk T p with _ | x
      · rfl
      · have := (aget_mem (due_nd k)).mpr (due_mem.mpr ⟨h, e2⟩)
        rw [e] at this; cases this
    · rfl
  · have := due_mem.mp (agetG_in e)
    rw [if_pos this.1, this.2]
theorem due_len {T : List (List Nat)} {k : Nat} : (dueC T k).length ≤ k := by
  unfold dueC
  have := List.length_filterMap_le (fun p => (rk T p).map fun r => (p, r)) (List.range k)
  rw [List.length_range] at this; exact this
end K22

namespace K22
open PySem L2 DL
theorem st_stX (T : List (List Nat)) : stD T = stX T.length fun u => rowK (gs T u) := by
  unfold stD stX stC kvG
  rw [List.map_map, List.map_map]; rfl
theorem put_stX {n s : Nat} {val : Nat → D} {b : D} (h : s < n) (hn : n ≤ 100) : putAny (stX n val) (.int (s : Int)) b = some (stX n fun u => if u = s then b else val u) := by
  have := putAny_kvG (g := natK) (f := fun d : D => d) (C := (List.range n).map fun u => (u, val u)) (v := s) (x := b) emb_nat (by rw [List.length_map, List.length_range]; omega)
  refine Eq.trans this ?_
  have e : aputG ((List.range n).map fun u => (u, val u)) s b = (List.range n).map fun u => (u, if u = s then b else val u) := by
    unfold aputG
    rw [if_pos (List.any_eq_true.mpr ⟨(s, val s), List.mem_map.mpr ⟨s, List.mem_range.mpr h, rfl⟩, decide_eq_true rfl⟩), List.map_map]
    refine List.map_congr_left fun u _ => ?_
    show (if u = s then (u, b) else (u, val u)) = _
    split <;> rfl
  rw [e]; rfl
theorem copy_st (T : List (List Nat)) (h : T.length ≤ 7) : dictG4 [stD T] = some (stD T) := by
  unfold dictG4 dictG3 seqD copyG stD
  dsimp only
  have hk : ((kvG natK rowK (stC T)).all fun kv => scalK kv.1) = true := List.all_eq_true.mpr fun kv hkv => by obtain ⟨r, _, rfl⟩ := List.mem_map.mp hkv; rfl
  rw [hk]
  have hl : (kvG natK rowK (stC T)).length ≤ 7 := by rw [len_kvG]; unfold stC; rw [List.length_map, List.length_range]; omega
  rw [if_pos ⟨rfl, by omega⟩]
section
variable {Q : D → DL.Env → Prop} {T : List (List Nat)}
theorem is_st (hT : TOk T) : wF sem_is_steps [.sh (stD T)] Q = Q (.bl true) [.no] := by
  have h7 := hT.l7
  rw [st_stX, wF_issteps (val := fun u => rowK (gs T u)) (by omega) fun u hu => (show (nD (gs T u)).length ≤ 100 ∧ ∀ x ∈ nD (gs T u), scalV x = true from ⟨by rw [nD_len]; have := (gs_ok hT u).1; omega, fun x hx => by obtain ⟨v, _, rfl⟩ := nD_mem hx; rfl⟩)]
  have : ((List.range T.length).all fun u => rowB T.length (rowK (gs T u))) = true := List.all_eq_true.mpr fun u hu => List.all_eq_true.mpr fun x hx => by
    obtain ⟨v, hv, rfl⟩ := nD_mem hx
    have := (gs_ok hT u).2 v hv
    exact decide_eq_true (by omega)
  rw [this]
theorem is_spoilt (hT : TOk T) {s : Nat} (hs : s < T.length) {b : D} (hp : plainV b) (hb : rowB T.length b = false) : wF sem_is_steps [.sh (stX T.length fun u => if u = s then b else rowK (gs T u))] Q = Q (.bl false) [.no] := by
  have h7 := hT.l7
  rw [wF_issteps (val := fun u => if u = s then b else rowK (gs T u)) (by omega) fun u hu => by
    by_cases c : u = s
    · rw [if_pos c]; exact hp
    · rw [if_neg c]; exact (show (nD (gs T u)).length ≤ 100 ∧ ∀ x ∈ nD (gs T u), scalV x = true from ⟨by rw [nD_len]; have := (gs_ok hT u).1; omega, fun x hx => by obtain ⟨v, _, rfl⟩ := nD_mem hx; rfl⟩)]
  have : ((List.range T.length).all fun u => rowB T.length (if u = s then b else rowK (gs T u))) = false := by
    rw [List.all_eq_false]
    exact ⟨s, List.mem_range.mpr hs, by rw [if_pos rfl, hb]; simp⟩
  rw [this]
theorem is_empty : wF sem_is_steps [.sh (.dic [])] Q = Q (.bl true) [.no] := by
  have := wF_issteps (Q := Q) (n := 0) (val := fun _ => .non) (by omega) fun u hu => by omega
  exact this
theorem is_lst {xs : List D} : wF sem_is_steps [.sh (.lst xs)] Q = Q (.bl false) [.no] := by
  refine wF_of (of_wF ?_)
  unfold sem_is_steps m_is_steps
  rw [wF_run]
  simp
theorem is_non : wF sem_is_steps [.sh .non] Q = Q (.bl false) [.no] := by
  refine wF_of (of_wF ?_)
  unfold sem_is_steps m_is_steps
  rw [wF_run]
  simp
theorem is_a : wF sem_is_steps [.sh (.dic [(.str (Str.ofString "a"), .tup [])])] Q = Q (.bl false) [.no] := by
  refine wF_of ?_
  rfl
theorem is_neg : wF sem_is_steps [.sh (.dic [(.int (-1), .tup [])])] Q = Q (.bl false) [.no] := by
  refine wF_of ?_
  rfl
end
end K22

namespace K22
open PySem L2 DL
theorem cut_one (l : List D) (d : D) : cutA (l ++ [d]) (some (-1)) none = [d] := by
  unfold cutA
  rw [show HT.sIx (l ++ [d]).length (l ++ [d]).length none = (l ++ [d]).length from HT.sIx_none _ _]
  have e : HT.sIx (l ++ [d]).length 0 (some (-1)) = l.length := by
    unfold HT.sIx
    simp
    omega
  rw [e]
  simp
theorem same_st {T : List (List Nat)} (hT : TOk T) {Q : D → DL.Env → Prop} : wF sem__law_same3 [.sh (stD T), .sh (stD T)] Q = Q (.bl true) [.no, .no] := by
  have h7 := hT.l7
  have hl : (stC T).length = T.length := by unfold stC; rw [List.length_map, List.length_range]
  have hr : ∀ r ∈ stC T, r.2.length ≤ 3 := fun r hr => by
    obtain ⟨u, _, rfl⟩ := List.mem_map.mp hr
    exact (gs_ok hT u).1
  refine same3 (sim_mono (sim_kv (n := 58) emb_nat stC_nd stC_nd (fun v => rfl) (fun a => rfl) (fun r _ => PEnc.nat.row.okM r.2 (by decide)))) ?_
  have := sz_kv (g := natK) (f := rowK) (c := 6) (C := stC T) fun r hr' => by
    have := hr r hr'
    rw [szE_plain 58 (natK r.1) rfl, szE_plain 58 (rowK r.2) (PEnc.nat.row.okM r.2 (by decide))]
    simp [szD, nD_sz]; omega
  show szE (.dic (kvG natK rowK (stC T))) ≤ _
  omega
theorem same_due {T : List (List Nat)} (hT : TOk T) {F : List (Nat × Nat)} (hF : FOk T F) (h : ∀ p, p < T.length → agetG F p = rk T p) {Q : D → DL.Env → Prop} : wF sem__law_same3 [.sh (fD F), .sh (fD (dueC T T.length))] Q = Q (.bl true) [.no, .no] := by
  have h7 := hT.l7
  have hl := due_len (T := T) (k := T.length)
  refine same3 (sim_mono (sim_kv (n := 58) emb_nat hF.nd (due_nd _) (fun v => ?_) (fun a => rfl) (fun r _ => rfl))) ?_
  · rw [due_get]
    by_cases c : v < T.length
    · rw [if_pos c]; exact h v c
    · rw [if_neg c]
      rcases e : agetG F v with _ | r
      · rfl
      · exact (c (hF.lt _ (agetG_in e))).elim
  · have := sz_kv (g := natK) (f := natK) (c := 2) (C := dueC T T.length) fun r hr' => by simp [szE]
    show szE (.dic (kvG natK natK (dueC T T.length))) ≤ _
    omega
theorem found_ok {T : List (List Nat)} {p : Nat} {L : List Nat} : (∀ v, v ∈ L → RR T p v) → True := fun _ => True.intro
theorem law_true (ns : List Int) (hl : ns.length ≤ 63) (hb : ∀ z ∈ ns, Builtin.Int.intBits z ≤ 1048576) : ∃ η', sem_law [S.sh (.frl (ns.map D.int))] = some (.bl true, η') := by
  have key : wF sem_law [S.sh (.frl (ns.map D.int))] fun d _ => d = .bl true := by
    unfold sem_law m_law
    rw [wF_run]
    obtain ⟨ds, hd⟩ := sem_draws (ns := ns) (many := 130) hl (by omega) (by omega)
    simp [wF_of hd]
    obtain ⟨I, hI⟩ := nameI (fun (i : Nat) (η : DL.Env) => ∃ n, η = [.sh (.frl (ns.map .int)), .ow (W ds n), .no, .no, .no, .no, .no, .no, .no, .no, .no, .no, .no, .no, .no, .no, .no, .no])
    refine wL_rng I (by rw [hI]; exact ⟨0, rfl⟩) (fun i η hi h => ?_) fun η h => ?_
    · rw [hI] at h
      obtain ⟨n, rfl⟩ := h
      obtain ⟨T, n1, hT, hst⟩ := drawn_ex (ds := ds) (n := n)
      obtain ⟨N, hN⟩ : ∃ N, T.length = N := ⟨_, rfl⟩
      have h7 : N ≤ 7 := by have := hT.l7; omega
      have h1 : 0 < N := by have := hT.l1; omega
      obtain ⟨s, hs, hsT⟩ := nxtN (ds := ds) (n := n1 + 1) (m := (N : Int)) (by omega)
      have hcp := copy_st T (by omega)
      have hlen : lenG [stD T] = some (.int (N : Int)) := by rw [len_st, hN]
      obtain ⟨b, hb, hbp, hbr⟩ : ∃ b, pickD ds n1 [D.lst [.int 0], .tup [.int (N : Int)], .tup [.int (-1)], .non, .tup [.str (Str.ofString "0")], .int 0, .tup [.bl true, .str (Str.ofString "a")]] = b ∧ plainV b ∧ rowB N b = false := by
        have p1 := pick_mem (ds := ds) (n := n1) (xs := [D.lst [.int 0], .tup [.int (N : Int)], .tup [.int (-1)], .non, .tup [.str (Str.ofString "0")], .int 0, .tup [.bl true, .str (Str.ofString "a")]]) (by simp)
        refine ⟨_, rfl, ?_⟩
        simp only [List.mem_cons, List.not_mem_nil, or_false] at p1
        rcases p1 with e | e | e | e | e | e | e <;> rw [e] <;> simp [plainV, scalV, rowB, elB]
      have hpu := put_stX (val := fun u => rowK (gs T u)) (b := b) (s := s) (n := T.length) (by omega) (by omega)
      rw [← st_stX] at hpu
      have hsp := fun Q => is_spoilt (Q := Q) hT (s := s) (by omega) hbp (by rw [hN]; exact hbr)
      simp [hst, hcp, hlen, hb, hs, h1, hpu]
      obtain ⟨n2, hn2⟩ : ∃ n2, n1 + 1 + 1 = n2 := ⟨_, rfl⟩
      rw [hn2]
      generalize (stX T.length fun u => if u = s then b else rowK (gs T u)) = X at hsp ⊢
      clear hpu
      refine wL_same (fun d hd => ?_) ?_
      · simp only [List.mem_cons, List.not_mem_nil, or_false] at hd
        rcases hd with rfl | rfl | rfl | rfl | rfl | rfl | rfl
        · simp [is_st hT, same3_bl]
        · rw [show D.dic (mergeD [] []) = .dic [] from rfl]
          simp [is_empty, same3_bl]
        · simp [hsp, same3_bl]
        · simp [is_lst, same3_bl]
        · simp [is_non, same3_bl]
        · rw [show D.dic (mergeD [] [(D.str (Str.ofString "a"), D.tup [])]) = .dic [(.str (Str.ofString "a"), .tup [])] from rfl]
          simp [is_a, same3_bl]
        · rw [show D.dic (mergeD [] [(D.int (-1), D.tup [])]) = .dic [(.int (-1), .tup [])] from rfl]
          simp [is_neg, same3_bl]
      clear hsp
      simp [items_st]
      rw [show D.dic (mergeD [] []) = fD (dueC T 0) from rfl]
      obtain ⟨J, hJ⟩ := nameI (fun (k : Nat) (η : DL.Env) => η = [.sh (.frl (ns.map .int)), .ow (W ds n2), .sh (.int i), .sh (stD T), .sh (stD T), .sh X, .no, .ow (fD (dueC T k)), .no, .no, .no, .no, .no, .no, .no, .no, .no, .no])
      refine wL_for J (by rw [hJ]) (fun k d η hd h => ?_) fun η h => ?_
      · rw [hJ] at h
        subst h
        obtain ⟨v, hv, rfl⟩ := nD_get hd
        obtain ⟨hkl, hv2⟩ := List.getElem?_eq_some_iff.mp hv
        rw [List.getElem_range] at hv2
        subst hv2
        rw [List.length_range] at hkl
        have hlg := fun Q => wF_longest (Q := Q) hT hkl
        have hdl := due_len (T := T) (k := k)
        rcases e : rk T k with _ | r
        · simp [hlg, e, optN]
          rw [hJ]
          dsimp only
          rw [due_succ, e]
          simp
        · have hp := put_f (F := dueC T k) (u := k) (r := r) (by omega)
          rw [aputG_new (by rw [due_get, if_neg (by omega)])] at hp
          simp [hlg, e, optN, hp]
          rw [hJ]
          dsimp only
          rw [due_succ, e]
      · rw [hJ] at h
        subst h
        rw [nD_len, List.length_range]
        obtain ⟨F, hF, hcl, hrk⟩ := ranks_ex hT
        have hdn := fun p hp => hF.done hT hcl (p := p) hp
        have hsd := fun Q => same_due (Q := Q) hT hF hdn
        simp [hrk, hsd, items_st]
        clear hsd hrk
        refine wL_same (fun d hd => ?_) ?_
        · obtain ⟨p, hp, rfl⟩ := nD_mem hd
          have hp := List.mem_range.mp hp
          have hpN : p < N := by omega
          simp [hlen]
          refine ⟨by omega, ?_⟩
          obtain ⟨G, hG⟩ := nameI (fun (k : Nat) (η : DL.Env) => ∃ L, GInv T p L ∧ ((∀ u ∈ L, ∀ v ∈ gs T u, v ∈ L) ∨ k + 1 ≤ cntIn N L) ∧ η = [.sh (.frl (ns.map .int)), .ow (W ds n2), .sh (.int i), .sh (stD T), .sh (stD T), .sh X, .no, .sh (fD (dueC T T.length)), .sh (.int (p : Int)), .no, .sh (.lst (nD L)), .no, .no, .no, .no, .no, .no, .no])
          refine wL_rng G (by
            rw [hG]
            refine ⟨[p], ⟨Reach.start, fun v => Nat.le_trans List.count_le_length (by simp)⟩, .inr ?_, rfl⟩
            have := cnt_lt (n := N) (l := []) (m := [p]) (fun v h => nomatch h) (List.mem_singleton.mpr rfl) (by simp) hpN
            omega) (fun k η hk h => ?_) fun η h => ?_
          · rw [hG] at h
            obtain ⟨L, hL, hLc, rfl⟩ := h
            have hLl := hL.lt hT hp
            simp
            obtain ⟨H, hH⟩ := nameI (fun (j : Nat) (η : DL.Env) => ∃ M, GInv T p M ∧ (∀ v ∈ L, v ∈ M) ∧ (∀ i u, i < j → L[i]? = some u → ∀ v ∈ gs T u, v ∈ M) ∧ η = [.sh (.frl (ns.map .int)), .ow (W ds n2), .sh (.int i), .sh (stD T), .sh (stD T), .sh X, .no, .sh (fD (dueC T T.length)), .sh (.int (p : Int)), .no, .sh (.lst (nD M)), .sh (.int (k : Int)), .no, .no, .no, .no, .no, .no])
            refine wL_for H (by rw [hH]; exact ⟨L, hL, fun v h => h, fun i u hi => by omega, rfl⟩) (fun j d η hd h => ?_) fun η h => ?_
            · rw [hH] at h
              obtain ⟨M, hM, hLM, hcl2, rfl⟩ := h
              obtain ⟨u, hu, rfl⟩ := nD_get hd
              have huL := List.mem_of_getElem? hu
              have huT := hLl.1 u huL
              have hx := idx_st huT
              have hgr := hM.grow hT (hLM u huL)
              have hMl := hgr.lt hT hp
              rw [List.length_append] at hMl
              simp [hx, nD_len]
              refine ⟨by have := (gs_ok hT u).1; omega, ?_⟩
              refine wX_fa natK natK (fun v => !decide (v ∈ M)) (fun v hv => by by_cases c : v ∈ M <;> simp [ninD_nat, c]) ?_
              simp [nD_len]
              refine ⟨by omega, ?_⟩
              rw [hH]
              refine ⟨_, hgr, fun v hv => List.mem_append_left _ (hLM v hv), fun i w hi hw v hv => ?_, by unfold nD; rw [List.map_append]⟩
              rcases Nat.lt_or_ge i j with c | c
              · exact List.mem_append_left _ (hcl2 i w c hw v hv)
              · have : i = j := by omega
                subst this
                rw [hu] at hw
                cases hw
                by_cases d : v ∈ M
                · exact List.mem_append_left _ d
                · exact List.mem_append_right _ (List.mem_filter.mpr ⟨hv, by simp [d]⟩)
            · rw [hH] at h
              obtain ⟨M, hM, hLM, hcl2, rfl⟩ := h
              rw [nD_len] at hcl2
              simp
              rw [hG]
              refine ⟨M, hM, ?_, rfl⟩
              by_cases hsame : ∀ v ∈ M, v ∈ L
              · left
                intro u hu v hv
                obtain ⟨j, hj⟩ := List.getElem?_of_mem (hsame u hu)
                exact hcl2 j u (List.getElem?_eq_some_iff.mp hj).1 hj v hv
              · right
                obtain ⟨w, hw, hwL⟩ : ∃ w, w ∈ M ∧ w ∉ L := Classical.byContradiction fun z => hsame fun v hv => Classical.byContradiction fun y => z ⟨v, hv, y⟩
                have hMl := hM.lt hT hp
                have hlt := cnt_lt (n := N) hLM hw hwL (by rw [← hN]; exact hMl.1 w hw)
                rcases hLc with c | c
                · exfalso
                  have : ∀ v ∈ M, RR T p v := hM.r.all
                  have h1 := (hL.r.done c w).mpr (this w hw)
                  exact hwL h1
                · omega
          · rw [hG] at h
            obtain ⟨L, hL, hLc, rfl⟩ := h
            have hLl := hL.lt hT hp
            have hcl3 : ∀ u ∈ L, ∀ v ∈ gs T u, v ∈ L := by
              rcases hLc with c | c
              · exact c
              · have := cnt_le N L
                omega
            obtain ⟨B, hB, hBm, hcome⟩ := come_ex hT hp
            have hss := ss_call (L := L) (by omega)
            have hBL := ss_sort hB fun v => (hBm v).trans (hL.r.done hcl3 v).symm
            rw [hBL] at hcome
            have hssl : (ssI (upI L)).length ≤ 1000 := by
              have h1 : (ssI (upI L)).length = (upI B).length := by rw [← hBL]; exact (sortI_perm _).length_eq
              have h2 : (upI B).length = B.length := List.length_map ..
              have h3 := nodup_len N B hB fun v hv => by rw [← hN]; exact rr_lt hT hp ((hBm v).mp hv)
              omega
            have hsm := fun Q => same3_plain (Q := Q) (d := .tup (iD (ssI (upI L)))) (by rw [okD]; exact okDs_int _ _) (by rw [szD, szDs_int]; omega)
            have hdu : agetG (dueC T T.length) p = rk T p := by rw [due_get, if_pos hp]
            obtain ⟨hmr1, hmr2⟩ := wF_mustrest hT hp
            rcases hrk2 : rk T p with _ | r
            · obtain ⟨way, hw1, hw2, hw3⟩ := hmr2 hrk2
              rw [hrk2] at hdu
              have hll := fun Q => wF_lawlasso (Q := Q) (T := T) (p := p) (l := way) (by omega)
              rw [hw1] at hll
              have hw2l : 2 ≤ way.length := by
                rcases Nat.lt_or_ge way.length 2 with c | c
                · rw [lasB_short c] at hw1; cases hw1
                · exact c
              obtain ⟨a, z, m, hlm, _, _, _⟩ := getL hw2l
              have hs1 : sliceD (.tup (nD way)) none (some (-1)) = some (.tup (nD (a :: m))) := by
                rw [hlm, ← nD_snoc]
                unfold sliceD
                simp only [cut_last]
              have hs2 : sliceD (.tup (nD way)) (some 1) none = some (.tup (nD (way.drop 1))) := by
                unfold sliceD
                have := cut_drop (nD way) 1
                simp only [show ((1 : Nat) : Int) = 1 from rfl] at this
                simp only [this, nD_drop]
              have hs3 : sliceD (.tup (nD way)) (some (-1)) none = some (.tup (nD [z])) := by
                rw [hlm, ← nD_snoc]
                unfold sliceD
                simp only [cut_one]; rfl
              have hal : (a :: m).length ≤ 8 := by rw [hlm, List.length_append] at hw2; omega
              have v1 := fun (l : List Nat) (h : l.length ≤ 100) (Q : D → DL.Env → Prop) => wF_islasso (Q := Q) (T := T) (p := p) h
              have v2 := fun (l : List Nat) (h : l.length ≤ 100) (Q : D → DL.Env → Prop) => wF_lawlasso (Q := Q) (T := T) (p := p) h
              simp [hcome, hss, hsm, hw3, in_f, nin_f, hdu, same3_str, hll, hs1, hs2, hs3, nD_len]
              have hml : m.length ≤ 8 := by rw [List.length_cons] at hal; omega
              refine ⟨by omega, by omega, by omega, ?_⟩
              refine wL_forg .no (fun d hd => ?_) (fun h => nomatch h) ?_
              · simp only [List.mem_cons, List.not_mem_nil, or_false] at hd
                rcases hd with rfl | rfl | rfl | rfl | rfl | rfl | rfl | rfl | rfl | rfl | rfl | rfl
                · simp [v1 way (by omega), v2 way (by omega), same3_bl]
                · simp [v1 (a :: m) (by omega), v2 (a :: m) (by omega), same3_bl]
                · simp [v1 way.tail (by rw [List.length_tail]; omega), v2 way.tail (by rw [List.length_tail]; omega), same3_bl]
                · simp [islasso_lst, lawlasso_lst, same3_bl]
                · have e : nD way ++ [D.int 9] = nD (way ++ [9]) := nD_snoc
                  have hl9 : (way ++ [9]).length ≤ 100 := by rw [List.length_append, List.length_singleton]; omega
                  rw [e]
                  simp [v1 _ hl9, v2 _ hl9, same3_bl]
                · have e : nD way ++ nD [z] = nD (way ++ [z]) := nD_app
                  have hl9 : (way ++ [z]).length ≤ 100 := by rw [List.length_append, List.length_singleton]; omega
                  rw [e]
                  simp [v1 _ hl9, v2 _ hl9, same3_bl]
                · have e : (nD way).reverse = nD way.reverse := by unfold nD; rw [List.map_reverse]
                  have hl9 : way.reverse.length ≤ 100 := by rw [List.length_reverse]; omega
                  rw [e]
                  simp [v1 _ hl9, v2 _ hl9, same3_bl]
                · have e : ([] : List D) = nD [] := rfl
                  rw [e]
                  simp [v1 [] (by simp), v2 [] (by simp), same3_bl]
                · simp [islasso_non, lawlasso_non, same3_bl]
                · have e : [D.int (p : Int)] = nD [p] := rfl
                  rw [e]
                  simp [v1 [p] (by simp), v2 [p] (by simp), same3_bl]
                · simp [islasso_bad (l := a :: m) (b := .bl true) (.inl rfl) (by omega), lawlasso_bad (l := a :: m) (b := .bl true) (.inl rfl) (by omega), same3_bl]
                · simp [islasso_bad (l := way) (b := .non) (.inr rfl) (by omega), lawlasso_bad (l := way) (b := .non) (.inr rfl) (by omega), same3_bl]
              · simp
            · have hm1 := hmr1 r hrk2
              rw [hrk2] at hdu
              have hsy := fun Q => same3_plain (Q := Q) (d := .tup [.str (Str.ofString "yes"), .int (r : Int)]) (by simp [okD, okDs]) (by simp [szD, szDs])
              simp [hcome, hss, hsm, hm1, in_f, nin_f, hdu, idx_f hdu, hsy]
        · obtain ⟨v0, hv0, hv0N⟩ := nxtN (ds := ds) (n := n2) (m := (N : Int)) (by omega)
          obtain ⟨K, hK, hK8⟩ := nxtN (ds := ds) (n := n2 + 1) (m := 8) (by decide)
          simp [hlen, h1, hv0, hK]
          refine ⟨by omega, ?_⟩
          obtain ⟨G, hG⟩ := nameI (fun (k : Nat) (η : DL.Env) => ∃ L n3 u, (∀ v ∈ L ++ [u], v < N) ∧ L.length = k ∧ (L ++ [u])[0]? = some v0 ∧ η = [.sh (.frl (ns.map .int)), .ow (W ds n3), .sh (.int i), .sh (stD T), .sh (stD T), .sh X, .no, .sh (fD (dueC T T.length)), .no, .no, .no, .no, .no, .no, .no, .no, .no, .sh (.lst (nD (L ++ [u])))])
          refine wL_rng G (by rw [hG]; exact ⟨[], _, v0, fun v hv => by rw [List.mem_singleton.mp hv]; omega, rfl, rfl, rfl⟩) (fun k η hk h => ?_) fun η h => ?_
          · rw [hG] at h
            obtain ⟨L, n3, u, hLv, hLk, hL0, rfl⟩ := h
            have huN := hLv u (by simp)
            have hx := idx_st (T := T) (u := u) (by omega)
            have hla : idxD (.lst (nD (L ++ [u]))) (.int (-1)) = some (.int (u : Int)) := by rw [← nD_snoc]; exact idxD_lstL
            obtain ⟨v1, hv1, hv1N⟩ := nxtN (ds := ds) (n := n3) (m := (N : Int)) (by omega)
            obtain ⟨w, hw, hwN⟩ : ∃ w : Nat, pickD ds (n3 + 1) (nD (gs T u ++ [v1])) = .int (w : Int) ∧ w < N := by
              have p1 := pick_mem (ds := ds) (n := n3 + 1) (xs := nD (gs T u ++ [v1])) (by rw [nD_len, List.length_append]; simp)
              obtain ⟨w, hw, e⟩ := nD_mem p1
              refine ⟨w, e, ?_⟩
              rcases List.mem_append.mp hw with c | c
              · have := (gs_ok hT u).2 w c; omega
              · rw [List.mem_singleton.mp c]; omega
            have hgl : (nD (gs T u ++ [v1])).length ≠ 0 := by rw [nD_len, List.length_append]; simp
            have hgl2 := (gs_ok hT u).1
            simp [hla, hx, hlen, h1, hv1, nD_snoc, hw, nD_len]
            refine ⟨by omega, by omega, ?_⟩
            rw [hG]
            refine ⟨L ++ [u], n3 + 1 + 1, w, fun v hv => ?_, by rw [List.length_append, hLk]; rfl, ?_, by simp⟩
            · rcases List.mem_append.mp hv with c | c
              · exact hLv v c
              · rw [List.mem_singleton.mp c]; exact hwN
            · rw [List.getElem?_append_left (by simp)]; exact hL0
          · rw [hG] at h
            obtain ⟨L, n3, u, hLv, hLk, hL0, rfl⟩ := h
            have hll : (L ++ [u]).length ≤ 100 := by rw [List.length_append, List.length_singleton]; omega
            have h0 : idxD (.lst (nD (L ++ [u]))) (.int 0) = some (.int (v0 : Int)) := by
              rw [idxD_lst (by decide)]; exact nD_at hL0
            have e1 := fun Q => wF_islasso (Q := Q) (T := T) (p := v0) hll
            have e2 := fun Q => wF_lawlasso (Q := Q) (T := T) (p := v0) hll
            have e3 := fun Q => same_st (Q := Q) hT
            generalize L ++ [u] = l at *
            simp [h0, e1, e2, same3_bl, e3]
            rw [hI]; exact ⟨_, rfl⟩
    · rw [hI] at h
      obtain ⟨n, rfl⟩ := h
      simp
  obtain ⟨d, c, e, rfl⟩ := key.ex
  exact ⟨c, e⟩
end K22

open PySem PySem.W PyProof.Rows
set_option maxHeartbeats 0 in
theorem PySem.Challenge.cw_neveratrest_k22_whole_choices_that_must_holds : PySem.Challenge.rw_neveratrest_k22_whole_choices_that_must.Holds := by
  w_on; o_law; k_head; (case hw => w_witness2)
  k_fill
  refine L2.walk_ofB (l := PySem.Challenge.rw_neveratrest_k22_whole_choices_that_must) (n := 63) (k := 4) (x := "script") (CX := fun _ => L2.CX0) (sp := fun w => DL.spD ⟨PySem.Challenge.rw_neveratrest_k22_whole_choices_that_must.prog, w, _⟩ 1 K22.sem_law) rfl (by decide) rfl ⟨rfl, by decide, by decide⟩ (fun w h Y => PySem.W.kIn_of Y) ?F (fun _ _ a ns hl hb _ hS => DL.law_sp (K22.law_true ns hl hb) hS) (fun _ _ _ _ _ h => h)
  case F =>
    intro w mg fa h KX G hmg
    refine' K22.all_mk KX G hmg ?a0 ?l0 ?c0 ?k0 ?a1 ?l1 ?c1 ?k1 ?a2 ?l2 ?c2 ?k2 ?a3 ?l3 ?c3 ?k3 ?a4 ?l4 ?c4 ?k4 ?a5 ?l5 ?c5 ?k5 ?a6 ?l6 ?c6 ?k6 ?a7 ?l7 ?c7 ?k7 ?a8 ?l8 ?c8 ?k8 ?a9 ?l9 ?c9 ?k9 ?a10 ?l10 ?c10 ?k10 ?a11 ?l11 ?c11 ?k11 ?a12 ?l12 ?c12 ?k12 ?a13 ?l13 ?c13 ?k13 ?a14 ?l14 ?c14 ?k14 ?a15 ?l15 ?c15 ?k15 ?a16 ?l16 ?c16 ?k16 ?z_abs ?z_all ?z_bool ?z_dict ?z_int ?z_isinstance ?z_len ?z_list ?z_max ?z_range ?z_set ?z_sorted ?z_str ?z_tuple
    (case a0 => k_is)
    (case l0 => k_is)
    (case c0 => k_is)
    (case k0 => k_is)
    (case a1 => k_is)
    (case l1 => k_is)
    (case c1 => k_is)
    (case k1 => k_is)
    (case a2 => k_is)
    (case l2 => k_is)
    (case c2 => k_is)
    (case k2 => k_is)
    (case a3 => k_is)
    (case l3 => k_is)
    (case c3 => k_is)
    (case k3 => k_is)
    (case a4 => k_is)
    (case l4 => k_is)
    (case c4 => k_is)
    (case k4 => k_is)
    (case a5 => k_is)
    (case l5 => k_is)
    (case c5 => k_is)
    (case k5 => k_is)
    (case a6 => k_is)
    (case l6 => k_is)
    (case c6 => k_is)
    (case k6 => k_is)
    (case a7 => k_is)
    (case l7 => k_is)
    (case c7 => k_is)
    (case k7 => k_is)
    (case a8 => k_is)
    (case l8 => k_is)
    (case c8 => k_is)
    (case k8 => k_is)
    (case a9 => k_is)
    (case l9 => k_is)
    (case c9 => k_is)
    (case k9 => k_is)
    (case a10 => k_is)
    (case l10 => k_is)
    (case c10 => k_is)
    (case k10 => k_is)
    (case a11 => k_is)
    (case l11 => k_is)
    (case c11 => k_is)
    (case k11 => k_is)
    (case a12 => k_is)
    (case l12 => k_is)
    (case c12 => k_is)
    (case k12 => k_is)
    (case a13 => k_is)
    (case l13 => k_is)
    (case c13 => k_is)
    (case k13 => k_is)
    (case a14 => k_is)
    (case l14 => k_is)
    (case c14 => k_is)
    (case k14 => k_is)
    (case a15 => k_is)
    (case l15 => k_is)
    (case c15 => k_is)
    (case k15 => k_is)
    (case a16 => k_is)
    (case l16 => k_is)
    (case c16 => k_is)
    (case k16 => k_is)
    (case z_abs => k_is)
    (case z_all => k_is)
    (case z_bool => k_is)
    (case z_dict => k_is)
    (case z_int => k_is)
    (case z_isinstance => k_is)
    (case z_len => k_is)
    (case z_list => k_is)
    (case z_max => k_is)
    (case z_range => k_is)
    (case z_set => k_is)
    (case z_sorted => k_is)
    (case z_str => k_is)
    (case z_tuple => k_is)
