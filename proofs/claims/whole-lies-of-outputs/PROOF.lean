import PyProof.Rows.All
import Wide.All
import OpenK.AllK
import Wide.FinOn
import HandS.ForMost
import HandS.Codes
import HandS.TupAny
import HandS.TupMul
import HandS.Rev
import HandS.Deep
import HandS.Conv
import HandS.Property
import HandS.IsInst
import HandS.TupSets
import HandS.SetFor
import HandS.EndBits
import HandS.Wide
import HandS.More
import HandS.Steps
import HandS.Evl
import KE.KTupSum
import PySem.Challenge.RW_untold_k40_whole_lies_of_outputs
set_option Elab.async false
set_option linter.all false
set_option maxRecDepth 100000
set_option maxHeartbeats 4000000
/-! rules of our own: tuple * 1, o.f as a target, sum of a tuple, not in a tuple, extend by a tuple -/
namespace UR
open PySem PySem.Spec PyProof.Rows L2
section
variable {X : Cx}
/-! ### tuple * n, n at least 1 -/
theorem tuple_mul1W (l : Addr) (items : Array Value) (n : Nat) (dd : Option Addr) (sl : Array (Option Value)) (x : Int) (u : Tok) (c0 : (decide (x < -(2 ^ 63)) || decide (x ≥ 2 ^ 63)) = false) (c1 : (items.isEmpty || x == 1) = true) :
    Meets (Builtin.«tuple.__mul__» ⟨[.ref l, .int x u], []⟩) (fun _ R s => s.heap.get? l = some { cls := .type "tuple", dict := dd, data := .seq items n, slots := sl } ∧
      R (.ok (.ret (Value.ref l))) s) :=
  .of_wp fun prog w A R s h => by
    obtain ⟨hp, g, d, tk, os⟩ := s
    obtain ⟨hl, h⟩ := h
    have f1 := AutoSeq1.idx_int
    wp_walk using wpAny_loadPart' hl
    repeat (first
      | (refine wpAny_ite_false (decide_eq_false (by rw [c0]; exact Bool.false_ne_true)) ?_; wp_walk using wpAny_loadPart' hl)
      | (refine wpAny_ite_true (decide_eq_true (by rw [c1])) ?_; wp_walk using wpAny_loadPart' hl))
    exact ⟨_, rfl, h⟩
def rRepN (K : PySem.W.Frag) : R2 := fun x y H Q => ∃ l k xs, x = .ref l ∧ y = .int k ∧ SqT K H l xs ∧ xs ≠ [] ∧ 1 ≤ k ∧ k ≤ 1000 ∧ xs.length ≤ 1000 ∧ ∀ q H', (q = l ∧ H' = H ∧ k = 1) ∨ (H q = none ∧ H' = upd H q (.tup (List.replicate k.toNat xs).flatten)) → Q (.ref q) H'
theorem op_repN : OpR X (binaryOp .Mult) (rRepN X.K) := by
  intro pins s σ H x y v u Q I rx ry h
  obtain ⟨l, k, xs, rfl, rfl, hT, hne, h1, h2, hz, q⟩ := h
  by_cases hk : k = 1
  · subst hk
    cases rx
    obtain ⟨t, rfl⟩ := ry
    obtain ⟨its, r, ⟨⟨cls, dd, data, sl⟩, ho, hc, n, hd⟩, hs⟩ := I.tuple hT
    simp only at hc hd
    subst hc hd
    have c0 : (decide ((1 : Int) < -(2 ^ 63)) || decide ((1 : Int) ≥ 2 ^ 63)) = false := by decide
    have c1 : (its.toArray.isEmpty || (1 : Int) == 1) = true := by simp
    refine wpAny_binaryOp_repeat_ref (T := "tuple") (U := "int") (by decide) ⟨_, ho, rfl⟩ (fun s' => typeIs_int s' 1 t) noFill_tuple_mul F.fills_int_mul F.slot_int_rmul repeat_tuple F.slot_int_index.lookup
      (call_meets F.slot_int_rmul (typeIs_int s 1 t) F.entry_int_rmul (F.args_int_rmul_2 _ _) (int_rmul_tuple 1 t l its.toArray n dd sl)
        ⟨ho, rfl, ⟨_, ho, rfl⟩, call_meets F.slot_tuple_mul ⟨_, ho, rfl⟩ F.entry_tuple_mul (F.args_tuple_mul_2 _ _) (tuple_mul1W l its.toArray n dd sl 1 t c0 c1) ⟨ho, ?_⟩⟩)
    exact ⟨.ref l, H, I, rfl, q l H (.inl ⟨rfl, rfl, rfl⟩)⟩
  · exact op_repT pins s σ H _ _ v u Q I rx ry ⟨l, k, xs, rfl, rfl, hT, hne, by omega, h2, hz, fun p hp => q p _ (.inr ⟨hp, rfl⟩)⟩
/-! ### o.f as a target -/
def gFld (K : PySem.W.Frag) (to : TE) (f : Str) : TG := fun v σ H Q => to σ H fun x H1 => ∃ a C dx fs, x = .ref a ∧ H1 a = some (.ins C dx fs) ∧ Cls K C ∧ NoAttr K C f ∧ fs.length < 1000 ∧ Q σ (upd H1 a (.ins C dx (putF f v fs)))
theorem pg_fld {o : Expr} {to : TE} {f : Str} {pos : Pos} (ho : PE X o to)
    (ha : ∀ v, assign (.Attribute o f pos) X.env v = (do
      let ov ← holding [v] (eval o X.env)
      standAt pos
      holding [v, ov] (setAttr ov f v)
      release [v, ov] []) := by intro _; rfl) : PG X (.Attribute o f pos) (gFld X.K to f) := by
  refine ⟨fun pins s σ H v u Q I r h => ?_⟩
  rw [ha]
  refine wpAny_bind (wpAny_holding (thn (ho.run pins s σ H _ I h) fun ov s1 ⟨x, H1, I1, r1, a, C, dx, fs, ex, ea, c, n, l, q⟩ => ?_))
  subst ex
  obtain rfl : ov = Value.ref a := r1
  refine wpAny_bind (wpAny_standAt (wpAny_bind (wpAny_holding ?_)))
  exact setattr_ok I1 ea c n l r fun s3 I3 => wpAny_release ⟨σ, _, I3, q⟩
/-! ### sum of a tuple of ints -/
def rSumT (K : PySem.W.Frag) : List V → Hp → VK → Prop := fun vs H Q => ∃ (a : Addr) (ns : List Int), vs = [V.ref a] ∧ SqT K H a (ns.map V.int) ∧ Q (.int ns.sum) H
theorem cr_sumT (hc : X.calm = true) : CallR X (.builtin "sum") (rSumT X.K) := by
  intro pins s σ H vs us Q I r h
  obtain ⟨a, ns, rfl, hs, q⟩ := h
  obtain ⟨its, rv, hl, _⟩ := I.tuple hs
  rw [Vals.ref1 r]
  have hi := rv.ints
  obtain ⟨xs, e⟩ := hi.allInts.items
  have hn : numsOf (PySem.intItems xs).toList = ns := by rw [← e]; exact hi.numsOf
  rw [nums_intItems] at hn
  have hl' : s.heap.IsTuple a its.toArray := hl
  rw [e] at hl'
  refine PySem.W.ktm_sumG (I.ok.hd hc) hl' fun h' tk t' hk => ?_
  rw [preSum_eq, List.take_of_length_le (by simp), hn]
  exact ⟨.int _, H, I.kept hk, ⟨_, rfl⟩, q⟩
/-! ### x not in t, a tuple of data -/
def rNotInT (K : PySem.W.Frag) : R2 := fun x y H Q => ∃ d ds, Dp K H x d ∧ Dp K H y (.tuple ds) ∧ SeqAt.shaped d = true ∧ SeqAt.shaped (.tuple ds) = true ∧ Q (.bl (!ds.any fun z => PyData.eqv z d)) H
theorem op_notInT (hu : X.A.units + 65 < cLine) : OpR X (compareOp .NotIn) (rNotInT X.K) := by
  intro pins s σ H x y v u Q I rx ry h
  obtain ⟨d, ds, hd, he, sd, se, q⟩ := h
  obtain ⟨as, r1⟩ := Dp.reads I d x v hd rx
  obtain ⟨bs, r2⟩ := Dp.reads I (.tuple ds) y u he ry
  exact SeqAt.notIn_tuple_reads r2 r1 (SeqAt.canLay_of_shaped se) (SeqAt.canLay_of_shaped sd) (room_in_shaped sd hu) ⟨.bl _, H, I, rfl, q⟩
theorem hu65 {A : Around} {k : Nat} (hr : Room k A) : A.units + 65 < cLine := by have := hr.un; omega
/-! ### l.extend(t), t a tuple -/
theorem list_extend_tupW (l : Addr) (items : Array Value) (n : Nat) (b : Addr) (items2 : Array Value) (n2 : Nat) (dd : Option Addr) (sl : Array (Option Value)) (hs0 : ¬(!items.isEmpty && Builtin.List.listTooLong (items.size + items2.size)) = true) (hs1 : items.size ≤ sizeLine) (hs2 : items.size + items2.size ≤ sizeLine + 1) :
    Meets (Builtin.«list.extend» ⟨[.ref l, .ref b], []⟩) (fun _ R s => s.heap.get? l = some { cls := .type "list", dict := none, data := .seq items n, slots := #[] } ∧ s.heap.get? b = some { cls := .type "tuple", dict := dd, data := .seq items2 n2, slots := sl } ∧ R (.ok (.ret Value.none)) { s with heap := s.heap.update l (Obj.mapSeq fun x => x ++ items2), toks := s.toks }) :=
  .of_wp fun prog w A R s h => by
    obtain ⟨hp, g, d, tk, os⟩ := s; obtain ⟨hl, hb, h⟩ := h; have f1 := AutoSeq1.idx_int; have f2 := AutoSeq1.sub_tuple_tuple; have f3 := AutoSeq1.sub_list_list; have f4 := AutoSeq1.sub_tuple_list; have f5 := AutoSeq1.sub_list_tuple;
    have hz' : (items ++ items2).size ≤ sizeLine + 1 := by rw [Array.size_append]; exact hs2
    wp_walk using (wpAny_updateSeq hl rfl (hz := hs1) (_hz' := hz')), wpAny_loadPart' hl, wpAny_loadPart' hb; exact ⟨_, rfl, h⟩
def rExtT (K : PySem.W.Frag) : V → List V → Hp → VK → Prop := fun x vs H Q => ∃ l b xs zs, x = .ref l ∧ vs = [.ref b] ∧ H l = some (.lst xs) ∧ SqT K H b zs ∧ xs.length + zs.length ≤ sizeLine ∧ Q .non (upd H l (.lst (xs ++ zs)))
theorem mt_extT : MtM X "list.extend" (rExtT X.K) := by
  intro pins s σ H x vs v us Q I rx rv h
  obtain ⟨l, b, xs, zs, rfl, rfl, hH, hB, hz, q⟩ := h
  cases rx
  obtain ⟨u, rfl, ru⟩ := rv.one
  cases ru
  obtain ⟨z, its, n, r, hl, e⟩ := I.lstM hH
  obtain ⟨its2, r2, ⟨⟨cls, dd, data, sl⟩, e2, hc2, n2, hd2⟩, hl2⟩ := I.tuple hB
  simp only at hc2 hd2
  subst hc2 hd2
  have q1 := r.length
  have q2 := r2.length
  have hsz : its.toArray.size + its2.toArray.size ≤ sizeLine := by rw [List.size_toArray, List.size_toArray]; omega
  have hlong : ¬ (!its.toArray.isEmpty && Builtin.List.listTooLong (its.toArray.size + its2.toArray.size)) = true := by
    rw [notLongL hsz, Bool.and_false]
    exact Bool.false_ne_true
  refine call_meets F.slot_list_extend ⟨_, e, rfl⟩ F.entry_list_extend (F.args_list_extend_2 _ _)
    (list_extend_tupW l its.toArray n b its2.toArray n2 dd sl hlong (by rw [List.size_toArray]; omega) (by omega)) ⟨e, e2, ?_⟩
  refine ⟨.non, _, I.lset (its' := its ++ its2) hH e (by simp) (r.append r2) ?_, rfl, q⟩
  rw [List.length_append]
  omega
end
end UR

/-! the base: the text by places, data on the heap, what stays -/
namespace U
open PySem PySem.Spec PyProof.Rows L2

def topS (i : Nat) : Stmt := PySem.Challenge.pw_untold_k40_whole_lies_of_outputs.main.body.getD i (.Pass ⟨0, 0, 0, 0⟩)

/-! ### what stays -/
/-- all tuples stay -/
def TK (H H' : Hp) : Prop := ∀ a xs, H a = some (.tup xs) → H' a = some (.tup xs)
/-- all locked things stay -/
def FK (H H' : Hp) : Prop := ∀ a o u, H a = some (.frz o u) → H' a = some (.frz o u)
structure TF (H H' : Hp) : Prop where
  t : TK H H'
  f : FK H H'
theorem TF.refl (H : Hp) : TF H H := ⟨fun _ _ h => h, fun _ _ _ h => h⟩
theorem TF.trans {H H1 H2 : Hp} (a : TF H H1) (b : TF H1 H2) : TF H H2 := ⟨fun x xs h => b.t x xs (a.t x xs h), fun x o u h => b.f x o u (a.f x o u h)⟩
/-- all but what S names stays -/
def But (S : Addr → Prop) (H H' : Hp) : Prop := ∀ b o, H b = some o → ¬ S b → H' b = some o
theorem But.refl (S : Addr → Prop) (H : Hp) : But S H H := fun _ _ h _ => h
theorem But.trans {S : Addr → Prop} {H H1 H2 : Hp} (a : But S H H1) (b : But S H1 H2) : But S H H2 := fun c o h n => b c o (a c o h n) n
theorem _root_.L2.Same.new {H : Hp} {p : Addr} {o : HO} (h : H p = none) : Same H (upd H p o) := fun a u e => by
  rw [upd_ne (ne_of_none e h)]
  exact e
theorem _root_.L2.Same.but {S : Addr → Prop} {H H' : Hp} (e : Same H H') : But S H H' := fun b o h _ => e b o h
theorem _root_.L2.Same.tf {H H' : Hp} (e : Same H H') : TF H H' := ⟨fun a xs h => e a _ h, fun a o u h => e a _ h⟩
/-- an object that H does not know may change -/
theorem _root_.L2.Same.mut {H H' : Hp} {p : Addr} {o : HO} (e : Same H H') (h : H p = none) : Same H (upd H' p o) := fun a u ha => by
  rw [upd_ne (ne_of_none ha h)]
  exact e a u ha
theorem But.mut {S : Addr → Prop} {H H' : Hp} {p : Addr} {o : HO} (e : But S H H') (h : H p = none) : But S H (upd H' p o) := fun a u ha n => by
  rw [upd_ne (ne_of_none ha h)]
  exact e a u ha n
theorem But.own {S : Addr → Prop} {H H' : Hp} {p : Addr} {o : HO} (e : But S H H') (h : S p) : But S H (upd H' p o) := fun a u ha n => by
  rw [upd_ne (fun z => n (by rw [z]; exact h))]
  exact e a u ha n
theorem But.same {H H' : Hp} (e : But (fun _ => False) H H') : Same H H' := fun b o h => e b o h id
theorem But.mono {S S' : Addr → Prop} {H H' : Hp} (e : But S H H') (h : ∀ b, S b → S' b) : But S' H H' := fun b o hb n => e b o hb fun z => n (h b z)
/-- a change of what is no tuple and no locked thing -/
def Plain (o : HO) : Prop := (∀ xs, o ≠ .tup xs) ∧ ∀ ob u, o ≠ .frz ob u
theorem plain_lst {xs : List V} : Plain (.lst xs) := ⟨fun _ h => (by cases h), fun _ _ h => (by cases h)⟩
theorem plain_dK {kvs : List (Key × V)} : Plain (.dK kvs) := ⟨fun _ h => (by cases h), fun _ _ h => (by cases h)⟩
theorem plain_ins {C dx : Addr} {fs : List (Str × V)} : Plain (.ins C dx fs) := ⟨fun _ h => (by cases h), fun _ _ h => (by cases h)⟩
theorem TF.upd {H : Hp} {p : Addr} {o o' : HO} (h : H p = some o) (pl : Plain o) : TF H (upd H p o') :=
  ⟨fun a xs e => by rw [upd_ne (ne_of e h fun z => pl.1 xs z.symm)]; exact e, fun a ob u e => by rw [upd_ne (ne_of e h fun z => pl.2 ob u z.symm)]; exact e⟩
theorem TF.new {H : Hp} {p : Addr} {o : HO} (h : H p = none) : TF H (L2.upd H p o) := (Same.new h).tf
theorem But.tf {S : Addr → Prop} {H H' : Hp} (e : But S H H') (h : ∀ b o, S b → H b = some o → Plain o) : TF H H' :=
  ⟨fun a xs q => e a _ q fun s => (h a _ s q).1 xs rfl, fun a o u q => e a _ q fun s => (h a _ s q).2 o u rfl⟩
theorem free_of {H H' : Hp} (e : Same H H') {p : Addr} (h : H' p = none) : H p = none := e.free h
theorem But.free {S : Addr → Prop} {H H' : Hp} (e : But S H H') {p : Addr} (n : ¬ S p) (h : H' p = none) : H p = none := by
  cases q : H p with
  | none => rfl
  | some o =>
    rw [e p o q n] at h
    cases h

variable {K : PySem.W.Frag}
theorem TF.sqT {H H' : Hp} (e : TF H H') {a : Addr} {xs : List V} (h : SqT K H a xs) : SqT K H' a xs := by
  rcases h with (h | ⟨o, h⟩) | h
  · exact .inl (.inl (e.t a xs h))
  · exact .inl (.inr ⟨o, e.f a o _ h⟩)
  · exact .inr h

/-! ### data: None, bools, ints, texts, tuples of them -/
mutual
inductive Rp (K : PySem.W.Frag) (H : Hp) : V → PyData → Prop
  | non : Rp K H .non .none
  | bl (b : Bool) : Rp K H (.bl b) (.bool b)
  | int (i : Int) : Rp K H (.int i) (.int i)
  | str (x : Str) : Rp K H (.str x) (.str x)
  | tup {a : Addr} {xs : List V} {ds : List PyData} : SqT K H a xs → RpAll K H xs ds → Rp K H (.ref a) (.tuple ds)
inductive RpAll (K : PySem.W.Frag) (H : Hp) : List V → List PyData → Prop
  | nil : RpAll K H [] []
  | cons {v : V} {vs : List V} {d : PyData} {ds : List PyData} : Rp K H v d → RpAll K H vs ds → RpAll K H (v :: vs) (d :: ds)
end
mutual
theorem Rp.dp {H : Hp} : ∀ {v : V} {d : PyData}, Rp K H v d → Dp K H v d
  | _, _, .non => .non
  | _, _, .bl b => .bl b
  | _, _, .int i => .int i
  | _, _, .str x => .str x
  | _, _, .tup h ha => .tup h (RpAll.dp ha)
theorem RpAll.dp {H : Hp} : ∀ {vs : List V} {ds : List PyData}, RpAll K H vs ds → DpAll K H vs ds
  | _, _, .nil => .nil
  | _, _, .cons h t => .cons (Rp.dp h) (RpAll.dp t)
end
mutual
theorem Rp.tf {H H' : Hp} (e : TF H H') : ∀ {v : V} {d : PyData}, Rp K H v d → Rp K H' v d
  | _, _, .non => .non
  | _, _, .bl b => .bl b
  | _, _, .int i => .int i
  | _, _, .str x => .str x
  | _, _, .tup h ha => .tup (e.sqT h) (RpAll.tf e ha)
theorem RpAll.tf {H H' : Hp} (e : TF H H') : ∀ {vs : List V} {ds : List PyData}, RpAll K H vs ds → RpAll K H' vs ds
  | _, _, .nil => .nil
  | _, _, .cons h t => .cons (Rp.tf e h) (RpAll.tf e t)
end
theorem Rp.sm {H H' : Hp} (e : Same H H') {v : V} {d : PyData} (h : Rp K H v d) : Rp K H' v d := h.tf e.tf
theorem RpAll.sm {H H' : Hp} (e : Same H H') {v : List V} {d : List PyData} (h : RpAll K H v d) : RpAll K H' v d := h.tf e.tf
theorem RpAll.len {H : Hp} : ∀ {vs : List V} {ds : List PyData}, RpAll K H vs ds → vs.length = ds.length
  | _, _, .nil => rfl
  | _, _, .cons _ t => congrArg (· + 1) (RpAll.len t)
theorem RpAll.get {H : Hp} : ∀ {vs : List V} {ds : List PyData} {i : Nat} {d : PyData}, RpAll K H vs ds → ds[i]? = some d → ∃ v, vs[i]? = some v ∧ Rp K H v d
  | _, _, _, _, .nil, e => by simp at e
  | _, _, 0, _, .cons r _, e => by simp at e; subst e; exact ⟨_, rfl, r⟩
  | _, _, i + 1, d, .cons _ t, e => by
    obtain ⟨u, h1, h2⟩ := RpAll.get (i := i) (d := d) t (by simpa using e)
    exact ⟨u, by simpa using h1, h2⟩
theorem RpAll.got {H : Hp} : ∀ {vs : List V} {ds : List PyData} {i : Nat} {v : V}, RpAll K H vs ds → vs[i]? = some v → ∃ d, ds[i]? = some d ∧ Rp K H v d
  | _, _, _, _, .nil, e => by simp at e
  | _, _, 0, _, .cons r _, e => by simp at e; subst e; exact ⟨_, rfl, r⟩
  | _, _, i + 1, d, .cons _ t, e => by
    obtain ⟨u, h1, h2⟩ := RpAll.got (i := i) (v := d) t (by simpa using e)
    exact ⟨u, by simpa using h1, h2⟩
theorem RpAll.app {H : Hp} : ∀ {xs ys : List V} {ds es : List PyData}, RpAll K H xs ds → RpAll K H ys es → RpAll K H (xs ++ ys) (ds ++ es)
  | _, _, _, _, .nil, s => s
  | _, _, _, _, .cons r t, s => .cons r (RpAll.app t s)
theorem RpAll.take {H : Hp} : ∀ {xs : List V} {ds : List PyData} (n : Nat), RpAll K H xs ds → RpAll K H (xs.take n) (ds.take n)
  | _, _, 0, _ => .nil
  | _, _, _ + 1, .nil => .nil
  | _, _, n + 1, .cons r t => .cons r (RpAll.take n t)
theorem RpAll.drop {H : Hp} : ∀ {xs : List V} {ds : List PyData} (n : Nat), RpAll K H xs ds → RpAll K H (xs.drop n) (ds.drop n)
  | _, _, 0, r => r
  | _, _, _ + 1, .nil => .nil
  | _, _, n + 1, .cons _ t => RpAll.drop n t
theorem RpAll.one {H : Hp} {v : V} {d : PyData} (h : Rp K H v d) : RpAll K H [v] [d] := .cons h .nil
theorem RpAll.snoc {H : Hp} {vs : List V} {ds : List PyData} {v : V} {d : PyData} (h : RpAll K H vs ds) (r : Rp K H v d) : RpAll K H (vs ++ [v]) (ds ++ [d]) := h.app (.one r)
theorem RpAll.ints {H : Hp} : ∀ (ns : List Int), RpAll K H (ns.map V.int) (ns.map PyData.int)
  | [] => .nil
  | n :: r => .cons (.int n) (RpAll.ints r)
theorem RpAll.ints_eq {H : Hp} : ∀ {ns : List Int} {vs : List V}, RpAll K H vs (ns.map PyData.int) → vs = ns.map V.int
  | [], _, .nil => rfl
  | n :: r, _, .cons h t => by
    cases h
    rw [RpAll.ints_eq t]; rfl
theorem Rp.int_eq {H : Hp} {v : V} {i : Int} (h : Rp K H v (.int i)) : v = .int i := by cases h; rfl
theorem Rp.str_eq {H : Hp} {v : V} {i : Str} (h : Rp K H v (.str i)) : v = .str i := by cases h; rfl
theorem Rp.non_eq {H : Hp} {v : V} (h : Rp K H v .none) : v = .non := by cases h; rfl
theorem Rp.tupl {H : Hp} {v : V} {ds : List PyData} (h : Rp K H v (.tuple ds)) : ∃ a xs, v = .ref a ∧ SqT K H a xs ∧ RpAll K H xs ds := by
  cases h with
  | tup h ha => exact ⟨_, _, rfl, h, ha⟩
/-- a tuple of ints -/
abbrev PI (ns : List Int) : PyData := .tuple (ns.map .int)
theorem Rp.pi {H : Hp} {v : V} {ns : List Int} (h : Rp K H v (PI ns)) : ∃ a, v = .ref a ∧ SqT K H a (ns.map V.int) := by
  obtain ⟨a, xs, e, h1, h2⟩ := h.tupl
  rw [RpAll.ints_eq h2] at h1
  exact ⟨a, e, h1⟩
theorem Rp.ofPi {H : Hp} {a : Addr} {ns : List Int} (h : SqT K H a (ns.map V.int)) : Rp K H (.ref a) (PI ns) := .tup h (.ints ns)
theorem Rp.new {H : Hp} {p : Addr} {xs : List V} {ds : List PyData} (h : RpAll K H xs ds) (hp : H p = none) : Rp K (upd H p (.tup xs)) (.ref p) (.tuple ds) := .tup (.inl (.inl upd_same)) (h.sm (Same.new hp))
theorem sqT_new {H : Hp} {p : Addr} {xs : List V} : SqT K (upd H p (.tup xs)) p xs := .inl (.inl upd_same)
theorem sqL_new {H : Hp} {p : Addr} {xs : List V} : SqL K (upd H p (.lst xs)) p xs := .inl (.inl upd_same)

/-! ### shape of data, for == and in -/
mutual
def flatD : Nat → PyData → Bool
  | _, .none => true
  | _, .bool _ => true
  | _, .int _ => true
  | _, .str x => PyData.strOk x
  | n + 1, .tuple ds => flatDs n ds
  | n + 1, .list ds => flatDs n ds
  | _, _ => false
def flatDs : Nat → List PyData → Bool
  | _, [] => true
  | n, d :: ds => flatD n d && flatDs n ds
end
mutual
theorem flat_lay : ∀ (n : Nat) (d : PyData), flatD n d = true → d.canLay0 = true ∧ d.depth ≤ n
  | _, .none, _ => by simp [PyData.canLay0, PyData.depth]
  | _, .bool _, _ => by simp [PyData.canLay0, PyData.depth]
  | _, .int _, _ => by simp [PyData.canLay0, PyData.depth]
  | _, .str x, h => by
    have h' : PyData.strOk x = true := by simpa [flatD] using h
    simp [PyData.canLay0, PyData.depth, h']
  | n + 1, .tuple ds, h => by
    have q := flats_lay n ds (by simpa [flatD] using h)
    simp only [PyData.canLay0, PyData.depth]
    exact ⟨q.1, by omega⟩
  | n + 1, .list ds, h => by
    have q := flats_lay n ds (by simpa [flatD] using h)
    simp only [PyData.canLay0, PyData.depth]
    exact ⟨q.1, by omega⟩
  | 0, .tuple ds, h => by simp [flatD] at h
  | 0, .list ds, h => by simp [flatD] at h
  | 0, .dict _, h => by simp [flatD] at h
  | _ + 1, .dict _, h => by simp [flatD] at h
theorem flats_lay : ∀ (n : Nat) (ds : List PyData), flatDs n ds = true → PyData.canLayAll0 ds = true ∧ PyData.depthAll ds ≤ n
  | _, [], _ => by simp [PyData.canLayAll0, PyData.depthAll]
  | n, d :: ds, h => by
    have h' : flatD n d = true ∧ flatDs n ds = true := by simpa [flatDs] using h
    have q1 := flat_lay n d h'.1
    have q2 := flats_lay n ds h'.2
    simp only [PyData.canLayAll0, PyData.depthAll, q1.1, q2.1, Bool.and_true, true_and]
    omega
end
theorem shaped_of {n : Nat} {d : PyData} (h : flatD n d = true) (hn : n ≤ 64) : SeqAt.shaped d = true := by
  obtain ⟨h1, h2⟩ := flat_lay n d h
  show (d.canLay0 && decide (d.depth ≤ 64)) = true
  rw [h1, Bool.true_and]
  exact decide_eq_true (by omega)
theorem flats_ints (n : Nat) : ∀ ns : List Int, flatDs n (ns.map PyData.int) = true
  | [] => by simp [flatDs]
  | a :: r => by simp [flatDs, flatD, flats_ints n r]
theorem flats_all {n : Nat} : ∀ {ds : List PyData}, (∀ d ∈ ds, flatD n d = true) → flatDs n ds = true
  | [], _ => by simp [flatDs]
  | d :: ds, h => by
    simp only [flatDs, h d (List.mem_cons_self ..), Bool.true_and]
    exact flats_all fun e he => h e (List.mem_cons_of_mem _ he)
mutual
def noB : PyData → Bool
  | .none => true
  | .int _ => true
  | .str _ => true
  | .tuple ds => noBs ds
  | .list ds => noBs ds
  | _ => false
def noBs : List PyData → Bool
  | [] => true
  | d :: ds => noB d && noBs ds
end
mutual
theorem eqv_iff : ∀ (d e : PyData), noB d = true → noB e = true → (PyData.eqv d e = true ↔ d = e)
  | .none, e, _, he => by cases e <;> simp_all [PyData.eqv, noB]
  | .int i, e, _, he => by cases e <;> simp_all [PyData.eqv, noB]
  | .str i, e, _, he => by cases e <;> simp_all [PyData.eqv, noB]
  | .tuple ds, e, hd, he => by
    cases e with
    | tuple es =>
      have q := eqvs_iff ds es (by simpa [noB] using hd) (by simpa [noB] using he)
      simp only [PyData.eqv, PyData.tuple.injEq]
      exact q
    | _ => simp_all [PyData.eqv, noB]
  | .list ds, e, hd, he => by
    cases e with
    | list es =>
      have q := eqvs_iff ds es (by simpa [noB] using hd) (by simpa [noB] using he)
      simp only [PyData.eqv, PyData.list.injEq]
      exact q
    | _ => simp_all [PyData.eqv, noB]
  | .bool _, _, hd, _ => by simp [noB] at hd
  | .dict _, _, hd, _ => by simp [noB] at hd
theorem eqvs_iff : ∀ (ds es : List PyData), noBs ds = true → noBs es = true → (PyData.eqvAll ds es = true ↔ ds = es)
  | [], [], _, _ => by simp [PyData.eqvAll]
  | [], _ :: _, _, _ => by simp [PyData.eqvAll]
  | _ :: _, [], _, _ => by simp [PyData.eqvAll]
  | d :: ds, e :: es, hd, he => by
    have h1 : noB d = true ∧ noBs ds = true := by simpa [noBs] using hd
    have h2 : noB e = true ∧ noBs es = true := by simpa [noBs] using he
    have q1 := eqv_iff d e h1.1 h2.1
    have q2 := eqvs_iff ds es h1.2 h2.2
    simp only [PyData.eqvAll, Bool.and_eq_true, q1, q2, List.cons.injEq]
end
theorem eqv_dec {d e : PyData} {p : Prop} [Decidable p] (hd : noB d = true) (he : noB e = true) (h : d = e ↔ p) : PyData.eqv d e = decide p := by
  have q := eqv_iff d e hd he
  by_cases hp : p
  · rw [decide_eq_true hp]; exact q.mpr (h.mpr hp)
  · rw [decide_eq_false hp]
    cases z : PyData.eqv d e with
    | false => rfl
    | true => exact absurd (h.mp (q.mp z)) hp
theorem noBs_ints : ∀ ns : List Int, noBs (ns.map PyData.int) = true
  | [] => by simp [noBs]
  | a :: r => by simp [noBs, noB, noBs_ints r]
theorem noBs_all : ∀ {ds : List PyData}, (∀ d ∈ ds, noB d = true) → noBs ds = true
  | [], _ => by simp [noBs]
  | d :: ds, h => by
    simp only [noBs, h d (List.mem_cons_self ..), Bool.true_and]
    exact noBs_all fun e he => h e (List.mem_cons_of_mem _ he)

/-! ### slices of tuples, sums of tuples, in one form -/
theorem cut_to (xs : List V) (n : Nat) : cutV xs none (some (n : Int)) = xs.take n := by
  unfold cutV
  rw [HT.sIx_none, HT.sIx_nat]
  show List.take (min n xs.length - 0) (xs.drop 0) = xs.take n
  rw [List.drop_zero, Nat.sub_zero]
  by_cases h : n ≤ xs.length
  · rw [Nat.min_eq_left h]
  · rw [Nat.min_eq_right (by omega), List.take_of_length_le (Nat.le_refl _), List.take_of_length_le (by omega)]
theorem cut_from (xs : List V) (n : Nat) : cutV xs (some (n : Int)) none = xs.drop n := by
  unfold cutV
  rw [HT.sIx_none, HT.sIx_nat]
  by_cases h : n ≤ xs.length
  · rw [Nat.min_eq_left h]
    exact List.take_of_length_le (by rw [List.length_drop]; exact Nat.le_refl _)
  · rw [Nat.min_eq_right (by omega), List.drop_of_length_le (Nat.le_refl _), List.drop_of_length_le (by omega), List.take_nil]
theorem cut_both (xs : List V) (m n : Nat) : cutV xs (some (m : Int)) (some (n : Int)) = (xs.drop m).take (n - m) := by
  unfold cutV
  rw [HT.sIx_nat, HT.sIx_nat]
  by_cases h : m ≤ xs.length
  · rw [Nat.min_eq_left h]
    by_cases h2 : n ≤ xs.length
    · rw [Nat.min_eq_left h2]
    · rw [Nat.min_eq_right (by omega), List.take_of_length_le (by rw [List.length_drop]; exact Nat.le_refl _), List.take_of_length_le (by rw [List.length_drop]; omega)]
  · rw [Nat.min_eq_right (by omega : xs.length ≤ m), List.drop_of_length_le (Nat.le_refl _), List.drop_of_length_le (by omega : xs.length ≤ m), List.take_nil, List.take_nil]
theorem cut_whole {xs : List V} {lo hi : Option Int} (h : HT.sIx xs.length 0 lo = 0 ∧ HT.sIx xs.length xs.length hi = xs.length) : cutV xs lo hi = xs := by
  unfold cutV
  rw [h.1, h.2, List.drop_zero, Nat.sub_zero, List.take_length]
/-- t[lo:hi], whether it is the whole or a new tuple -/
theorem slA {H : Hp} {Q : VK} {a : Addr} {xs ys : List V} {lo hi : Option Int} (h : SqT K H a xs) (e : cutV xs lo hi = ys) (q : ∀ b H', Same H H' → SqT K H' b ys → Q (.ref b) H') : rSlA K (.ref a) lo hi H Q :=
  ⟨a, xs, rfl, h, fun w => q a H (Same.refl H) (by rw [← e, cut_whole w]; exact h), fun _ p hp => q p _ (Same.new hp) (by rw [e]; exact sqT_new)⟩
/-- t + u -/
theorem catA {H : Hp} {Q : VK} {a b : Addr} {xs ys : List V} (h : SqT K H a xs) (h' : SqT K H b ys) (z : xs.length + ys.length ≤ 1000000) (q : ∀ c H', Same H H' → SqT K H' c (xs ++ ys) → Q (.ref c) H') : rCatA K (.ref a) (.ref b) H Q :=
  ⟨a, b, xs, ys, rfl, rfl, h, h', Nat.le_trans z (by decide), fun e => q b H (Same.refl H) (by rw [e]; exact h'), fun _ e => q a H (Same.refl H) (by rw [e, List.append_nil]; exact h), fun _ _ p hp => q p _ (Same.new hp) sqT_new⟩
theorem small {n : Nat} (h : n ≤ 1000000) : n ≤ sizeLine := Nat.le_trans h (by decide)
theorem small' {n : Nat} (h : n < 1000000) : n < sizeLine := Nat.lt_of_lt_of_le h (by decide)

/-! ### rules with the written part told (within a comprehension) -/
section
variable {X : Cx}
theorem ixT (K : PySem.W.Frag) (h : X.K = K := by rfl) : IxR X (rIxT K) := by subst h; exact ix_tup
theorem ixL (K : PySem.W.Frag) (h : X.K = K := by rfl) : IxR X (rIxL K) := by subst h; exact ix_list
theorem slT (K : PySem.W.Frag) (h : X.K = K := by rfl) : SlR X (rSlA K) := by subst h; exact sl_tupA
theorem catT (K : PySem.W.Frag) (h : X.K = K := by rfl) : OpR X (binaryOp .Add) (rCatA K) := by subst h; exact op_catA
theorem lenS (K : PySem.W.Frag) (h : X.K = K := by rfl) : CallR X (.builtin "len") (fun xs H Q => ∃ p ys, xs = [.ref p] ∧ (SqL K H p ys ∨ SqT K H p ys) ∧ Q (.int ys.length) H) := by subst h; exact call_len_seq
theorem inS (K : PySem.W.Frag) (h : X.K = K := by rfl) : OpR X (compareOp .In) (rIn K false) := by subst h; exact op_in_seq
theorem notInT (K : PySem.W.Frag) (hu : X.A.units + 65 < cLine) (h : X.K = K := by rfl) : OpR X (compareOp .NotIn) (UR.rNotInT K) := by subst h; exact UR.op_notInT hu
theorem fldK (K : PySem.W.Frag) {e : Expr} {ta : TE} {f : Str} {pos : Pos} (he : PE X e ta) (hb : attributeBase e f X.env (eval e X.env) = eval e X.env) (h : X.K = K := by rfl) : PE X (.Attribute e f pos) (tFld K ta f) := by subst h; exact pe_fld he hb
end
/-! ### properties -/
structure Prp (P : Program) (w : World) (K : PySem.W.Frag) (mg : Str → Option Value) (base : Heap) (k : Nat) (C : Addr) (f : Str) (sp : Sp) : Prop where
  ex : ∃ (p g : Addr) (fd : FuncData) (ps : List Str), Cls K C ∧ PropOf K C f p g ∧ FnOk P w K mg base CX0 k g fd ps sp ∧ Binds K fd ps []
section
variable {X : Cx} {k j : Nat} {C : Addr} {f : Str} {sp : Sp} {pos : Pos} {e : Expr} {ta : TE}
theorem pe_pr (c : Prp X.prog X.w X.K X.mg X.base k C f sp) (hr : Room j X.A) (hk : k + 1 ≤ j) (he : PE X e ta) (hab : attributeBase e f X.env (eval e X.env) = eval e X.env) : PE X (.Attribute e f pos) (tProp C sp [] E0 ta) := by
  obtain ⟨p, g, fd, ps, c1, c2, c3, c4⟩ := c.ex
  exact pe_prop he c1 c2 c3 (hr.mono hk) c4 .nil (fun _ _ _ _ _ _ _ h => h.elim) hab
end
end U

/-! what the walk asks of the top: each def, method, class, built-in name -/
namespace U
open PySem PySem.Spec PyProof.Rows L2
/-- a def of the module, under the name y -/
structure DefIn (K : PySem.W.Frag) (mg : Str → Option Value) (y x : Str) (st : Stmt) (ps : List Str) : Prop where
  ex : ∃ (f : Addr) (fd : FuncData), L2.Fun K x x st f fd ∧ mg y = some (.ref f) ∧ Binds K fd ps []
structure MethIn (K : PySem.W.Frag) (C : Addr) (m qual : Str) (st : Stmt) (ps : List Str) : Prop where
  ex : ∃ (f : Addr) (fd : FuncData), L2.Fun K m qual st f fd ∧ Cls K C ∧ Meth K C m f ∧ Binds K fd ps []
structure PropIn (K : PySem.W.Frag) (C : Addr) (m qual : Str) (st : Stmt) (ps : List Str) : Prop where
  ex : ∃ (p f : Addr) (fd : FuncData), L2.Fun K m qual st f fd ∧ Cls K C ∧ PropOf K C m p f ∧ Binds K fd ps []
structure InitIn (K : PySem.W.Frag) (mg : Str → Option Value) (y : Str) (C : Addr) (qual : Str) (st : Stmt) (ps : List Str) : Prop where
  ex : ∃ (f : Addr) (fd : FuncData), L2.Fun K "__init__" qual st f fd ∧ Mk K C f ∧ mg y = some (.ref C) ∧ Binds K fd ps []
section
variable {P : Program} {w : World} {K : PySem.W.Frag} {mg : Str → Option Value} {base : Heap} {y x m qual : Str} {C : Addr} {st : Stmt} {N ps : List Str} {k : Nat} {sp : Sp}
theorem DefIn.cal (D : DefIn K mg y x st ps) (S : FnScope N ps (defScope st)) (len : ∀ vs H Q E, sp vs H Q E → vs.length = ps.length)
    (hbody : ∀ (f : Addr) (cdv : Value) (A : Around) (outer : List Env) (s : Shared) (H : Hp) (vs : List V) (Q : VK) (E : XK), Room k (A.deeper (envOfC x (defScope st) s.heap.objs.size f cdv)) → sp vs H Q E →
      ∃ t, PSs (cxOf CX0 P w K mg base N x (defScope st) f cdv A outer s H E).nox (defBody st) t ∧ t { nx := fun _ H' => Q .non H', rt := Q } (start N vs) H) : C8.Cal P w K mg base (k + 1) y sp [] := by
  obtain ⟨f, fd, F, hm, b⟩ := D.ex
  exact ⟨f, fd, ps, [], F.ok S len (hbody f), hm, F.kp, b, .nil⟩
theorem MethIn.met (D : MethIn K C m qual st ps) (S : FnScope N ps (defScope st)) (len : ∀ vs H Q E, sp vs H Q E → vs.length = ps.length)
    (hbody : ∀ (f : Addr) (cdv : Value) (A : Around) (outer : List Env) (s : Shared) (H : Hp) (vs : List V) (Q : VK) (E : XK), Room k (A.deeper (envOfC qual (defScope st) s.heap.objs.size f cdv)) → sp vs H Q E →
      ∃ t, PSs (cxOf CX0 P w K mg base N qual (defScope st) f cdv A outer s H E).nox (defBody st) t ∧ t { nx := fun _ H' => Q .non H', rt := Q } (start N vs) H) : C8.Met P w K mg base (k + 1) C m sp [] := by
  obtain ⟨f, fd, F, c, me, b⟩ := D.ex
  exact ⟨f, fd, ps, [], c, me, F.ok S len (hbody f), b, .nil⟩
theorem PropIn.prp (D : PropIn K C m qual st ps) (S : FnScope N ps (defScope st)) (len : ∀ vs H Q E, sp vs H Q E → vs.length = ps.length)
    (hbody : ∀ (f : Addr) (cdv : Value) (A : Around) (outer : List Env) (s : Shared) (H : Hp) (vs : List V) (Q : VK) (E : XK), Room k (A.deeper (envOfC qual (defScope st) s.heap.objs.size f cdv)) → sp vs H Q E →
      ∃ t, PSs (cxOf CX0 P w K mg base N qual (defScope st) f cdv A outer s H E).nox (defBody st) t ∧ t { nx := fun _ H' => Q .non H', rt := Q } (start N vs) H) : Prp P w K mg base (k + 1) C m sp := by
  obtain ⟨p, f, fd, F, c, po, b⟩ := D.ex
  exact ⟨p, f, fd, ps, c, po, F.ok S len (hbody f), b⟩
theorem InitIn.mak (D : InitIn K mg y C qual st ps) (S : FnScope N ps (defScope st)) (len : ∀ vs H Q E, sp vs H Q E → vs.length = ps.length)
    (hbody : ∀ (f : Addr) (cdv : Value) (A : Around) (outer : List Env) (s : Shared) (H : Hp) (vs : List V) (Q : VK) (E : XK), Room k (A.deeper (envOfC qual (defScope st) s.heap.objs.size f cdv)) → sp vs H Q E →
      ∃ t, PSs (cxOf CX0 P w K mg base N qual (defScope st) f cdv A outer s H E).nox (defBody st) t ∧ t { nx := fun _ H' => Q .non H', rt := Q } (start N vs) H) : C8.Mak P w K mg base (k + 1) y C sp [] := by
  obtain ⟨f, fd, F, M, hm, b⟩ := D.ex
  exact ⟨f, fd, ps, [], M, F.ok S len (hbody f), hm, b, .nil⟩
end
abbrev s_places : Stmt := topS 2
theorem sc_places : FnScope ["setting", "program", "n", "t", "found", "at", "row", "many", "k"] ["setting", "program"] (defScope s_places) := ⟨rfl, rfl, rfl, by decide +kernel, rfl, by decide +kernel, by decide +kernel⟩
abbrev s_power : Stmt := topS 4
theorem sc_power : FnScope ["p", "a", "k", "found", "square"] ["p", "a", "k"] (defScope s_power) := ⟨rfl, rfl, rfl, by decide +kernel, rfl, by decide +kernel, by decide +kernel⟩
abbrev s_inverse : Stmt := topS 5
theorem sc_inverse : FnScope ["p", "a"] ["p", "a"] (defScope s_inverse) := ⟨rfl, rfl, rfl, by decide +kernel, rfl, by decide +kernel, by decide +kernel⟩
abbrev s_value_at : Stmt := topS 7
theorem sc_value_at : FnScope ["p", "poly", "x", "found", "number"] ["p", "poly", "x"] (defScope s_value_at) := ⟨rfl, rfl, rfl, by decide +kernel, rfl, by decide +kernel, by decide +kernel⟩
abbrev s_added : Stmt := topS 8
theorem sc_added : FnScope ["p", "one", "other", "k"] ["p", "one", "other"] (defScope s_added) := ⟨rfl, rfl, rfl, by decide +kernel, rfl, by decide +kernel, by decide +kernel⟩
abbrev s_scaled : Stmt := topS 9
theorem sc_scaled : FnScope ["p", "c", "poly", "number"] ["p", "c", "poly"] (defScope s_scaled) := ⟨rfl, rfl, rfl, by decide +kernel, rfl, by decide +kernel, by decide +kernel⟩
abbrev s_with_root : Stmt := topS 10
theorem sc_with_root : FnScope ["p", "poly", "point", "up", "down"] ["p", "poly", "point"] (defScope s_with_root) := ⟨rfl, rfl, rfl, by decide +kernel, rfl, by decide +kernel, by decide +kernel⟩
abbrev s_roots_at : Stmt := topS 11
theorem sc_roots_at : FnScope ["p", "points", "poly", "point"] ["p", "points"] (defScope s_roots_at) := ⟨rfl, rfl, rfl, by decide +kernel, rfl, by decide +kernel, by decide +kernel⟩
abbrev s_bases : Stmt := topS 12
theorem sc_bases : FnScope ["p", "points", "found", "place", "poly"] ["p", "points"] (defScope s_bases) := ⟨rfl, rfl, rfl, by decide +kernel, rfl, by decide +kernel, by decide +kernel⟩
abbrev s_through : Stmt := topS 13
theorem sc_through : FnScope ["p", "points", "values", "poly", "rows", "place"] ["p", "points", "values"] (defScope s_through) := ⟨rfl, rfl, rfl, by decide +kernel, rfl, by decide +kernel, by decide +kernel⟩
abbrev s_weights : Stmt := topS 14
theorem sc_weights : FnScope ["p", "points", "x", "poly"] ["p", "points", "x"] (defScope s_weights) := ⟨rfl, rfl, rfl, by decide +kernel, rfl, by decide +kernel, by decide +kernel⟩
abbrev s_is_integer : Stmt := topS 20
theorem sc_is_integer : FnScope ["thing"] ["thing"] (defScope s_is_integer) := ⟨rfl, rfl, rfl, by decide +kernel, rfl, by decide +kernel, by decide +kernel⟩
abbrev s_parties : Stmt := topS 21
theorem sc_parties : FnScope ["setting"] ["setting"] (defScope s_parties) := ⟨rfl, rfl, rfl, by decide +kernel, rfl, by decide +kernel, by decide +kernel⟩
abbrev s_shares_of : Stmt := topS 22
theorem sc_shares_of : FnScope ["setting", "poly", "party"] ["setting", "poly"] (defScope s_shares_of) := ⟨rfl, rfl, rfl, by decide +kernel, rfl, by decide +kernel, by decide +kernel⟩
abbrev s_shares : Stmt := topS 23
theorem sc_shares : FnScope ["setting", "s", "coins"] ["setting", "s", "coins"] (defScope s_shares) := ⟨rfl, rfl, rfl, by decide +kernel, rfl, by decide +kernel, by decide +kernel⟩
abbrev s_named : Stmt := topS 26
theorem sc_named : FnScope ["row", "kind"] ["row"] (defScope s_named) := ⟨rfl, rfl, rfl, by decide +kernel, rfl, by decide +kernel, by decide +kernel⟩
abbrev s_input_rows : Stmt := topS 27
theorem sc_input_rows : FnScope ["program", "k"] ["program"] (defScope s_input_rows) := ⟨rfl, rfl, rfl, by decide +kernel, rfl, by decide +kernel, by decide +kernel⟩
abbrev s_sends : Stmt := topS 29
theorem sc_sends : FnScope ["setting", "program", "k", "i", "j", "row"] ["setting", "program", "k", "i", "j"] (defScope s_sends) := ⟨rfl, rfl, rfl, by decide +kernel, rfl, by decide +kernel, by decide +kernel⟩
abbrev s_own_inputs : Stmt := topS 30
theorem sc_own_inputs : FnScope ["program", "inputs", "party", "rows", "k"] ["program", "inputs", "party"] (defScope s_own_inputs) := ⟨rfl, rfl, rfl, by decide +kernel, rfl, by decide +kernel, by decide +kernel⟩
abbrev s_own_places : Stmt := topS 31
theorem sc_own_places : FnScope ["row", "some", "party"] ["row", "some", "party"] (defScope s_own_places) := ⟨rfl, rfl, rfl, by decide +kernel, rfl, by decide +kernel, by decide +kernel⟩
abbrev s_own_coins : Stmt := topS 32
theorem sc_own_coins : FnScope ["setting", "program", "coins", "party", "mine", "rows", "k", "some", "place"] ["setting", "program", "coins", "party"] (defScope s_own_coins) := ⟨rfl, rfl, rfl, by decide +kernel, rfl, by decide +kernel, by decide +kernel⟩
abbrev s_sets_of : Stmt := topS 34
theorem sc_sets_of : FnScope ["things", "many", "found", "place", "rest"] ["things", "many"] (defScope s_sets_of) := ⟨rfl, rfl, rfl, by decide +kernel, rfl, by decide +kernel, by decide +kernel⟩
abbrev s_wrong : Stmt := topS 35
theorem sc_wrong : FnScope ["setting", "row", "poly", "party"] ["setting", "row", "poly"] (defScope s_wrong) := ⟨rfl, rfl, rfl, by decide +kernel, rfl, by decide +kernel, by decide +kernel⟩
abbrev s_readings : Stmt := topS 36
theorem sc_readings : FnScope ["setting", "row", "e", "found", "points", "poly", "party"] ["setting", "row", "e"] (defScope s_readings) := ⟨rfl, rfl, rfl, by decide +kernel, rfl, by decide +kernel, by decide +kernel⟩
abbrev s_most_wrong : Stmt := topS 37
theorem sc_most_wrong : FnScope ["setting"] ["setting"] (defScope s_most_wrong) := ⟨rfl, rfl, rfl, by decide +kernel, rfl, by decide +kernel, by decide +kernel⟩
abbrev s_read : Stmt := topS 38
theorem sc_read : FnScope ["setting", "row", "found"] ["setting", "row"] (defScope s_read) := ⟨rfl, rfl, rfl, by decide +kernel, rfl, by decide +kernel, by decide +kernel⟩
abbrev s_by_rows : Stmt := topS 41
theorem sc_by_rows : FnScope ["setting", "program", "number", "inputs", "coins", "t", "given", "drawn", "used", "at", "k", "row"] ["setting", "program", "number", "inputs", "coins"] (defScope s_by_rows) := ⟨rfl, rfl, rfl, by decide +kernel, rfl, by decide +kernel, by decide +kernel⟩
abbrev s_crew_of : Stmt := topS 43
theorem sc_crew_of : FnScope ["setting", "program", "inputs", "coins", "crew", "party", "mine"] ["setting", "program", "inputs", "coins"] (defScope s_crew_of) := ⟨rfl, rfl, rfl, by decide +kernel, rfl, by decide +kernel, by decide +kernel⟩
abbrev s_first_letters : Stmt := topS 44
theorem sc_first_letters : FnScope ["crew", "letters", "party"] ["crew"] (defScope s_first_letters) := ⟨rfl, rfl, rfl, by decide +kernel, rfl, by decide +kernel, by decide +kernel⟩
abbrev s__law_cell : Stmt := topS 48
theorem sc__law_cell : FnScope ["_law_script", "_law_k"] ["_law_script", "_law_k"] (defScope s__law_cell) := ⟨rfl, rfl, rfl, by decide +kernel, rfl, by decide +kernel, by decide +kernel⟩
abbrev s__law_digits : Stmt := topS 49
theorem sc__law_digits : FnScope ["_law_script", "_law_first", "_law_last", "_law_digits_here", "_law_k", "_law_cell_here", "_law_turn", "_law_seed"] ["_law_script", "_law_first", "_law_last"] (defScope s__law_digits) := ⟨rfl, rfl, rfl, by decide +kernel, rfl, by decide +kernel, by decide +kernel⟩
abbrev s__law_draw : Stmt := topS 50
theorem sc__law_draw : FnScope ["_law_box", "_law_many", "_law_at"] ["_law_box", "_law_many"] (defScope s__law_draw) := ⟨rfl, rfl, rfl, by decide +kernel, rfl, by decide +kernel, by decide +kernel⟩
abbrev s__law_pick : Stmt := topS 51
theorem sc__law_pick : FnScope ["_law_box", "_law_things"] ["_law_box", "_law_things"] (defScope s__law_pick) := ⟨rfl, rfl, rfl, by decide +kernel, rfl, by decide +kernel, by decide +kernel⟩
abbrev s__law_number : Stmt := topS 52
theorem sc__law_number : FnScope ["_law_box", "_law_p"] ["_law_box", "_law_p"] (defScope s__law_number) := ⟨rfl, rfl, rfl, by decide +kernel, rfl, by decide +kernel, by decide +kernel⟩
abbrev s__law_numbers : Stmt := topS 53
theorem sc__law_numbers : FnScope ["_law_box", "_law_p", "_law_many", "_law_k"] ["_law_box", "_law_p", "_law_many"] (defScope s__law_numbers) := ⟨rfl, rfl, rfl, by decide +kernel, rfl, by decide +kernel, by decide +kernel⟩
abbrev s__law_program : Stmt := topS 54
theorem sc__law_program : FnScope ["_law_box", "_law_setting", "_law_most", "_law_turns", "_law_p", "_law_n", "_law_t", "_law_rows", "_law_wires", "_law_before", "_law_k", "_law_kind", "_law_row", "_law_a", "_law_b"] ["_law_box", "_law_setting", "_law_most", "_law_turns"] (defScope s__law_program) := ⟨rfl, rfl, rfl, by decide +kernel, rfl, by decide +kernel, by decide +kernel⟩
abbrev s__law_inputs : Stmt := topS 55
theorem sc__law_inputs : FnScope ["_law_box", "_law_setting", "_law_program_here", "_law_row"] ["_law_box", "_law_setting", "_law_program_here"] (defScope s__law_inputs) := ⟨rfl, rfl, rfl, by decide +kernel, rfl, by decide +kernel, by decide +kernel⟩
abbrev s__law_values : Stmt := topS 56
theorem sc__law_values : FnScope ["_law_setting", "_law_program_here", "_law_inputs_here", "_law_p", "_law_found", "_law_used", "_law_row", "_law_kind", "_law_value", "_law_a", "_law_b"] ["_law_setting", "_law_program_here", "_law_inputs_here"] (defScope s__law_values) := ⟨rfl, rfl, rfl, by decide +kernel, rfl, by decide +kernel, by decide +kernel⟩
abbrev s__law_shown : Stmt := topS 57
theorem sc__law_shown : FnScope ["_law_setting", "_law_program_here", "_law_inputs_here", "_law_found", "_law_rows", "_law_k"] ["_law_setting", "_law_program_here", "_law_inputs_here"] (defScope s__law_shown) := ⟨rfl, rfl, rfl, by decide +kernel, rfl, by decide +kernel, by decide +kernel⟩
abbrev s__law_coins_of : Stmt := topS 58
theorem sc__law_coins_of : FnScope ["_law_setting", "_law_program_here", "_law_each", "_law_row"] ["_law_setting", "_law_program_here"] (defScope s__law_coins_of) := ⟨rfl, rfl, rfl, by decide +kernel, rfl, by decide +kernel, by decide +kernel⟩
abbrev s__law_coins : Stmt := topS 59
theorem sc__law_coins : FnScope ["_law_box", "_law_setting", "_law_program_here", "_law_seed", "_law_coins_here", "_law_k"] ["_law_box", "_law_setting", "_law_program_here"] (defScope s__law_coins) := ⟨rfl, rfl, rfl, by decide +kernel, rfl, by decide +kernel, by decide +kernel⟩
abbrev s_law : Stmt := topS 60
theorem sc_law : FnScope ["_law_script", "_law_box", "_law_n", "_law_t", "_law_setting", "_law_program_here", "_law_inputs_here", "_law_coins_here", "_law_desk", "_law_lies", "_law_way", "_law_place", "_law_k", "_law_told", "_law_one", "_law_value"] ["_law_script"] (defScope s_law) := ⟨rfl, rfl, rfl, by decide +kernel, rfl, by decide +kernel, by decide +kernel⟩
abbrev s_Party__all_came : Stmt := inClass (topS 42) 8
theorem sc_Party__all_came : FnScope ["self", "k"] ["self", "k"] (defScope s_Party__all_came) := ⟨rfl, rfl, rfl, by decide +kernel, rfl, by decide +kernel, by decide +kernel⟩
abbrev s_Party__told : Stmt := inClass (topS 42) 9
theorem sc_Party__told : FnScope ["self", "k", "mine", "numbers", "party"] ["self", "k", "mine"] (defScope s_Party__told) := ⟨rfl, rfl, rfl, by decide +kernel, rfl, by decide +kernel, by decide +kernel⟩
abbrev s_Party__needed : Stmt := inClass (topS 42) 13
theorem sc_Party__needed : FnScope ["self", "k", "found", "some", "wire"] ["self", "k", "found"] (defScope s_Party__needed) := ⟨rfl, rfl, rfl, by decide +kernel, rfl, by decide +kernel, by decide +kernel⟩
abbrev s_Party__poly : Stmt := inClass (topS 42) 14
theorem sc_Party__poly : FnScope ["self", "k", "some", "first"] ["self", "k", "some"] (defScope s_Party__poly) := ⟨rfl, rfl, rfl, by decide +kernel, rfl, by decide +kernel, by decide +kernel⟩
abbrev s_Party__share : Stmt := inClass (topS 42) 15
theorem sc_Party__share : FnScope ["self", "k", "found", "setting", "program", "number", "row", "some"] ["self", "k", "found"] (defScope s_Party__share) := ⟨rfl, rfl, rfl, by decide +kernel, rfl, by decide +kernel, by decide +kernel⟩
abbrev s_Party__reckoned : Stmt := inClass (topS 42) 16
theorem sc_Party__reckoned : FnScope ["self", "row", "some", "second"] ["self", "row", "some"] (defScope s_Party__reckoned) := ⟨rfl, rfl, rfl, by decide +kernel, rfl, by decide +kernel, by decide +kernel⟩
abbrev s_Party__joined : Stmt := inClass (topS 42) 17
theorem sc_Party__joined : FnScope ["self", "k", "some", "setting", "program", "number", "told", "place"] ["self", "k", "some"] (defScope s_Party__joined) := ⟨rfl, rfl, rfl, by decide +kernel, rfl, by decide +kernel, by decide +kernel⟩
abbrev s_Party__letters : Stmt := inClass (topS 42) 18
theorem sc_Party__letters : FnScope ["self", "k", "found", "setting", "program", "number", "others", "row", "numbers", "some", "poly", "party"] ["self", "k", "found"] (defScope s_Party__letters) := ⟨rfl, rfl, rfl, by decide +kernel, rfl, by decide +kernel, by decide +kernel⟩
abbrev s_Party__is_letter : Stmt := inClass (topS 42) 19
theorem sc_Party__is_letter : FnScope ["self", "letter", "setting", "program", "number", "k", "i", "j", "x", "item"] ["self", "letter"] (defScope s_Party__is_letter) := ⟨rfl, rfl, rfl, by decide +kernel, rfl, by decide +kernel, by decide +kernel⟩
abbrev s_Party_take : Stmt := inClass (topS 42) 20
theorem sc_Party_take : FnScope ["self", "letter", "k", "i", "before", "one"] ["self", "letter"] (defScope s_Party_take) := ⟨rfl, rfl, rfl, by decide +kernel, rfl, by decide +kernel, by decide +kernel⟩
abbrev s_Party_branch : Stmt := inClass (topS 42) 21
theorem sc_Party_branch : FnScope ["self", "setting", "program", "number", "inputs", "coins", "other", "some"] ["self"] (defScope s_Party_branch) := ⟨rfl, rfl, rfl, by decide +kernel, rfl, by decide +kernel, by decide +kernel⟩
abbrev s_Desk_parties : Stmt := inClass (topS 46) 2
theorem sc_Desk_parties : FnScope ["self", "party"] ["self"] (defScope s_Desk_parties) := ⟨rfl, rfl, rfl, by decide +kernel, rfl, by decide +kernel, by decide +kernel⟩
abbrev s_Desk__letter_at : Stmt := inClass (topS 46) 5
theorem sc_Desk__letter_at : FnScope ["self", "place"] ["self", "place"] (defScope s_Desk__letter_at) := ⟨rfl, rfl, rfl, by decide +kernel, rfl, by decide +kernel, by decide +kernel⟩
abbrev s_Desk__begin : Stmt := inClass (topS 46) 6
theorem sc_Desk__begin : FnScope ["self", "deed"] ["self", "deed"] (defScope s_Desk__begin) := ⟨rfl, rfl, rfl, by decide +kernel, rfl, by decide +kernel, by decide +kernel⟩
abbrev s_Desk__hand : Stmt := inClass (topS 46) 7
theorem sc_Desk__hand : FnScope ["self", "place", "letter", "made"] ["self", "place"] (defScope s_Desk__hand) := ⟨rfl, rfl, rfl, by decide +kernel, rfl, by decide +kernel, by decide +kernel⟩
abbrev s_Desk_hand : Stmt := inClass (topS 46) 8
theorem sc_Desk_hand : FnScope ["self", "place"] ["self", "place"] (defScope s_Desk_hand) := ⟨rfl, rfl, rfl, by decide +kernel, rfl, by decide +kernel, by decide +kernel⟩
abbrev s_Desk_lie : Stmt := inClass (topS 46) 11
theorem sc_Desk_lie : FnScope ["self", "place", "x", "letter", "other"] ["self", "place", "x"] (defScope s_Desk_lie) := ⟨rfl, rfl, rfl, by decide +kernel, rfl, by decide +kernel, by decide +kernel⟩
abbrev s_Party_number : Stmt := inClass (topS 42) 1
theorem sc_Party_number : FnScope ["self"] ["self"] (defScope s_Party_number) := ⟨rfl, rfl, rfl, by decide +kernel, rfl, by decide +kernel, by decide +kernel⟩
abbrev s_Party_shares : Stmt := inClass (topS 42) 5
theorem sc_Party_shares : FnScope ["self", "found", "k"] ["self"] (defScope s_Party_shares) := ⟨rfl, rfl, rfl, by decide +kernel, rfl, by decide +kernel, by decide +kernel⟩
abbrev s_Party_made : Stmt := inClass (topS 42) 6
theorem sc_Party_made : FnScope ["self", "found", "letters", "k"] ["self"] (defScope s_Party_made) := ⟨rfl, rfl, rfl, by decide +kernel, rfl, by decide +kernel, by decide +kernel⟩
abbrev s_Party_read : Stmt := inClass (topS 42) 7
theorem sc_Party_read : FnScope ["self", "setting", "program", "number", "found", "told", "k", "row"] ["self"] (defScope s_Party_read) := ⟨rfl, rfl, rfl, by decide +kernel, rfl, by decide +kernel, by decide +kernel⟩
abbrev s_Desk_on_the_way : Stmt := inClass (topS 46) 1
theorem sc_Desk_on_the_way : FnScope ["self"] ["self"] (defScope s_Desk_on_the_way) := ⟨rfl, rfl, rfl, by decide +kernel, rfl, by decide +kernel, by decide +kernel⟩
abbrev s_Desk_done : Stmt := inClass (topS 46) 4
theorem sc_Desk_done : FnScope ["self"] ["self"] (defScope s_Desk_done) := ⟨rfl, rfl, rfl, by decide +kernel, rfl, by decide +kernel, by decide +kernel⟩
abbrev s_Party___init__ : Stmt := inClass (topS 42) 0
theorem sc_Party___init__ : FnScope ["self", "setting", "program", "number", "inputs", "coins", "row"] ["self", "setting", "program", "number", "inputs", "coins"] (defScope s_Party___init__) := ⟨rfl, rfl, rfl, by decide +kernel, rfl, by decide +kernel, by decide +kernel⟩
abbrev s_Desk___init__ : Stmt := inClass (topS 46) 0
theorem sc_Desk___init__ : FnScope ["self", "setting", "program", "inputs", "coins"] ["self", "setting", "program", "inputs", "coins"] (defScope s_Desk___init__) := ⟨rfl, rfl, rfl, by decide +kernel, rfl, by decide +kernel, by decide +kernel⟩
structure Txt (K : PySem.W.Frag) (mg : Str → Option Value) (cP cD : Addr) : Prop where
  ne : cP ≠ cD
  clP : Cls K cP
  aP_own : NoAttr K cP "_own"
  aP_given : NoAttr K cP "_given"
  aP_drawn : NoAttr K cP "_drawn"
  aP_weighed : NoAttr K cP "_weighed"
  aP_took : NoAttr K cP "_took"
  aP_came : NoAttr K cP "_came"
  i_Party : InitIn K mg "Party" cP "Party.__init__" s_Party___init__ ["self", "setting", "program", "number", "inputs", "coins"]
  clD : Cls K cD
  aD_setting : NoAttr K cD "_setting"
  aD_program : NoAttr K cD "_program"
  aD_given : NoAttr K cD "_given"
  aD_crew : NoAttr K cD "_crew"
  aD_way : NoAttr K cD "_way"
  aD_log : NoAttr K cD "_log"
  aD_past : NoAttr K cD "_past"
  i_Desk : InitIn K mg "Desk" cD "Desk.__init__" s_Desk___init__ ["self", "setting", "program", "inputs", "coins"]
  n_len : mg "len" = none
  n_int : mg "int" = none
  n_bool : mg "bool" = none
  n_tuple : mg "tuple" = none
  n_range : mg "range" = none
  n_sum : mg "sum" = none
  n_sorted : mg "sorted" = none
  n_list : mg "list" = none
  n_dict : mg "dict" = none
  n_isinstance : mg "isinstance" = none
  n_reversed : mg "reversed" = none
  d_places : DefIn K mg "places" "places" s_places ["setting", "program"]
  d_power : DefIn K mg "power" "power" s_power ["p", "a", "k"]
  d_inverse : DefIn K mg "inverse" "inverse" s_inverse ["p", "a"]
  d_value_at : DefIn K mg "value_at" "value_at" s_value_at ["p", "poly", "x"]
  d_added : DefIn K mg "added" "added" s_added ["p", "one", "other"]
  d_scaled : DefIn K mg "scaled" "scaled" s_scaled ["p", "c", "poly"]
  d_with_root : DefIn K mg "with_root" "with_root" s_with_root ["p", "poly", "point"]
  d_roots_at : DefIn K mg "roots_at" "roots_at" s_roots_at ["p", "points"]
  d_bases : DefIn K mg "bases" "bases" s_bases ["p", "points"]
  d_through : DefIn K mg "through" "through" s_through ["p", "points", "values"]
  d_weights : DefIn K mg "weights" "weights" s_weights ["p", "points", "x"]
  d_is_integer : DefIn K mg "is_integer" "is_integer" s_is_integer ["thing"]
  d_parties : DefIn K mg "parties" "parties" s_parties ["setting"]
  d_shares_of : DefIn K mg "shares_of" "shares_of" s_shares_of ["setting", "poly"]
  d_shares : DefIn K mg "shares" "shares" s_shares ["setting", "s", "coins"]
  d_named : DefIn K mg "named" "named" s_named ["row"]
  d_input_rows : DefIn K mg "input_rows" "input_rows" s_input_rows ["program"]
  d_sends : DefIn K mg "sends" "sends" s_sends ["setting", "program", "k", "i", "j"]
  d_own_inputs : DefIn K mg "own_inputs" "own_inputs" s_own_inputs ["program", "inputs", "party"]
  d_own_places : DefIn K mg "own_places" "own_places" s_own_places ["row", "some", "party"]
  d_own_coins : DefIn K mg "own_coins" "own_coins" s_own_coins ["setting", "program", "coins", "party"]
  d_sets_of : DefIn K mg "sets_of" "sets_of" s_sets_of ["things", "many"]
  d_wrong : DefIn K mg "wrong" "wrong" s_wrong ["setting", "row", "poly"]
  d_readings : DefIn K mg "readings" "readings" s_readings ["setting", "row", "e"]
  d_most_wrong : DefIn K mg "most_wrong" "most_wrong" s_most_wrong ["setting"]
  d_read : DefIn K mg "read" "read" s_read ["setting", "row"]
  d_by_rows : DefIn K mg "by_rows" "by_rows" s_by_rows ["setting", "program", "number", "inputs", "coins"]
  d_crew_of : DefIn K mg "crew_of" "crew_of" s_crew_of ["setting", "program", "inputs", "coins"]
  d_first_letters : DefIn K mg "first_letters" "first_letters" s_first_letters ["crew"]
  d__law_cell : DefIn K mg "_law_cell" "_law_cell" s__law_cell ["_law_script", "_law_k"]
  d__law_digits : DefIn K mg "_law_digits" "_law_digits" s__law_digits ["_law_script", "_law_first", "_law_last"]
  d__law_draw : DefIn K mg "_law_draw" "_law_draw" s__law_draw ["_law_box", "_law_many"]
  d__law_pick : DefIn K mg "_law_pick" "_law_pick" s__law_pick ["_law_box", "_law_things"]
  d__law_number : DefIn K mg "_law_number" "_law_number" s__law_number ["_law_box", "_law_p"]
  d__law_numbers : DefIn K mg "_law_numbers" "_law_numbers" s__law_numbers ["_law_box", "_law_p", "_law_many"]
  d__law_program : DefIn K mg "_law_program" "_law_program" s__law_program ["_law_box", "_law_setting", "_law_most", "_law_turns"]
  d__law_inputs : DefIn K mg "_law_inputs" "_law_inputs" s__law_inputs ["_law_box", "_law_setting", "_law_program_here"]
  d__law_values : DefIn K mg "_law_values" "_law_values" s__law_values ["_law_setting", "_law_program_here", "_law_inputs_here"]
  d__law_shown : DefIn K mg "_law_shown" "_law_shown" s__law_shown ["_law_setting", "_law_program_here", "_law_inputs_here"]
  d__law_coins_of : DefIn K mg "_law_coins_of" "_law_coins_of" s__law_coins_of ["_law_setting", "_law_program_here"]
  d__law_coins : DefIn K mg "_law_coins" "_law_coins" s__law_coins ["_law_box", "_law_setting", "_law_program_here"]
  d_law : DefIn K mg "law" "law" s_law ["_law_script"]
  d_shares_sharing : DefIn K mg "shares_sharing" "shares" s_shares ["setting", "s", "coins"]
  d_read_reading : DefIn K mg "read_reading" "read" s_read ["setting", "row"]
  e_Party__all_came : MethIn K cP "_all_came" "Party._all_came" s_Party__all_came ["self", "k"]
  e_Party__told : MethIn K cP "_told" "Party._told" s_Party__told ["self", "k", "mine"]
  e_Party__needed : MethIn K cP "_needed" "Party._needed" s_Party__needed ["self", "k", "found"]
  e_Party__poly : MethIn K cP "_poly" "Party._poly" s_Party__poly ["self", "k", "some"]
  e_Party__share : MethIn K cP "_share" "Party._share" s_Party__share ["self", "k", "found"]
  e_Party__reckoned : MethIn K cP "_reckoned" "Party._reckoned" s_Party__reckoned ["self", "row", "some"]
  e_Party__joined : MethIn K cP "_joined" "Party._joined" s_Party__joined ["self", "k", "some"]
  e_Party__letters : MethIn K cP "_letters" "Party._letters" s_Party__letters ["self", "k", "found"]
  e_Party__is_letter : MethIn K cP "_is_letter" "Party._is_letter" s_Party__is_letter ["self", "letter"]
  e_Party_take : MethIn K cP "take" "Party.take" s_Party_take ["self", "letter"]
  e_Party_branch : MethIn K cP "branch" "Party.branch" s_Party_branch ["self"]
  e_Desk_parties : MethIn K cD "parties" "Desk.parties" s_Desk_parties ["self"]
  e_Desk__letter_at : MethIn K cD "_letter_at" "Desk._letter_at" s_Desk__letter_at ["self", "place"]
  e_Desk__begin : MethIn K cD "_begin" "Desk._begin" s_Desk__begin ["self", "deed"]
  e_Desk__hand : MethIn K cD "_hand" "Desk._hand" s_Desk__hand ["self", "place"]
  e_Desk_hand : MethIn K cD "hand" "Desk.hand" s_Desk_hand ["self", "place"]
  e_Desk_lie : MethIn K cD "lie" "Desk.lie" s_Desk_lie ["self", "place", "x"]
  q_Party_number : PropIn K cP "number" "Party.number" s_Party_number ["self"]
  q_Party_shares : PropIn K cP "shares" "Party.shares" s_Party_shares ["self"]
  q_Party_made : PropIn K cP "made" "Party.made" s_Party_made ["self"]
  q_Party_read : PropIn K cP "read" "Party.read" s_Party_read ["self"]
  q_Desk_on_the_way : PropIn K cD "on_the_way" "Desk.on_the_way" s_Desk_on_the_way ["self"]
  q_Desk_done : PropIn K cD "done" "Desk.done" s_Desk_done ["self"]
end U

/-! comprehensions whose elements are data, made over a heap that only grows -/
namespace U
open PySem PySem.Spec PyProof.Rows L2
theorem map_get {α β : Type} {f : α → β} {l : List α} {i : Nat} {a : α} (h : l[i]? = some a) : (l.map f)[i]? = some (f a) := by
  rw [List.getElem?_map, h]; rfl
theorem map_at {l : List Int} {i : Nat} (h : i < l.length) : atI (l.map V.int) ((i : Nat) : Int) = some (.int l[i]) := atI_nat (map_get (List.getElem?_eq_getElem h))
theorem cut_from1 (xs : List V) (n : Nat) : cutV xs (some ((n : Int) + 1)) none = xs.drop (n + 1) := cut_from xs (n + 1)
theorem noP {σ : L2.St} {H : Hp} {Q : Option Int → Hp → Prop} (h : Q none H) : tNoPart σ H Q := h
theorem map_got {α β : Type} {f : α → β} {l : List α} {i : Nat} {y : β} (h : (l.map f)[i]? = some y) : ∃ x, l[i]? = some x ∧ y = f x := by
  rw [List.getElem?_map] at h
  obtain ⟨x, h1, h2⟩ := Option.map_eq_some_iff.mp h
  exact ⟨x, h1, h2.symm⟩
theorem _root_.L2.Same.but1 {H H1 H' : Hp} {l : Addr} (e : Same H H1) (b : But (fun x => x = l) H1 H') (h : H l = none) : Same H H' := fun a o q => b a o (e a o q) (ne_of_none q h)
theorem fm_range {α β : Type} (f : α → Option β) : ∀ l : List α, (List.range l.length).filterMap (fun i => l[i]?.bind f) = l.filterMap f := by
  intro l
  have h : ∀ (m : Nat), m ≤ l.length → (List.range m).filterMap (fun i => l[i]?.bind f) = (l.take m).filterMap f := by
    intro m
    induction m with
    | zero => intro _; rfl
    | succ m ih =>
      intro hm
      have hl : m < l.length := hm
      rw [List.range_succ, List.filterMap_append, ih (by omega), List.take_add_one, List.filterMap_append]
      congr 1
      simp [List.getElem?_eq_getElem hl, List.filterMap_cons]
  have q := h l.length (Nat.le_refl _)
  rw [List.take_length] at q
  exact q
theorem fm_map {α β : Type} (f : α → β) (l : List α) : (List.range l.length).filterMap (fun i => l[i]?.map f) = l.map f := by
  have q := fm_range (fun x => some (f x)) l
  rw [← List.filterMap_eq_map]
  refine Eq.trans ?_ q
  congr 1
  funext i
  cases l[i]? <;> rfl
theorem fm_rmap {β : Type} (f : Nat → β) (n : Nat) : (List.range n).filterMap (fun i => some (f i)) = (List.range n).map f := by
  rw [← List.filterMap_eq_map]
  rfl
section
variable {K : PySem.W.Frag} {xs : List V} {gg : TG} {tt : TT} {te : TE} {vs : List Nat} {σ : L2.St} {H : Hp} {Q : VK} {Qd : Addr → Hp → Prop} {gd : Nat → Option PyData}
/-- the turns of such a comprehension: item x at place i, the heap H1 grown from H -/
def Turns (K : PySem.W.Frag) (gg : TG) (tt : TT) (te : TE) (vs : List Nat) (σ : L2.St) (H : Hp) (n : Nat) (at_ : Nat → V → Prop) (gd : Nat → Option PyData) : Prop :=
  ∀ (i : Nat) (x : V) (H1 : Hp), i < n → at_ i x → Same H H1 → ∀ (Acc : V → Hp → Prop) (Skip : Hp → Prop),
    (∀ v d H2, gd i = some d → Same H1 H2 → Rp K H2 v d → Acc v H2) → (∀ H2, gd i = none → Same H1 H2 → Skip H2) →
    gg x (wipe σ vs) H1 fun σ2 H2 => wipe σ2 vs = wipe σ vs ∧ tt σ2 H2 fun b H3 => if b = true then te σ2 H3 Acc else Skip H3
def LcW (K : PySem.W.Frag) (H : Hp) (D : Addr) (gd : Nat → Option PyData) (i : Nat) (H' : Hp) : Prop := Same H H' ∧ ∃ acc, H' D = some (.lst acc) ∧ RpAll K H' acc ((List.range i).filterMap gd)
theorem lcw_len {H' : Hp} {D : Addr} {i : Nat} {acc : List V} (h : RpAll K H' acc ((List.range i).filterMap gd)) : acc.length ≤ i := by
  rw [h.len]
  have := List.length_filterMap_le gd (List.range i)
  rw [List.length_range] at this
  exact this
theorem lcw_turn {n i : Nat} {x : V} {H' : Hp} {D : Addr} {at_ : Nat → V → Prop} (hn : n ≤ 100000) (hD : H D = none) (T : Turns K gg tt te vs σ H n at_ gd) (hi : i < n) (hx : at_ i x) (p : LcW K H D gd i H') :
    gg x (wipe σ vs) H' fun σ2 H2 => wipe σ2 vs = wipe σ vs ∧ tt σ2 H2 fun b H3 =>
      if b = true then te σ2 H3 fun y H4 => ∃ acc, H4 D = some (.lst acc) ∧ acc.length < sizeLine ∧ LcW K H D gd (i + 1) (upd H4 D (.lst (acc ++ [y]))) else LcW K H D gd (i + 1) H3 := by
  obtain ⟨e, acc, ha, hr⟩ := p
  refine T i x H' hi hx e _ _ (fun v d H2 hg e2 r => ?_) (fun H2 hg e2 => ?_)
  · have h2 := e2 D _ ha
    have hl := lcw_len (D := D) hr
    refine ⟨acc, h2, small' (by omega), (e.trans e2).mut hD, acc ++ [v], upd_same, ?_⟩
    have tf : TF H2 (upd H2 D (.lst (acc ++ [v]))) := TF.upd h2 plain_lst
    rw [List.range_succ, List.filterMap_append]
    refine RpAll.app ((hr.sm e2).tf tf) ?_
    rw [show List.filterMap gd [i] = [d] by simp [hg]]
    exact .one (r.tf tf)
  · refine ⟨e.trans e2, acc, e2 D _ ha, ?_⟩
    rw [List.range_succ, List.filterMap_append, show List.filterMap gd [i] = [] by simp [hg], List.append_nil]
    exact hr.sm e2
/-- over a tuple -/
theorem lcT {a : Addr} (hx : SqT K H a xs) (hn : xs.length ≤ 100000) (gd : Nat → Option PyData) (T : Turns K gg tt te vs σ H xs.length (fun i x => xs[i]? = some x) gd)
    (q : ∀ D H2 acc, H D = none → Same H H2 → H2 D = some (.lst acc) → RpAll K H2 acc ((List.range xs.length).filterMap gd) → Qd D H2) :
    ∀ D, H D = none → ∃ W : Nat → Nat → Hp → Prop, (∃ m, W 0 m (upd H D (.lst []))) ∧ ∀ i m H', W i m H' →
      ((Itt K a).stop i H' ∧ Qd D H') ∨ ((Itt K a).go i H' ∧ ∃ Nx : Hp → Prop, (∀ H', Nx H' → ∃ m', m' < m ∧ W (i + 1) m' H') ∧ ∀ x H1, (Itt K a).yld i H' x H1 → gg x (wipe σ vs) H1 fun σ2 H2 => wipe σ2 vs = wipe σ vs ∧ tt σ2 H2 fun b H3 =>
        if b = true then te σ2 H3 fun y H4 => ∃ acc, H4 D = some (.lst acc) ∧ acc.length < sizeLine ∧ Nx (upd H4 D (.lst (acc ++ [y]))) else Nx H3) := fun D hD =>
  lc_tup (K := K) (a := a) (xs := xs) (Qd := fun H' => Qd D H') (LcW K H D gd) ⟨Same.new hD, [], upd_same, .nil⟩ (fun i H' _ p => p.1.tf.sqT hx) (fun i x H' hi p => lcw_turn hn hD T (List.getElem?_eq_some_iff.mp hi).1 hi p) (fun H' p => q D H' _ hD p.1 p.2.choose_spec.1 p.2.choose_spec.2)
/-- over a list -/
theorem lcL {a : Addr} (hx : SqL K H a xs) (hn : xs.length ≤ 100000) (gd : Nat → Option PyData) (T : Turns K gg tt te vs σ H xs.length (fun i x => xs[i]? = some x) gd)
    (q : ∀ D H2 acc, H D = none → Same H H2 → H2 D = some (.lst acc) → RpAll K H2 acc ((List.range xs.length).filterMap gd) → Qd D H2) :
    ∀ D, H D = none → ∃ W : Nat → Nat → Hp → Prop, (∃ m, W 0 m (upd H D (.lst []))) ∧ ∀ i m H', W i m H' →
      ((Itl K a).stop i H' ∧ Qd D H') ∨ ((Itl K a).go i H' ∧ ∃ Nx : Hp → Prop, (∀ H', Nx H' → ∃ m', m' < m ∧ W (i + 1) m' H') ∧ ∀ x H1, (Itl K a).yld i H' x H1 → gg x (wipe σ vs) H1 fun σ2 H2 => wipe σ2 vs = wipe σ vs ∧ tt σ2 H2 fun b H3 =>
        if b = true then te σ2 H3 fun y H4 => ∃ acc, H4 D = some (.lst acc) ∧ acc.length < sizeLine ∧ Nx (upd H4 D (.lst (acc ++ [y]))) else Nx H3) := fun D hD =>
  lc_list (K := K) (a := a) (xs := xs) (Qd := fun H' => Qd D H') (LcW K H D gd) ⟨Same.new hD, [], upd_same, .nil⟩ (fun i H' _ p => p.1.seq hx) (fun i x H' hi p => lcw_turn hn hD T (List.getElem?_eq_some_iff.mp hi).1 hi p) (fun H' p => q D H' _ hD p.1 p.2.choose_spec.1 p.2.choose_spec.2)
/-- over range(n) -/
theorem lcR {n : Nat} (hn : n ≤ 100000) (gd : Nat → Option PyData) (T : Turns K gg tt te vs σ H n (fun i x => x = .int (i : Int)) gd)
    (q : ∀ D H2 acc, H D = none → Same H H2 → H2 D = some (.lst acc) → RpAll K H2 acc ((List.range n).filterMap gd) → Qd D H2) :
    ∀ D, H D = none → ∃ W : Nat → Nat → Hp → Prop, (∃ m, W 0 m (upd H D (.lst []))) ∧ ∀ i m H', W i m H' →
      ((Itr 0 n).stop i H' ∧ Qd D H') ∨ ((Itr 0 n).go i H' ∧ ∃ Nx : Hp → Prop, (∀ H', Nx H' → ∃ m', m' < m ∧ W (i + 1) m' H') ∧ ∀ x H1, (Itr 0 n).yld i H' x H1 → gg x (wipe σ vs) H1 fun σ2 H2 => wipe σ2 vs = wipe σ vs ∧ tt σ2 H2 fun b H3 =>
        if b = true then te σ2 H3 fun y H4 => ∃ acc, H4 D = some (.lst acc) ∧ acc.length < sizeLine ∧ Nx (upd H4 D (.lst (acc ++ [y]))) else Nx H3) := fun D hD =>
  lc_range (lo := 0) (n := n) (Qd := fun H' => Qd D H') (LcW K H D gd) ⟨Same.new hD, [], upd_same, .nil⟩ (fun i H' hi p => lcw_turn hn hD T hi (by rw [Int.zero_add]) p) (fun H' p => q D H' _ hD p.1 p.2.choose_spec.1 p.2.choose_spec.2)
/-! no test: the list L comes -/
theorem fm_list {α : Type} (L : List α) : (List.range L.length).filterMap (fun i => L[i]?) = L := by
  have q := fm_range (fun x => some x) L
  rw [List.filterMap_some] at q
  refine Eq.trans ?_ q
  congr 1
  funext i
  cases L[i]? <;> rfl
def TurnsL (K : PySem.W.Frag) (gg : TG) (te : TE) (vs : List Nat) (σ : L2.St) (H : Hp) (at_ : Nat → V → Prop) (L : List PyData) : Prop :=
  ∀ (i : Nat) (x : V) (d : PyData) (H1 : Hp), L[i]? = some d → at_ i x → Same H H1 → ∀ (Acc : V → Hp → Prop), (∀ v H2, Same H1 H2 → Rp K H2 v d → Acc v H2) →
    gg x (wipe σ vs) H1 fun σ2 H2 => wipe σ2 vs = wipe σ vs ∧ te σ2 H2 Acc
theorem turns_L {j : Nat} {at_ : Nat → V → Prop} {L : List PyData} (T : TurnsL K (gName j) te vs σ H at_ L) : Turns K (gName j) tYes te vs σ H L.length at_ (fun i => L[i]?) := by
  intro i x H1 hi hx e Acc Skip ha hs
  obtain ⟨h1, h2⟩ := T i x L[i] H1 (List.getElem?_eq_getElem hi) hx e Acc fun v H2 e2 r => ha v _ H2 (List.getElem?_eq_getElem hi) e2 r
  exact ⟨h1, iteT (B := Skip H1) h2⟩
theorem lcT1 {j : Nat} {a : Addr} {L : List PyData} (hx : SqT K H a xs) (hL : L.length = xs.length) (hn : xs.length ≤ 100000) (T : TurnsL K (gName j) te vs σ H (fun i x => xs[i]? = some x) L)
    (q : ∀ D H2 acc, H D = none → Same H H2 → H2 D = some (.lst acc) → RpAll K H2 acc L → Qd D H2) :
    ∀ D, H D = none → ∃ W : Nat → Nat → Hp → Prop, (∃ m, W 0 m (upd H D (.lst []))) ∧ ∀ i m H', W i m H' →
      ((Itt K a).stop i H' ∧ Qd D H') ∨ ((Itt K a).go i H' ∧ ∃ Nx : Hp → Prop, (∀ H', Nx H' → ∃ m', m' < m ∧ W (i + 1) m' H') ∧ ∀ x H1, (Itt K a).yld i H' x H1 → (gName j) x (wipe σ vs) H1 fun σ2 H2 => wipe σ2 vs = wipe σ vs ∧ tYes σ2 H2 fun b H3 =>
        if b = true then te σ2 H3 fun y H4 => ∃ acc, H4 D = some (.lst acc) ∧ acc.length < sizeLine ∧ Nx (upd H4 D (.lst (acc ++ [y]))) else Nx H3) :=
  lcT hx hn (fun i => L[i]?) (by rw [← hL]; exact turns_L T) (fun D H2 acc h1 h2 h3 h4 => q D H2 acc h1 h2 h3 (by rw [← hL, fm_list] at h4; exact h4))
theorem lcL1 {j : Nat} {a : Addr} {L : List PyData} (hx : SqL K H a xs) (hL : L.length = xs.length) (hn : xs.length ≤ 100000) (T : TurnsL K (gName j) te vs σ H (fun i x => xs[i]? = some x) L)
    (q : ∀ D H2 acc, H D = none → Same H H2 → H2 D = some (.lst acc) → RpAll K H2 acc L → Qd D H2) :
    ∀ D, H D = none → ∃ W : Nat → Nat → Hp → Prop, (∃ m, W 0 m (upd H D (.lst []))) ∧ ∀ i m H', W i m H' →
      ((Itl K a).stop i H' ∧ Qd D H') ∨ ((Itl K a).go i H' ∧ ∃ Nx : Hp → Prop, (∀ H', Nx H' → ∃ m', m' < m ∧ W (i + 1) m' H') ∧ ∀ x H1, (Itl K a).yld i H' x H1 → (gName j) x (wipe σ vs) H1 fun σ2 H2 => wipe σ2 vs = wipe σ vs ∧ tYes σ2 H2 fun b H3 =>
        if b = true then te σ2 H3 fun y H4 => ∃ acc, H4 D = some (.lst acc) ∧ acc.length < sizeLine ∧ Nx (upd H4 D (.lst (acc ++ [y]))) else Nx H3) :=
  lcL hx hn (fun i => L[i]?) (by rw [← hL]; exact turns_L T) (fun D H2 acc h1 h2 h3 h4 => q D H2 acc h1 h2 h3 (by rw [← hL, fm_list] at h4; exact h4))
theorem lcR1 {j n : Nat} {L : List PyData} (hL : L.length = n) (hn : n ≤ 100000) (T : TurnsL K (gName j) te vs σ H (fun i x => x = .int (i : Int)) L)
    (q : ∀ D H2 acc, H D = none → Same H H2 → H2 D = some (.lst acc) → RpAll K H2 acc L → Qd D H2) :
    ∀ D, H D = none → ∃ W : Nat → Nat → Hp → Prop, (∃ m, W 0 m (upd H D (.lst []))) ∧ ∀ i m H', W i m H' →
      ((Itr 0 n).stop i H' ∧ Qd D H') ∨ ((Itr 0 n).go i H' ∧ ∃ Nx : Hp → Prop, (∀ H', Nx H' → ∃ m', m' < m ∧ W (i + 1) m' H') ∧ ∀ x H1, (Itr 0 n).yld i H' x H1 → (gName j) x (wipe σ vs) H1 fun σ2 H2 => wipe σ2 vs = wipe σ vs ∧ tYes σ2 H2 fun b H3 =>
        if b = true then te σ2 H3 fun y H4 => ∃ acc, H4 D = some (.lst acc) ∧ acc.length < sizeLine ∧ Nx (upd H4 D (.lst (acc ++ [y]))) else Nx H3) :=
  lcR hn (fun i => L[i]?) (by rw [← hL]; exact turns_L T) (fun D H2 acc h1 h2 h3 h4 => q D H2 acc h1 h2 h3 (by rw [← hL, fm_list] at h4; exact h4))
/-- tuple(list) -/
theorem tupOf {D : Addr} {acc : List V} {ds : List PyData} (h : H D = some (.lst acc)) (r : RpAll K H acc ds) (q : ∀ p H', Same H H' → Rp K H' (.ref p) (.tuple ds) → Q (.ref p) H') : kTup K (.ref D) H Q :=
  .inl ⟨D, acc, rfl, .inl (.inl h), fun p hp => q p _ (Same.new hp) (Rp.new r hp)⟩
theorem tupOf' {D : Addr} {acc : List V} {ds : List PyData} (h : SqL K H D acc) (r : RpAll K H acc ds) (q : ∀ p H', Same H H' → Rp K H' (.ref p) (.tuple ds) → Q (.ref p) H') : kTup K (.ref D) H Q :=
  .inl ⟨D, acc, rfl, h, fun p hp => q p _ (Same.new hp) (Rp.new r hp)⟩
end
end U

namespace U
open PySem PySem.Spec PyProof.Rows L2
/-! ### value_at -/
def valueM (p : Int) (poly : List Int) (x : Int) : Int := poly.foldr (fun c acc => (acc * x + c) % p) 0
theorem drop_get {α : Type} {l : List α} {i : Nat} {c : α} (h : l[i]? = some c) : l.drop i = c :: l.drop (i + 1) := by
  obtain ⟨h1, h2⟩ := List.getElem?_eq_some_iff.mp h
  rw [List.drop_eq_getElem_cons h1, h2]
theorem valueM_bd {p : Int} (hp : 0 < p) (poly : List Int) (x : Int) : 0 ≤ valueM p poly x ∧ valueM p poly x < p := by
  cases poly with
  | nil => exact ⟨Int.le_refl _, hp⟩
  | cons a r => exact ⟨Int.emod_nonneg _ (by omega), Int.emod_lt_of_pos _ hp⟩
/-- numbers that the walk may multiply -/
def Sm (x : Int) : Prop := -(2 ^ 30) < x ∧ x < 2 ^ 30
section
variable {P : Program} {w : World} {K : PySem.W.Frag} {mg : Str → Option Value} {base : Heap} {cP cD : Addr}
def sp_value_at (K : PySem.W.Frag) : Sp := fun vs H Q _ => ∃ (p x : Int) (v : V) (poly : List Int), vs = [.int p, v, .int x] ∧ Rp K H v (PI poly) ∧ 0 < p ∧ p < 2 ^ 30 ∧ Q (.int (valueM p poly x)) H
theorem Txt.c_value_at (T : Txt K mg cP cD) : C8.Cal P w K mg base 1 "value_at" (sp_value_at K) [] := by
  refine T.d_value_at.cal sc_value_at (fun vs H Q E h => ?_) (fun f cdv A outer s H vs Q E hr h => ?_)
  · obtain ⟨p, x, v, poly, rfl, _⟩ := h
    rfl
  · obtain ⟨p, x, v, poly, rfl, hv, hp0, hp1, q⟩ := h
    obtain ⟨a, rfl, hT⟩ := hv.pi
    refine ⟨_, (pss_cons (ps_set (i := 3) sc_value_at.nd rfl (Or.inl rfl) pe_int)
      (pss_cons (ps_for PassesOwn.never rfl (RT.pi_revA (by rfl) T.n_reversed (pv 1)) (pg_name (i := 4) sc_value_at.nd rfl (Or.inl rfl))
        (pss_one (ps_set (i := 3) sc_value_at.nd rfl (Or.inl rfl) (pe_op op_mod (pe_callTy call_int1 (by rfl) T.n_int (by decide +kernel) (pa_cons (pe_op op_add (pe_op op_mul (pv 3) (pv 2)) (pv 4)) pa_nil)) (pv 0)))))
      (pss_one (ps_ret (pv 3))))), ?_⟩
    refine ⟨.ref a, rfl, a, _, rfl, .inr ⟨hT, RT.for_ItvT (K := K) (a := a) (xs := poly.map V.int) (fun i σ H' => ∃ y, σ = [some (.int p), some (.ref a), some (.int x), some (.int (valueM p (poly.drop (poly.length - i)) x)), y] ∧ H' = H)
      ⟨none, by rw [Nat.sub_zero, List.drop_length]; rfl, rfl⟩ (fun i σ H' ⟨y, _, e⟩ => by rw [e]; exact hT) ?_ ?_⟩⟩
    · rintro i y σ H' hi hy ⟨z, rfl, rfl⟩
      rw [List.length_map] at hi hy
      rw [List.getElem?_map] at hy
      obtain ⟨c, hc, rfl⟩ := Option.map_eq_some_iff.mp hy
      have hb := valueM_bd hp0 (poly.drop (poly.length - i)) x
      refine ⟨_, rfl, _, rfl, _, _, rfl, rfl, .inl ⟨by omega, by omega⟩, _, rfl, _, _, rfl, rfl, .inl ⟨_, rfl, _, rfl, _, _, rfl, rfl, hp0, ?_⟩⟩
      refine ⟨some (.int c), ?_, rfl⟩
      have e1 : poly.length - (i + 1) = poly.length - 1 - i := by omega
      have e2 : poly.length - i = poly.length - 1 - i + 1 := by omega
      rw [e1, drop_get hc, ← e2]
      rfl
    · rintro σ H' ⟨z, rfl, rfl⟩
      refine ⟨_, rfl, ?_⟩
      rw [List.length_map, Nat.sub_self, List.drop_zero]
      exact q
end
end U

namespace U
open PySem PySem.Spec PyProof.Rows L2
/-! ### added, scaled, with_root, roots_at -/
def scaledM (p c : Int) (poly : List Int) : List Int := poly.map fun z => (c * z) % p
def addedM (p : Int) (a b : List Int) : List Int := List.zipWith (fun x y => (x + y) % p) a b
def withRootM (p : Int) (poly : List Int) (pt : Int) : List Int := addedM p (0 :: poly) (scaledM p (0 - pt) poly ++ [0])
def rootsM (p : Int) (pts : List Int) : List Int := pts.foldl (withRootM p) [1 % p]
theorem scaledM_len (p c : Int) (poly : List Int) : (scaledM p c poly).length = poly.length := List.length_map ..
theorem addedM_len {p : Int} {a b : List Int} (h : a.length = b.length) : (addedM p a b).length = a.length := by
  unfold addedM
  rw [List.length_zipWith, h, Nat.min_self]
theorem withRootM_len (p : Int) (poly : List Int) (pt : Int) : (withRootM p poly pt).length = poly.length + 1 := by
  unfold withRootM
  rw [addedM_len (by rw [List.length_cons, List.length_append, scaledM_len]; rfl), List.length_cons]
theorem rootsM_len' (p : Int) : ∀ (pts poly : List Int), (pts.foldl (withRootM p) poly).length = poly.length + pts.length
  | [], _ => rfl
  | a :: r, poly => by
    rw [List.foldl_cons, rootsM_len' p r, withRootM_len, List.length_cons]
    omega
theorem rootsM_len (p : Int) (pts : List Int) : (rootsM p pts).length = pts.length + 1 := by
  unfold rootsM
  rw [rootsM_len']
  show 1 + pts.length = _
  omega
theorem foldl_take {α β : Type} (f : β → α → β) (b : β) {l : List α} {i : Nat} {x : α} (h : l[i]? = some x) : (l.take (i + 1)).foldl f b = f ((l.take i).foldl f b) x := by
  rw [List.take_add_one, h, List.foldl_append]
  rfl
section
variable {P : Program} {w : World} {K : PySem.W.Frag} {mg : Str → Option Value} {base : Heap} {cP cD : Addr}
def sp_added (K : PySem.W.Frag) : Sp := fun vs H Q _ => ∃ (p : Int) (v u : V) (a b : List Int), vs = [.int p, v, u] ∧ Rp K H v (PI a) ∧ Rp K H u (PI b) ∧ a.length = b.length ∧ a.length ≤ 1000 ∧ 0 < p ∧
  ∀ r H', Same H H' → Rp K H' r (PI (addedM p a b)) → Q r H'
theorem Txt.c_added (T : Txt K mg cP cD) : C8.Cal P w K mg base 1 "added" (sp_added K) [] := by
  refine T.d_added.cal sc_added (fun vs H Q E h => ?_) (fun f cdv A outer s H vs Q E hr h => ?_)
  · obtain ⟨p, v, u, a, b, rfl, _⟩ := h
    rfl
  · obtain ⟨p, v, u, a, b, rfl, hv, hu, hl, hz, hp0, q⟩ := h
    obtain ⟨pa, rfl, hA⟩ := hv.pi
    obtain ⟨pb, rfl, hB⟩ := hu.pi
    refine ⟨_, (pss_one (ps_ret (pe_tupleOf (by rfl) T.n_tuple (pe_lc (own := [("k", 3)]) (g := gName 3) rfl sc_added.nd (pi_range1 (by rfl) T.n_range (pa_cons (pe_callB (lenS K) (by rfl) T.n_len PySem.boot_len (pa_cons (pv 1) pa_nil)) pa_nil)) (blkOk_by (N := ["p", "one", "other", "k"]) (sc := defScope s_added) (by decide +kernel)) (fun _ _ _ _ _ => pg_name (i := 3) sc_added.nd rfl (Or.inl rfl)) (fun _ _ _ _ _ => pts_nil) (fun _ _ _ _ _ => (pe_op op_mod (pe_callTy call_int1 (by rfl) T.n_int (by decide +kernel) (pa_cons (pe_op op_add (pe_ix (ixT K) (pv 1) (pv 3) (fun _ _ => rfl)) (pe_ix (ixT K) (pv 2) (pv 3) (fun _ _ => rfl))) pa_nil)) (pv 0))))))), ?_⟩
    have hz2 := addedM_len (p := p) hl
    refine ⟨_, rfl, pa, _, rfl, .inr hA, _, rfl, by simp only [List.length_map]; omega, by simp only [List.length_map]; omega, lcR1 (L := (addedM p a b).map PyData.int) (by simp only [List.length_map]; rw [hz2]; rfl) (by simp only [List.length_map]; omega) (fun i x d H1 hd hx e Acc k => ?_) fun D H2 acc hD e ha r => tupOf ha r fun c H' e' rc => q _ _ (e.trans e') rc⟩
    subst hx
    rw [List.getElem?_map] at hd
    obtain ⟨z, hz3, rfl⟩ := Option.map_eq_some_iff.mp hd
    have hi : i < a.length := by
      have := (List.getElem?_eq_some_iff.mp hz3).1
      omega
    have hz4 : (a[i] + b[i]) % p = z := by
      unfold addedM at hz3
      rw [List.getElem?_zipWith, List.getElem?_eq_getElem hi, List.getElem?_eq_getElem (by omega)] at hz3
      exact Option.some.inj hz3
    refine ⟨rfl, _, rfl, _, rfl, _, _, _, _, rfl, rfl, e.tf.sqT hA, map_at hi, _, rfl, _, rfl, _, _, _, _, rfl, rfl, e.tf.sqT hB, map_at (show i < b.length by omega), _, _, rfl, rfl, .inl ⟨_, rfl, _, rfl, _, _, rfl, rfl, hp0, ?_⟩⟩
    exact k _ _ (Same.refl _) (by rw [← hz4]; exact .int _)
def sp_scaled (K : PySem.W.Frag) : Sp := fun vs H Q _ => ∃ (p c : Int) (v : V) (a : List Int), vs = [.int p, .int c, v] ∧ Rp K H v (PI a) ∧ a.length ≤ 1000 ∧ 0 < p ∧ Sm c ∧
  ∀ r H', Same H H' → Rp K H' r (PI (scaledM p c a)) → Q r H'
theorem Txt.c_scaled (T : Txt K mg cP cD) : C8.Cal P w K mg base 1 "scaled" (sp_scaled K) [] := by
  refine T.d_scaled.cal sc_scaled (fun vs H Q E h => ?_) (fun f cdv A outer s H vs Q E hr h => ?_)
  · obtain ⟨p, c, v, a, rfl, _⟩ := h
    rfl
  · obtain ⟨p, c, v, a, rfl, hv, hz, hp0, hc, q⟩ := h
    obtain ⟨pa, rfl, hA⟩ := hv.pi
    refine ⟨_, (pss_one (ps_ret (pe_tupleOf (by rfl) T.n_tuple (pe_lc (own := [("number", 3)]) (g := gName 3) rfl sc_scaled.nd (pi_tup (pv 2)) (blkOk_by (N := ["p", "c", "poly", "number"]) (sc := defScope s_scaled) (by decide +kernel)) (fun _ _ _ _ _ => pg_name (i := 3) sc_scaled.nd rfl (Or.inl rfl)) (fun _ _ _ _ _ => pts_nil) (fun _ _ _ _ _ => (pe_op op_mod (pe_callTy call_int1 (by rfl) T.n_int (by decide +kernel) (pa_cons (pe_op op_mul (pv 1) (pv 3)) pa_nil)) (pv 0))))))), ?_⟩
    refine ⟨_, rfl, pa, rfl, ⟨_, hA⟩, lcT1 (L := (scaledM p c a).map PyData.int) hA (by simp [scaledM_len]) (by rw [List.length_map]; omega) (fun i x d H1 hd hx e Acc k => ?_) fun D H2 acc hD e ha r => tupOf ha r fun c H' e' rc => q _ _ (e.trans e') rc⟩
    rw [List.getElem?_map] at hd hx
    obtain ⟨y, hy, rfl⟩ := Option.map_eq_some_iff.mp hx
    obtain ⟨z, hz3, rfl⟩ := Option.map_eq_some_iff.mp hd
    have hz4 : (c * y) % p = z := by
      unfold scaledM at hz3
      rw [List.getElem?_map, hy] at hz3
      exact Option.some.inj hz3
    refine ⟨rfl, _, rfl, _, rfl, _, _, rfl, rfl, .inl ⟨by have := hc.1; omega, by have := hc.2; omega⟩, .inl ⟨_, rfl, _, rfl, _, _, rfl, rfl, hp0, ?_⟩⟩
    exact k _ _ (Same.refl _) (by rw [← hz4]; exact .int _)
def sp_with_root (K : PySem.W.Frag) : Sp := fun vs H Q _ => ∃ (p pt : Int) (v : V) (a : List Int), vs = [.int p, v, .int pt] ∧ Rp K H v (PI a) ∧ a.length ≤ 500 ∧ 0 < p ∧ Sm pt ∧
  ∀ r H', Same H H' → Rp K H' r (PI (withRootM p a pt)) → Q r H'
theorem Txt.c_with_root (T : Txt K mg cP cD) : C8.Cal P w K mg base 2 "with_root" (sp_with_root K) [] := by
  refine T.d_with_root.cal sc_with_root (fun vs H Q E h => ?_) (fun f cdv A outer s H vs Q E hr h => ?_)
  · obtain ⟨p, c, v, a, rfl, _⟩ := h
    rfl
  · obtain ⟨p, pt, v, a, rfl, hv, hz, hp0, hc, q⟩ := h
    obtain ⟨pa, rfl, hA⟩ := hv.pi
    have T_c_scaled := T.c_scaled (P := P) (w := w) (base := base)
    have T_c_added := T.c_added (P := P) (w := w) (base := base)
    refine ⟨_, (pss_cons (ps_set (i := 3) sc_with_root.nd rfl (Or.inl rfl) (pe_op (catT K) (pe_tup (pa_cons pe_int pa_nil)) (pv 1)))
      (pss_cons (ps_set (i := 4) sc_with_root.nd rfl (Or.inl rfl) (pe_op (catT K) (C8.pe_c T_c_scaled hr (by decide) (by rfl) (pa_cons (pv 0) (pa_cons (pe_op op_sub pe_int (pv 2)) (pa_cons (pv 1) pa_nil)))) (pe_tup (pa_cons pe_int pa_nil))))
      (pss_one (ps_ret (C8.pe_c T_c_added hr (by decide) (by rfl) (pa_cons (pv 0) (pa_cons (pv 3) (pa_cons (pv 4) pa_nil)))))))), ?_⟩
    refine ⟨by show 1 ≤ sizeLine; decide, fun t ht => ⟨_, rfl, catA sqT_new ((Same.new ht).tf.sqT hA) (by simp only [List.length_map, List.length_cons, List.length_nil]; omega) fun c1 H1 e1 r1 => ?_⟩⟩
    have s1 := (Same.new (o := .tup [.int 0]) ht).trans e1
    refine ⟨_, rfl, _, rfl, _, _, rfl, rfl, _, rfl, p, 0 - pt, _, a, rfl, hv.sm s1, by omega, hp0, ⟨by have := hc.1; have := hc.2; omega, by have := hc.1; have := hc.2; omega⟩, fun r2 H2 e2 rp2 => ?_⟩
    obtain ⟨b2, rfl, hB2⟩ := rp2.pi
    have l2 := scaledM_len p (0 - pt) a
    refine ⟨by show 1 ≤ sizeLine; decide, fun t2 ht2 => catA ((Same.new ht2).tf.sqT hB2) sqT_new (by simp only [List.length_map, List.length_cons, List.length_nil]; omega) fun c3 H3 e3 r3 => ?_⟩
    have s3 := (Same.new (o := .tup [.int 0]) ht2).trans e3
    refine ⟨_, rfl, _, rfl, _, rfl, p, _, _, 0 :: a, scaledM p (0 - pt) a ++ [0], rfl, .ofPi (s3.tf.sqT (e2.tf.sqT r1)), .ofPi (by rw [List.map_append]; exact r3), by rw [List.length_append, l2]; rfl, by rw [List.length_cons]; omega, hp0, fun r4 H4 e4 rp4 => ?_⟩
    exact q _ _ (((s1.trans e2).trans s3).trans e4) rp4
def sp_roots_at (K : PySem.W.Frag) : Sp := fun vs H Q _ => ∃ (p : Int) (v : V) (pts : List Int), vs = [.int p, v] ∧ Rp K H v (PI pts) ∧ pts.length ≤ 400 ∧ 0 < p ∧ (∀ x ∈ pts, Sm x) ∧
  ∀ r H', Same H H' → Rp K H' r (PI (rootsM p pts)) → Q r H'
theorem Txt.c_roots_at (T : Txt K mg cP cD) : C8.Cal P w K mg base 3 "roots_at" (sp_roots_at K) [] := by
  refine T.d_roots_at.cal sc_roots_at (fun vs H Q E h => ?_) (fun f cdv A outer s H vs Q E hr h => ?_)
  · obtain ⟨p, v, a, rfl, _⟩ := h
    rfl
  · obtain ⟨p, v, pts, rfl, hv, hz, hp0, hc, q⟩ := h
    obtain ⟨pa, rfl, hA⟩ := hv.pi
    have T_c_with_root := T.c_with_root (P := P) (w := w) (base := base)
    refine ⟨_, (pss_cons (ps_set (i := 2) sc_roots_at.nd rfl (Or.inl rfl) (pe_tup (pa_cons (pe_op op_mod (pe_callTy call_int1 (by rfl) T.n_int (by decide +kernel) (pa_cons pe_int pa_nil)) (pv 0)) pa_nil)))
      (pss_cons (ps_for PassesOwn.never rfl (pi_tup (pv 1)) (pg_name (i := 3) sc_roots_at.nd rfl (Or.inl rfl))
        (pss_one (ps_set (i := 2) sc_roots_at.nd rfl (Or.inl rfl) (C8.pe_c T_c_with_root hr (by decide) (by rfl) (pa_cons (pv 0) (pa_cons (pv 2) (pa_cons (pv 3) pa_nil)))))))
      (pss_one (ps_ret (pv 2))))), ?_⟩
    refine .inl ⟨1, rfl, _, rfl, _, _, rfl, rfl, hp0, by show 1 ≤ sizeLine; decide, fun t ht => ?_⟩
    refine ⟨_, rfl, pa, rfl, ⟨_, (Same.new ht).tf.sqT hA⟩, for_tup (K := K) (a := pa) (xs := pts.map V.int) (fun i σ H' => ∃ u z, σ = [some (.int p), some (.ref pa), some u, z] ∧ Same H H' ∧ Rp K H' u (PI (rootsM p (pts.take i))))
      ⟨_, none, rfl, Same.new ht, .ofPi sqT_new⟩ (fun i σ H' _ ⟨_, _, _, e, _⟩ => e.tf.sqT hA) ?_ ?_⟩
    · rintro i y σ H1 hy ⟨u, z, rfl, e, r⟩
      rw [List.getElem?_map] at hy
      obtain ⟨x, hx, rfl⟩ := Option.map_eq_some_iff.mp hy
      have hi := (List.getElem?_eq_some_iff.mp hx).1
      refine ⟨_, rfl, _, rfl, _, rfl, p, x, u, rootsM p (pts.take i), rfl, r, by rw [rootsM_len, List.length_take]; omega, hp0, hc x (List.mem_of_getElem? hx), fun r2 H2 e2 rp2 => ?_⟩
      refine ⟨r2, some (.int x), rfl, e.trans e2, ?_⟩
      unfold rootsM
      rw [foldl_take _ _ hx]
      exact rp2
    · rintro σ H1 ⟨u, z, rfl, e, r⟩
      refine ⟨_, rfl, ?_⟩
      rw [List.length_map, List.take_length] at r
      exact q _ _ e r
end
end U

namespace U
open PySem PySem.Spec PyProof.Rows L2
/-! ### power, inverse -/
def powM (p a : Int) (k : Nat) : Int := a ^ k % p
theorem emod_pow (p a : Int) : ∀ k : Nat, (a % p) ^ k % p = a ^ k % p
  | 0 => by rw [Int.pow_zero, Int.pow_zero]
  | k + 1 => by rw [Int.pow_succ, Int.pow_succ, Int.mul_emod, emod_pow p a k, ← Int.mul_emod, Int.mul_emod, Int.emod_emod_of_dvd _ (Int.dvd_refl p), ← Int.mul_emod]
theorem pow_two_mul (s : Int) : ∀ m : Nat, s ^ (2 * m) = (s * s) ^ m
  | 0 => by rw [Nat.mul_zero, Int.pow_zero, Int.pow_zero]
  | m + 1 => by rw [show 2 * (m + 1) = 2 * m + 1 + 1 by omega, Int.pow_succ, Int.pow_succ, pow_two_mul s m, Int.pow_succ, Int.mul_assoc]
theorem emod_mul_pow (p x s : Int) (m : Nat) : (x * (s * s % p) ^ m) % p = (x * s ^ (2 * m)) % p := by
  rw [Int.mul_emod, emod_pow, ← Int.mul_emod, pow_two_mul]
theorem pow_even {p f s : Int} {k m : Nat} (h : k = 2 * m) : (f * (s * s % p) ^ m) % p = (f * s ^ k) % p := by rw [h, emod_mul_pow]
theorem pow_odd {p f s : Int} {k m : Nat} (h : k = 2 * m + 1) : (f * s % p * (s * s % p) ^ m) % p = (f * s ^ k) % p := by
  rw [emod_mul_pow, h, Int.pow_succ, Int.mul_emod, Int.emod_emod_of_dvd _ (Int.dvd_refl p), ← Int.mul_emod, Int.mul_assoc, Int.mul_comm s]
def inverseM (p a : Int) : Int := if 2 < p then powM p a (p - 2).toNat else a
def basisM (p : Int) (pts : List Int) (i : Nat) : List Int :=
  scaledM p (inverseM p (valueM p (rootsM p (pts.take i ++ pts.drop (i + 1))) (pts.getD i 0))) (rootsM p (pts.take i ++ pts.drop (i + 1)))
def basesM (p : Int) (pts : List Int) : List (List Int) := (List.range pts.length).map (basisM p pts)
def stepM (p : Int) (pts vals : List Int) (poly : List Int) (i : Nat) : List Int := addedM p poly (scaledM p (vals.getD i 0) ((basesM p pts).getD i []))
def throughM (p : Int) (pts vals : List Int) : List Int := (List.range pts.length).foldl (stepM p pts vals) (List.replicate pts.length 0)
def weightsM (p : Int) (pts : List Int) (x : Int) : List Int := (basesM p pts).map fun poly => valueM p poly x
theorem basesM_len (p : Int) (pts : List Int) : (basesM p pts).length = pts.length := by
  unfold basesM
  rw [List.length_map, List.length_range]
theorem basisM_len {p : Int} {pts : List Int} {i : Nat} (h : i < pts.length) : (basisM p pts i).length = pts.length := by
  unfold basisM
  rw [scaledM_len, rootsM_len, List.length_append, List.length_take, List.length_drop]
  omega
theorem basesM_get {p : Int} {pts : List Int} {i : Nat} (h : i < pts.length) : (basesM p pts)[i]? = some (basisM p pts i) := by
  unfold basesM
  exact map_get (by rw [List.getElem?_range h])
theorem stepM_len {p : Int} {pts vals poly : List Int} {i : Nat} (h : i < pts.length) (hl : poly.length = pts.length) : (stepM p pts vals poly i).length = pts.length := by
  have e : (basesM p pts).getD i [] = basisM p pts i := by rw [List.getD_eq_getElem?_getD, basesM_get h]; rfl
  unfold stepM
  rw [e, addedM_len (by rw [scaledM_len, basisM_len h, hl]), hl]
theorem through_part {p : Int} {pts vals : List Int} : ∀ (i : Nat), i ≤ pts.length → ((List.range i).foldl (stepM p pts vals) (List.replicate pts.length 0)).length = pts.length
  | 0, _ => List.length_replicate ..
  | i + 1, h => by
    rw [List.range_succ, List.foldl_append]
    exact stepM_len (by omega) (through_part i (by omega))
theorem inverseM_sm {p a : Int} (hp : 0 < p) (h30 : p < 2 ^ 30) (ha : 0 ≤ a ∧ a < p) : Sm (inverseM p a) := by
  unfold inverseM Sm
  split
  · unfold powM
    have h1 := Int.emod_nonneg (a ^ (p - 2).toNat) (show p ≠ 0 by omega)
    have h2 := Int.emod_lt_of_pos (a ^ (p - 2).toNat) hp
    omega
  · omega
section
variable {P : Program} {w : World} {K : PySem.W.Frag} {mg : Str → Option Value} {base : Heap} {cP cD : Addr}
def PowW (p a : Int) (K : Nat) (H : Hp) (m : Nat) (σ : L2.St) (H' : Hp) : Prop :=
  H' = H ∧ ∃ (f s j : Int), σ = [some (.int p), some (.int a), some (.int j), some (.int f), some (.int s)] ∧ m = j.toNat ∧ 0 ≤ j ∧ 0 ≤ f ∧ f < p ∧ 0 ≤ s ∧ s < p ∧ f * s ^ j.toNat % p = powM p a K
def sp_power : Sp := fun vs H Q _ => ∃ (p a : Int) (k : Int), vs = [.int p, .int a, .int k] ∧ 0 < p ∧ p < 2 ^ 30 ∧ 0 ≤ k ∧ k < 2 ^ 30 ∧ Q (.int (powM p a k.toNat)) H
theorem Txt.c_power (T : Txt K mg cP cD) : C8.Cal P w K mg base 1 "power" sp_power [] := by
  refine T.d_power.cal sc_power (fun vs H Q E h => ?_) (fun f cdv A outer s H vs Q E hr h => ?_)
  · obtain ⟨p, a, k, rfl, _⟩ := h
    rfl
  · obtain ⟨p, a, k, rfl, hp0, hp1, hk0, hk1, q⟩ := h
    refine ⟨_, (pss_cons (ps_set (i := 3) sc_power.nd rfl (Or.inl rfl) (pe_op op_mod (pe_callTy call_int1 (by rfl) T.n_int (by decide +kernel) (pa_cons pe_int pa_nil)) (pv 0)))
      (pss_cons (ps_set (i := 4) sc_power.nd rfl (Or.inl rfl) (pe_op op_mod (pe_callTy call_int1 (by rfl) T.n_int (by decide +kernel) (pa_cons (pv 1) pa_nil)) (pv 0)))
      (pss_cons (ps_while PassesOwn.never (pt_cmpR op_gt (pv 2) pe_int (nomark _))
        (pss_cons (ps_if (pt_cmpR op_eq (pe_op op_mod (pe_callTy call_int1 (by rfl) T.n_int (by decide +kernel) (pa_cons (pv 2) pa_nil)) pe_int) pe_int (nomark _))
          (pss_one (ps_set (i := 3) sc_power.nd rfl (Or.inl rfl) (pe_op op_mod (pe_callTy call_int1 (by rfl) T.n_int (by decide +kernel) (pa_cons (pe_op op_mul (pv 3) (pv 4)) pa_nil)) (pv 0))))
          pss_nil)
        (pss_cons (ps_set (i := 4) sc_power.nd rfl (Or.inl rfl) (pe_op op_mod (pe_callTy call_int1 (by rfl) T.n_int (by decide +kernel) (pa_cons (pe_op op_mul (pv 4) (pv 4)) pa_nil)) (pv 0)))
        (pss_one (ps_set (i := 2) sc_power.nd rfl (Or.inl rfl) (pe_op op_fdiv (pv 2) pe_int))))))
      (pss_one (ps_ret (pv 3)))))), ?_⟩
    refine Or.inl ⟨1, rfl, _, rfl, _, _, rfl, rfl, hp0, _, rfl, Or.inl ⟨_, rfl, _, rfl, _, _, rfl, rfl, hp0, ?_⟩⟩
    refine ⟨PowW p a k.toNat H, ⟨k.toNat, rfl, _, _, k, rfl, rfl, hk0, Int.emod_nonneg _ (by omega), Int.emod_lt_of_pos _ hp0, Int.emod_nonneg _ (by omega), Int.emod_lt_of_pos _ hp0, ?_⟩, ?_⟩
    · unfold powM
      rw [Int.mul_emod, Int.emod_emod_of_dvd _ (Int.dvd_refl p), emod_pow, ← Int.mul_emod, Int.one_mul]
    · rintro m σ H' ⟨rfl, f, s, j, rfl, rfl, hj, hf0, hf1, hs0, hs1, e⟩
      refine ⟨_, rfl, _, _, rfl, rfl, _, rfl, ?_⟩
      refine ite2 (fun hc => ?_) (fun hc => ?_)
      · have hj0 : 0 < j := of_decide_eq_true hc
        refine ⟨fun σ' H1 => ∃ m', m' < j.toNat ∧ PowW p a k.toNat H' m' σ' H1, fun _ _ h => h, ?_⟩
        refine ⟨_, rfl, Or.inl ⟨_, rfl, _, _, rfl, rfl, by show (0 : Int) < 2; decide, rfl, _, rfl, ?_⟩⟩
        refine ite2 (fun hc2 => ?_) (fun hc2 => ?_)
        · have ho : V.int (j % 2) = V.int 1 := of_decide_eq_true hc2
          have ho : j % 2 = 1 := V.int.inj ho
          refine ⟨_, rfl, _, rfl, _, _, rfl, rfl, .inl ⟨by omega, by omega⟩, Or.inl ⟨_, rfl, _, rfl, _, _, rfl, rfl, hp0, ?_⟩⟩
          refine ⟨_, rfl, _, rfl, _, _, rfl, rfl, .inl ⟨by omega, by omega⟩, Or.inl ⟨_, rfl, _, rfl, _, _, rfl, rfl, hp0, ?_⟩⟩
          refine ⟨_, rfl, _, _, rfl, rfl, ⟨by decide, by decide⟩, (j / 2).toNat, by omega, rfl, _, _, j / 2, rfl, rfl, by omega, Int.emod_nonneg _ (by omega), Int.emod_lt_of_pos _ hp0, Int.emod_nonneg _ (by omega), Int.emod_lt_of_pos _ hp0, ?_⟩
          rw [← e]
          exact pow_odd (by omega)
        · have ho : ¬ (j % 2 = 1) := fun z => hc2 (decide_eq_true (congrArg V.int z))
          refine ⟨_, rfl, _, rfl, _, _, rfl, rfl, .inl ⟨by omega, by omega⟩, Or.inl ⟨_, rfl, _, rfl, _, _, rfl, rfl, hp0, ?_⟩⟩
          refine ⟨_, rfl, _, _, rfl, rfl, ⟨by decide, by decide⟩, (j / 2).toNat, by omega, rfl, _, _, j / 2, rfl, rfl, by omega, hf0, hf1, Int.emod_nonneg _ (by omega), Int.emod_lt_of_pos _ hp0, ?_⟩
          rw [← e]
          exact pow_even (by omega)
      · have hj0 : ¬ 0 < j := fun z => hc (decide_eq_true z)
        have hj1 : j.toNat = 0 := by omega
        refine ⟨_, rfl, ?_⟩
        rw [hj1, Int.pow_zero, Int.mul_one, Int.emod_eq_of_lt hf0 hf1] at e
        rw [e]
        exact q
def sp_inverse : Sp := fun vs H Q _ => ∃ (p a : Int), vs = [.int p, .int a] ∧ 0 < p ∧ p < 2 ^ 30 ∧ Q (.int (inverseM p a)) H
theorem Txt.c_inverse (T : Txt K mg cP cD) : C8.Cal P w K mg base 2 "inverse" sp_inverse [] := by
  refine T.d_inverse.cal sc_inverse (fun vs H Q E h => ?_) (fun f cdv A outer s H vs Q E hr h => ?_)
  · obtain ⟨p, a, rfl, _⟩ := h
    rfl
  · obtain ⟨p, a, rfl, hp0, hp1, q⟩ := h
    have T_c_power := T.c_power (P := P) (w := w) (base := base)
    refine ⟨_, (pss_one (ps_ret (pe_ifExp (pt_cmpR op_gt (pv 0) pe_int (nomark _)) (C8.pe_c T_c_power hr (by decide) (by rfl) (pa_cons (pv 0) (pa_cons (pv 1) (pa_cons (pe_op op_sub (pv 0) pe_int) pa_nil)))) (pv 1)))), ?_⟩
    refine ⟨_, rfl, _, _, rfl, rfl, _, rfl, ite2 (fun hc => ?_) (fun hc => ?_)⟩
    · have h2 : 2 < p := of_decide_eq_true hc
      unfold inverseM at q
      rw [if_pos h2] at q
      exact ⟨_, rfl, _, rfl, _, rfl, _, _, rfl, rfl, p, a, p - 2, rfl, hp0, hp1, by omega, by omega, q⟩
    · have h2 : ¬ 2 < p := fun z => hc (decide_eq_true z)
      unfold inverseM at q
      rw [if_neg h2] at q
      exact ⟨_, rfl, q⟩
/-! ### bases, through, weights -/
def sp_bases (K : PySem.W.Frag) : Sp := fun vs H Q _ => ∃ (p : Int) (v : V) (pts : List Int), vs = [.int p, v] ∧ Rp K H v (PI pts) ∧ pts.length ≤ 300 ∧ 0 < p ∧ p < 2 ^ 30 ∧ (∀ x ∈ pts, Sm x) ∧
  ∀ l xs H', Same H H' → H' l = some (.lst xs) → RpAll K H' xs ((basesM p pts).map PI) → Q (.ref l) H'
theorem Txt.c_bases (T : Txt K mg cP cD) : C8.Cal P w K mg base 4 "bases" (sp_bases K) [] := by
  refine T.d_bases.cal sc_bases (fun vs H Q E h => ?_) (fun f cdv A outer s H vs Q E hr h => ?_)
  · obtain ⟨p, v, pts, rfl, _⟩ := h
    rfl
  · obtain ⟨p, v, pts, rfl, hv, hz, hp0, hp1, hs, q⟩ := h
    obtain ⟨pa, rfl, hA⟩ := hv.pi
    have T_c_roots_at := T.c_roots_at (P := P) (w := w) (base := base)
    have T_c_scaled := T.c_scaled (P := P) (w := w) (base := base)
    have T_c_inverse := T.c_inverse (P := P) (w := w) (base := base)
    have T_c_value_at := T.c_value_at (P := P) (w := w) (base := base)
    refine ⟨_, (pss_cons (ps_set (i := 2) sc_bases.nd rfl (Or.inl rfl) (pe_lst pa_nil))
      (pss_cons (ps_for PassesOwn.never rfl (pi_range1 (by rfl) T.n_range (pa_cons (pe_callB (lenS K) (by rfl) T.n_len PySem.boot_len (pa_cons (pv 1) pa_nil)) pa_nil)) (pg_name (i := 3) sc_bases.nd rfl (Or.inl rfl))
        (pss_cons (ps_set (i := 4) sc_bases.nd rfl (Or.inl rfl) (C8.pe_c T_c_roots_at hr (by decide) (by rfl) (pa_cons (pv 0) (pa_cons (pe_op (catT K) (pe_slice (slT K) (pv 1) po_none (po_some (pv 3))) (pe_slice (slT K) (pv 1) (po_some (pe_op op_add (pv 3) pe_int)) po_none)) pa_nil))))
        (pss_one (ps_expr (pe_bm PySem.F.plainAttrs_list PySem.F.slot_list_append PySem.F.type_list_append mt_append (pv 2) (pa_cons (C8.pe_c T_c_scaled hr (by decide) (by rfl) (pa_cons (pv 0) (pa_cons (C8.pe_c T_c_inverse hr (by decide) (by rfl) (pa_cons (pv 0) (pa_cons (C8.pe_c T_c_value_at hr (by decide) (by rfl) (pa_cons (pv 0) (pa_cons (pv 4) (pa_cons (pe_ix (ixT K) (pv 1) (pv 3) (fun _ _ => rfl)) pa_nil)))) pa_nil))) (pa_cons (pv 4) pa_nil)))) pa_nil))))))
      (pss_one (ps_ret (pv 2))))), ?_⟩
    refine ⟨Nat.zero_le _, fun l hl => ?_⟩
    refine ⟨_, rfl, pa, _, rfl, .inr ((Same.new hl).tf.sqT hA), _, rfl, by simp only [List.length_map]; omega, by simp only [List.length_map]; omega, for_range (lo := 0)
      (fun i σ H' => ∃ y z xs, σ = [some (.int p), some (.ref pa), some (.ref l), y, z] ∧ Same H H' ∧ H' l = some (.lst xs) ∧ RpAll K H' xs ((List.range i).map fun i => PI (basisM p pts i)))
      ⟨none, none, [], rfl, Same.new hl, upd_same, .nil⟩ ?_ ?_⟩
    · rintro i σ H1 hi ⟨y, z, xs, rfl, e, hx, r⟩
      have hi' : i < pts.length := by simpa using hi
      have hA1 := e.tf.sqT hA
      have ei : (0 : Int) + ((i : Nat) : Int) = ((i : Nat) : Int) := Int.zero_add _
      rw [ei]
      refine ⟨_, rfl, _, rfl, _, rfl, _, rfl, slA hA1 (cut_to _ i) fun b1 H2 e1 h1 => ⟨_, rfl, _, rfl, _, _, rfl, rfl, _, rfl, noP (slA (e1.tf.sqT hA1) (cut_from1 _ i) fun b2 H3 e2 h2 => ?_)⟩⟩
      refine catA (e2.tf.sqT h1) h2 (by rw [List.length_take, List.length_drop, List.length_map]; omega) fun b3 H4 e3 h3 => ?_
      have e3' : Same H1 H4 := (e1.trans e2).trans e3
      refine ⟨p, .ref b3, pts.take i ++ pts.drop (i + 1), rfl, .ofPi (by rw [List.map_append, List.map_take, List.map_drop]; exact h3), by rw [List.length_append, List.length_take, List.length_drop]; omega, hp0, fun x hx => ?_, fun r5 H5 e5 rp5 => ?_⟩
      · rcases List.mem_append.mp hx with m | m
        · exact hs x (List.mem_of_mem_take m)
        · exact hs x (List.mem_of_mem_drop m)
      have e5' : Same H1 H5 := e3'.trans e5
      have hx5 := e5' l _ hx
      refine ⟨.ref l, rfl, .inl ⟨rfl, _, SqL.of hx5⟩, ?_⟩
      refine ⟨_, rfl, _, rfl, _, rfl, _, rfl, _, rfl, _, rfl, _, _, _, _, rfl, rfl, e5'.tf.sqT hA1, map_at hi', p, pts[i], r5, _, rfl, rp5, hp0, hp1, ?_⟩
      refine ⟨p, _, rfl, hp0, hp1, ?_⟩
      have hb := valueM_bd hp0 (rootsM p (pts.take i ++ pts.drop (i + 1))) pts[i]
      refine ⟨_, rfl, p, _, r5, _, rfl, rp5, by rw [rootsM_len, List.length_append, List.length_take, List.length_drop]; omega, hp0, inverseM_sm hp0 hp1 hb, fun r6 H6 e6 rp6 => ?_⟩
      have hx6 := e6 l _ hx5
      have hlen := r.len
      rw [List.length_map, List.length_range] at hlen
      refine ⟨l, xs, r6, rfl, rfl, hx6, small' (by omega), ?_⟩
      have tf : TF H6 (upd H6 l (.lst (xs ++ [r6]))) := TF.upd hx6 plain_lst
      refine ⟨_, _, xs ++ [r6], rfl, ((e.trans e5').trans e6).mut hl, upd_same, ?_⟩
      rw [List.range_succ, List.map_append]
      refine RpAll.app ((r.sm (e5'.trans e6)).tf tf) (.one ?_)
      have e7 : basisM p pts i = scaledM p (inverseM p (valueM p (rootsM p (pts.take i ++ pts.drop (i + 1))) pts[i])) (rootsM p (pts.take i ++ pts.drop (i + 1))) := by
        unfold basisM
        rw [List.getD_eq_getElem?_getD, List.getElem?_eq_getElem hi']
        rfl
      show Rp K _ r6 (PI (basisM p pts i))
      rw [e7]
      exact rp6.tf tf
    · rintro σ H1 ⟨y, z, xs, rfl, e, hx, r⟩
      refine ⟨_, rfl, q l xs _ e hx ?_⟩
      have e8 : (List.range ((pts.map V.int).length : Int).toNat).map (fun i => PI (basisM p pts i)) = (basesM p pts).map PI := by
        unfold basesM
        rw [List.map_map, List.length_map]
        rfl
      rw [← e8]
      exact r
end
end U

namespace U
open PySem PySem.Spec PyProof.Rows L2
theorem getD_get {l : List Int} {i : Nat} (h : i < l.length) : l.getD i 0 = l[i] := by
  rw [List.getD_eq_getElem?_getD, List.getElem?_eq_getElem h]
  rfl
section
variable {P : Program} {w : World} {K : PySem.W.Frag} {mg : Str → Option Value} {base : Heap} {cP cD : Addr}
/-! ### through, weights -/
def sp_through (K : PySem.W.Frag) : Sp := fun vs H Q _ => ∃ (p : Int) (v u : V) (pts vals : List Int), vs = [.int p, v, u] ∧ Rp K H v (PI pts) ∧ Rp K H u (PI vals) ∧ vals.length = pts.length ∧ 1 ≤ pts.length ∧ pts.length ≤ 300 ∧ 0 < p ∧ p < 2 ^ 30 ∧ (∀ x ∈ pts, Sm x) ∧ (∀ x ∈ vals, Sm x) ∧
  ∀ r H', Same H H' → Rp K H' r (PI (throughM p pts vals)) → Q r H'
theorem Txt.c_through (T : Txt K mg cP cD) : C8.Cal P w K mg base 5 "through" (sp_through K) [] := by
  refine T.d_through.cal sc_through (fun vs H Q E h => ?_) (fun f cdv A outer s H vs Q E hr h => ?_)
  · obtain ⟨p, v, u, pts, vals, rfl, _⟩ := h
    rfl
  · obtain ⟨p, v, u, pts, vals, rfl, hv, hu, hl, hz1, hz, hp0, hp1, hs, hs2, q⟩ := h
    obtain ⟨pa, rfl, hA⟩ := hv.pi
    obtain ⟨pb, rfl, hB⟩ := hu.pi
    have T_c_bases := T.c_bases (P := P) (w := w) (base := base)
    have T_c_added := T.c_added (P := P) (w := w) (base := base)
    have T_c_scaled := T.c_scaled (P := P) (w := w) (base := base)
    refine ⟨_, (pss_cons (ps_set (i := 3) sc_through.nd rfl (Or.inl rfl) (pe_op UR.op_repN (pe_tup (pa_cons pe_int pa_nil)) (pe_callB (lenS K) (by rfl) T.n_len PySem.boot_len (pa_cons (pv 1) pa_nil))))
      (pss_cons (ps_set (i := 4) sc_through.nd rfl (Or.inl rfl) (C8.pe_c T_c_bases hr (by decide) (by rfl) (pa_cons (pv 0) (pa_cons (pv 1) pa_nil))))
      (pss_cons (ps_for PassesOwn.never rfl (pi_range1 (by rfl) T.n_range (pa_cons (pe_callB (lenS K) (by rfl) T.n_len PySem.boot_len (pa_cons (pv 1) pa_nil)) pa_nil)) (pg_name (i := 5) sc_through.nd rfl (Or.inl rfl))
        (pss_one (ps_set (i := 3) sc_through.nd rfl (Or.inl rfl) (C8.pe_c T_c_added hr (by decide) (by rfl) (pa_cons (pv 0) (pa_cons (pv 3) (pa_cons (C8.pe_c T_c_scaled hr (by decide) (by rfl) (pa_cons (pv 0) (pa_cons (pe_ix (ixT K) (pv 2) (pv 5) (fun _ _ => rfl)) (pa_cons (pe_ix (ixL K) (pv 4) (pv 5) (fun _ _ => rfl)) pa_nil)))) pa_nil)))))))
      (pss_one (ps_ret (pv 3)))))), ?_⟩
    refine ⟨by show 1 ≤ sizeLine; decide, fun t ht => ?_⟩
    refine ⟨_, rfl, pa, _, rfl, .inr ((Same.new ht).tf.sqT hA), ?_⟩
    refine ⟨t, _, [.int 0], rfl, rfl, sqT_new, by simp, by simp only [List.length_map]; omega, by simp only [List.length_map]; omega, by show 1 ≤ 1000; decide, fun a0 H1 hcase => ?_⟩
    have h0 : Same H H1 ∧ Rp K H1 (.ref a0) (PI (List.replicate pts.length 0)) := by
      rcases hcase with ⟨rfl, rfl, e1⟩ | ⟨n1, rfl⟩
      · refine ⟨Same.new ht, ?_⟩
        have e2 : pts.length = 1 := by simp only [List.length_map] at e1; omega
        rw [e2]
        exact .ofPi sqT_new
      · refine ⟨(Same.new ht).trans (Same.new n1), .ofPi ?_⟩
        have e3 : (List.replicate (((pts.map V.int).length : Nat) : Int).toNat [V.int 0]).flatten = (List.replicate pts.length (0 : Int)).map V.int := by
          rw [List.length_map, Int.toNat_natCast, List.map_replicate]
          induction pts.length with
          | zero => rfl
          | succ m ih => rw [List.replicate_succ, List.flatten_cons, ih, List.replicate_succ]; rfl
        rw [e3]
        exact sqT_new
    obtain ⟨s1, r1⟩ := h0
    refine ⟨_, rfl, _, rfl, p, _, pts, rfl, hv.sm s1, by omega, hp0, hp1, hs, fun l xs H2 e2 hx rx => ?_⟩
    have s2 := s1.trans e2
    refine ⟨_, rfl, pa, _, rfl, .inr (s2.tf.sqT hA), _, rfl, by simp only [List.length_map]; omega, by simp only [List.length_map]; omega, for_range (lo := 0)
      (fun i σ H' => ∃ r y, σ = [some (.int p), some (.ref pa), some (.ref pb), some r, some (.ref l), y] ∧ Same H2 H' ∧ Rp K H' r (PI ((List.range i).foldl (stepM p pts vals) (List.replicate pts.length 0))))
      ⟨_, none, rfl, Same.refl _, r1.sm e2⟩ ?_ ?_⟩
    · rintro i σ H3 hi ⟨r, y, rfl, e3, rr⟩
      have hi' : i < pts.length := by simpa using hi
      have ei : (0 : Int) + ((i : Nat) : Int) = ((i : Nat) : Int) := Int.zero_add _
      rw [ei]
      obtain ⟨xv, hxv, rpv⟩ := rx.get (i := i) (d := PI (basisM p pts i)) (map_get (basesM_get hi'))
      have hiv : i < vals.length := by omega
      refine ⟨_, rfl, _, rfl, _, rfl, _, rfl, _, rfl, _, _, _, _, rfl, rfl, (s2.trans e3).tf.sqT hB, map_at hiv, _, rfl, _, rfl, _, _, _, _, rfl, rfl, SqL.of (e3 l _ hx), atI_nat hxv, ?_⟩
      refine ⟨p, vals[i], xv, basisM p pts i, rfl, rpv.sm e3, by rw [basisM_len hi']; omega, hp0, hs2 _ (List.getElem_mem hiv), fun r4 H4 e4 rp4 => ?_⟩
      have hlen := through_part (p := p) (pts := pts) (vals := vals) i (by omega)
      refine ⟨p, r, r4, _, _, rfl, rr.sm e4, rp4, by rw [scaledM_len, basisM_len hi', hlen], by omega, hp0, fun r5 H5 e5 rp5 => ?_⟩
      refine ⟨r5, _, rfl, (e3.trans e4).trans e5, ?_⟩
      rw [List.range_succ, List.foldl_append]
      show Rp K H5 r5 (PI (stepM p pts vals _ i))
      unfold stepM
      rw [getD_get hiv, List.getD_eq_getElem?_getD, basesM_get hi']
      exact rp5
    · rintro σ H3 ⟨r, y, rfl, e3, rr⟩
      refine ⟨_, rfl, q _ _ (s2.trans e3) ?_⟩
      rw [List.length_map] at rr
      exact rr
def sp_weights (K : PySem.W.Frag) : Sp := fun vs H Q _ => ∃ (p x : Int) (v : V) (pts : List Int), vs = [.int p, v, .int x] ∧ Rp K H v (PI pts) ∧ pts.length ≤ 300 ∧ 0 < p ∧ p < 2 ^ 30 ∧ (∀ x ∈ pts, Sm x) ∧
  ∀ r H', Same H H' → Rp K H' r (PI (weightsM p pts x)) → Q r H'
theorem Txt.c_weights (T : Txt K mg cP cD) : C8.Cal P w K mg base 5 "weights" (sp_weights K) [] := by
  refine T.d_weights.cal sc_weights (fun vs H Q E h => ?_) (fun f cdv A outer s H vs Q E hr h => ?_)
  · obtain ⟨p, x, v, pts, rfl, _⟩ := h
    rfl
  · obtain ⟨p, x, v, pts, rfl, hv, hz, hp0, hp1, hs, q⟩ := h
    obtain ⟨pa, rfl, hA⟩ := hv.pi
    have T_c_bases := T.c_bases (P := P) (w := w) (base := base)
    have T_c_value_at := T.c_value_at (P := P) (w := w) (base := base)
    refine ⟨_, (pss_one (ps_ret (pe_tupleOf (by rfl) T.n_tuple (pe_lc (own := [("poly", 3)]) (g := gName 3) rfl sc_weights.nd (pi_list (C8.pe_c T_c_bases hr (by decide) (by rfl) (pa_cons (pv 0) (pa_cons (pv 1) pa_nil)))) (blkOk_by (N := ["p", "points", "x", "poly"]) (sc := defScope s_weights) (by decide +kernel)) (fun _ _ _ _ _ => pg_name (i := 3) sc_weights.nd rfl (Or.inl rfl)) (fun _ _ _ _ _ => pts_nil) (fun _ _ _ _ _ => (C8.pe_c T_c_value_at hr (by decide) (by rfl) (pa_cons (pv 0) (pa_cons (pv 3) (pa_cons (pv 2) pa_nil))))))))), ?_⟩
    refine ⟨_, rfl, _, rfl, p, _, pts, rfl, hv, hz, hp0, hp1, hs, fun l xs H1 e1 hx rx => ?_⟩
    have hlx := rx.len
    rw [List.length_map, basesM_len] at hlx
    refine ⟨l, rfl, ⟨_, SqL.of hx⟩, lcL1 (L := (weightsM p pts x).map PyData.int) (SqL.of hx) (by unfold weightsM; simp [basesM_len, hlx]) (by omega) (fun i y d H2 hd hy e2 Acc k => ?_) fun D H2 acc hD e2 ha r => tupOf ha r fun c H' e' rc => q _ _ ((e1.trans e2).trans e') rc⟩
    have hi : i < pts.length := by
      have := (List.getElem?_eq_some_iff.mp hy).1
      omega
    obtain ⟨d', hd', rpy⟩ := rx.got hy
    rw [map_get (basesM_get hi)] at hd'
    cases hd'
    unfold weightsM at hd
    rw [map_get (map_get (basesM_get hi))] at hd
    cases hd
    refine ⟨rfl, _, rfl, _, rfl, _, rfl, p, x, y, _, rfl, rpy.sm e2, hp0, hp1, ?_⟩
    exact k _ _ (Same.refl _) (.int _)
/-! ### settings -/
/-- ("setting", p, n, t) -/
def setD (p n t : Int) : PyData := .tuple [.str "setting", .int p, .int n, .int t]
/-- a setting that the walk can use -/
structure SetOk (p n t : Int) : Prop where
  p0 : 0 < p
  p1 : p < 2 ^ 30
  n0 : 1 ≤ n
  n1 : n ≤ 9
  t0 : 0 ≤ t
  t1 : t ≤ 9
theorem Rp.setting {H : Hp} {v : V} {p n t : Int} (h : Rp K H v (setD p n t)) : ∃ a, v = .ref a ∧ SqT K H a [.str "setting", .int p, .int n, .int t] := by
  obtain ⟨a, xs, e, h1, h2⟩ := h.tupl
  cases h2 with | cons r1 t1 =>
  cases t1 with | cons r2 t2 =>
  cases t2 with | cons r3 t3 =>
  cases t3 with | cons r4 t4 =>
  cases t4
  cases r1; cases r2; cases r3; cases r4
  exact ⟨a, e, h1⟩
/-- the parties 1 to n -/
def partsM (n : Int) : List Int := (List.range n.toNat).map fun (i : Nat) => (i : Int) + 1
theorem partsM_len (n : Int) : (partsM n).length = n.toNat := by unfold partsM; rw [List.length_map, List.length_range]
theorem partsM_get {n : Int} {i : Nat} (h : i < n.toNat) : (partsM n)[i]? = some ((i : Int) + 1) := by
  unfold partsM
  exact map_get (by rw [List.getElem?_range h])
theorem partsM_mem {n x : Int} : x ∈ partsM n ↔ 1 ≤ x ∧ x ≤ n := by
  unfold partsM
  rw [List.mem_map]
  constructor
  · rintro ⟨i, hi, rfl⟩
    have := List.mem_range.mp hi
    omega
  · intro h
    exact ⟨(x - 1).toNat, List.mem_range.mpr (by omega), by omega⟩
theorem partsM_sm {n : Int} (h : n ≤ 9) : ∀ x ∈ partsM n, Sm x := fun x hx => by
  have := partsM_mem.mp hx
  exact ⟨by omega, by omega⟩
def sp_parties (K : PySem.W.Frag) : Sp := fun vs H Q _ => ∃ (p n t : Int) (v : V), vs = [v] ∧ Rp K H v (setD p n t) ∧ SetOk p n t ∧ ∀ r H', Same H H' → Rp K H' r (PI (partsM n)) → Q r H'
theorem Txt.c_parties (T : Txt K mg cP cD) : C8.Cal P w K mg base 1 "parties" (sp_parties K) [] := by
  refine T.d_parties.cal sc_parties (fun vs H Q E h => ?_) (fun f cdv A outer s H vs Q E hr h => ?_)
  · obtain ⟨p, n, t, v, rfl, _⟩ := h
    rfl
  · obtain ⟨p, n, t, v, rfl, hv, ok, q⟩ := h
    obtain ⟨a, rfl, hA⟩ := hv.setting
    refine ⟨_, (pss_one (ps_ret (pe_tupRg rfl (by rfl) T.n_tuple (prg_2 (by rfl) T.n_range pe_int (pe_op op_add (pe_ix (ixT K) (pv 0) pe_int (fun _ _ => rfl)) pe_int))))), ?_⟩
    have := ok.n1
    have := ok.n0
    refine ⟨_, rfl, _, _, 2, _, rfl, rfl, hA, rfl, _, _, rfl, rfl, 1, n + 1, rfl, rfl, ⟨by omega, by omega, by omega, by omega, by omega⟩, fun c hc => q _ _ (Same.new hc) (.ofPi ?_)⟩
    have e : rgV 1 (n + 1) = (partsM n).map V.int := by
      unfold rgV partsM
      rw [List.map_map]
      have e1 : (n + 1 - 1).toNat = n.toNat := by omega
      rw [e1]
      congr 1
      funext i
      exact congrArg V.int (Int.add_comm _ _)
    rw [e]
    exact sqT_new
end
end U

namespace U
open PySem PySem.Spec PyProof.Rows L2
theorem _root_.C8.Cal.mono {P : Program} {w : World} {K : PySem.W.Frag} {mg : Str → Option Value} {base : Heap} {j k : Nat} {x : Str} {sp : Sp} {dvs : List V} (c : C8.Cal P w K mg base j x sp dvs) (h : j ≤ k) : C8.Cal P w K mg base k x sp dvs := by
  obtain ⟨f, fd, ps, ds, F, a, b, d, e⟩ := c.ex
  exact ⟨f, fd, ps, ds, F.mono h, a, b, d, e⟩
def sharesM (p n : Int) (poly : List Int) : List Int := (partsM n).map fun i => valueM p poly i
theorem sharesM_len (p n : Int) (poly : List Int) : (sharesM p n poly).length = n.toNat := by unfold sharesM; rw [List.length_map, partsM_len]
theorem sharesM_get {p n : Int} {poly : List Int} {i : Nat} (h : i < n.toNat) : (sharesM p n poly)[i]? = some (valueM p poly ((i : Int) + 1)) := map_get (partsM_get h)
/-! ### sets_of -/
def setsM : Nat → List Int → List (List Int)
  | 0, _ => [[]]
  | m + 1, l => (List.range l.length).flatMap fun i => (setsM m (l.drop (i + 1))).map fun r => l.getD i 0 :: r
theorem flatMap_len {α β : Type} (f : α → List β) (B : Nat) : ∀ l : List α, (∀ x ∈ l, (f x).length ≤ B) → (l.flatMap f).length ≤ l.length * B
  | [], _ => by simp
  | a :: r, h => by
    rw [List.flatMap_cons, List.length_append, List.length_cons]
    have h1 := h a (List.mem_cons_self ..)
    have h2 := flatMap_len f B r fun x hx => h x (List.mem_cons_of_mem _ hx)
    rw [Nat.add_mul, Nat.one_mul]
    omega
theorem setsM_len : ∀ (m : Nat) (l : List Int), l.length ≤ 9 → (setsM m l).length ≤ 9 ^ m
  | 0, _, _ => by show 1 ≤ 1; decide
  | m + 1, l, h => by
    have q := flatMap_len (fun i => (setsM m (l.drop (i + 1))).map fun r => l.getD i 0 :: r) (9 ^ m) (List.range l.length) fun i _ => by
      rw [List.length_map]
      exact setsM_len m _ (by rw [List.length_drop]; omega)
    rw [List.length_range] at q
    show ((List.range l.length).flatMap _).length ≤ _
    rw [Nat.pow_succ, Nat.mul_comm]
    exact Nat.le_trans q (Nat.mul_le_mul_right _ h)
theorem setsM_part (m : Nat) (l : List Int) (h : l.length ≤ 9) (n : Nat) (hn : n ≤ 9) : ((List.range n).flatMap fun i => (setsM m (l.drop (i + 1))).map fun r => l.getD i 0 :: r).length ≤ 9 * 9 ^ m := by
  have q := flatMap_len (fun i => (setsM m (l.drop (i + 1))).map fun r => l.getD i 0 :: r) (9 ^ m) (List.range n) fun i _ => by
    rw [List.length_map]
    exact setsM_len m _ (by rw [List.length_drop]; omega)
  rw [List.length_range] at q
  exact Nat.le_trans q (Nat.mul_le_mul_right _ hn)
theorem setsM_mem : ∀ (m : Nat) (l s : List Int), s ∈ setsM m l → s.length = m ∧ ∀ x ∈ s, x ∈ l
  | 0, l, s, h => by
    have e : s = [] := by simpa [setsM] using h
    subst e
    exact ⟨rfl, by simp⟩
  | m + 1, l, s, h => by
    obtain ⟨i, hi, hs⟩ := List.mem_flatMap.mp h
    obtain ⟨r, hr, rfl⟩ := List.mem_map.mp hs
    obtain ⟨h1, h2⟩ := setsM_mem m _ r hr
    have hi' := List.mem_range.mp hi
    refine ⟨by rw [List.length_cons, h1], fun x hx => ?_⟩
    rcases List.mem_cons.mp hx with e | hx
    · rw [e, getD_get hi']
      exact List.getElem_mem hi'
    · exact List.mem_of_mem_drop (h2 x hx)
section
variable {P : Program} {w : World} {K : PySem.W.Frag} {mg : Str → Option Value} {base : Heap} {cP cD : Addr}
def sp_shares_of (K : PySem.W.Frag) : Sp := fun vs H Q _ => ∃ (p n t : Int) (v u : V) (poly : List Int), vs = [v, u] ∧ Rp K H v (setD p n t) ∧ SetOk p n t ∧ Rp K H u (PI poly) ∧ ∀ r H', Same H H' → Rp K H' r (PI (sharesM p n poly)) → Q r H'
theorem Txt.c_shares_of (T : Txt K mg cP cD) : C8.Cal P w K mg base 2 "shares_of" (sp_shares_of K) [] := by
  refine T.d_shares_of.cal sc_shares_of (fun vs H Q E h => ?_) (fun f cdv A outer s H vs Q E hr h => ?_)
  · obtain ⟨p, n, t, v, u, poly, rfl, _⟩ := h
    rfl
  · obtain ⟨p, n, t, v, u, poly, rfl, hv, ok, hu, q⟩ := h
    obtain ⟨a, rfl, hA⟩ := hv.setting
    obtain ⟨b, rfl, hB⟩ := hu.pi
    have := ok.n1
    have T_c_parties := T.c_parties (P := P) (w := w) (base := base)
    have T_c_value_at := T.c_value_at (P := P) (w := w) (base := base)
    refine ⟨_, (pss_one (ps_ret (pe_tupleOf (by rfl) T.n_tuple (pe_lc (own := [("party", 2)]) (g := gName 2) rfl sc_shares_of.nd (pi_tup (C8.pe_c T_c_parties hr (by decide) (by rfl) (pa_cons (pv 0) pa_nil))) (blkOk_by (N := ["setting", "poly", "party"]) (sc := defScope s_shares_of) (by decide +kernel)) (fun _ _ _ _ _ => pg_name (i := 2) sc_shares_of.nd rfl (Or.inl rfl)) (fun _ _ _ _ _ => pts_nil) (fun _ _ _ _ _ => (C8.pe_c T_c_value_at hr (by decide) (by rfl) (pa_cons (pe_ix (ixT K) (pv 0) pe_int (fun _ _ => rfl)) (pa_cons (pv 1) (pa_cons (pv 2) pa_nil))))))))), ?_⟩
    refine ⟨_, rfl, p, n, t, _, rfl, hv, ok, fun r1 H1 e1 rp1 => ?_⟩
    obtain ⟨c, rfl, hC⟩ := rp1.pi
    refine ⟨c, rfl, ⟨_, hC⟩, lcT1 (L := (sharesM p n poly).map PyData.int) hC (by simp [sharesM]) (by rw [List.length_map, partsM_len]; omega) (fun i x d H2 hd hx e2 Acc k => ?_) fun D H2 acc hD e2 ha r => tupOf ha r fun c H' e' rc => q _ _ ((e1.trans e2).trans e') rc⟩
    obtain ⟨y, hy, rfl⟩ := map_got hx
    unfold sharesM at hd
    rw [map_get (map_get hy)] at hd
    cases hd
    refine ⟨rfl, _, rfl, _, _, 1, _, rfl, rfl, (e1.trans e2).tf.sqT hA, rfl, _, rfl, _, rfl, p, y, _, poly, rfl, hu.sm (e1.trans e2), ok.p0, ok.p1, ?_⟩
    exact k _ _ (Same.refl _) (.int _)
def sp_shares (K : PySem.W.Frag) : Sp := fun vs H Q _ => ∃ (p n t s : Int) (v u : V) (cs : List Int), vs = [v, .int s, u] ∧ Rp K H v (setD p n t) ∧ SetOk p n t ∧ Rp K H u (PI cs) ∧ cs.length ≤ 1000 ∧ ∀ r H', Same H H' → Rp K H' r (PI (sharesM p n (s :: cs))) → Q r H'
theorem shares_body (T : Txt K mg cP cD) {y : Str} (D : DefIn K mg y "shares" s_shares ["setting", "s", "coins"]) : C8.Cal P w K mg base 3 y (sp_shares K) [] := by
  refine D.cal sc_shares (fun vs H Q E h => ?_) (fun f cdv A outer s H vs Q E hr h => ?_)
  · obtain ⟨p, n, t, s, v, u, poly, rfl, _⟩ := h
    rfl
  · obtain ⟨p, n, t, s, v, u, cs, rfl, hv, ok, hu, hz, q⟩ := h
    obtain ⟨b, rfl, hB⟩ := hu.pi
    have T_c_shares_of := T.c_shares_of (P := P) (w := w) (base := base)
    refine ⟨_, (pss_one (ps_ret (C8.pe_c T_c_shares_of hr (by decide) (by rfl) (pa_cons (pv 0) (pa_cons (pe_op (catT K) (pe_tup (pa_cons (pv 1) pa_nil)) (pv 2)) pa_nil))))), ?_⟩
    refine ⟨_, rfl, _, rfl, by show 1 ≤ sizeLine; decide, fun t1 ht1 => ⟨_, rfl, catA sqT_new ((Same.new ht1).tf.sqT hB) (by simp only [List.length_map, List.length_cons, List.length_nil]; omega) fun c1 H1 e1 r1 => ?_⟩⟩
    have s1 := (Same.new (o := .tup [.int s]) ht1).trans e1
    exact ⟨p, n, t, _, _, s :: cs, rfl, hv.sm s1, ok, .ofPi r1, fun r H' e r' => q _ _ (s1.trans e) r'⟩
theorem Txt.c_shares_sharing (T : Txt K mg cP cD) : C8.Cal P w K mg base 3 "shares_sharing" (sp_shares K) [] := shares_body T T.d_shares_sharing
def sp_is_integer : Sp := fun vs H Q _ => ∃ i : Int, vs = [.int i] ∧ Q (.bl true) H
theorem Txt.c_is_integer (T : Txt K mg cP cD) : C8.Cal P w K mg base 1 "is_integer" sp_is_integer [] := by
  refine T.d_is_integer.cal sc_is_integer (fun vs H Q E h => ?_) (fun f cdv A outer s H vs Q E hr h => ?_)
  · obtain ⟨i, rfl, _⟩ := h
    rfl
  · obtain ⟨i, rfl, q⟩ := h
    refine ⟨_, (pss_one (ps_ret (pe_and (pe_callB call_isi (by rfl) T.n_isinstance (by decide +kernel) (pa_cons (pv 0) (pa_cons (pe_bltn (v := .ty "int") (by rfl) T.n_int (by decide +kernel) rfl) pa_nil))) (pe_one (pe_not (pe_callB call_isi (by rfl) T.n_isinstance (by decide +kernel) (pa_cons (pv 0) (pa_cons (pe_bltn (v := .ty "bool") (by rfl) T.n_bool (by decide +kernel) rfl) pa_nil)))))))), ?_⟩
    refine ⟨_, rfl, .int i, .ty "int", .type "int", .type "int", true, rfl, .ty _, .base (.int i), kit_ty (by decide +kernel), true, rfl, iteT (B := False) ?_⟩
    exact ⟨_, rfl, .int i, .ty "bool", .type "int", .type "bool", false, rfl, .ty _, .base (.int i), kit_ty (by decide +kernel), false, rfl, q⟩
def sp_most_wrong (K : PySem.W.Frag) : Sp := fun vs H Q _ => ∃ (p n t : Int) (v : V), vs = [v] ∧ Rp K H v (setD p n t) ∧ Q (.int ((n - t - 1) / 2)) H
theorem Txt.c_most_wrong (T : Txt K mg cP cD) : C8.Cal P w K mg base 1 "most_wrong" (sp_most_wrong K) [] := by
  refine T.d_most_wrong.cal sc_most_wrong (fun vs H Q E h => ?_) (fun f cdv A outer s H vs Q E hr h => ?_)
  · obtain ⟨p, n, t, v, rfl, _⟩ := h
    rfl
  · obtain ⟨p, n, t, v, rfl, hv, q⟩ := h
    obtain ⟨a, rfl, hA⟩ := hv.setting
    refine ⟨_, (pss_one (ps_ret (pe_op op_fdiv (pe_op op_sub (pe_op op_sub (pe_ix (ixT K) (pv 0) pe_int (fun _ _ => rfl)) (pe_ix (ixT K) (pv 0) pe_int (fun _ _ => rfl))) pe_int) pe_int))), ?_⟩
    exact ⟨_, rfl, _, _, 2, _, rfl, rfl, hA, rfl, _, rfl, _, _, 3, _, rfl, rfl, hA, rfl, _, _, rfl, rfl, _, _, rfl, rfl, _, _, rfl, rfl, ⟨by decide, by decide⟩, q⟩
def sp_sets_of (K : PySem.W.Frag) (m : Nat) : Sp := fun vs H Q _ => ∃ (v : V) (l : List Int), vs = [v, .int (m : Int)] ∧ Rp K H v (PI l) ∧ l.length ≤ 9 ∧ ∀ d xs H', H d = none → Same H H' → H' d = some (.lst xs) → RpAll K H' xs ((setsM m l).map PI) → Q (.ref d) H'
theorem Txt.c_sets_of (T : Txt K mg cP cD) : ∀ m : Nat, m ≤ 4 → C8.Cal P w K mg base (m + 1) "sets_of" (sp_sets_of K m) []
  | 0, _ => by
    have T_c_sets_of : C8.Cal P w K mg base 0 "sets_of" (fun _ _ _ _ => False) [] := by
      obtain ⟨f, fd, F, hm, b⟩ := T.d_sets_of.ex
      exact ⟨f, fd, _, [], ⟨fun _ _ _ _ h => h.elim, fun _ _ _ _ _ _ _ _ _ _ _ _ _ h => h.elim⟩, hm, F.kp, b, .nil⟩
    refine T.d_sets_of.cal sc_sets_of (fun vs H Q E h => ?_) (fun f cdv A outer s H vs Q E hr h => ?_)
    · obtain ⟨v, l, rfl, _⟩ := h
      rfl
    · obtain ⟨v, l, rfl, hv, hz, q⟩ := h
      refine ⟨_, (pss_cons (ps_if (pt_cmpR op_eq (pv 1) pe_int (nomark _))
          (pss_one (ps_ret (pe_lst (pa_cons (pe_tup pa_nil) pa_nil))))
          pss_nil)
        (pss_cons (ps_set (i := 2) sc_sets_of.nd rfl (Or.inl rfl) (pe_lst pa_nil))
        (pss_cons (ps_for PassesOwn.never rfl (pi_range1 (by rfl) T.n_range (pa_cons (pe_callB (lenS K) (by rfl) T.n_len PySem.boot_len (pa_cons (pv 0) pa_nil)) pa_nil)) (pg_name (i := 3) sc_sets_of.nd rfl (Or.inl rfl))
          (pss_one (ps_for PassesOwn.never rfl (pi_list (C8.pe_c T_c_sets_of hr (by decide) (by rfl) (pa_cons (pe_slice (slT K) (pv 0) (po_some (pe_op op_add (pv 3) pe_int)) po_none) (pa_cons (pe_op op_sub (pv 1) pe_int) pa_nil)))) (pg_name (i := 4) sc_sets_of.nd rfl (Or.inl rfl))
            (pss_one (ps_expr (pe_bm PySem.F.plainAttrs_list PySem.F.slot_list_append PySem.F.type_list_append mt_append (pv 2) (pa_cons (pe_op (catT K) (pe_tup (pa_cons (pe_ix (ixT K) (pv 0) (pv 3) (fun _ _ => rfl)) pa_nil)) (pv 4)) pa_nil)))))))
        (pss_one (ps_ret (pv 2)))))), ?_⟩
      refine ⟨_, rfl, rfl, _, rfl, ite2 (fun hc => ?_) (fun hc => absurd (decide_eq_true rfl) hc)⟩
      refine ⟨by show 0 ≤ sizeLine; decide, fun t ht => ⟨by show 1 ≤ sizeLine; decide, fun d hd => q d _ _ (free_of (Same.new ht) hd) ((Same.new ht).trans (Same.new hd)) upd_same ?_⟩⟩
      exact .one (.tup ((Same.new hd).tf.sqT sqT_new) .nil)
  | m + 1, hm4 => by
    have T_c_sets_of := T.c_sets_of m (by omega)
    refine T.d_sets_of.cal sc_sets_of (fun vs H Q E h => ?_) (fun f cdv A outer s H vs Q E hr h => ?_)
    · obtain ⟨v, l, rfl, _⟩ := h
      rfl
    · obtain ⟨v, l, rfl, hv, hz, q⟩ := h
      obtain ⟨pa, rfl, hA⟩ := hv.pi
      refine ⟨_, (pss_cons (ps_if (pt_cmpR op_eq (pv 1) pe_int (nomark _))
          (pss_one (ps_ret (pe_lst (pa_cons (pe_tup pa_nil) pa_nil))))
          pss_nil)
        (pss_cons (ps_set (i := 2) sc_sets_of.nd rfl (Or.inl rfl) (pe_lst pa_nil))
        (pss_cons (ps_for PassesOwn.never rfl (pi_range1 (by rfl) T.n_range (pa_cons (pe_callB (lenS K) (by rfl) T.n_len PySem.boot_len (pa_cons (pv 0) pa_nil)) pa_nil)) (pg_name (i := 3) sc_sets_of.nd rfl (Or.inl rfl))
          (pss_one (ps_for PassesOwn.never rfl (pi_list (C8.pe_c T_c_sets_of hr (Nat.le_refl _) (by rfl) (pa_cons (pe_slice (slT K) (pv 0) (po_some (pe_op op_add (pv 3) pe_int)) po_none) (pa_cons (pe_op op_sub (pv 1) pe_int) pa_nil)))) (pg_name (i := 4) sc_sets_of.nd rfl (Or.inl rfl))
            (pss_one (ps_expr (pe_bm PySem.F.plainAttrs_list PySem.F.slot_list_append PySem.F.type_list_append mt_append (pv 2) (pa_cons (pe_op (catT K) (pe_tup (pa_cons (pe_ix (ixT K) (pv 0) (pv 3) (fun _ _ => rfl)) pa_nil)) (pv 4)) pa_nil)))))))
        (pss_one (ps_ret (pv 2)))))), ?_⟩
      refine ⟨_, rfl, rfl, _, rfl, ite2 (fun hc => ?_) (fun hc => ?_)⟩
      · have := V.int.inj (of_decide_eq_true hc)
        omega
      · refine ⟨Nat.zero_le _, fun l0 hl0 => ?_⟩
        refine ⟨_, rfl, pa, _, rfl, .inr ((Same.new hl0).tf.sqT hA), _, rfl, by simp only [List.length_map]; omega, by simp only [List.length_map]; omega, for_range (lo := 0)
          (fun i σ H' => ∃ y z xs, σ = [some (.ref pa), some (.int ((m + 1 : Nat) : Int)), some (.ref l0), y, z] ∧ Same H H' ∧ H' l0 = some (.lst xs) ∧ RpAll K H' xs (((List.range i).flatMap fun i => (setsM m (l.drop (i + 1))).map fun r => l.getD i 0 :: r).map PI))
          ⟨none, none, [], rfl, Same.new hl0, upd_same, .nil⟩ ?_ ?_⟩
        · rintro i σ H1 hi ⟨y, z, xs, rfl, e, hx, r⟩
          have hi' : i < l.length := by simpa using hi
          have hA1 := e.tf.sqT hA
          have ei : (0 : Int) + ((i : Nat) : Int) = ((i : Nat) : Int) := Int.zero_add _
          rw [ei]
          refine ⟨_, rfl, _, rfl, _, _, rfl, rfl, _, rfl, noP (slA hA1 (cut_from1 _ i) fun b1 H2 e1 h1 => ?_)⟩
          refine ⟨_, rfl, _, _, rfl, rfl, .ref b1, l.drop (i + 1), ?_, .ofPi (by rw [List.map_drop]; exact h1), by rw [List.length_drop]; omega, fun d ys H3 hd e3 hy ry => ?_⟩
          · have e5 : ((m + 1 : Nat) : Int) - 1 = (m : Int) := by omega
            show [V.ref b1, V.int (((m + 1 : Nat) : Int) - 1)] = _
            rw [e5]
          have e13 := e1.trans e3
          have hx3 := e13 l0 _ hx
          have hdl : d ≠ l0 := fun z => by rw [z, e1 l0 _ hx] at hd; cases hd
          have hlen := r.len
          have hbd := setsM_part m l hz i (by omega)
          have hbd2 := setsM_part m l hz (i + 1) (by omega)
          have hm9 : 9 * 9 ^ m ≤ 9 * 9 ^ 4 := Nat.mul_le_mul_left _ (Nat.pow_le_pow_right (by decide) (by omega))
          rw [List.length_map] at hlen
          have hylen := ry.len
          rw [List.length_map] at hylen
          refine ⟨d, rfl, ⟨_, SqL.of hy⟩, for_list (K := K) (a := d) (xs := ys)
            (fun j σ H' => ∃ z xs', σ = [some (.ref pa), some (.int ((m + 1 : Nat) : Int)), some (.ref l0), some (.int (i : Int)), z] ∧ But (fun x => x = l0) H3 H' ∧ H' l0 = some (.lst xs') ∧
              RpAll K H' xs' ((((List.range i).flatMap fun i => (setsM m (l.drop (i + 1))).map fun r => l.getD i 0 :: r) ++ ((setsM m (l.drop (i + 1))).take j).map fun r => l.getD i 0 :: r).map PI))
            ⟨z, xs, rfl, But.refl _ _, hx3, by rw [List.take_zero, List.map_nil, List.append_nil]; exact r.sm e13⟩ (fun j σ H' _ ⟨_, _, _, b, _⟩ => SqL.of (b d _ hy hdl)) ?_ ?_⟩
          · rintro j v σ H4 hv4 ⟨z4, xs', rfl, b4, hx4, r4⟩
            obtain ⟨dv, hdv, rpv⟩ := ry.got hv4
            obtain ⟨rest, hrest, rfl⟩ := map_got hdv
            have tf4 : TF H3 H4 := b4.tf fun b o hb ho => by rw [hb, hx3] at ho; cases ho; exact plain_lst
            obtain ⟨pr, rfl, hR⟩ := (rpv.tf tf4).pi
            have hj := (List.getElem?_eq_some_iff.mp hv4).1
            refine ⟨_, rfl, .inl ⟨rfl, _, SqL.of hx4⟩, ?_⟩
            refine ⟨_, rfl, _, rfl, _, _, _, _, rfl, rfl, tf4.sqT (e3.tf.sqT (e1.tf.sqT hA1)), map_at hi', by show 1 ≤ sizeLine; decide, fun t1 ht1 => ⟨_, rfl, ?_⟩⟩
            have hml := (setsM_mem m _ rest (List.mem_of_getElem? hrest)).1
            refine catA sqT_new ((Same.new ht1).tf.sqT hR) (by rw [List.length_map, hml]; show 1 + m ≤ _; omega) fun c1 H5 e5 r5 => ?_
            have e45 := (Same.new (o := .tup [V.int l[i]]) ht1).trans e5
            have hx5 := e45 l0 _ hx4
            have hlen4 := r4.len
            rw [List.length_map, List.length_append, List.length_map, List.length_take] at hlen4
            refine ⟨l0, xs', .ref c1, rfl, rfl, hx5, small' ?_, ?_⟩
            · have h9 : (setsM m (l.drop (i + 1))).length ≤ 9 ^ m := setsM_len m _ (by rw [List.length_drop]; omega)
              have h94 : 9 ^ m ≤ 9 ^ 4 := Nat.pow_le_pow_right (by decide) (by omega)
              omega
            · have tf : TF H5 (upd H5 l0 (.lst (xs' ++ [.ref c1]))) := TF.upd hx5 plain_lst
              refine ⟨_, xs' ++ [.ref c1], rfl, (b4.trans e45.but).own rfl, upd_same, ?_⟩
              rw [List.take_add_one, hrest, List.map_append (f := fun r => l.getD i 0 :: r), ← List.append_assoc, List.map_append]
              refine RpAll.app ((r4.sm e45).tf tf) (.one ?_)
              rw [getD_get hi']
              exact (Rp.ofPi (ns := l[i] :: rest) r5).tf tf
          · rintro σ H4 ⟨z4, xs', rfl, b4, hx4, r4⟩
            refine ⟨_, _, xs', rfl, (e.trans e13).but1 b4 hl0, hx4, ?_⟩
            rw [List.range_succ, List.flatMap_append]
            rw [hylen, List.take_length] at r4
            rw [List.flatMap_cons, List.flatMap_nil, List.append_nil]
            exact r4
        · rintro σ H1 ⟨y, z, xs, rfl, e, hx, r⟩
          refine ⟨_, rfl, q l0 xs _ hl0 e hx ?_⟩
          rw [List.length_map] at r
          exact r
end
end U

namespace U
open PySem PySem.Spec PyProof.Rows L2
def wrongM (p n : Int) (row poly : List Int) : List Int := (partsM n).filter fun i => decide (¬ row.getD (i - 1).toNat 0 = valueM p poly i)
def polyAt (p : Int) (row pts : List Int) : List Int := throughM p pts (pts.map fun i => row.getD (i - 1).toNat 0)
def readStep (p n : Int) (row : List Int) (e : Int) (found : List (List Int)) (pts : List Int) : List (List Int) :=
  if ¬ polyAt p row pts ∈ found ∧ ((wrongM p n row (polyAt p row pts)).length : Int) ≤ e then found ++ [polyAt p row pts] else found
def readingsM (p n : Int) (t : Nat) (row : List Int) (e : Int) : List (List Int) := (setsM (t + 1) (partsM n)).foldl (readStep p n row e) []
def readM (p n : Int) (t : Nat) (row : List Int) : Option Int := ((readingsM p n t row ((n - (t : Int) - 1) / 2)).head?).map fun q => q.getD 0 0
theorem filter_fm {l : List Int} (c : Int → Bool) : l.filterMap (fun z => if c z then some (PyData.int z) else none) = (l.filter c).map PyData.int := by
  induction l with
  | nil => rfl
  | cons a r ih =>
    rw [List.filterMap_cons, List.filter_cons]
    cases c a with
    | true => simp only [if_true, List.map_cons, ih]
    | false => simp only [Bool.false_eq_true, if_false, ih]
theorem throughM_len {p : Int} {pts vals : List Int} : (throughM p pts vals).length = pts.length := through_part pts.length (Nat.le_refl _)
theorem addedM_bd {p : Int} (hp : 0 < p) (a b : List Int) : TS.Bd p (addedM p a b) := by
  intro x hx
  unfold addedM at hx
  obtain ⟨i, hi⟩ := List.getElem?_of_mem hx
  rw [List.getElem?_zipWith] at hi
  cases ha : a[i]? with
  | none => rw [ha] at hi; cases hi
  | some u =>
    cases hb : b[i]? with
    | none => rw [ha, hb] at hi; cases hi
    | some v =>
      rw [ha, hb] at hi
      cases hi
      exact ⟨Int.emod_nonneg _ (by omega), Int.emod_lt_of_pos _ hp⟩
theorem throughM_bd {p : Int} (hp : 0 < p) {pts vals : List Int} (h : 1 ≤ pts.length) : TS.Bd p (throughM p pts vals) := by
  unfold throughM
  obtain ⟨m, hm⟩ : ∃ m, pts.length = m + 1 := ⟨pts.length - 1, by omega⟩
  rw [hm, List.range_succ, List.foldl_append]
  exact addedM_bd hp _ _
theorem perm_small {α : Type} {xs ys : List α} (h : xs.length ≤ 1) (p : ys.Perm xs) : ys = xs := by
  have hl := p.length_eq
  match xs, ys, h, hl with
  | [], [], _, _ => rfl
  | [x], [y], _, _ =>
    have := p.mem_iff (a := y)
    simp at this
    rw [this]
theorem any_in {l : List (List Int)} {q : List Int} : ((l.map PI).any fun z => PyData.eqv z (PI q)) = decide (q ∈ l) := by
  induction l with
  | nil => rfl
  | cons a r ih =>
    rw [List.map_cons, List.any_cons, ih]
    have e : PyData.eqv (PI a) (PI q) = decide (a = q) := eqv_dec (by simp [PI, noB, noBs_ints]) (by simp [PI, noB, noBs_ints]) (by
      constructor
      · intro h
        have h1 : a.map PyData.int = q.map PyData.int := by injection h
        exact (List.map_inj_right (fun x y e => by injection e)).mp h1
      · intro h; rw [h])
    rw [e]
    by_cases h1 : a = q
    · subst h1
      simp
    · have h2 : ¬ q = a := fun z => h1 z.symm
      simp [h1, h2]
theorem shapedPI (q : List Int) : SeqAt.shaped (PI q) = true := shaped_of (n := 1) (by simp only [PI, flatD]; exact flats_ints 0 q) (by decide)
theorem shapedPIs (l : List (List Int)) : SeqAt.shaped (.list (l.map PI)) = true := shaped_of (n := 2) (by
  simp only [flatD]
  refine flats_all fun d hd => ?_
  obtain ⟨q, _, rfl⟩ := List.mem_map.mp hd
  simp only [PI, flatD]
  exact flats_ints 0 q) (by decide)
theorem shapedPIt (l : List (List Int)) : SeqAt.shaped (.tuple (l.map PI)) = true := shaped_of (n := 2) (by
  simp only [flatD]
  refine flats_all fun d hd => ?_
  obtain ⟨q, _, rfl⟩ := List.mem_map.mp hd
  simp only [PI, flatD]
  exact flats_ints 0 q) (by decide)
theorem readings_ok {p n : Int} {t : Nat} {row : List Int} {e : Int} (hp : 0 < p) : ∀ (S : List (List Int)) (f : List (List Int)), (∀ s ∈ S, s.length = t + 1) → (∀ q ∈ f, q.length = t + 1 ∧ TS.Bd p q) → ∀ q ∈ S.foldl (readStep p n row e) f, q.length = t + 1 ∧ TS.Bd p q
  | [], f, _, hf => hf
  | s :: S, f, hS, hf => by
    rw [List.foldl_cons]
    refine readings_ok hp S _ (fun x hx => hS x (List.mem_cons_of_mem _ hx)) fun q hq => ?_
    unfold readStep at hq
    split at hq
    · rcases List.mem_append.mp hq with m | m
      · exact hf q m
      · rw [List.mem_singleton.mp m]
        have hs := hS s (List.mem_cons_self ..)
        exact ⟨by unfold polyAt; rw [throughM_len, hs], throughM_bd hp (by omega)⟩
    · exact hf q hq
theorem readings_grow {p n : Int} {row : List Int} {e : Int} : ∀ (S f : List (List Int)), f.length ≤ (S.foldl (readStep p n row e) f).length
  | [], f => Nat.le_refl _
  | s :: S, f => by
    rw [List.foldl_cons]
    refine Nat.le_trans ?_ (readings_grow S _)
    unfold readStep
    split
    · rw [List.length_append]; omega
    · exact Nat.le_refl _
section
variable {P : Program} {w : World} {K : PySem.W.Frag} {mg : Str → Option Value} {base : Heap} {cP cD : Addr}
def sp_wrong (K : PySem.W.Frag) : Sp := fun vs H Q _ => ∃ (p n t : Int) (v u z : V) (row poly : List Int), vs = [v, u, z] ∧ Rp K H v (setD p n t) ∧ SetOk p n t ∧ Rp K H u (PI row) ∧ row.length = n.toNat ∧ Rp K H z (PI poly) ∧ ∀ r H', Same H H' → Rp K H' r (PI (wrongM p n row poly)) → Q r H'
theorem Txt.c_wrong (T : Txt K mg cP cD) : C8.Cal P w K mg base 2 "wrong" (sp_wrong K) [] := by
  refine T.d_wrong.cal sc_wrong (fun vs H Q E h => ?_) (fun f cdv A outer s H vs Q E hr h => ?_)
  · obtain ⟨p, n, t, v, u, z, row, poly, rfl, _⟩ := h
    rfl
  · obtain ⟨p, n, t, v, u, z, row, poly, rfl, hv, ok, hu, hl, hz, q⟩ := h
    obtain ⟨a, rfl, hA⟩ := hv.setting
    obtain ⟨b, rfl, hB⟩ := hu.pi
    obtain ⟨c, rfl, hC⟩ := hz.pi
    have := ok.n1
    have T_c_parties := T.c_parties (P := P) (w := w) (base := base)
    have T_c_value_at := T.c_value_at (P := P) (w := w) (base := base)
    refine ⟨_, (pss_one (ps_ret (pe_tupleOf (by rfl) T.n_tuple (pe_lc (own := [("party", 3)]) (g := gName 3) rfl sc_wrong.nd (pi_tup (C8.pe_c T_c_parties hr (by decide) (by rfl) (pa_cons (pv 0) pa_nil))) (blkOk_by (N := ["setting", "row", "poly", "party"]) (sc := defScope s_wrong) (by decide +kernel)) (fun _ _ _ _ _ => pg_name (i := 3) sc_wrong.nd rfl (Or.inl rfl)) (fun _ _ _ _ _ => pts_one (pt_cmpR op_ne (pe_ix (ixT K) (pv 1) (pe_op op_sub (pv 3) pe_int) (fun _ _ => rfl)) (C8.pe_c T_c_value_at hr (by decide) (by rfl) (pa_cons (pe_ix (ixT K) (pv 0) pe_int (fun _ _ => rfl)) (pa_cons (pv 2) (pa_cons (pv 3) pa_nil)))) (nomark _))) (fun _ _ _ _ _ => (pv 3)))))), ?_⟩
    refine ⟨_, rfl, p, n, t, _, rfl, hv, ok, fun r1 H1 e1 rp1 => ?_⟩
    obtain ⟨d, rfl, hD⟩ := rp1.pi
    refine ⟨d, rfl, ⟨_, hD⟩, lcT hD (by rw [List.length_map, partsM_len]; omega) (fun i => (partsM n)[i]?.bind fun x => if (decide (¬ row.getD (x - 1).toNat 0 = valueM p poly x)) then some (PyData.int x) else none) (fun i x H2 hi hx e2 Acc Skip ka ks => ?_) fun D H2 acc hD e2 ha r => tupOf ha r fun c H' e' rc => q _ _ ((e1.trans e2).trans e') ?_⟩
    · obtain ⟨y, hy, rfl⟩ := map_got hx
      have hym := partsM_mem.mp (List.mem_of_getElem? hy)
      have e12 := e1.trans e2
      have hyl : (y - 1).toNat < row.length := by omega
      refine ⟨rfl, _, rfl, _, rfl, _, _, rfl, rfl, _, _, _, .int row[(y - 1).toNat], rfl, rfl, e12.tf.sqT hB, at_of (j := (y - 1).toNat) (by omega) (map_get (List.getElem?_eq_getElem hyl)), ?_⟩
      refine ⟨_, rfl, _, _, 1, _, rfl, rfl, e12.tf.sqT hA, rfl, _, rfl, _, rfl, p, y, _, poly, rfl, hz.sm e12, ok.p0, ok.p1, rfl, _, rfl, ?_⟩
      have e4 : row.getD (y - 1).toNat 0 = row[(y - 1).toNat] := getD_get hyl
      by_cases hc : row[(y - 1).toNat] = valueM p poly y
      · rw [show (!decide (V.int row[(y - 1).toNat] = V.int (valueM p poly y))) = false by rw [decide_eq_true (congrArg V.int hc)]; rfl]
        refine iteF (A := False) (ks _ ?_ (Same.refl _))
        simp only [hy, Option.bind_some, e4, hc, not_true_eq_false, decide_false, Bool.false_eq_true, if_false]
      · rw [show (!decide (V.int row[(y - 1).toNat] = V.int (valueM p poly y))) = true by rw [decide_eq_false (fun z => hc (V.int.inj z))]; rfl]
        refine iteT (B := False) ⟨_, rfl, ka _ (.int y) _ ?_ (Same.refl _) (.int _)⟩
        simp only [hy, Option.bind_some, e4, hc, not_false_eq_true, decide_true, if_true]
    · rw [List.length_map, fm_range, filter_fm] at rc
      exact rc
def sp_readings (K : PySem.W.Frag) (t : Nat) : Sp := fun vs H Q _ => ∃ (p n e : Int) (v u : V) (row : List Int), vs = [v, u, .int e] ∧ Rp K H v (setD p n t) ∧ SetOk p n t ∧ Rp K H u (PI row) ∧ row.length = n.toNat ∧ (∀ x ∈ row, Sm x) ∧ (readingsM p n t row e).length ≤ 1 ∧
  ∀ r H', Same H H' → Rp K H' r (.tuple ((readingsM p n t row e).map PI)) → Q r H'
theorem Txt.c_readings (T : Txt K mg cP cD) (t : Nat) (ht : t ≤ 3) : C8.Cal P w K mg base 6 "readings" (sp_readings K t) [] := by
  refine T.d_readings.cal sc_readings (fun vs H Q E h => ?_) (fun f cdv A outer s H vs Q E hr h => ?_)
  · obtain ⟨p, n, e, v, u, row, rfl, _⟩ := h
    rfl
  · obtain ⟨p, n, e, v, u, row, rfl, hv, ok, hu, hl, hsm, h1, q⟩ := h
    obtain ⟨a, rfl, hA⟩ := hv.setting
    obtain ⟨b, rfl, hB⟩ := hu.pi
    have hn1 := ok.n1
    have hp0 := ok.p0
    have T_c_sets_of := (T.c_sets_of (P := P) (w := w) (base := base) (t + 1) (by omega)).mono (show t + 1 + 1 ≤ 5 by omega)
    have T_c_parties := T.c_parties (P := P) (w := w) (base := base)
    have T_c_through := T.c_through (P := P) (w := w) (base := base)
    have T_c_wrong := T.c_wrong (P := P) (w := w) (base := base)
    refine ⟨_, (pss_cons (ps_set (i := 3) sc_readings.nd rfl (Or.inl rfl) (pe_lst pa_nil))
      (pss_cons (ps_for PassesOwn.never rfl (pi_list (C8.pe_c T_c_sets_of hr (by decide) (by rfl) (pa_cons (C8.pe_c T_c_parties hr (by decide) (by rfl) (pa_cons (pv 0) pa_nil)) (pa_cons (pe_op op_add (pe_ix (ixT K) (pv 0) pe_int (fun _ _ => rfl)) pe_int) pa_nil)))) (pg_name (i := 4) sc_readings.nd rfl (Or.inl rfl))
        (pss_cons (ps_set (i := 5) sc_readings.nd rfl (Or.inl rfl) (C8.pe_c T_c_through hr (by decide) (by rfl) (pa_cons (pe_ix (ixT K) (pv 0) pe_int (fun _ _ => rfl)) (pa_cons (pv 4) (pa_cons (pe_tupleOf (by rfl) T.n_tuple (pe_lc (own := [("party", 6)]) (g := gName 6) rfl sc_readings.nd (pi_tup (pv 4)) (blkOk_by (N := ["setting", "row", "e", "found", "points", "poly", "party"]) (sc := defScope s_readings) (by decide +kernel)) (fun _ _ _ _ _ => pg_name (i := 6) sc_readings.nd rfl (Or.inl rfl)) (fun _ _ _ _ _ => pts_nil) (fun _ _ _ _ _ => (pe_ix (ixT K) (pv 1) (pe_op op_sub (pv 6) pe_int) (fun _ _ => rfl))))) pa_nil)))))
        (pss_one (ps_if (PW.pt (pw_and (pt_cmpR (op_notInD (UR.hu65 hr)) (pv 5) (pv 3) rfl) (pw_and1 (pt_cmpR op_le (pe_callB (lenS K) (by rfl) T.n_len PySem.boot_len (pa_cons (C8.pe_c T_c_wrong hr (by decide) (by rfl) (pa_cons (pv 0) (pa_cons (pv 1) (pa_cons (pv 5) pa_nil)))) pa_nil)) (pv 2) (nomark _)))))
          (pss_one (ps_expr (pe_bm PySem.F.plainAttrs_list PySem.F.slot_list_append PySem.F.type_list_append mt_append (pv 3) (pa_cons (pv 5) pa_nil))))
          pss_nil))))
      (pss_one (ps_ret (pe_tupleOf (by rfl) T.n_tuple (pe_callB (cr_sortT (d := t + 1) (B := p) (by omega)) (by rfl) T.n_sorted (by decide +kernel) (pa_cons (pv 3) pa_nil))))))), ?_⟩
    refine ⟨Nat.zero_le _, fun l0 hl0 => ?_⟩
    refine ⟨_, rfl, p, n, t, _, rfl, hv.sm (Same.new hl0), ok, fun r1 H1 e1 rp1 => ?_⟩
    have e01 := (Same.new (o := .lst []) hl0).trans e1
    refine ⟨_, rfl, _, _, 3, _, rfl, rfl, e01.tf.sqT hA, rfl, _, _, rfl, rfl, r1, partsM n, rfl, rp1, by rw [partsM_len]; omega, fun d ys H2 hd e2 hy ry => ?_⟩
    have e02 := e01.trans e2
    have hx2 := e2 l0 _ (e1 l0 _ upd_same)
    have hdl : d ≠ l0 := fun z => by rw [z, e1 l0 _ upd_same] at hd; cases hd
    have hylen := ry.len
    rw [List.length_map] at hylen
    have hok := fun j => readings_ok (p := p) (n := n) (t := t) (row := row) (e := e) hp0 ((setsM (t + 1) (partsM n)).take j) [] (fun s hs => (setsM_mem _ _ s (List.mem_of_mem_take hs)).1) (by simp)
    have hgr : ∀ j, (((setsM (t + 1) (partsM n)).take j).foldl (readStep p n row e) []).length ≤ 1 := fun j => by
      refine Nat.le_trans ?_ h1
      unfold readingsM
      conv => rhs; rw [← List.take_append_drop j (setsM (t + 1) (partsM n)), List.foldl_append]
      exact readings_grow _ _
    refine ⟨d, rfl, ⟨_, SqL.of hy⟩, for_list (K := K) (a := d) (xs := ys)
      (fun j σ H' => ∃ y z w xs, σ = [some (.ref a), some (.ref b), some (.int e), some (.ref l0), y, z, w] ∧ But (fun x => x = l0) H2 H' ∧ H' l0 = some (.lst xs) ∧ RpAll K H' xs ((((setsM (t + 1) (partsM n)).take j).foldl (readStep p n row e) []).map PI))
      ⟨none, none, none, [], rfl, But.refl _ _, hx2, .nil⟩ (fun j σ H' _ ⟨_, _, _, _, _, b, _⟩ => SqL.of (b d _ hy hdl)) ?_ ?_⟩
    · rintro j v3 σ H3 hv3 ⟨y, z, w3, xs, rfl, b3, hx3, r3⟩
      have tf3 : TF H2 H3 := b3.tf fun b o hb ho => by rw [hb, hx2] at ho; cases ho; exact plain_lst
      obtain ⟨dv, hdv, rpv⟩ := ry.got hv3
      obtain ⟨pts, hpts, rfl⟩ := map_got hdv
      obtain ⟨hpl, hpm⟩ := setsM_mem _ _ pts (List.mem_of_getElem? hpts)
      have rpp := rpv.tf tf3
      obtain ⟨pp, rfl, hP⟩ := rpp.pi
      have tfA : TF H H3 := e02.tf.trans tf3
      refine ⟨_, rfl, _, _, 1, _, rfl, rfl, tfA.sqT hA, rfl, _, rfl, _, rfl, pp, rfl, ⟨_, hP⟩, ?_⟩
      refine lcT1 (Qd := fun D H' => _) (L := (pts.map fun i => row.getD (i - 1).toNat 0).map PyData.int) hP (by simp) (by rw [List.length_map, hpl]; omega) (fun i x d4 H4 hd4 hx4 e4 Acc k => ?_) fun D H4 acc hD4 e4 ha4 r4 => tupOf ha4 r4 fun c5 H5 e5 r5 => ?_
      · obtain ⟨y4, hy4, rfl⟩ := map_got hx4
        rw [map_get (map_get hy4)] at hd4
        cases hd4
        have hym := partsM_mem.mp (hpm _ (List.mem_of_getElem? hy4))
        have hyl : (y4 - 1).toNat < row.length := by omega
        refine ⟨rfl, _, rfl, _, rfl, _, _, rfl, rfl, _, _, _, .int row[(y4 - 1).toNat], rfl, rfl, (tfA.trans e4.tf).sqT hB, at_of (j := (y4 - 1).toNat) (by omega) (map_get (List.getElem?_eq_getElem hyl)), ?_⟩
        rw [getD_get hyl] at k
        exact k _ _ (Same.refl _) (.int _)
      have e35 := e4.trans e5
      refine ⟨p, .ref pp, .ref c5, pts, _, rfl, rpp.sm e35, r5, List.length_map .., by omega, by omega, hp0, ok.p1, fun x hx => partsM_sm hn1 x (hpm x hx), fun x hx => ?_, fun r6 H6 e6 rp6 => ?_⟩
      · obtain ⟨i, hi, rfl⟩ := List.mem_map.mp hx
        have hym := partsM_mem.mp (hpm _ hi)
        rw [getD_get (show (i - 1).toNat < row.length by omega)]
        exact hsm _ (List.getElem_mem _)
      have e36 := e35.trans e6
      have hx6 := e36 l0 _ hx3
      have r36 := r3.sm e36
      generalize hf : ((setsM (t + 1) (partsM n)).take j).foldl (readStep p n row e) [] = found at r3 r36
      have hstep : ((setsM (t + 1) (partsM n)).take (j + 1)).foldl (readStep p n row e) [] = readStep p n row e found pts := by
        rw [foldl_take _ _ hpts, hf]
      refine ⟨_, rfl, _, rfl, PI (polyAt p row pts), found.map PI, rp6.dp, .lst (SqL.of hx6) r36.dp, shapedPI _, shapedPIs _, ?_⟩
      rw [any_in]
      refine ⟨_, rfl, ?_⟩
      by_cases hin : polyAt p row pts ∈ found
      · rw [decide_eq_true hin]
        refine iteF (A := False) (iteF (A := False) ?_)
        refine ⟨_, _, _, xs, rfl, b3.trans e36.but, hx6, ?_⟩
        rw [hstep]
        unfold readStep
        rw [if_neg (fun z => z.1 hin)]
        exact r36
      · rw [decide_eq_false hin]
        refine iteT (B := False) ?_
        refine ⟨_, rfl, _, rfl, _, rfl, p, n, t, _, _, _, row, _, rfl, (hv.tf tfA).sm e36, ok, (hu.tf tfA).sm e36, hl, rp6, fun r7 H7 e7 rp7 => ?_⟩
        obtain ⟨c7, rfl, h7⟩ := rp7.pi
        refine ⟨c7, _, rfl, .inr h7, _, rfl, _, _, rfl, rfl, _, rfl, ?_⟩
        have e37 := e36.trans e7
        have hx7 := e7 l0 _ hx6
        rw [List.length_map]
        refine ite2 (fun hc => ?_) (fun hc => ?_)
        · have hc' := of_decide_eq_true hc
          refine ⟨_, rfl, .inl ⟨rfl, _, SqL.of hx7⟩, _, rfl, l0, xs, r6, rfl, rfl, hx7, ?_, ?_⟩
          · have := r3.len
            rw [List.length_map, ← hf] at this
            have := hgr j
            exact small' (by omega)
          · have tf : TF H7 (upd H7 l0 (.lst (xs ++ [r6]))) := TF.upd hx7 plain_lst
            refine ⟨_, _, _, xs ++ [r6], rfl, (b3.trans e37.but).own rfl, upd_same, ?_⟩
            rw [hstep]
            unfold readStep
            rw [if_pos ⟨hin, hc'⟩, List.map_append]
            exact RpAll.app ((r36.sm e7).tf tf) (.one ((rp6.sm e7).tf tf))
        · have hc' : ¬ ((wrongM p n row (polyAt p row pts)).length : Int) ≤ e := fun z => hc (decide_eq_true z)
          refine ⟨_, _, _, xs, rfl, b3.trans e37.but, hx7, ?_⟩
          rw [hstep]
          unfold readStep
          rw [if_neg (fun z => hc' z.2)]
          exact r36.sm e7
    · rintro σ H3 ⟨y, z, w3, xs, rfl, b3, hx3, r3⟩
      rw [hylen, List.take_length] at r3
      have hlen := r3.len
      rw [List.length_map] at hlen
      have hok' := hok (setsM (t + 1) (partsM n)).length
      rw [List.take_length] at hok'
      refine ⟨_, rfl, l0, xs, rfl, SqL.of hx3, by have : (readingsM p n t row e).length ≤ 1 := h1; unfold readingsM at this; omega, fun x hx => ?_, fun zs c hperm _ hc => ?_⟩
      · obtain ⟨i, hi⟩ := List.getElem?_of_mem hx
        obtain ⟨dv, hdv, rpv⟩ := r3.got hi
        obtain ⟨qq, hqq, rfl⟩ := map_got hdv
        obtain ⟨pp, rfl, hP⟩ := rpv.pi
        exact ⟨qq, ⟨pp, rfl, hP⟩, hok' qq (List.mem_of_getElem? hqq)⟩
      · have ez : zs = xs := perm_small (by have : (readingsM p n t row e).length ≤ 1 := h1; unfold readingsM at this; omega) hperm
        subst ez
        have e03 : Same H H3 := e02.but1 b3 hl0
        refine tupOf (ds := (readingsM p n t row e).map PI) upd_same (r3.sm (Same.new hc)) fun c4 H4 e4 r4 => q _ _ ((e03.trans (Same.new hc)).trans e4) r4
def sp_read (K : PySem.W.Frag) (t : Nat) : Sp := fun vs H Q _ => ∃ (p n : Int) (v u : V) (row : List Int), vs = [v, u] ∧ Rp K H v (setD p n t) ∧ SetOk p n t ∧ Rp K H u (PI row) ∧ row.length = n.toNat ∧ (∀ x ∈ row, Sm x) ∧ (readingsM p n t row ((n - (t : Int) - 1) / 2)).length ≤ 1 ∧
  ∀ r H', Same H H' → (∀ x, readM p n t row = some x → r = .int x) → (readM p n t row = none → r = .non) → Q r H'
theorem read_body (T : Txt K mg cP cD) (t : Nat) (ht : t ≤ 3) {y : Str} (D : DefIn K mg y "read" s_read ["setting", "row"]) : C8.Cal P w K mg base 7 y (sp_read K t) [] := by
  refine D.cal sc_read (fun vs H Q E h => ?_) (fun f cdv A outer s H vs Q E hr h => ?_)
  · obtain ⟨p, n, v, u, row, rfl, _⟩ := h
    rfl
  · obtain ⟨p, n, v, u, row, rfl, hv, ok, hu, hl, hsm, h1, q⟩ := h
    have T_c_readings := T.c_readings (P := P) (w := w) (base := base) t ht
    have T_c_most_wrong := T.c_most_wrong (P := P) (w := w) (base := base)
    refine ⟨_, (pss_cons (ps_set (i := 2) sc_read.nd rfl (Or.inl rfl) (C8.pe_c T_c_readings hr (by decide) (by rfl) (pa_cons (pv 0) (pa_cons (pv 1) (pa_cons (C8.pe_c T_c_most_wrong hr (by decide) (by rfl) (pa_cons (pv 0) pa_nil)) pa_nil)))))
      (pss_cons (ps_if (pt_cmpR (op_eqD hr.units) (pv 2) (pe_tup pa_nil) (nomark _))
        (pss_one (ps_ret pe_non))
        pss_nil)
      (pss_one (ps_ret (pe_ix (ixT K) (pe_ix (ixT K) (pv 2) pe_int (fun _ _ => rfl)) pe_int (fun _ _ => rfl)))))), ?_⟩
    refine ⟨_, rfl, _, rfl, _, rfl, p, n, t, _, rfl, hv, p, n, _, _, _, row, rfl, hv, ok, hu, hl, hsm, h1, fun r1 H1 e1 rp1 => ?_⟩
    refine ⟨_, rfl, by show 0 ≤ sizeLine; decide, fun c hc => ⟨.tuple ((readingsM p n t row ((n - (t : Int) - 1) / 2)).map PI), .tuple [], (rp1.sm (Same.new hc)).dp, .tup sqT_new .nil, shapedPIt _, by decide, _, rfl, ?_⟩⟩
    have e2 := e1.trans (Same.new (o := .tup []) hc)
    have rp2 := rp1.sm (Same.new (o := .tup []) hc)
    unfold readM at q
    have hq : ∀ q ∈ readingsM p n t row ((n - (t : Int) - 1) / 2), q.length = t + 1 := fun z hz => (readings_ok (p := p) (n := n) (t := t) (row := row) (e := (n - (t : Int) - 1) / 2) ok.p0 (setsM (t + 1) (partsM n)) [] (fun s hs => (setsM_mem _ _ s hs).1) (by simp) z hz).1
    generalize readingsM p n t row ((n - (t : Int) - 1) / 2) = found at *
    cases found with
    | nil =>
      rw [show PyData.eqv (.tuple (([] : List (List Int)).map PI)) (.tuple []) = true by simp [PyData.eqv, PyData.eqvAll]]
      refine iteT (B := False) (q _ _ e2 (fun x hx => ?_) fun _ => rfl)
      cases hx
    | cons f0 fr =>
      rw [show PyData.eqv (.tuple ((f0 :: fr).map PI)) (.tuple []) = false by simp [PyData.eqv, PyData.eqvAll]]
      obtain ⟨a1, xs1, rfl, h2, h3⟩ := rp2.tupl
      cases h3 with | cons r0 rr =>
      obtain ⟨a2, rfl, h4⟩ := r0.pi
      have hl0 := hq f0 (List.mem_cons_self ..)
      cases f0 with
      | nil => cases hl0
      | cons g0 gr =>
        refine iteF (A := False) ⟨_, rfl, _, _, 0, .ref a2, rfl, rfl, h2, at_of (j := 0) rfl rfl, _, _, 0, .int g0, rfl, rfl, h4, at_of (j := 0) rfl rfl, ?_⟩
        refine q _ _ e2 (fun x hx => ?_) fun hx => ?_
        · have e5 : g0 = x := Option.some.inj hx
          rw [e5]
        · cases hx
end
end U

namespace U
open PySem PySem.Spec PyProof.Rows L2
/-! ### rows of programs -/
inductive Row where
  | inp (j : Int) | const (c : Int) | sum (a b : Nat) | less (a b : Nat) | product (a b : Nat) | times (c : Int) (a : Nat) | out (a : Nat) (j : Int) | next | kept (a : Nat)
  deriving DecidableEq
def names : Fin 9 → Str
  | 0 => "in" | 1 => "const" | 2 => "sum" | 3 => "less" | 4 => "product" | 5 => "times" | 6 => "out" | 7 => "next" | 8 => "kept"
def Row.kn : Row → Fin 9
  | .inp _ => 0 | .const _ => 1 | .sum _ _ => 2 | .less _ _ => 3 | .product _ _ => 4 | .times _ _ => 5 | .out _ _ => 6 | .next => 7 | .kept _ => 8
def Row.args : Row → List Int
  | .inp j => [j] | .const c => [c] | .sum a b => [a, b] | .less a b => [a, b] | .product a b => [a, b] | .times c a => [c, a] | .out a j => [a, j] | .next => [] | .kept a => [a]
abbrev Row.items (r : Row) : List V := .str (names r.kn) :: r.args.map V.int
abbrev Row.data (r : Row) : PyData := .tuple (.str (names r.kn) :: r.args.map PyData.int)
def progD (rows : List Row) : PyData := .tuple [.str "program", .tuple (rows.map Row.data)]
theorem names_eq : ∀ a b : Fin 9, decide (V.str (names a) = V.str (names b)) = decide (a = b) := by decide +kernel
theorem kF (a b : Fin 9) (h : a ≠ b := by decide) : decide (V.str (names a) = V.str (names b)) = false := by
  rw [names_eq]; exact decide_eq_false h
theorem kT (a : Fin 9) : decide (V.str (names a) = V.str (names a)) = true := by
  rw [names_eq]; exact decide_eq_true rfl
theorem decInt (a b : Int) : decide (V.int a = V.int b) = decide (a = b) := by
  by_cases h : a = b
  · rw [decide_eq_true h, decide_eq_true (congrArg V.int h)]
  · rw [decide_eq_false h, decide_eq_false fun z => h (V.int.inj z)]
theorem in2 : ∀ a b c : Fin 9, inV (V.str (names a)) [.str (names b), .str (names c)] = (decide (a = b) || decide (a = c)) := by decide +kernel
theorem in3 : ∀ a b c d : Fin 9, inV (V.str (names a)) [.str (names b), .str (names c), .str (names d)] = (decide (a = b) || (decide (a = c) || decide (a = d))) := by decide +kernel
theorem flat2 (a b : Fin 9) : [V.str (names a), V.str (names b)].all flatV = true := rfl
def Row.isInp : Row → Bool
  | .inp _ => true
  | _ => false
def sendsM (r : Row) (i j : Int) : Bool := if i = j then false else match r with
  | .inp a => decide (a = i)
  | .out _ b => decide (b = j)
  | .product _ _ => true
  | .kept _ => true
  | _ => false
/-- the wires that a row names -/
def Row.named : Row → List Nat
  | .sum a b => [a, b] | .less a b => [a, b] | .product a b => [a, b] | .times _ a => [a] | .out a _ => [a] | .kept a => [a] | _ => []
def natsD (l : List Nat) : PyData := PI (l.map fun (i : Nat) => (i : Int))
def inputRowsM (rows : List Row) : List Nat := (List.range rows.length).filter fun k => (rows[k]?.map Row.isInp).getD false
section
variable {P : Program} {w : World} {K : PySem.W.Frag} {mg : Str → Option Value} {base : Heap} {cP cD : Addr}
theorem Rp.row {H : Hp} {v : V} {r : Row} (h : Rp K H v r.data) : ∃ a, v = .ref a ∧ SqT K H a r.items := by
  obtain ⟨a, xs, e, h1, h2⟩ := h.tupl
  cases h2 with | cons r1 t1 =>
  cases r1
  rw [RpAll.ints_eq t1] at h1
  exact ⟨a, e, h1⟩
theorem Rp.prog {H : Hp} {v : V} {rows : List Row} (h : Rp K H v (progD rows)) : ∃ a b xs, v = .ref a ∧ SqT K H a [.str "program", .ref b] ∧ SqT K H b xs ∧ RpAll K H xs (rows.map Row.data) := by
  obtain ⟨a, xs, e, h1, h2⟩ := h.tupl
  cases h2 with | cons r1 t1 =>
  cases t1 with | cons r2 t2 =>
  cases t2
  cases r1
  obtain ⟨b, ys, rfl, h3, h4⟩ := r2.tupl
  exact ⟨a, b, ys, e, h1, h3, h4⟩
theorem RpAll.rowAt {H : Hp} {xs : List V} {rows : List Row} {k : Nat} {r : Row} (h : RpAll K H xs (rows.map Row.data)) (hr : rows[k]? = some r) : ∃ a, xs[k]? = some (.ref a) ∧ SqT K H a r.items := by
  obtain ⟨v, h1, h2⟩ := h.get (map_get hr)
  obtain ⟨a, rfl, h3⟩ := h2.row
  exact ⟨a, h1, h3⟩
def sp_named (K : PySem.W.Frag) : Sp := fun vs H Q _ => ∃ (v : V) (r : Row), vs = [v] ∧ Rp K H v r.data ∧ ∀ u H', Same H H' → Rp K H' u (natsD r.named) → Q u H'
theorem Txt.c_named (T : Txt K mg cP cD) : C8.Cal P w K mg base 1 "named" (sp_named K) [] := by
  refine T.d_named.cal sc_named (fun vs H Q E h => ?_) (fun f cdv A outer s H vs Q E hr h => ?_)
  · obtain ⟨v, r, rfl, _⟩ := h
    rfl
  · obtain ⟨v, r, rfl, hv, q⟩ := h
    obtain ⟨a, rfl, hA⟩ := hv.row
    refine ⟨_, (pss_cons (ps_set (i := 1) sc_named.nd rfl (Or.inl rfl) (pe_ix (ixT K) (pv 0) pe_int (fun _ _ => rfl)))
      (pss_cons (ps_if (pt_cmpR (inS K) (pv 1) (pe_tup (pa_cons pe_str (pa_cons pe_str (pa_cons pe_str pa_nil)))) rfl)
        (pss_one (ps_ret (pe_slice (slT K) (pv 0) (po_some pe_int) po_none)))
        pss_nil)
      (pss_cons (ps_if (pt_cmpR op_eq (pv 1) pe_str (nomark _))
        (pss_one (ps_ret (pe_slice (slT K) (pv 0) (po_some pe_int) po_none)))
        pss_nil)
      (pss_cons (ps_if (pt_cmpR (inS K) (pv 1) (pe_tup (pa_cons pe_str (pa_cons pe_str pa_nil))) rfl)
        (pss_one (ps_ret (pe_slice (slT K) (pv 0) (po_some pe_int) (po_some pe_int))))
        pss_nil)
      (pss_one (ps_ret (pe_tup pa_nil))))))), ?_⟩
    have hi : atI r.items 0 = some (.str (names r.kn)) := at_of (j := 0) rfl rfl
    refine ⟨_, rfl, _, _, 0, _, rfl, rfl, hA, hi, ?_⟩
    refine ⟨_, rfl, by show 3 ≤ sizeLine; decide, fun t1 h1 => ⟨t1, _, rfl, .inr sqT_new, rfl, rfl, _, congrArg V.bl (in3 r.kn 2 3 4), ?_⟩⟩
    have s1 := Same.new (o := .tup [V.str (names 2), .str (names 3), .str (names 4)]) h1
    have hA1 := s1.tf.sqT hA
    have ret : ∀ (lo hi : Option Int) (c : Addr) (H2 : Hp), Same H H2 → SqT K H2 c (cutV r.items lo hi) → cutV r.items lo hi = (r.named.map fun (i : Nat) => V.int (i : Int)) → Q (.ref c) H2 := fun lo hi c H2 e2 hc e => q _ _ e2 (.ofPi (by rw [List.map_map]; rw [e] at hc; exact hc))
    cases r
    case sum a b | less a b | product a b => exact ⟨_, rfl, 1, rfl, noP (slA hA1 rfl fun c H2 e2 h2 => ret (some 1) none _ _ (s1.trans e2) h2 rfl)⟩
    case times c a => exact ⟨_, rfl, rfl, true, congrArg V.bl (kT 5), _, rfl, 2, rfl, noP (slA hA1 rfl fun c H2 e2 h2 => ret (some 2) none _ _ (s1.trans e2) h2 rfl)⟩
    case out a j =>
      refine ⟨_, rfl, rfl, false, congrArg V.bl (kF 6 5), _, rfl, by show 2 ≤ sizeLine; decide, fun t2 h2 => ⟨t2, _, rfl, .inr sqT_new, rfl, rfl, _, congrArg V.bl (in2 6 6 8), ?_⟩⟩
      have s2 := s1.trans (Same.new (o := .tup [V.str (names 6), .str (names 8)]) h2)
      exact ⟨_, rfl, 1, rfl, 2, rfl, slA (s2.tf.sqT hA) rfl fun c H2 e2 h2 => ret (some 1) (some 2) _ _ (s2.trans e2) h2 rfl⟩
    case kept a =>
      refine ⟨_, rfl, rfl, false, congrArg V.bl (kF 8 5), _, rfl, by show 2 ≤ sizeLine; decide, fun t2 h2 => ⟨t2, _, rfl, .inr sqT_new, rfl, rfl, _, congrArg V.bl (in2 8 6 8), ?_⟩⟩
      have s2 := s1.trans (Same.new (o := .tup [V.str (names 6), .str (names 8)]) h2)
      exact ⟨_, rfl, 1, rfl, 2, rfl, slA (s2.tf.sqT hA) rfl fun c H2 e2 h2 => ret (some 1) (some 2) _ _ (s2.trans e2) h2 rfl⟩
    case inp j =>
      refine ⟨_, rfl, rfl, false, congrArg V.bl (kF 0 5), _, rfl, by show 2 ≤ sizeLine; decide, fun t2 h2 => ⟨t2, _, rfl, .inr sqT_new, rfl, rfl, _, congrArg V.bl (in2 0 6 8), ?_⟩⟩
      exact ⟨by show 0 ≤ sizeLine; decide, fun c hc => q _ _ ((s1.trans (Same.new h2)).trans (Same.new hc)) (.tup sqT_new .nil)⟩
    case const j =>
      refine ⟨_, rfl, rfl, false, congrArg V.bl (kF 1 5), _, rfl, by show 2 ≤ sizeLine; decide, fun t2 h2 => ⟨t2, _, rfl, .inr sqT_new, rfl, rfl, _, congrArg V.bl (in2 1 6 8), ?_⟩⟩
      exact ⟨by show 0 ≤ sizeLine; decide, fun c hc => q _ _ ((s1.trans (Same.new h2)).trans (Same.new hc)) (.tup sqT_new .nil)⟩
    case next =>
      refine ⟨_, rfl, rfl, false, congrArg V.bl (kF 7 5), _, rfl, by show 2 ≤ sizeLine; decide, fun t2 h2 => ⟨t2, _, rfl, .inr sqT_new, rfl, rfl, _, congrArg V.bl (in2 7 6 8), ?_⟩⟩
      exact ⟨by show 0 ≤ sizeLine; decide, fun c hc => q _ _ ((s1.trans (Same.new h2)).trans (Same.new hc)) (.tup sqT_new .nil)⟩
def sp_input_rows (K : PySem.W.Frag) : Sp := fun vs H Q _ => ∃ (v : V) (rows : List Row), vs = [v] ∧ Rp K H v (progD rows) ∧ rows.length ≤ 60 ∧ ∀ u H', Same H H' → Rp K H' u (natsD (inputRowsM rows)) → Q u H'
theorem Txt.c_input_rows (T : Txt K mg cP cD) : C8.Cal P w K mg base 1 "input_rows" (sp_input_rows K) [] := by
  refine T.d_input_rows.cal sc_input_rows (fun vs H Q E h => ?_) (fun f cdv A outer s H vs Q E hr h => ?_)
  · obtain ⟨v, r, rfl, _⟩ := h
    rfl
  · obtain ⟨v, rows, rfl, hv, hz, q⟩ := h
    obtain ⟨a, b, xs, rfl, hA, hB, hR⟩ := hv.prog
    have hxl := hR.len
    rw [List.length_map] at hxl
    refine ⟨_, (pss_one (ps_ret (pe_tupleOf (by rfl) T.n_tuple (pe_lc (own := [("k", 1)]) (g := gName 1) rfl sc_input_rows.nd (pi_range1 (by rfl) T.n_range (pa_cons (pe_callB (lenS K) (by rfl) T.n_len PySem.boot_len (pa_cons (pe_ix (ixT K) (pv 0) pe_int (fun _ _ => rfl)) pa_nil)) pa_nil)) (blkOk_by (N := ["program", "k"]) (sc := defScope s_input_rows) (by decide +kernel)) (fun _ _ _ _ _ => pg_name (i := 1) sc_input_rows.nd rfl (Or.inl rfl)) (fun _ _ _ _ _ => pts_one (pt_cmpR op_eq (pe_ix (ixT K) (pe_ix (ixT K) (pe_ix (ixT K) (pv 0) pe_int (fun _ _ => rfl)) (pv 1) (fun _ _ => rfl)) pe_int (fun _ _ => rfl)) pe_str (nomark _))) (fun _ _ _ _ _ => (pv 1)))))), ?_⟩
    refine ⟨_, rfl, _, _, 1, _, rfl, rfl, hA, at_of (j := 1) rfl rfl, b, xs, rfl, .inr hB, _, rfl, by omega, by omega, lcR (n := xs.length) (by omega) (fun (i : Nat) => if (rows[i]?.map Row.isInp).getD false then some (PyData.int (i : Int)) else none) (fun i x H1 hi hx e1 Acc Skip ka ks => ?_) fun D H2 acc hD e2 ha r => tupOf ha r fun c H' e' rc => q _ _ (e2.trans e') ?_⟩
    · subst hx
      obtain ⟨r, hr⟩ : ∃ r, rows[i]? = some r := ⟨rows[i]'(by omega), List.getElem?_eq_getElem (by omega)⟩
      obtain ⟨ra, h1, h2⟩ := hR.rowAt hr
      refine ⟨rfl, _, rfl, _, _, 1, _, rfl, rfl, e1.tf.sqT hA, at_of (j := 1) rfl rfl, _, rfl, _, _, _, _, rfl, rfl, e1.tf.sqT hB, atI_nat h1, _, _, 0, _, rfl, rfl, e1.tf.sqT h2, at_of (j := 0) rfl rfl, rfl, _, congrArg V.bl (names_eq r.kn 0), ?_⟩
      simp only [hr, Option.map_some, Option.getD_some] at ka ks
      cases r
      case inp j => exact ⟨_, rfl, ka _ _ _ rfl (Same.refl _) (.int _)⟩
      all_goals exact ks _ rfl (Same.refl _)
    · have e3 : (List.range xs.length).filterMap (fun (i : Nat) => if (rows[i]?.map Row.isInp).getD false then some (PyData.int (i : Int)) else none) = ((inputRowsM rows).map fun (i : Nat) => (i : Int)).map PyData.int := by
        unfold inputRowsM
        rw [hxl, List.map_map, ← List.filterMap_eq_filter, List.map_filterMap]
        congr 1
        funext i
        show _ = Option.map _ (Option.guard _ i)
        unfold Option.guard
        cases hc : (rows[i]?.map Row.isInp).getD false <;> simp [hc]
      rw [e3] at rc
      exact rc
def sp_sends (K : PySem.W.Frag) : Sp := fun vs H Q _ => ∃ (v u : V) (rows : List Row) (k : Nat) (r : Row) (i j : Int), vs = [v, u, .int (k : Int), .int i, .int j] ∧ Rp K H u (progD rows) ∧ rows[k]? = some r ∧ ∀ H', Same H H' → Q (.bl (sendsM r i j)) H'
theorem Txt.c_sends (T : Txt K mg cP cD) : C8.Cal P w K mg base 1 "sends" (sp_sends K) [] := by
  refine T.d_sends.cal sc_sends (fun vs H Q E h => ?_) (fun f cdv A outer s H vs Q E hr h => ?_)
  · obtain ⟨v, u, rows, k, r, i, j, rfl, _⟩ := h
    rfl
  · obtain ⟨v, u, rows, k, r, i, j, rfl, hu, hrk, q⟩ := h
    obtain ⟨a, b, xs, rfl, hA, hB, hR⟩ := hu.prog
    obtain ⟨ra, h1, h2⟩ := hR.rowAt hrk
    have hi : atI r.items 0 = some (.str (names r.kn)) := at_of (j := 0) rfl rfl
    refine ⟨_, (pss_cons (ps_set (i := 5) sc_sends.nd rfl (Or.inl rfl) (pe_ix (ixT K) (pe_ix (ixT K) (pv 1) pe_int (fun _ _ => rfl)) (pv 2) (fun _ _ => rfl)))
      (pss_cons (ps_if (pt_cmpR op_eq (pv 3) (pv 4) (nomark _))
        (pss_one (ps_ret pe_bl))
        pss_nil)
      (pss_cons (ps_if (pt_cmpR op_eq (pe_ix (ixT K) (pv 5) pe_int (fun _ _ => rfl)) pe_str (nomark _))
        (pss_one (ps_ret (pe_cmpR op_eq (pe_ix (ixT K) (pv 5) pe_int (fun _ _ => rfl)) (pv 3) (nomark _))))
        pss_nil)
      (pss_cons (ps_if (pt_cmpR op_eq (pe_ix (ixT K) (pv 5) pe_int (fun _ _ => rfl)) pe_str (nomark _))
        (pss_one (ps_ret (pe_cmpR op_eq (pe_ix (ixT K) (pv 5) pe_int (fun _ _ => rfl)) (pv 4) (nomark _))))
        pss_nil)
      (pss_one (ps_ret (pe_cmpR (inS K) (pe_ix (ixT K) (pv 5) pe_int (fun _ _ => rfl)) (pe_tup (pa_cons pe_str (pa_cons pe_str pa_nil))) rfl))))))), ?_⟩
    refine ⟨_, rfl, _, _, 1, _, rfl, rfl, hA, at_of (j := 1) rfl rfl, _, rfl, _, _, _, _, rfl, rfl, hB, atI_nat h1, ?_⟩
    refine ⟨_, rfl, _, rfl, rfl, _, rfl, ite2 (fun hc => ?_) (fun hc => ?_)⟩
    · have e := V.int.inj (of_decide_eq_true hc)
      have q1 := q H (Same.refl H)
      unfold sendsM at q1
      rw [if_pos e] at q1
      exact q1
    · have e : ¬ i = j := fun z => hc (decide_eq_true (congrArg V.int z))
      have q1 := fun H' (h : Same H H') => q H' h
      unfold sendsM at q1
      simp only [if_neg e] at q1
      have oth : ∀ (k : Fin 9), r.kn = k → k ≠ 0 → k ≠ 6 → (∀ H', Same H H' → Q (.bl (decide (k = 4) || decide (k = 8))) H') →
          tSeq (tIfS (tTest (tOp rEq (tOp (rIxT K) (tVar 5) (tC (.int 0))) (tC (.str "in")))) (tRet (tOp rEq (tOp (rIxT K) (tVar 5) (tC (.int 1))) (tVar 3))) tNext)
            (tSeq (tIfS (tTest (tOp rEq (tOp (rIxT K) (tVar 5) (tC (.int 0))) (tC (.str "out")))) (tRet (tOp rEq (tOp (rIxT K) (tVar 5) (tC (.int 2))) (tVar 4))) tNext)
              (tRet (tOp (rIn K false) (tOp (rIxT K) (tVar 5) (tC (.int 0))) (tTup (tCons (tC (.str "product")) (tCons (tC (.str "kept")) tNil))))))
            { nx := fun _ H' => Q .non H', rt := Q } [some v, some (.ref a), some (.int (k : Int)), some (.int i), some (.int j), some (.ref ra)] H := fun k ek n0 n6 g => by
        refine ⟨_, rfl, _, _, 0, _, rfl, rfl, h2, hi, rfl, false, congrArg V.bl (by rw [ek]; exact kF k 0 n0), ?_⟩
        refine ⟨_, rfl, _, _, 0, _, rfl, rfl, h2, hi, rfl, false, congrArg V.bl (by rw [ek]; exact kF k 6 n6), ?_⟩
        refine ⟨_, rfl, _, _, 0, _, rfl, rfl, h2, hi, by show 2 ≤ sizeLine; decide, fun t2 h2 => ⟨t2, _, rfl, .inr sqT_new, rfl, rfl, ?_⟩⟩
        have e3 := in2 r.kn 4 8
        rw [ek] at e3
        have g1 := g _ (Same.new (o := .tup [V.str (names 4), .str (names 8)]) h2)
        rw [← e3, ← ek] at g1
        exact g1
      cases r
      case inp c =>
        refine ⟨_, rfl, _, _, 0, _, rfl, rfl, h2, hi, rfl, true, congrArg V.bl (kT 0), _, rfl, _, _, 1, _, rfl, rfl, h2, at_of (j := 1) rfl rfl, _, rfl, rfl, ?_⟩
        have q2 := q1 H (Same.refl H)
        show Q (.bl (decide (V.int c = V.int i))) H
        rw [decInt]
        exact q2
      case out c d =>
        refine ⟨_, rfl, _, _, 0, _, rfl, rfl, h2, hi, rfl, false, congrArg V.bl (kF 6 0), _, rfl, _, _, 0, _, rfl, rfl, h2, hi, rfl, true, congrArg V.bl (kT 6), _, rfl, _, _, 2, _, rfl, rfl, h2, at_of (j := 2) rfl rfl, _, rfl, rfl, ?_⟩
        have q2 := q1 H (Same.refl H)
        show Q (.bl (decide (V.int d = V.int j))) H
        rw [decInt]
        exact q2
      case product c d => exact oth 4 rfl (by decide) (by decide) q1
      case kept c => exact oth 8 rfl (by decide) (by decide) q1
      case const c => exact oth 1 rfl (by decide) (by decide) q1
      case sum c d => exact oth 2 rfl (by decide) (by decide) q1
      case less c d => exact oth 3 rfl (by decide) (by decide) q1
      case times c d => exact oth 5 rfl (by decide) (by decide) q1
      case next => exact oth 7 rfl (by decide) (by decide) q1
end
end U

namespace U
open PySem PySem.Spec PyProof.Rows L2
/-! ### own inputs, places of coins, own coins -/
def partyM (rows : List Row) (k : Nat) : Int := match rows[k]? with
  | some (.inp a) => a
  | _ => 0
def ownInputsM (rows : List Row) (ins : List Int) (j : Int) : List Int :=
  (List.range (inputRowsM rows).length).filterMap fun m => if partyM rows ((inputRowsM rows).getD m 0) = j then some (ins.getD m 0) else none
def manyM (n : Int) : Row → Int
  | .inp _ => 1
  | .product _ _ => n
  | .kept _ => n
  | _ => 0
def offM (n t : Int) (rows : List Row) : Int := (rows.map fun r => t * manyM n r).sum
def placesRow (n t at_ : Int) (r : Row) : List (List Int) := (List.range (manyM n r).toNat).map fun (k : Nat) => (List.range t.toNat).map fun (i : Nat) => at_ + t * (k : Int) + (i : Int)
def placesM (n t : Int) (rows : List Row) : List (List (List Int)) := (List.range rows.length).map fun k => placesRow n t (offM n t (rows.take k)) (rows.getD k .next)
abbrev PII (l : List (List Int)) : PyData := .tuple (l.map PI)
def eachK (n : Int) : List (Key × V) := [(Sum.inr "in", .int 1), (Sum.inr "product", .int n), (Sum.inr "kept", .int n)]
theorem merge_each (n : Int) : mergeK [] (eachK n) = eachK n := by rfl
theorem each_get (n : Int) (r : Row) : (valV (eachK n) (Sum.inr (names r.kn))).getD (.int 0) = .int (manyM n r) := by
  cases r <;> rfl
theorem offM_snoc {n t : Int} {rows : List Row} {i : Nat} {r : Row} (h : rows[i]? = some r) : offM n t (rows.take (i + 1)) = offM n t (rows.take i) + t * manyM n r := by
  unfold offM
  rw [List.take_add_one, h, List.map_append, List.sum_append]
  simp
theorem manyM_bd {n : Int} (h0 : 1 ≤ n) (h9 : n ≤ 9) (r : Row) : 0 ≤ manyM n r ∧ manyM n r ≤ 9 := by
  cases r <;> simp only [manyM] <;> omega
theorem offM_bd {n t : Int} (h0 : 1 ≤ n) (h9 : n ≤ 9) (t0 : 0 ≤ t) (t9 : t ≤ 9) : ∀ rows : List Row, 0 ≤ offM n t rows ∧ offM n t rows ≤ 81 * rows.length
  | [] => ⟨Int.le_refl _, Int.le_refl _⟩
  | r :: rs => by
    have ih := offM_bd h0 h9 t0 t9 rs
    have hm := manyM_bd h0 h9 r
    have e : offM n t (r :: rs) = t * manyM n r + offM n t rs := rfl
    have h1 : 0 ≤ t * manyM n r := Int.mul_nonneg t0 hm.1
    have h2 : t * manyM n r ≤ 9 * 9 := Int.mul_le_mul t9 hm.2 hm.1 (by decide)
    rw [e, List.length_cons]
    omega
theorem offM_mono {n t : Int} (h0 : 1 ≤ n) (h9 : n ≤ 9) (t0 : 0 ≤ t) (t9 : t ≤ 9) (rows : List Row) (i : Nat) : offM n t (rows.take i) ≤ offM n t rows := by
  have e : offM n t rows = offM n t (rows.take i) + offM n t (rows.drop i) := by
    unfold offM
    conv => lhs; rw [← List.take_append_drop i rows, List.map_append, List.sum_append]
  have := (offM_bd h0 h9 t0 t9 (rows.drop i)).1
  omega
theorem placesRow_in {n t at_ : Int} {r : Row} (h0 : 1 ≤ n) (h9 : n ≤ 9) (t0 : 0 ≤ t) {pl : List Int} (h : pl ∈ placesRow n t at_ r) : pl.length = t.toNat ∧ ∀ x ∈ pl, at_ ≤ x ∧ x < at_ + t * manyM n r := by
  unfold placesRow at h
  obtain ⟨k, hk, rfl⟩ := List.mem_map.mp h
  have hk' := List.mem_range.mp hk
  refine ⟨by rw [List.length_map, List.length_range], fun x hx => ?_⟩
  obtain ⟨i, hi, rfl⟩ := List.mem_map.mp hx
  have hi' := List.mem_range.mp hi
  have h1 : 0 ≤ t * (k : Int) := Int.mul_nonneg t0 (by omega)
  have h2 : t * (k : Int) + t ≤ t * manyM n r := by
    have h3 : t * ((k : Int) + 1) ≤ t * manyM n r := Int.mul_le_mul_of_nonneg_left (by omega) t0
    rw [Int.mul_add, Int.mul_one] at h3
    exact h3
  omega
theorem placesM_get {n t : Int} {rows : List Row} {k : Nat} {r : Row} (h : rows[k]? = some r) : (placesM n t rows)[k]? = some (placesRow n t (offM n t (rows.take k)) r) := by
  unfold placesM
  have hk := (List.getElem?_eq_some_iff.mp h).1
  have e : rows.getD k .next = r := by rw [List.getD_eq_getElem?_getD, h]; rfl
  rw [← e]
  exact map_get (by rw [List.getElem?_range hk])
section
variable {P : Program} {w : World} {K : PySem.W.Frag} {mg : Str → Option Value} {base : Heap} {cP cD : Addr}
def sp_own_inputs (K : PySem.W.Frag) : Sp := fun vs H Q _ => ∃ (v u : V) (rows : List Row) (ins : List Int) (j : Int), vs = [v, u, .int j] ∧ Rp K H v (progD rows) ∧ rows.length ≤ 60 ∧ Rp K H u (PI ins) ∧ ins.length = (inputRowsM rows).length ∧
  ∀ r H', Same H H' → Rp K H' r (PI (ownInputsM rows ins j)) → Q r H'
theorem inputRows_at {rows : List Row} {k : Nat} (h : k ∈ inputRowsM rows) : ∃ a, rows[k]? = some (.inp a) := by
  unfold inputRowsM at h
  obtain ⟨h1, h2⟩ := List.mem_filter.mp h
  cases hr : rows[k]? with
  | none => rw [hr] at h2; cases h2
  | some r =>
    rw [hr] at h2
    cases r <;> first | exact ⟨_, rfl⟩ | cases h2
theorem inputRows_len (rows : List Row) : (inputRowsM rows).length ≤ rows.length := by
  have := List.length_filter_le (fun k => (rows[k]?.map Row.isInp).getD false) (List.range rows.length)
  rw [List.length_range] at this
  exact this
theorem Txt.c_own_inputs (T : Txt K mg cP cD) : C8.Cal P w K mg base 2 "own_inputs" (sp_own_inputs K) [] := by
  refine T.d_own_inputs.cal sc_own_inputs (fun vs H Q E h => ?_) (fun f cdv A outer s H vs Q E hr h => ?_)
  · obtain ⟨v, u, rows, ins, j, rfl, _⟩ := h
    rfl
  · obtain ⟨v, u, rows, ins, j, rfl, hv, hz, hu, hl, q⟩ := h
    obtain ⟨a, b, xs, rfl, hA, hB, hR⟩ := hv.prog
    obtain ⟨c, rfl, hC⟩ := hu.pi
    have hil := inputRows_len rows
    have T_c_input_rows := T.c_input_rows (P := P) (w := w) (base := base)
    refine ⟨_, (pss_cons (ps_set (i := 3) sc_own_inputs.nd rfl (Or.inr rfl) (C8.pe_c T_c_input_rows hr (by decide) (by rfl) (pa_cons (pv 0) pa_nil)))
      (pss_one (ps_ret (pe_tupleOf (by rfl) T.n_tuple (pe_lc (own := [("k", 4)]) (g := gName 4) rfl sc_own_inputs.nd (pi_range1 (by rfl) T.n_range (pa_cons (pe_callB (lenS K) (by rfl) T.n_len PySem.boot_len (pa_cons (pv 3) pa_nil)) pa_nil)) (blkOk_by (N := ["program", "inputs", "party", "rows", "k"]) (sc := defScope s_own_inputs) (by decide +kernel)) (fun _ _ _ _ _ => pg_name (i := 4) sc_own_inputs.nd rfl (Or.inl rfl)) (fun _ _ _ _ _ => pts_one (pt_cmpR op_eq (pe_ix (ixT K) (pe_ix (ixT K) (pe_ix (ixT K) (pv 0) pe_int (fun _ _ => rfl)) (pe_ix (ixT K) (pv 3) (pv 4) (fun _ _ => rfl)) (fun _ _ => rfl)) pe_int (fun _ _ => rfl)) (pv 2) (nomark _))) (fun _ _ _ _ _ => (pe_ix (ixT K) (pv 1) (pv 4) (fun _ _ => rfl)))))))), ?_⟩
    refine ⟨_, rfl, _, rows, rfl, hv, hz, fun r1 H1 e1 rp1 => ?_⟩
    obtain ⟨d, rfl, hD⟩ := rp1.pi
    refine ⟨_, rfl, d, _, rfl, .inr hD, _, rfl, by simp only [List.length_map]; omega, by simp only [List.length_map]; omega, ?_⟩
    have hnn : (((((inputRowsM rows).map fun (i : Nat) => (i : Int)).map V.int).length : Nat) : Int).toNat = (inputRowsM rows).length := by simp
    rw [hnn]
    refine lcR (n := (inputRowsM rows).length) (by omega)
      (fun m => if partyM rows ((inputRowsM rows).getD m 0) = j then some (PyData.int (ins.getD m 0)) else none) (fun i x H2 hi hx e2 Acc Skip ka ks => ?_) fun D H2 acc hD2 e2 ha r => tupOf ha r fun c H' e' rc => q _ _ ((e1.trans e2).trans e') ?_
    · subst hx
      obtain ⟨k, hk⟩ : ∃ k, (inputRowsM rows)[i]? = some k := ⟨_, List.getElem?_eq_getElem hi⟩
      obtain ⟨pa, hpa⟩ := inputRows_at (List.mem_of_getElem? hk)
      obtain ⟨ra, h1, h2⟩ := hR.rowAt hpa
      have e12 := e1.trans e2
      have hgk : (inputRowsM rows).getD i 0 = k := by rw [List.getD_eq_getElem?_getD, hk]; rfl
      have hpm : partyM rows k = pa := by unfold partyM; rw [hpa]
      simp only [hgk, hpm] at ka ks
      refine ⟨rfl, _, rfl, _, _, 1, _, rfl, rfl, e12.tf.sqT hA, at_of (j := 1) rfl rfl, _, rfl, _, rfl, _, _, _, .int (k : Int), rfl, rfl, e2.tf.sqT hD, atI_nat (map_get (map_get hk)), _, _, _, _, rfl, rfl, e12.tf.sqT hB, atI_nat h1, _, _, 1, _, rfl, rfl, e12.tf.sqT h2, at_of (j := 1) rfl rfl, _, rfl, rfl, _, congrArg V.bl (decInt pa j), ?_⟩
      by_cases hc : pa = j
      · rw [decide_eq_true hc]
        refine ⟨_, rfl, _, rfl, _, _, _, _, rfl, rfl, e12.tf.sqT hC, map_at (show i < ins.length by omega), ka _ _ _ (if_pos hc) (Same.refl _) ?_⟩
        rw [getD_get (show i < ins.length by omega)]
        exact .int _
      · rw [decide_eq_false hc]
        exact ks _ (if_neg hc) (Same.refl _)
    · have e3 : (List.range (inputRowsM rows).length).filterMap (fun m => if partyM rows ((inputRowsM rows).getD m 0) = j then some (PyData.int (ins.getD m 0)) else none) = (ownInputsM rows ins j).map PyData.int := by
        unfold ownInputsM
        rw [List.map_filterMap]
        congr 1
        funext m
        split <;> rfl
      rw [e3] at rc
      exact rc
def sp_places (K : PySem.W.Frag) : Sp := fun vs H Q _ => ∃ (p n t : Int) (v u : V) (rows : List Row), vs = [v, u] ∧ Rp K H v (setD p n t) ∧ SetOk p n t ∧ Rp K H u (progD rows) ∧ rows.length ≤ 60 ∧
  ∀ r H', Same H H' → Rp K H' r (.tuple ((placesM n t rows).map PII)) → Q r H'
theorem Txt.c_places (T : Txt K mg cP cD) : C8.Cal P w K mg base 1 "places" (sp_places K) [] := by
  refine T.d_places.cal sc_places (fun vs H Q E h => ?_) (fun f cdv A outer s H vs Q E hr h => ?_)
  · obtain ⟨p, n, t, v, u, rows, rfl, _⟩ := h
    rfl
  · obtain ⟨p, n, t, v, u, rows, rfl, hv, ok, hu, hz, q⟩ := h
    obtain ⟨a0, rfl, hA0⟩ := hv.setting
    obtain ⟨a, b, xs, rfl, hA, hB, hR⟩ := hu.prog
    have hn0 := ok.n0
    have hn1 := ok.n1
    have ht0 := ok.t0
    have ht1 := ok.t1
    have hxl := hR.len
    rw [List.length_map] at hxl
    refine ⟨_, (pss_cons (ps_asg (pe_slice (slT K) (pv 0) (po_some pe_int) po_none) (pg_tup rfl (pgs_cons (pg_name (i := 2) sc_places.nd rfl (Or.inl rfl)) (pgs_cons (pg_name (i := 3) sc_places.nd rfl (Or.inr rfl)) pgs_nil))))
      (pss_cons (ps_set (i := 4) sc_places.nd rfl (Or.inl rfl) (pe_lst pa_nil))
      (pss_cons (ps_set (i := 5) sc_places.nd rfl (Or.inr rfl) pe_int)
      (pss_cons (ps_for PassesOwn.never rfl (pi_tup (pe_ix (ixT K) (pv 1) pe_int (fun _ _ => rfl))) (pg_name (i := 6) sc_places.nd rfl (Or.inl rfl))
        (pss_cons (ps_set (i := 7) sc_places.nd rfl (Or.inl rfl) (pe_dget2 (hu_of hr) (pe_disp (pps_cons pe_str pe_int (pps_cons pe_str (pv 2) (pps_cons pe_str (pv 2) pps_nil))) (by rfl) (by rfl) (fun z => by cases z) (by decide)) (pe_ix (ixT K) (pv 6) pe_int (fun _ _ => rfl)) pe_int ⟨rfl, rfl, rfl, rfl⟩))
        (pss_cons (ps_expr (pe_bm PySem.F.plainAttrs_list PySem.F.slot_list_append PySem.F.type_list_append mt_append (pv 4) (pa_cons (pe_tupleOf (by rfl) T.n_tuple (pe_lc (own := [("k", 8)]) (g := gName 8) rfl sc_places.nd (pi_range1 (by rfl) T.n_range (pa_cons (pv 7) pa_nil)) (blkOk_by (N := ["setting", "program", "n", "t", "found", "at", "row", "many", "k"]) (sc := defScope s_places) (by decide +kernel)) (fun _ _ _ _ _ => pg_name (i := 8) sc_places.nd rfl (Or.inl rfl)) (fun _ _ _ _ _ => pts_nil) (fun _ _ _ _ _ => (pe_tupRg rfl (by rfl) T.n_tuple (prg_2 (by rfl) T.n_range (pe_op op_add (pv 5) (pe_op op_mul (pv 3) (pv 8))) (pe_op op_add (pe_op op_add (pv 5) (pe_op op_mul (pv 3) (pv 8))) (pv 3))))))) pa_nil)))
        (pss_one (ps_set (i := 5) sc_places.nd rfl (Or.inr rfl) (pe_op op_add (pv 5) (pe_op op_mul (pv 3) (pv 7))))))))
      (pss_one (ps_ret (pe_tupleOf (by rfl) T.n_tuple (pv 4)))))))), ?_⟩
    refine ⟨_, rfl, 2, rfl, noP (slA hA0 rfl fun c1 H1 e1 h1 => ?_)⟩
    refine ⟨c1, _, rfl, h1, rfl, _, _, rfl, _, _, rfl, rfl, ?_⟩
    refine ⟨Nat.zero_le _, fun l0 hl0 => ?_⟩
    have e01 := e1.trans (Same.new (o := .lst []) hl0)
    refine ⟨_, rfl, _, _, 1, _, rfl, rfl, e01.tf.sqT hA, at_of (j := 1) rfl rfl, b, rfl, ⟨_, e01.tf.sqT hB⟩, for_tup (K := K) (a := b) (xs := xs)
      (fun i σ H' => ∃ y z w ys, σ = [some (.ref a0), some (.ref a), some (.int n), some (.int t), some (.ref l0), some (.int (offM n t (rows.take i))), y, z, w] ∧ Same H1 H' ∧ H' l0 = some (.lst ys) ∧ RpAll K H' ys (((placesM n t rows).take i).map PII))
      ⟨none, none, none, [], rfl, Same.new hl0, upd_same, .nil⟩ (fun i σ H' _ ⟨_, _, _, _, _, e, _⟩ => (e1.trans e).tf.sqT hB) ?_ ?_⟩
    · rintro i x σ H2 hx ⟨y, z, w4, ys, rfl, e2, hy, ry⟩
      obtain ⟨dr, hdr, rpr⟩ := hR.got hx
      obtain ⟨r, hri, rfl⟩ := map_got hdr
      have hil := (List.getElem?_eq_some_iff.mp hri).1
      have e12 := e1.trans e2
      obtain ⟨ra, rfl, h2⟩ := (rpr.sm e12).row
      have hoff := offM_bd hn0 hn1 ht0 ht1 (rows.take i)
      have hmb := manyM_bd hn0 hn1 r
      rw [List.length_take] at hoff
      refine fun d hd => ⟨_, rfl, _, rfl, upd_same, eachK n, rfl, by show 3 ≤ 15; decide, ?_⟩
      rw [upd_upd, merge_each]
      have e3 := Same.new (o := .dK (eachK n)) hd
      refine ⟨d, rfl, .inl ⟨_, .inl upd_same⟩, _, rfl, _, _, 0, _, rfl, rfl, e3.tf.sqT h2, at_of (j := 0) rfl rfl, _, DGet.k (k := Sum.inr (names r.kn)) upd_same, ?_⟩
      rw [each_get]
      have hy3 := e3 l0 _ hy
      refine ⟨.ref l0, rfl, .inl ⟨rfl, _, SqL.of hy3⟩, _, rfl, _, rfl, by omega, by omega, ?_⟩
      refine lcR1 (L := (placesRow n t (offM n t (rows.take i)) r).map PI) (by unfold placesRow; simp) (by omega) (fun k x d4 H4 hd4 hx4 e4 Acc ka => ?_) fun D H4 acc hD4 e4 ha4 r4 => tupOf ha4 r4 fun c5 H5 e5 r5 => ?_
      · subst hx4
        obtain ⟨pl, hpl, rfl⟩ := map_got hd4
        unfold placesRow at hpl
        obtain ⟨k', hk', rfl⟩ := map_got hpl
        have hkl := (List.getElem?_eq_some_iff.mp hk').1
        rw [List.length_range] at hkl
        rw [List.getElem?_range hkl] at hk'
        cases hk'
        have h5 : 0 ≤ t * (k : Int) := Int.mul_nonneg ht0 (by omega)
        have h6 : t * (k : Int) ≤ 9 * 9 := Int.mul_le_mul ht1 (by omega) (by omega) (by decide)
        refine ⟨rfl, _, rfl, _, rfl, _, rfl, _, _, rfl, rfl, .inl ⟨by omega, by omega⟩, _, _, rfl, rfl, _, rfl, _, rfl, _, rfl, _, _, rfl, rfl, .inl ⟨by omega, by omega⟩, _, _, rfl, rfl, _, rfl, _, _, rfl, rfl, _, _, rfl, rfl, ⟨by omega, by omega, by omega, by omega, by omega⟩, fun c hc => ka _ _ (Same.new hc) (.ofPi ?_)⟩
        have e7 : rgV (offM n t (rows.take i) + t * (k : Int)) (offM n t (rows.take i) + t * (k : Int) + t) = ((List.range t.toNat).map fun (j : Nat) => offM n t (rows.take i) + t * (k : Int) + (j : Int)).map V.int := by
          unfold rgV
          rw [List.map_map]
          have e8 : (offM n t (rows.take i) + t * (k : Int) + t - (offM n t (rows.take i) + t * (k : Int))).toNat = t.toNat := by omega
          rw [e8]
          rfl
        rw [← e7]
        exact sqT_new
      have e45 := e4.trans e5
      have hy5 := e45 l0 _ hy3
      have hlen := ry.len
      rw [List.length_map, List.length_take] at hlen
      refine ⟨l0, ys, .ref c5, rfl, rfl, hy5, small' (by omega), ?_⟩
      have tf : TF H5 (upd H5 l0 (.lst (ys ++ [.ref c5]))) := TF.upd hy5 plain_lst
      refine ⟨_, rfl, _, rfl, _, rfl, _, _, rfl, rfl, .inl ⟨by omega, by omega⟩, _, _, rfl, rfl, ?_⟩
      refine ⟨some (.ref ra), some (.int (manyM n r)), w4, ys ++ [.ref c5], ?_, ((e2.trans e3).trans e45).mut hl0, upd_same, ?_⟩
      · rw [offM_snoc hri]
        rfl
      · rw [List.take_add_one, placesM_get hri, List.map_append]
        exact RpAll.app ((ry.sm (e3.trans e45)).tf tf) (.one (r5.tf tf))
    · rintro σ H2 ⟨y, z, w4, ys, rfl, e2, hy, ry⟩
      have hpl : (placesM n t rows).length = rows.length := by unfold placesM; rw [List.length_map, List.length_range]
      rw [hxl, ← hpl, List.take_length] at ry
      refine ⟨_, rfl, tupOf hy ry fun c H' e' rc => q _ _ ((e1.trans e2).trans e') rc⟩
end
end U

namespace U
open PySem PySem.Spec PyProof.Rows L2
theorem putKl {κ : Type} [DecidableEq κ] (c : List (κ × V)) (k : κ) (x : V) : (putK c k x).length ≤ c.length + 1 := by
  unfold putK
  by_cases e : (c.any fun kv => decide (kv.1 = k)) = true
  · rw [if_pos e, List.length_map]
    omega
  · rw [if_neg e, List.length_append]
    simp
theorem cut_ints (xs : List V) {a b : Int} (ha : 0 ≤ a) (hb : 0 ≤ b) : cutV xs (some a) (some b) = (xs.drop a.toNat).take (b.toNat - a.toNat) := by
  have e1 : a = ((a.toNat : Nat) : Int) := by omega
  have e2 : b = ((b.toNat : Nat) : Int) := by omega
  rw [e1, e2]
  exact cut_both xs a.toNat b.toNat
theorem names_inj {a b : Fin 9} (h : names a = names b) : a = b := by
  have e := names_eq a b
  rw [h, decide_eq_true rfl] at e
  exact of_decide_eq_true e.symm
theorem strOk_names : ∀ a : Fin 9, PyData.strOk (names a) = true := by decide +kernel
theorem rowIs (r : Row) (j : Int) : PyData.eqv (.tuple ((.str (names r.kn) :: r.args.map PyData.int).take 2)) (.tuple [.str (names 0), .int j]) = decide (r = .inp j) := by
  refine eqv_dec ?_ (by simp [noB, noBs]) ⟨fun h => ?_, fun h => ?_⟩
  · cases r <;> simp [Row.args, noB, noBs]
  · injection h with h
    have hk : names r.kn = names 0 := by
      cases r <;> (simp only [Row.args, List.map_cons, List.map_nil, List.take_succ_cons, List.take_zero, List.cons.injEq, PyData.str.injEq] at h; exact h.1)
    have hk2 := names_inj hk
    cases r <;> first | (exfalso; revert hk2; simp only [Row.kn]; decide) | skip
    simp only [Row.args, List.map_cons, List.map_nil, List.take_succ_cons, List.take_zero, List.cons.injEq, PyData.int.injEq, and_true, true_and] at h
    rw [h.2]
  · rw [h]
    rfl
theorem shaped_row2 (r : Row) : SeqAt.shaped (.tuple ((.str (names r.kn) :: r.args.map PyData.int).take 2)) = true := by
  refine shaped_of (n := 1) ?_ (by decide)
  have h := strOk_names r.kn
  cases r <;> simp_all [Row.args, flatD, flatDs]
theorem shaped_in (j : Int) : SeqAt.shaped (.tuple [.str (names 0), .int j]) = true := by
  refine shaped_of (n := 1) ?_ (by decide)
  have h := strOk_names 0
  simp_all [flatD, flatDs]
/-! ### a party's own input and coins, row by row -/
def needM (j : Int) : Row → Bool
  | .inp a => decide (a = j)
  | .product _ _ => true
  | .kept _ => true
  | _ => false
def isM (j : Int) : Row → Bool
  | .inp a => decide (a = j)
  | _ => false
theorem needM_eq (j : Int) (r : Row) : needM j r = ((decide (r.kn = 4) || decide (r.kn = 8)) || decide (r = .inp j)) := by
  cases r <;> simp [needM, Row.kn]
theorem isM_eq (j : Int) (r : Row) : isM j r = decide (r = .inp j) := by
  cases r <;> simp [isM]
/-- the coins that a row takes of a party's own -/
def drawnM (t : Nat) (rows : List Row) (j : Int) (cs : List Int) (k : Nat) : List Int := (cs.drop (t * (rows.take k).countP (needM j))).take t
def givenM (rows : List Row) (j : Int) (ins : List Int) (k : Nat) : Int := ins.getD ((rows.take k).countP (isM j)) 0
def GivenAt (H : Hp) (d : Addr) (rows : List Row) (j : Int) (g : Nat → Int) : Prop := ∃ kvs : List (Key × V), H d = some (.dK kvs) ∧ ∀ (k : Nat), rows[k]? = some (.inp j) → valV kvs (Sum.inl (k : Int)) = some (.int (g k))
def DrawnAt (K : PySem.W.Frag) (H : Hp) (d : Addr) (rows : List Row) (j : Int) (c : Nat → List Int) : Prop := ∃ kvs : List (Key × V), H d = some (.dK kvs) ∧ ∀ (k : Nat) (r : Row), rows[k]? = some r → needM j r = true → ∃ v, valV kvs (Sum.inl (k : Int)) = some v ∧ Rp K H v (PI (c k))
theorem countP_snoc {rows : List Row} {c : Row → Bool} {i : Nat} {r : Row} (h : rows[i]? = some r) : (rows.take (i + 1)).countP c = (rows.take i).countP c + (if c r then 1 else 0) := by
  rw [List.take_add_one, h, List.countP_append]
  show _ + List.countP c [r] = _
  rw [List.countP_cons, List.countP_nil, Nat.zero_add]
theorem countP_le {rows : List Row} {c : Row → Bool} (i : Nat) : (rows.take i).countP c ≤ i := Nat.le_trans (List.countP_le_length ..) (by rw [List.length_take]; omega)
theorem countP_take_lt {rows : List Row} {c : Row → Bool} {i : Nat} {r : Row} (h : rows[i]? = some r) (hc : c r = true) : (rows.take i).countP c < rows.countP c := by
  have e := countP_snoc (c := c) h
  rw [hc, if_pos rfl] at e
  have : (rows.take (i + 1)).countP c ≤ rows.countP c := List.Sublist.countP_le (List.take_sublist _ _)
  omega
section
variable {P : Program} {w : World} {K : PySem.W.Frag} {mg : Str → Option Value} {base : Heap} {cP cD : Addr}
def sp_own_places (K : PySem.W.Frag) : Sp := fun vs H Q _ => ∃ (v u : V) (r : Row) (n t at_ j : Int), vs = [v, u, .int j] ∧ Rp K H v r.data ∧ Rp K H u (PII (placesRow n t at_ r)) ∧ 1 ≤ j ∧ j ≤ n ∧
  ∀ r' H', Same H H' → (r' = .non ∨ ∃ pl ∈ placesRow n t at_ r, Rp K H' r' (PI pl)) → Q r' H'
theorem Txt.c_own_places (T : Txt K mg cP cD) : C8.Cal P w K mg base 1 "own_places" (sp_own_places K) [] := by
  refine T.d_own_places.cal sc_own_places (fun vs H Q E h => ?_) (fun f cdv A outer s H vs Q E hr h => ?_)
  · obtain ⟨v, u, r, n, t, at_, j, rfl, _⟩ := h
    rfl
  · obtain ⟨v, u, r, n, t, at_, j, rfl, hv, hu, hj1, hj2, q⟩ := h
    obtain ⟨a, rfl, hA⟩ := hv.row
    obtain ⟨b, xs, rfl, hB, hX⟩ := hu.tupl
    have hpl : (placesRow n t at_ r).length = (manyM n r).toNat := by unfold placesRow; rw [List.length_map, List.length_range]
    have hxl := hX.len
    rw [List.length_map, hpl] at hxl
    refine ⟨_, (pss_cons (ps_if (pt_cmpR op_eq (pe_ix (ixT K) (pv 0) pe_int (fun _ _ => rfl)) pe_str (nomark _))
        (pss_one (ps_ret (pe_ifExp (pt_cmpR op_eq (pe_ix (ixT K) (pv 0) pe_int (fun _ _ => rfl)) (pv 2) (nomark _)) (pe_ix (ixT K) (pv 1) pe_int (fun _ _ => rfl)) pe_non)))
        pss_nil)
      (pss_one (ps_ret (pe_ifExp (pt_cmpR (inS K) (pe_ix (ixT K) (pv 0) pe_int (fun _ _ => rfl)) (pe_tup (pa_cons pe_str (pa_cons pe_str pa_nil))) rfl) (pe_ix (ixT K) (pv 1) (pe_op op_sub (pv 2) pe_int) (fun _ _ => rfl)) pe_non)))), ?_⟩
    have hi : atI r.items 0 = some (.str (names r.kn)) := at_of (j := 0) rfl rfl
    have give : ∀ (m : Nat) (x : V) (H' : Hp), Same H H' → xs[m]? = some x → Q x H' := fun m x H' e hm => by
      obtain ⟨d, hd, rp⟩ := hX.got hm
      obtain ⟨pl, hpl', rfl⟩ := map_got hd
      exact q _ _ e (.inr ⟨pl, List.mem_of_getElem? hpl', rp.sm e⟩)
    refine ⟨_, rfl, _, _, 0, _, rfl, rfl, hA, hi, rfl, _, congrArg V.bl (names_eq r.kn 0), ?_⟩
    have pk : (manyM n r).toNat = n.toNat → (∀ t2, H t2 = none → ∀ (Q' : V → Hp → Prop), (∀ x, xs[(j - 1).toNat]? = some x → Q' x (upd H t2 (.tup [V.str (names 4), .str (names 8)]))) → tOp (rIxT K) (tVar 1) (tOp (rI0 fun i j => .int (i - j)) (tVar 2) (tC (.int 1))) [some (.ref a), some (.ref b), some (.int j)] (upd H t2 (.tup [V.str (names 4), .str (names 8)])) Q') := fun hm t2 h2 Q' g => by
      obtain ⟨x, hx⟩ : ∃ x, xs[(j - 1).toNat]? = some x := ⟨_, List.getElem?_eq_getElem (by omega)⟩
      exact ⟨_, rfl, _, rfl, _, _, rfl, rfl, _, _, _, _, rfl, rfl, (Same.new h2).tf.sqT hB, at_of (j := (j - 1).toNat) (by omega) hx, g x hx⟩
    cases r
    case inp c =>
      refine ⟨_, rfl, _, _, 1, _, rfl, rfl, hA, at_of (j := 1) rfl rfl, _, rfl, rfl, _, congrArg V.bl (decInt c j), ?_⟩
      refine ite2 (fun hc => ?_) (fun hc => q _ _ (Same.refl _) (.inl rfl))
      obtain ⟨x, hx⟩ : ∃ x, xs[0]? = some x := ⟨_, List.getElem?_eq_getElem (by rw [hxl]; exact Nat.zero_lt_one)⟩
      exact ⟨_, rfl, _, _, 0, _, rfl, rfl, hB, at_of (j := 0) rfl hx, give 0 x _ (Same.refl _) hx⟩
    case product c d => exact ⟨_, rfl, _, _, 0, _, rfl, rfl, hA, hi, by show 2 ≤ sizeLine; decide, fun t2 h2 => ⟨t2, _, rfl, .inr sqT_new, rfl, rfl, true, congrArg V.bl (in2 4 4 8), pk rfl t2 h2 _ fun x hx => give _ x _ (Same.new h2) hx⟩⟩
    case kept c => exact ⟨_, rfl, _, _, 0, _, rfl, rfl, hA, hi, by show 2 ≤ sizeLine; decide, fun t2 h2 => ⟨t2, _, rfl, .inr sqT_new, rfl, rfl, true, congrArg V.bl (in2 8 4 8), pk rfl t2 h2 _ fun x hx => give _ x _ (Same.new h2) hx⟩⟩
    case const c => exact ⟨_, rfl, _, _, 0, _, rfl, rfl, hA, hi, by show 2 ≤ sizeLine; decide, fun t2 h2 => ⟨t2, _, rfl, .inr sqT_new, rfl, rfl, false, congrArg V.bl (in2 1 4 8), q _ _ (Same.new h2) (.inl rfl)⟩⟩
    case sum c d => exact ⟨_, rfl, _, _, 0, _, rfl, rfl, hA, hi, by show 2 ≤ sizeLine; decide, fun t2 h2 => ⟨t2, _, rfl, .inr sqT_new, rfl, rfl, false, congrArg V.bl (in2 2 4 8), q _ _ (Same.new h2) (.inl rfl)⟩⟩
    case less c d => exact ⟨_, rfl, _, _, 0, _, rfl, rfl, hA, hi, by show 2 ≤ sizeLine; decide, fun t2 h2 => ⟨t2, _, rfl, .inr sqT_new, rfl, rfl, false, congrArg V.bl (in2 3 4 8), q _ _ (Same.new h2) (.inl rfl)⟩⟩
    case times c d => exact ⟨_, rfl, _, _, 0, _, rfl, rfl, hA, hi, by show 2 ≤ sizeLine; decide, fun t2 h2 => ⟨t2, _, rfl, .inr sqT_new, rfl, rfl, false, congrArg V.bl (in2 5 4 8), q _ _ (Same.new h2) (.inl rfl)⟩⟩
    case out c d => exact ⟨_, rfl, _, _, 0, _, rfl, rfl, hA, hi, by show 2 ≤ sizeLine; decide, fun t2 h2 => ⟨t2, _, rfl, .inr sqT_new, rfl, rfl, false, congrArg V.bl (in2 6 4 8), q _ _ (Same.new h2) (.inl rfl)⟩⟩
    case next => exact ⟨_, rfl, _, _, 0, _, rfl, rfl, hA, hi, by show 2 ≤ sizeLine; decide, fun t2 h2 => ⟨t2, _, rfl, .inr sqT_new, rfl, rfl, false, congrArg V.bl (in2 7 4 8), q _ _ (Same.new h2) (.inl rfl)⟩⟩
def sp_own_coins (K : PySem.W.Frag) : Sp := fun vs H Q _ => ∃ (p n t : Int) (v u z : V) (rows : List Row) (cs : List Int) (j : Int), vs = [v, u, z, .int j] ∧ Rp K H v (setD p n t) ∧ SetOk p n t ∧ Rp K H u (progD rows) ∧ rows.length ≤ 60 ∧ Rp K H z (PI cs) ∧ (cs.length : Int) = offM n t rows ∧ 1 ≤ j ∧ j ≤ n ∧
  ∀ r H' ms, Same H H' → Rp K H' r (PI ms) → (∀ m ∈ ms, m ∈ cs) → ms.length ≤ 600 → Q r H'
theorem Txt.c_own_coins (T : Txt K mg cP cD) : C8.Cal P w K mg base 2 "own_coins" (sp_own_coins K) [] := by
  refine T.d_own_coins.cal sc_own_coins (fun vs H Q E h => ?_) (fun f cdv A outer s H vs Q E hr h => ?_)
  · obtain ⟨p, n, t, v, u, z, rows, cs, j, rfl, _⟩ := h
    rfl
  · obtain ⟨p, n, t, v, u, z, rows, cs, j, rfl, hv, ok, hu, hz, hz2, hcl, hj1, hj2, q⟩ := h
    obtain ⟨a, b, xs, rfl, hA, hB, hR⟩ := hu.prog
    obtain ⟨c, rfl, hC⟩ := hz2.pi
    have ht0 := ok.t0
    have ht1 := ok.t1
    have T_c_places := T.c_places (P := P) (w := w) (base := base)
    have T_c_own_places := T.c_own_places (P := P) (w := w) (base := base)
    refine ⟨_, (pss_cons (ps_set (i := 4) sc_own_coins.nd rfl (Or.inl rfl) (pe_tup pa_nil))
      (pss_cons (ps_set (i := 5) sc_own_coins.nd rfl (Or.inl rfl) (C8.pe_c T_c_places hr (by decide) (by rfl) (pa_cons (pv 0) (pa_cons (pv 1) pa_nil))))
      (pss_cons (ps_for PassesOwn.never rfl (pi_range1 (by rfl) T.n_range (pa_cons (pe_callB (lenS K) (by rfl) T.n_len PySem.boot_len (pa_cons (pv 5) pa_nil)) pa_nil)) (pg_name (i := 6) sc_own_coins.nd rfl (Or.inl rfl))
        (pss_cons (ps_set (i := 7) sc_own_coins.nd rfl (Or.inl rfl) (C8.pe_c T_c_own_places hr (by decide) (by rfl) (pa_cons (pe_ix (ixT K) (pe_ix (ixT K) (pv 1) pe_int (fun _ _ => rfl)) (pv 6) (fun _ _ => rfl)) (pa_cons (pe_ix (ixT K) (pv 5) (pv 6) (fun _ _ => rfl)) (pa_cons (pv 3) pa_nil)))))
        (pss_one (ps_if (pt_cmpR op_notN1 (pv 7) pe_non (nomark _))
          (pss_one (ps_set (i := 4) sc_own_coins.nd rfl (Or.inl rfl) (pe_op (catT K) (pv 4) (pe_tupleOf (by rfl) T.n_tuple (pe_lc (own := [("place", 8)]) (g := gName 8) rfl sc_own_coins.nd (pi_tup (pv 7)) (blkOk_by (N := ["setting", "program", "coins", "party", "mine", "rows", "k", "some", "place"]) (sc := defScope s_own_coins) (by decide +kernel)) (fun _ _ _ _ _ => pg_name (i := 8) sc_own_coins.nd rfl (Or.inl rfl)) (fun _ _ _ _ _ => pts_nil) (fun _ _ _ _ _ => (pe_ix (ixT K) (pv 2) (pv 8) (fun _ _ => rfl))))))))
          pss_nil))))
      (pss_one (ps_ret (pv 4)))))), ?_⟩
    refine ⟨by show 0 ≤ sizeLine; decide, fun t1 h1 => ?_⟩
    have s1 := Same.new (o := .tup []) h1
    refine ⟨_, rfl, _, rfl, p, n, t, _, _, rows, rfl, hv.sm s1, ok, hu.sm s1, hz, fun r2 H2 e2 rp2 => ?_⟩
    obtain ⟨d, ys, rfl, hD, hY⟩ := rp2.tupl
    have hpl : (placesM n t rows).length = rows.length := by unfold placesM; rw [List.length_map, List.length_range]
    have hyl := hY.len
    rw [List.length_map, hpl] at hyl
    refine ⟨_, rfl, d, ys, rfl, .inr hD, _, rfl, by omega, by omega, for_range (lo := 0)
      (fun i σ H' => ∃ m y z w ms, σ = [some _, some (.ref a), some (.ref c), some (.int j), some m, some (.ref d), y, z, w] ∧ Same H2 H' ∧ Rp K H' m (PI ms) ∧ (∀ x ∈ ms, x ∈ cs) ∧ ms.length ≤ 9 * i)
      ⟨_, none, none, none, [], rfl, Same.refl _, .tup (e2.tf.sqT sqT_new) .nil, by simp, by simp⟩ ?_ ?_⟩
    · rintro i σ H3 hi ⟨m, y, z, w5, ms, rfl, e3, rm, hms, hml⟩
      have hi' : i < rows.length := by simp only [Int.toNat_natCast] at hi; omega
      have ei : (0 : Int) + ((i : Nat) : Int) = ((i : Nat) : Int) := Int.zero_add _
      rw [ei]
      obtain ⟨r, hr'⟩ : ∃ r, rows[i]? = some r := ⟨_, List.getElem?_eq_getElem hi'⟩
      obtain ⟨vr, hvr, rpr⟩ := hR.get (map_get hr')
      obtain ⟨vy, hvy, rpy⟩ := hY.get (map_get (placesM_get (n := n) (t := t) hr'))
      have e03 := (s1.trans e2).trans e3
      refine ⟨_, rfl, _, _, 1, _, rfl, rfl, e03.tf.sqT hA, at_of (j := 1) rfl rfl, _, rfl, _, _, _, _, rfl, rfl, e03.tf.sqT hB, atI_nat hvr, _, rfl, _, rfl, _, _, _, _, rfl, rfl, e3.tf.sqT hD, atI_nat hvy, _, rfl, ?_⟩
      refine ⟨vr, vy, r, n, t, _, j, rfl, rpr.sm e03, rpy.sm e3, hj1, hj2, fun r4 H4 e4 hr4 => ?_⟩
      refine ⟨_, rfl, rfl, _, rfl, ?_⟩
      rcases hr4 with rfl | ⟨pl, hpl4, rp4⟩
      · exact ⟨m, some (.int (i : Int)), some .non, w5, ms, rfl, e3.trans e4, rm.sm e4, hms, by omega⟩
      · obtain ⟨c4, rfl, h4⟩ := rp4.pi
        obtain ⟨hpll, hplm⟩ := placesRow_in ok.n0 ok.n1 ht0 hpl4
        obtain ⟨am, rfl, hM⟩ := rm.pi
        have e04 := e03.trans e4
        refine ⟨_, rfl, _, rfl, c4, rfl, ⟨_, h4⟩, ?_⟩
        refine lcT1 (L := (pl.map fun x => cs.getD x.toNat 0).map PyData.int) h4 (by simp) (by rw [List.length_map, hpll]; omega) (fun k x d5 H5 hd5 hx5 e5 Acc ka => ?_) fun D H5 acc hD5 e5 ha5 r5 => tupOf ha5 r5 fun c6 H6 e6 r6 => ?_
        · obtain ⟨y5, hy5, rfl⟩ := map_got hx5
          rw [map_get (map_get hy5)] at hd5
          cases hd5
          have hym := hplm _ (List.mem_of_getElem? hy5)
          have h0 := (offM_bd ok.n0 ok.n1 ht0 ht1 (rows.take i)).1
          have h1 := offM_mono ok.n0 ok.n1 ht0 ht1 rows (i + 1)
          rw [offM_snoc hr'] at h1
          have hyl5 : y5.toNat < cs.length := by omega
          refine ⟨rfl, _, rfl, _, rfl, _, _, _, .int cs[y5.toNat], rfl, rfl, (e04.trans e5).tf.sqT hC, at_of (j := y5.toNat) (by omega) (map_get (List.getElem?_eq_getElem hyl5)), ?_⟩
          rw [getD_get hyl5] at ka
          exact ka _ _ (Same.refl _) (.int _)
        · obtain ⟨b6, hb6, h6⟩ := r6.pi
          cases hb6
          refine catA ((e4.trans (e5.trans e6)).tf.sqT hM) h6 (by simp only [List.length_map]; omega) fun c7 H7 e7 h7 => ?_
          refine ⟨.ref c7, some (.int (i : Int)), some (.ref c4), w5, ms ++ pl.map fun x => cs.getD x.toNat 0, rfl, (e3.trans e4).trans ((e5.trans e6).trans e7), .ofPi (by rw [List.map_append]; exact h7), fun x hx => ?_, by rw [List.length_append, List.length_map, hpll]; omega⟩
          rcases List.mem_append.mp hx with hx | hx
          · exact hms x hx
          · obtain ⟨y5, hy5, rfl⟩ := List.mem_map.mp hx
            have hym := hplm _ hy5
            have h0 := (offM_bd ok.n0 ok.n1 ht0 ht1 (rows.take i)).1
            have h1 := offM_mono ok.n0 ok.n1 ht0 ht1 rows (i + 1)
            rw [offM_snoc hr'] at h1
            rw [getD_get (show y5.toNat < cs.length by omega)]
            exact List.getElem_mem _
    · rintro σ H3 ⟨m, y, z, w5, ms, rfl, e3, rm, hms, hml⟩
      simp only [Int.toNat_natCast] at hml
      exact ⟨_, rfl, q _ _ ms ((s1.trans e2).trans e3) rm hms (by omega)⟩
end
end U

namespace U
open PySem PySem.Spec PyProof.Rows L2
section
variable {P : Program} {w : World} {K : PySem.W.Frag} {mg : Str → Option Value} {base : Heap} {cP cD : Addr}
theorem take_rp {H : Hp} {a : Addr} {r : Row} (h : SqT K H a (r.items.take 2)) : Rp K H (.ref a) (.tuple ((.str (names r.kn) :: r.args.map PyData.int).take 2)) :=
  .tup h (RpAll.take 2 (.cons (.str _) (.ints _)))
/-- row[:2] == ('in', number) -/
theorem isIn_test {H : Hp} {b : Addr} {r : Row} {j : Int} {σ : L2.St} {i1 i2 : Nat} {Q : Bool → Hp → Prop} (h1 : σ[i1]? = some (some (.ref b))) (h2 : σ[i2]? = some (some (.int j))) (hb : SqT K H b r.items)
    (q : ∀ H', Same H H' → Q (isM j r) H') : tTest (tOp (rEqD K) (tSl (rSlA K) (tVar i1) tNoPart (tPart (tC (.int 2)))) (tTup (tCons (tC (.str "in")) (tCons (tVar i2) tNil)))) σ H Q := by
  refine ⟨_, h1, 2, rfl, slA hb (cut_to _ 2) fun c H1 e1 hc => ⟨_, h2, by show 2 ≤ sizeLine; decide, fun p hp => ?_⟩⟩
  refine ⟨_, _, ((take_rp hc).sm (Same.new hp)).dp, (Rp.tup sqT_new (.cons (.str _) (.one (.int j)))).dp, shaped_row2 r, shaped_in j, _, congrArg V.bl (rowIs r j), ?_⟩
  rw [← isM_eq]
  exact q _ (e1.trans (Same.new hp))
theorem need_test {H : Hp} {b : Addr} {r : Row} {j : Int} {σ : L2.St} {i1 i2 : Nat} {Q : Bool → Hp → Prop} (h1 : σ[i1]? = some (some (.ref b))) (h2 : σ[i2]? = some (some (.int j))) (hb : SqT K H b r.items)
    (q : ∀ H', Same H H' → Q (needM j r) H') : tOr (tTest (tOp (rIn K false) (tOp (rIxT K) (tVar i1) (tC (.int 0))) (tTup (tCons (tC (.str "product")) (tCons (tC (.str "kept")) tNil)))))
      (tTest (tOp (rEqD K) (tSl (rSlA K) (tVar i1) tNoPart (tPart (tC (.int 2)))) (tTup (tCons (tC (.str "in")) (tCons (tVar i2) tNil))))) σ H Q := by
  refine ⟨_, h1, _, _, 0, _, rfl, rfl, hb, at_of (j := 0) rfl rfl, by show 2 ≤ sizeLine; decide, fun t2 h3 => ⟨t2, _, rfl, .inr sqT_new, rfl, rfl, _, congrArg V.bl (in2 r.kn 4 8), ?_⟩⟩
  have s1 := Same.new (o := .tup [V.str (names 4), .str (names 8)]) h3
  cases hc : (decide (r.kn = 4) || decide (r.kn = 8))
  · refine iteF (A := Q true _) ?_
    refine isIn_test h1 h2 (s1.tf.sqT hb) fun H' e => ?_
    have q1 := q H' (s1.trans e)
    rw [needM_eq, hc, Bool.false_or, ← isM_eq] at q1
    exact q1
  · have q1 := q _ s1
    rw [needM_eq, hc, Bool.true_or] at q1
    exact q1
def sp_by_rows (K : PySem.W.Frag) : Sp := fun vs H Q _ => ∃ (p n t : Int) (v u z y : V) (rows : List Row) (j : Int) (ins cs : List Int), vs = [v, u, .int j, z, y] ∧ Rp K H v (setD p n t) ∧ SetOk p n t ∧ Rp K H u (progD rows) ∧ rows.length ≤ 60 ∧ Rp K H z (PI ins) ∧ rows.countP (isM j) ≤ ins.length ∧ Rp K H y (PI cs) ∧
  ∀ a g d H', Same H H' → SqT K H' a [.ref g, .ref d] → H g = none → H d = none → g ≠ d → GivenAt H' g rows j (givenM rows j ins) → DrawnAt K H' d rows j (drawnM t.toNat rows j cs) → Q (.ref a) H'
theorem Txt.c_by_rows (T : Txt K mg cP cD) : C8.Cal P w K mg base 1 "by_rows" (sp_by_rows K) [] := by
  refine T.d_by_rows.cal sc_by_rows (fun vs H Q E h => ?_) (fun f cdv A outer s H vs Q E hr h => ?_)
  · obtain ⟨p, n, t, v, u, z, y, rows, j, ins, cs, rfl, _⟩ := h
    rfl
  · obtain ⟨p, n, t, v, u, z, y, rows, j, ins, cs, rfl, hv, ok, hu, hz, hi, hil, hc, q⟩ := h
    obtain ⟨sa, rfl, hS⟩ := hv.setting
    obtain ⟨a, b, xs, rfl, hA, hB, hR⟩ := hu.prog
    obtain ⟨ia, rfl, hI⟩ := hi.pi
    obtain ⟨ca, rfl, hC⟩ := hc.pi
    have ht0 := ok.t0
    have ht1 := ok.t1
    have hxl := hR.len
    rw [List.length_map] at hxl
    have htn : ((t.toNat : Nat) : Int) = t := by omega
    refine ⟨_, (pss_cons (ps_set (i := 5) sc_by_rows.nd rfl (Or.inl rfl) (pe_ix (ixT K) (pv 0) pe_int (fun _ _ => rfl)))
      (pss_cons (ps_set (i := 6) sc_by_rows.nd rfl (Or.inl rfl) pe_dnewK)
      (pss_cons (ps_set (i := 7) sc_by_rows.nd rfl (Or.inl rfl) pe_dnewK)
      (pss_cons (ps_set (i := 8) sc_by_rows.nd rfl (Or.inl rfl) pe_int)
      (pss_cons (ps_set (i := 9) sc_by_rows.nd rfl (Or.inl rfl) pe_int)
      (pss_cons (ps_for PassesOwn.never rfl (pi_range1 (by rfl) T.n_range (pa_cons (pe_callB (lenS K) (by rfl) T.n_len PySem.boot_len (pa_cons (pe_ix (ixT K) (pv 1) pe_int (fun _ _ => rfl)) pa_nil)) pa_nil)) (pg_name (i := 10) sc_by_rows.nd rfl (Or.inl rfl))
        (pss_cons (ps_set (i := 11) sc_by_rows.nd rfl (Or.inl rfl) (pe_ix (ixT K) (pe_ix (ixT K) (pv 1) pe_int (fun _ _ => rfl)) (pv 10) (fun _ _ => rfl)))
        (pss_cons (ps_if (PW.pt (pw_or (pt_cmpR (inS K) (pe_ix (ixT K) (pv 11) pe_int (fun _ _ => rfl)) (pe_tup (pa_cons pe_str (pa_cons pe_str pa_nil))) rfl) (pw_or1 (pt_cmpR (op_eqD hr.units) (pe_slice (slT K) (pv 11) po_none (po_some pe_int)) (pe_tup (pa_cons pe_str (pa_cons (pv 2) pa_nil))) (nomark _)))))
          (pss_cons (ps_dput (hu_of hr) (pv 7) (pv 10) (pe_slice (slT K) (pv 4) (po_some (pv 9)) (po_some (pe_op op_add (pv 9) (pv 5)))) rfl)
          (pss_one (ps_set (i := 9) sc_by_rows.nd rfl (Or.inl rfl) (pe_op op_add (pv 9) (pv 5)))))
          pss_nil)
        (pss_one (ps_if (pt_cmpR (op_eqD hr.units) (pe_slice (slT K) (pv 11) po_none (po_some pe_int)) (pe_tup (pa_cons pe_str (pa_cons (pv 2) pa_nil))) (nomark _))
          (pss_cons (ps_dput (hu_of hr) (pv 6) (pv 10) (pe_ix (ixT K) (pv 3) (pv 8) (fun _ _ => rfl)) rfl)
          (pss_one (ps_set (i := 8) sc_by_rows.nd rfl (Or.inl rfl) (pe_op op_add (pv 8) pe_int))))
          pss_nil)))))
      (pss_one (ps_ret (pe_tup (pa_cons (pv 6) (pa_cons (pv 7) pa_nil))))))))))), ?_⟩
    refine ⟨_, rfl, _, _, 3, _, rfl, rfl, hS, at_of (j := 3) rfl rfl, fun g hg d hd => ?_⟩
    have s0 : Same H (upd (upd H g (.dK [])) d (.dK [])) := (Same.new hg).trans (Same.new hd)
    have hgd : g ≠ d := fun e => by rw [← e, upd_same] at hd; cases hd
    have hd0 : H d = none := free_of (Same.new hg) hd
    refine ⟨_, rfl, _, _, 1, _, rfl, rfl, s0.tf.sqT hA, at_of (j := 1) rfl rfl, b, xs, rfl, .inr (s0.tf.sqT hB), _, rfl, by omega, by omega, for_range (lo := 0)
      (fun i σ H' => ∃ (kg kd : List (Key × V)) (y z : Option V), σ = [some (.ref sa), some (.ref a), some (.int j), some (.ref ia), some (.ref ca), some (.int t), some (.ref g), some (.ref d), some (.int (((rows.take i).countP (isM j) : Nat) : Int)), some (.int (((t.toNat * (rows.take i).countP (needM j)) : Nat) : Int)), y, z] ∧ Same H H' ∧
        H' g = some (.dK kg) ∧ H' d = some (.dK kd) ∧ kg.length ≤ i ∧ kd.length ≤ i ∧ (∀ (k : Nat), k < i → rows[k]? = some (.inp j) → valV kg (Sum.inl (k : Int)) = some (.int (givenM rows j ins k))) ∧
        (∀ (k : Nat) (r : Row), k < i → rows[k]? = some r → needM j r = true → ∃ v, valV kd (Sum.inl (k : Int)) = some v ∧ Rp K H' v (PI (drawnM t.toNat rows j cs k))))
      ⟨[], [], none, none, rfl, s0, by rw [upd_ne hgd, upd_same], upd_same, Nat.le_refl _, Nat.le_refl _, fun k h => absurd h (Nat.not_lt_zero _), fun k r h => absurd h (Nat.not_lt_zero _)⟩ ?_ ?_⟩
    · rintro i σ H1 hi1 ⟨kg, kd, y1, z1, rfl, e1, hkg, hkd, lg, ld, vg, vd⟩
      have hi' : i < rows.length := by simp only [Int.toNat_natCast] at hi1; omega
      have ei : (0 : Int) + ((i : Nat) : Int) = ((i : Nat) : Int) := Int.zero_add _
      rw [ei]
      obtain ⟨r, hri⟩ : ∃ r, rows[i]? = some r := ⟨_, List.getElem?_eq_getElem hi'⟩
      obtain ⟨ra, hx, h2⟩ := hR.rowAt hri
      have cI := countP_snoc (c := isM j) hri
      have cN := countP_snoc (c := needM j) hri
      refine ⟨_, rfl, _, _, 1, _, rfl, rfl, e1.tf.sqT hA, at_of (j := 1) rfl rfl, _, rfl, _, _, _, _, rfl, rfl, e1.tf.sqT hB, atI_nat hx, ?_⟩
      have second : ∀ (D : Ends) (_ : ∀ (σ : L2.St) (H' : Hp), (∃ (kg kd : List (Key × V)) (y z : Option V), σ = [some (.ref sa), some (.ref a), some (.int j), some (.ref ia), some (.ref ca), some (.int t), some (.ref g), some (.ref d), some (.int (((rows.take (i + 1)).countP (isM j) : Nat) : Int)), some (.int (((t.toNat * (rows.take (i + 1)).countP (needM j)) : Nat) : Int)), y, z] ∧ Same H H' ∧
                H' g = some (.dK kg) ∧ H' d = some (.dK kd) ∧ kg.length ≤ i + 1 ∧ kd.length ≤ i + 1 ∧ (∀ (k : Nat), k < i + 1 → rows[k]? = some (.inp j) → valV kg (Sum.inl (k : Int)) = some (.int (givenM rows j ins k))) ∧
                (∀ (k : Nat) (r : Row), k < i + 1 → rows[k]? = some r → needM j r = true → ∃ v, valV kd (Sum.inl (k : Int)) = some v ∧ Rp K H' v (PI (drawnM t.toNat rows j cs k)))) → D.nx σ H') (H2 : Hp) (kd2 : List (Key × V)), Same H H2 → H2 g = some (.dK kg) → H2 d = some (.dK kd2) → kd2.length ≤ i + 1 → (∀ (k : Nat) (r : Row), k < i + 1 → rows[k]? = some r → needM j r = true → ∃ v, valV kd2 (Sum.inl (k : Int)) = some v ∧ Rp K H2 v (PI (drawnM t.toNat rows j cs k))) →
          tIfS (tTest (tOp (rEqD K) (tSl (rSlA K) (tVar 11) tNoPart (tPart (tC (.int 2)))) (tTup (tCons (tC (.str "in")) (tCons (tVar 2) tNil)))))
            (tSeq (sDPut (tVar 6) (tVar 10) (tOp (rIxT K) (tVar 3) (tVar 8))) (tAsg (tOp (rI0 fun i j => .int (i + j)) (tVar 8) (tC (.int 1))) (gName 8))) tNext
            D
            [some (.ref sa), some (.ref a), some (.int j), some (.ref ia), some (.ref ca), some (.int t), some (.ref g), some (.ref d), some (.int (((rows.take i).countP (isM j) : Nat) : Int)), some (.int (((t.toNat * (rows.take (i + 1)).countP (needM j)) : Nat) : Int)), some (.int (i : Int)), some (.ref ra)] H2 := by
        intro D hD H2 kd2 e2 hg2 hd2 ld2 vd2
        refine isIn_test rfl rfl (e2.tf.sqT h2) fun H3 e3 => ?_
        have hg3 := e3 g _ hg2
        have hd3 := e3 d _ hd2
        by_cases hc : isM j r = true
        · have er : r = .inp j := by rw [isM_eq] at hc; exact of_decide_eq_true hc
          rw [hc]
          have hlt := countP_take_lt (c := isM j) hri hc
          refine ⟨_, rfl, _, rfl, _, _, _, _, rfl, rfl, (e2.trans e3).tf.sqT hI, map_at (show (rows.take i).countP (isM j) < ins.length by omega), _, rfl, _, rfl, g, _, rfl, DPut.k (k := Sum.inl (i : Int)) hg3 (small' (by omega)), ?_⟩
          have tf : TF H3 (upd H3 g (.dK (putK kg (Sum.inl (i : Int)) (.int (ins[(rows.take i).countP (isM j)]'(by omega)))))) := TF.upd hg3 plain_dK
          refine ⟨_, rfl, _, _, rfl, rfl, hD _ _ ⟨_, kd2, some (.int (i : Int)), some (.ref ra), ?_, (e2.trans e3).mut hg, upd_same, by rw [upd_ne hgd.symm]; exact hd3, Nat.le_trans (putKl _ _ _) (by omega), ld2, fun k hk hrk => ?_, fun k r' hk hrk hn => ?_⟩⟩
          · rw [cI, hc]
            rfl
          · rw [valV_put]
            by_cases hki : k = i
            · subst hki
              rw [if_pos rfl]
              unfold givenM
              rw [getD_get (show (rows.take k).countP (isM j) < ins.length by omega)]
            · rw [if_neg (by simp only [Sum.inl.injEq]; omega)]
              exact vg k (by omega) hrk
          · obtain ⟨v, h5, h6⟩ := vd2 k r' hk hrk hn
            exact ⟨v, h5, (h6.sm e3).tf tf⟩
        · have hc' : isM j r = false := by simpa using hc
          rw [hc']
          refine hD _ _ ⟨kg, kd2, some (.int (i : Int)), some (.ref ra), ?_, e2.trans e3, hg3, hd3, by omega, ld2, fun k hk hrk => ?_, fun k r' hk hrk hn => ?_⟩
          · rw [cI, hc']
            rfl
          · by_cases hki : k = i
            · subst hki
              rw [hri] at hrk
              cases hrk
              rw [isM_eq] at hc
              exact absurd (decide_eq_true rfl) hc
            · exact vg k (by omega) hrk
          · obtain ⟨v, h5, h6⟩ := vd2 k r' hk hrk hn
            exact ⟨v, h5, h6.sm e3⟩
      refine need_test rfl rfl (e1.tf.sqT h2) fun H2 e2 => ?_
      have hg2 := e2 g _ hkg
      have hd2 := e2 d _ hkd
      by_cases hn : needM j r = true
      · rw [hn]
        have e02 := e1.trans e2
        refine ⟨_, rfl, _, rfl, _, rfl, _, rfl, _, rfl, _, _, rfl, rfl, _, rfl, slA (e02.tf.sqT hC) (cut_ints _ (by omega) (by omega)) fun c3 H3 e3 h3 => ?_⟩
        have hd3 := e3 d _ hd2
        have hg3 := e3 g _ hg2
        refine ⟨_, rfl, _, rfl, d, _, rfl, DPut.k (k := Sum.inl (i : Int)) hd3 (small' (by omega)), ?_⟩
        have tf : TF H3 (upd H3 d (.dK (putK kd (Sum.inl (i : Int)) (.ref c3)))) := TF.upd hd3 plain_dK
        refine ⟨_, rfl, _, rfl, _, _, rfl, rfl, ?_⟩
        have eat : (((t.toNat * (rows.take i).countP (needM j) : Nat) : Int) + t) = ((t.toNat * (rows.take (i + 1)).countP (needM j) : Nat) : Int) := by
          rw [cN, hn, if_pos rfl, Nat.mul_add, Nat.mul_one]
          omega
        have sec := fun D hD => second D hD (upd H3 d (.dK (putK kd (Sum.inl (i : Int)) (.ref c3)))) (putK kd (Sum.inl (i : Int)) (.ref c3)) ((e02.trans e3).mut hd0) (by rw [upd_ne hgd]; exact hg3) upd_same (Nat.le_trans (putKl _ _ _) (by omega)) (fun k r' hk hrk hn' => ?_)
        · simp only [← eat] at sec
          exact sec _ fun _ _ h => by simp only [eat] at h; exact h
        · rw [valV_put]
          by_cases hki : k = i
          · subst hki
            rw [if_pos rfl]
            refine ⟨_, rfl, (Rp.ofPi ?_).tf tf⟩
            unfold drawnM
            rw [List.map_take, List.map_drop]
            have e8 : ((t.toNat * (rows.take k).countP (needM j) : Nat) : Int).toNat = t.toNat * (rows.take k).countP (needM j) := Int.toNat_natCast _
            have e9 : (((t.toNat * (rows.take k).countP (needM j) : Nat) : Int) + t).toNat - t.toNat * (rows.take k).countP (needM j) = t.toNat := by omega
            rw [e8, e9] at h3
            exact h3
          · rw [if_neg (by simp only [Sum.inl.injEq]; omega)]
            obtain ⟨v, h5, h6⟩ := vd k r' (by omega) hrk hn'
            exact ⟨v, h5, ((h6.sm e2).sm e3).tf tf⟩
      · have hn' : needM j r = false := by simpa using hn
        rw [hn']
        have ec : (rows.take (i + 1)).countP (needM j) = (rows.take i).countP (needM j) := by
          rw [cN, hn', if_neg Bool.false_ne_true, Nat.add_zero]
        have sec := fun D hD => second D hD H2 kd (e1.trans e2) hg2 hd2 (by omega) (fun k r' hk hrk hn2 => ?_)
        · simp only [ec] at sec
          exact sec _ fun _ _ h => by simp only [ec]; exact h
        · by_cases hki : k = i
          · subst hki
            rw [hri] at hrk
            cases hrk
            exact absurd hn2 hn
          · obtain ⟨v, h5, h6⟩ := vd k r' (by omega) hrk hn2
            exact ⟨v, h5, h6.sm e2⟩
    · rintro σ H1 ⟨kg, kd, y1, z1, rfl, e1, hkg, hkd, lg, ld, vg, vd⟩
      simp only [Int.toNat_natCast, hxl] at vg vd
      refine ⟨_, rfl, _, rfl, by show 2 ≤ sizeLine; decide, fun c hc2 => ?_⟩
      have s2 := Same.new (o := .tup [V.ref g, .ref d]) hc2
      exact q c g d _ (e1.trans s2) sqT_new hg hd0 hgd ⟨kg, s2 g _ hkg, fun k hk => vg k (List.getElem?_eq_some_iff.mp hk).1 hk⟩ ⟨kd, s2 d _ hkd, fun k r hk hn => by
        obtain ⟨v, h5, h6⟩ := vd k r (List.getElem?_eq_some_iff.mp hk).1 hk hn
        exact ⟨v, h5, h6.sm s2⟩⟩
end
end U

namespace U
open PySem PySem.Spec PyProof.Rows L2
/-! ### parties: their data -/
structure PS where
  p : Int
  n : Int
  t : Int
  rows : List Row
  j : Int
  ins : List Int
  cs : List Int
abbrev Came := List (List (Int × Int))
def PS.gv (S : PS) (k : Nat) : Int := givenM S.rows S.j S.ins k
def PS.dr (S : PS) (k : Nat) : List Int := drawnM S.t.toNat S.rows S.j S.cs k
def PS.wt (S : PS) : List Int := weightsM S.p (partsM S.n) 0
def ownD (S : PS) : PyData := .tuple [setD S.p S.n S.t, progD S.rows, .int S.j, PI S.ins, PI S.cs]
def Row.ok (n p : Int) (rows : List Row) (k : Nat) : Row → Prop
  | .inp j => 1 ≤ j ∧ j ≤ n
  | .const c => 0 ≤ c ∧ c < p
  | .sum a b => a < k ∧ b < k
  | .less a b => a < k ∧ b < k
  | .product a b => a < k ∧ b < k
  | .times c a => 0 ≤ c ∧ c < p ∧ a < k
  | .out a j => a < k ∧ 1 ≤ j ∧ j ≤ n
  | .next => True
  | .kept a => a < k
def RowsOk (n p : Int) (rows : List Row) : Prop := ∀ (k : Nat) (r : Row), rows[k]? = some r → r.ok n p rows k
structure PSok (S : PS) : Prop where
  set : SetOk S.p S.n S.t
  t3 : S.t ≤ 3
  j0 : 1 ≤ S.j
  j1 : S.j ≤ S.n
  len : S.rows.length ≤ 60
  rok : RowsOk S.n S.p S.rows
  cnt : S.rows.countP (isM S.j) ≤ S.ins.length
  inb : ∀ x ∈ S.ins, 0 ≤ x ∧ x < S.p
  csb : ∀ x ∈ S.cs, 0 ≤ x ∧ x < S.p
def CameRow (S : PS) (c : List (Int × Int)) : Prop := (c.map (·.1)).Nodup ∧ ∀ e ∈ c, 1 ≤ e.1 ∧ e.1 ≤ S.n ∧ e.1 ≠ S.j ∧ 0 ≤ e.2 ∧ e.2 < S.p
structure CameOk (S : PS) (came : Came) : Prop where
  len : came.length = S.rows.length
  row : ∀ c ∈ came, CameRow S c
def kvC (c : List (Int × Int)) : List (Key × V) := c.map fun e => (Sum.inl e.1, .int e.2)
def cameGet (c : List (Int × Int)) (i : Int) : Option Int := (c.find? fun e => decide (e.1 = i)).map (·.2)
theorem valV_kvC (c : List (Int × Int)) (i : Int) : valV (kvC c) (Sum.inl i) = (cameGet c i).map V.int := by
  induction c with
  | nil => rfl
  | cons e r ih =>
    unfold cameGet
    by_cases h : e.1 = i
    · rw [show kvC (e :: r) = (Sum.inl e.1, V.int e.2) :: kvC r from rfl, valV_pos (p := (Sum.inl e.1, V.int e.2)) (by rw [h]), List.find?_cons, decide_eq_true h]
      rfl
    · rw [show kvC (e :: r) = (Sum.inl e.1, V.int e.2) :: kvC r from rfl, valV_neg (p := (Sum.inl e.1, V.int e.2)) (fun z => h (Sum.inl.inj z)), List.find?_cons, decide_eq_false h]
      exact ih
theorem kvC_len (c : List (Int × Int)) : (kvC c).length = c.length := List.length_map ..
theorem cameGet_some {c : List (Int × Int)} {i x : Int} (h : cameGet c i = some x) : (i, x) ∈ c := by
  unfold cameGet at h
  obtain ⟨e, h1, h2⟩ := Option.map_eq_some_iff.mp h
  have h3 := List.find?_some h1
  have h4 := List.mem_of_find?_eq_some h1
  have h5 : e.1 = i := of_decide_eq_true h3
  rw [← h5, ← h2]
  exact h4
theorem cameGet_mem {c : List (Int × Int)} {i : Int} (h : i ∈ c.map (·.1)) : ∃ x, cameGet c i = some x := by
  obtain ⟨e, he, rfl⟩ := List.mem_map.mp h
  unfold cameGet
  cases q : c.find? fun e' => decide (e'.1 = e.1) with
  | some y => exact ⟨y.2, rfl⟩
  | none =>
    have := List.find?_eq_none.mp q e he
    simp at this
theorem nodup_len {α : Type} [DecidableEq α] : ∀ {l l' : List α}, l.Nodup → (∀ x ∈ l, x ∈ l') → l.length ≤ l'.length
  | [], _, _, _ => Nat.zero_le _
  | a :: r, l', nd, h => by
    obtain ⟨h1, h2⟩ := List.nodup_cons.mp nd
    have ha := h a (List.mem_cons_self ..)
    have q := nodup_len (l' := l'.erase a) h2 fun x hx => (List.mem_erase_of_ne (fun e => h1 (by rw [← e]; exact hx))).mpr (h x (List.mem_cons_of_mem _ hx))
    rw [List.length_erase_of_mem ha] at q
    have := List.length_pos_of_mem ha
    rw [List.length_cons]
    omega
/-- all others' letters came -/
theorem all_in {S : PS} (ok : PSok S) {c : List (Int × Int)} (h : CameRow S c) (hl : (c.length : Int) = S.n - 1) {i : Int} (h1 : 1 ≤ i) (h2 : i ≤ S.n) (hj : i ≠ S.j) : i ∈ c.map (·.1) := by
  refine Classical.byContradiction fun hn => ?_
  have nd : (i :: S.j :: c.map (·.1)).Nodup := by
    refine List.nodup_cons.mpr ⟨?_, List.nodup_cons.mpr ⟨?_, h.1⟩⟩
    · intro hm
      rcases List.mem_cons.mp hm with e | hm
      · exact hj e
      · exact hn hm
    · intro hm
      obtain ⟨e, he, hej⟩ := List.mem_map.mp hm
      exact (h.2 e he).2.2.1 hej
  have sub : ∀ x ∈ (i :: S.j :: c.map (·.1)), x ∈ partsM S.n := by
    intro x hx
    rw [partsM_mem]
    rcases List.mem_cons.mp hx with e | hx
    · subst e; exact ⟨h1, h2⟩
    · rcases List.mem_cons.mp hx with e | hx
      · subst e; exact ⟨ok.j0, ok.j1⟩
      · obtain ⟨e, he, rfl⟩ := List.mem_map.mp hx
        exact ⟨(h.2 e he).1, (h.2 e he).2.1⟩
  have := nodup_len nd sub
  rw [partsM_len, List.length_cons, List.length_cons, List.length_map] at this
  have := ok.set.n0
  omega
def total (came : Came) : Nat := (came.map List.length).sum
/-! ### the instance -/
def pfs (vo vg vd vw vt vc : V) : List (Str × V) := [("_own", vo), ("_given", vg), ("_drawn", vd), ("_weighed", vw), ("_took", vt), ("_came", vc)]
section
variable (vo vg vd vw vt vc : V)
theorem pfs_own : (pfs vo vg vd vw vt vc).lookup ("_own" : Str) = some vo := by rfl
theorem pfs_given : (pfs vo vg vd vw vt vc).lookup ("_given" : Str) = some vg := by rfl
theorem pfs_drawn : (pfs vo vg vd vw vt vc).lookup ("_drawn" : Str) = some vd := by rfl
theorem pfs_weighed : (pfs vo vg vd vw vt vc).lookup ("_weighed" : Str) = some vw := by rfl
theorem pfs_took : (pfs vo vg vd vw vt vc).lookup ("_took" : Str) = some vt := by rfl
theorem pfs_came : (pfs vo vg vd vw vt vc).lookup ("_came" : Str) = some vc := by rfl
theorem pfs_putT (x : V) : putF "_took" x (pfs vo vg vd vw vt vc) = pfs vo vg vd vw x vc := by rfl
theorem pfs_putC (x : V) : putF "_came" x (pfs vo vg vd vw vt vc) = pfs vo vg vd vw vt x := by rfl
end
/-- the party S at a, its dicts at g, d and cds, the letters that came -/
structure PAt (K : PySem.W.Frag) (cP : Addr) (S : PS) (H : Hp) (a : Addr) (m : List Addr) (came : Came) : Prop where
  ex : ∃ (dx g d c : Addr) (cds : List Addr) (vo vw vt : V) (ds : List PyData), H a = some (.ins cP dx (pfs vo (.ref g) (.ref d) vw vt (.ref c))) ∧ Rp K H vo (ownD S) ∧ GivenAt H g S.rows S.j S.gv ∧ DrawnAt K H d S.rows S.j S.dr ∧
    Rp K H vw (PI S.wt) ∧ Rp K H vt (.tuple ds) ∧ ds.length ≤ total came ∧ SqT K H c (cds.map V.ref) ∧ cds.length = S.rows.length ∧ came.length = S.rows.length ∧ (∀ (k : Nat) (x : Addr) (cr : List (Int × Int)), cds[k]? = some x → came[k]? = some cr → H x = some (.dK (kvC cr))) ∧ m = g :: d :: cds ∧ m.Nodup
section
variable {P : Program} {w : World} {K : PySem.W.Frag} {mg : Str → Option Value} {base : Heap} {cP cD : Addr} {S : PS} {a : Addr} {m : List Addr} {came : Came}
theorem GivenAt.sm {H H' : Hp} {d : Addr} {rows : List Row} {j : Int} {g : Nat → Int} (e : Same H H') (h : GivenAt H d rows j g) : GivenAt H' d rows j g := by
  obtain ⟨kvs, h1, h2⟩ := h
  exact ⟨kvs, e d _ h1, h2⟩
theorem DrawnAt.sm {H H' : Hp} {d : Addr} {rows : List Row} {j : Int} {g : Nat → List Int} (e : Same H H') (h : DrawnAt K H d rows j g) : DrawnAt K H' d rows j g := by
  obtain ⟨kvs, h1, h2⟩ := h
  refine ⟨kvs, e d _ h1, fun k r hr hn => ?_⟩
  obtain ⟨v, h3, h4⟩ := h2 k r hr hn
  exact ⟨v, h3, h4.sm e⟩
theorem PAt.sm {H H' : Hp} (e : Same H H') (h : PAt K cP S H a m came) : PAt K cP S H' a m came := by
  obtain ⟨dx, g, d, c, cds, vo, vw, vt, ds, h1, h2, h3, h4, h5, h6, h7, h8, h9, h10, h11, h12, h13⟩ := h.ex
  exact ⟨dx, g, d, c, cds, vo, vw, vt, ds, e _ _ h1, h2.sm e, h3.sm e, h4.sm e, h5.sm e, h6.sm e, h7, e.tf.sqT h8, h9, h10, fun k x cr a b => e _ _ (h11 k x cr a b), h12, h13⟩
/-- the parts of _own -/
theorem Rp.own {H : Hp} {v : V} (h : Rp K H v (ownD S)) : ∃ (a b c d e : Addr), v = .ref a ∧ SqT K H a [.ref b, .ref c, .int S.j, .ref d, .ref e] ∧ Rp K H (.ref b) (setD S.p S.n S.t) ∧ Rp K H (.ref c) (progD S.rows) ∧ Rp K H (.ref d) (PI S.ins) ∧ Rp K H (.ref e) (PI S.cs) := by
  obtain ⟨a, xs, e, h1, h2⟩ := h.tupl
  cases h2 with | cons r1 t1 =>
  cases t1 with | cons r2 t2 =>
  cases t2 with | cons r3 t3 =>
  cases t3 with | cons r4 t4 =>
  cases t4 with | cons r5 t5 =>
  cases t5
  cases r3
  obtain ⟨b, _, rfl, _⟩ := r1.tupl
  obtain ⟨c, _, rfl, _⟩ := r2.tupl
  obtain ⟨d, _, rfl, _⟩ := r4.tupl
  obtain ⟨e', _, rfl, _⟩ := r5.tupl
  exact ⟨a, b, c, d, e', e, h1, r1, r2, r4, r5⟩
/-! ### Party(..) -/
def emptyC (S : PS) : Came := S.rows.map fun _ => []
theorem total_empty (S : PS) : total (emptyC S) = 0 := by
  unfold total emptyC
  rw [List.map_map]
  induction S.rows with
  | nil => rfl
  | cons a r ih => rw [List.map_cons, List.sum_cons, ih]; rfl
def sp_Party_init (K : PySem.W.Frag) (cP : Addr) : Sp := fun vs H Q _ => ∃ (x dx : Addr) (v u z y : V) (S : PS), vs = [.ref x, v, u, .int S.j, z, y] ∧ H x = some (.ins cP dx []) ∧ Rp K H v (setD S.p S.n S.t) ∧ Rp K H u (progD S.rows) ∧ Rp K H z (PI S.ins) ∧ Rp K H y (PI S.cs) ∧ PSok S ∧
  ∀ m H', But (fun b => b = x) H H' → (∀ b ∈ m, H b = none) → PAt K cP S H' x m (emptyC S) → Q .non H'
theorem Txt.m_Party (T : Txt K mg cP cD) : C8.Mak P w K mg base 6 "Party" cP (sp_Party_init K cP) [] := by
  refine T.i_Party.mak sc_Party___init__ (fun vs H Q E h => ?_) (fun f cdv A outer s H vs Q E hr h => ?_)
  · obtain ⟨x, dx, v, u, z, y, S, rfl, _⟩ := h
    rfl
  · obtain ⟨x, dx, v, u, z, y, S, rfl, hx, hv, hu, hz, hy, ok, q⟩ := h
    obtain ⟨sa, rfl, hS⟩ := hv.setting
    obtain ⟨pa, pb, xs, rfl, hA, hB, hR⟩ := hu.prog
    have hxl := hR.len
    rw [List.length_map] at hxl
    have hn1 := ok.set.n1
    have hlen := ok.len
    have T_c_by_rows := T.c_by_rows (P := P) (w := w) (base := base)
    have T_c_weights := T.c_weights (P := P) (w := w) (base := base)
    have T_c_parties := T.c_parties (P := P) (w := w) (base := base)
    refine ⟨_, (pss_cons (ps_fld (pv 0) (pe_tup (pa_cons (pv 1) (pa_cons (pv 2) (pa_cons (pv 3) (pa_cons (pv 4) (pa_cons (pv 5) pa_nil)))))) rfl)
      (pss_cons (ps_asg (C8.pe_c T_c_by_rows hr (by decide) (by rfl) (pa_cons (pv 1) (pa_cons (pv 2) (pa_cons (pv 3) (pa_cons (pv 4) (pa_cons (pv 5) pa_nil)))))) (pg_tup rfl (pgs_cons (UR.pg_fld (pv 0)) (pgs_cons (UR.pg_fld (pv 0)) pgs_nil))))
      (pss_cons (ps_fld (pv 0) (C8.pe_c T_c_weights hr (by decide) (by rfl) (pa_cons (pe_ix (ixT K) (pv 1) pe_int (fun _ _ => rfl)) (pa_cons (C8.pe_c T_c_parties hr (by decide) (by rfl) (pa_cons (pv 1) pa_nil)) (pa_cons pe_int pa_nil)))) rfl)
      (pss_cons (ps_fld (pv 0) (pe_tup pa_nil) rfl)
      (pss_one (ps_fld (pv 0) (pe_tupleOf (by rfl) T.n_tuple (pe_lc (own := [("row", 6)]) (g := gName 6) rfl sc_Party___init__.nd (pi_tup (pe_ix (ixT K) (pv 2) pe_int (fun _ _ => rfl))) (blkOk_by (N := ["self", "setting", "program", "number", "inputs", "coins", "row"]) (sc := defScope s_Party___init__) (by decide +kernel)) (fun _ _ _ _ _ => pg_name (i := 6) sc_Party___init__.nd rfl (Or.inl rfl)) (fun _ _ _ _ _ => pts_nil) (fun _ _ _ _ _ => pe_dnewK))) rfl)))))), ?_⟩
    refine ⟨_, rfl, _, rfl, _, rfl, _, rfl, _, rfl, by show 5 ≤ sizeLine; decide, fun o ho => ?_⟩
    have nox : x ≠ o := ne_of_none hx ho
    refine ⟨_, rfl, x, cP, dx, [], rfl, by rw [upd_ne nox]; exact hx, T.clP, T.aP_own, by show 0 < 1000; decide, ?_⟩
    have e1 : Same H (upd H o (.tup [.ref sa, .ref pa, .int S.j, z, y])) := Same.new ho
    have b2 : But (fun b => b = x) H (upd (upd H o (.tup [.ref sa, .ref pa, .int S.j, z, y])) x (.ins cP dx (putF "_own" (.ref o) []))) := e1.but.own rfl
    have tf2 : TF H (upd (upd H o (.tup [.ref sa, .ref pa, .int S.j, z, y])) x (.ins cP dx (putF "_own" (.ref o) []))) := e1.tf.trans (TF.upd (show upd H o _ x = _ by rw [upd_ne nox]; exact hx) plain_ins)
    have hO2 : SqT K (upd (upd H o (.tup [.ref sa, .ref pa, .int S.j, z, y])) x (.ins cP dx (putF "_own" (.ref o) []))) o [.ref sa, .ref pa, .int S.j, z, y] := by
      have q2 : upd (upd H o (.tup [.ref sa, .ref pa, .int S.j, z, y])) x (.ins cP dx (putF "_own" (.ref o) [])) o = some (.tup [.ref sa, .ref pa, .int S.j, z, y]) := by rw [upd_ne nox.symm, upd_same]
      exact .inl (.inl q2)
    have hx2 : upd (upd H o (.tup [.ref sa, .ref pa, .int S.j, z, y])) x (.ins cP dx (putF "_own" (.ref o) [])) x = some (.ins cP dx (putF "_own" (.ref o) [])) := upd_same
    generalize upd (upd H o (.tup [.ref sa, .ref pa, .int S.j, z, y])) x (.ins cP dx (putF "_own" (.ref o) [])) = H2 at b2 tf2 hO2 hx2 ⊢
    refine ⟨_, rfl, _, rfl, _, rfl, _, rfl, _, rfl, S.p, S.n, S.t, _, _, _, _, S.rows, S.j, S.ins, S.cs, rfl, hv.tf tf2, ok.set, hu.tf tf2, ok.len, hz.tf tf2, ok.cnt, hy.tf tf2, fun a3 g d H3 e3 hT3 hg hd hgd hG hD => ?_⟩
    have hx3 := e3 x _ hx2
    have ngx : g ≠ x := fun e => by rw [e, hx2] at hg; cases hg
    have ndx : d ≠ x := fun e => by rw [e, hx2] at hd; cases hd
    have hg0 : H g = none := b2.free ngx hg
    have hd0 : H d = none := b2.free ndx hd
    refine ⟨a3, _, rfl, hT3, rfl, .ref g, [.ref d], rfl, _, rfl, x, cP, dx, _, rfl, hx3, T.clP, T.aP_given, by show 1 < 1000; decide, .ref d, [], rfl, _, rfl, x, cP, dx, _, rfl, upd_same, T.clP, T.aP_drawn, by show 2 < 1000; decide, rfl, ?_⟩
    have own : ∀ (H' : Hp) (fs fs' : List (Str × V)), H' x = some (.ins cP dx fs) → ∀ {b : Addr} {u : HO}, H' b = some u → b ≠ x → upd H' x (.ins cP dx fs') b = some u := fun H' fs fs' _ b u hb nb => by rw [upd_ne nb]; exact hb
    have keepG : ∀ (H' : Hp) (fs' : List (Str × V)), GivenAt H' g S.rows S.j S.gv → GivenAt (upd H' x (.ins cP dx fs')) g S.rows S.j S.gv := fun H' fs' ⟨kvs, h1, h2⟩ => ⟨kvs, by rw [upd_ne ngx]; exact h1, h2⟩
    have keepD : ∀ (H' : Hp) (fs fs' : List (Str × V)), H' x = some (.ins cP dx fs) → DrawnAt K H' d S.rows S.j S.dr → DrawnAt K (upd H' x (.ins cP dx fs')) d S.rows S.j S.dr := fun H' fs fs' hx' ⟨kvs, h1, h2⟩ => ⟨kvs, by rw [upd_ne ndx]; exact h1, fun k r hr hn => by
      obtain ⟨v, h3, h4⟩ := h2 k r hr hn
      exact ⟨v, h3, h4.tf (TF.upd hx' plain_ins)⟩⟩
    rw [upd_upd]
    have hx4 : upd H3 x (.ins cP dx (putF "_drawn" (.ref d) (putF "_given" (.ref g) (putF "_own" (.ref o) [])))) x = some (.ins cP dx (putF "_drawn" (.ref d) (putF "_given" (.ref g) (putF "_own" (.ref o) [])))) := upd_same
    have hG4 := keepG H3 (putF "_drawn" (.ref d) (putF "_given" (.ref g) (putF "_own" (.ref o) []))) hG
    have hD4 := keepD H3 _ (putF "_drawn" (.ref d) (putF "_given" (.ref g) (putF "_own" (.ref o) []))) hx3 hD
    have tf4 : TF H2 (upd H3 x (.ins cP dx (putF "_drawn" (.ref d) (putF "_given" (.ref g) (putF "_own" (.ref o) []))))) := e3.tf.trans (TF.upd hx3 plain_ins)
    have b4 : But (fun b => b = x) H (upd H3 x (.ins cP dx (putF "_drawn" (.ref d) (putF "_given" (.ref g) (putF "_own" (.ref o) []))))) := (b2.trans e3.but).own rfl
    generalize upd H3 x (.ins cP dx (putF "_drawn" (.ref d) (putF "_given" (.ref g) (putF "_own" (.ref o) [])))) = H4 at hx4 hG4 hD4 tf4 b4 ⊢
    have tf04 : TF H H4 := tf2.trans tf4
    refine ⟨_, rfl, _, _, 1, _, rfl, rfl, tf04.sqT hS, rfl, _, rfl, S.p, S.n, S.t, _, rfl, hv.tf tf04, ok.set, fun r5 H5 e5 rp5 => ?_⟩
    refine ⟨S.p, 0, r5, partsM S.n, rfl, rp5, by rw [partsM_len]; omega, ok.set.p0, ok.set.p1, partsM_sm hn1, fun r6 H6 e6 rp6 => ?_⟩
    have e56 := e5.trans e6
    have hx6 := e56 x _ hx4
    refine ⟨_, rfl, x, cP, dx, _, rfl, hx6, T.clP, T.aP_weighed, by show 3 < 1000; decide, ?_⟩
    have hG6 := keepG H6 (putF "_weighed" r6 (putF "_drawn" (.ref d) (putF "_given" (.ref g) (putF "_own" (.ref o) [])))) (hG4.sm e56)
    have hD6 := keepD H6 _ (putF "_weighed" r6 (putF "_drawn" (.ref d) (putF "_given" (.ref g) (putF "_own" (.ref o) [])))) hx6 (hD4.sm e56)
    have tfx : TF H6 (upd H6 x (.ins cP dx (putF "_weighed" r6 (putF "_drawn" (.ref d) (putF "_given" (.ref g) (putF "_own" (.ref o) [])))))) := TF.upd hx6 plain_ins
    have tf6 : TF H (upd H6 x (.ins cP dx (putF "_weighed" r6 (putF "_drawn" (.ref d) (putF "_given" (.ref g) (putF "_own" (.ref o) [])))))) := (tf04.trans e56.tf).trans tfx
    have rw6 := rp6.tf tfx
    have hO6 := (tf4.trans (e56.tf.trans tfx)).sqT hO2
    have b6 : But (fun b => b = x) H (upd H6 x (.ins cP dx (putF "_weighed" r6 (putF "_drawn" (.ref d) (putF "_given" (.ref g) (putF "_own" (.ref o) [])))))) := (b4.trans e56.but).own rfl
    have hx7 : upd H6 x (.ins cP dx (putF "_weighed" r6 (putF "_drawn" (.ref d) (putF "_given" (.ref g) (putF "_own" (.ref o) []))))) x = some (.ins cP dx (putF "_weighed" r6 (putF "_drawn" (.ref d) (putF "_given" (.ref g) (putF "_own" (.ref o) []))))) := upd_same
    generalize upd H6 x (.ins cP dx (putF "_weighed" r6 (putF "_drawn" (.ref d) (putF "_given" (.ref g) (putF "_own" (.ref o) []))))) = H7 at hG6 hD6 tf6 rw6 hO6 b6 hx7 ⊢
    refine ⟨by show 0 ≤ sizeLine; decide, fun q8 hq8 => ?_⟩
    have nx8 : x ≠ q8 := ne_of_none hx7 hq8
    have e8 := Same.new (o := .tup []) hq8
    have hx8 := e8 x _ hx7
    refine ⟨_, rfl, x, cP, dx, _, rfl, hx8, T.clP, T.aP_took, by show 4 < 1000; decide, ?_⟩
    have hG8 := keepG _ (putF "_took" (.ref q8) (putF "_weighed" r6 (putF "_drawn" (.ref d) (putF "_given" (.ref g) (putF "_own" (.ref o) []))))) (hG6.sm e8)
    have hD8 := keepD _ _ (putF "_took" (.ref q8) (putF "_weighed" r6 (putF "_drawn" (.ref d) (putF "_given" (.ref g) (putF "_own" (.ref o) []))))) hx8 (hD6.sm e8)
    have tfy : TF H7 (upd (upd H7 q8 (.tup [])) x (.ins cP dx (putF "_took" (.ref q8) (putF "_weighed" r6 (putF "_drawn" (.ref d) (putF "_given" (.ref g) (putF "_own" (.ref o) []))))))) := e8.tf.trans (TF.upd hx8 plain_ins)
    have tf8 := tf6.trans tfy
    have rw8 := rw6.tf tfy
    have hO8 := tfy.sqT hO6
    have hq9 : SqT K (upd (upd H7 q8 (.tup [])) x (.ins cP dx (putF "_took" (.ref q8) (putF "_weighed" r6 (putF "_drawn" (.ref d) (putF "_given" (.ref g) (putF "_own" (.ref o) []))))))) q8 [] := (TF.upd hx8 plain_ins).sqT sqT_new
    have b8 : But (fun b => b = x) H (upd (upd H7 q8 (.tup [])) x (.ins cP dx (putF "_took" (.ref q8) (putF "_weighed" r6 (putF "_drawn" (.ref d) (putF "_given" (.ref g) (putF "_own" (.ref o) []))))))) := (b6.trans e8.but).own rfl
    have hx9 : upd (upd H7 q8 (.tup [])) x (.ins cP dx (putF "_took" (.ref q8) (putF "_weighed" r6 (putF "_drawn" (.ref d) (putF "_given" (.ref g) (putF "_own" (.ref o) [])))))) x = some (.ins cP dx (putF "_took" (.ref q8) (putF "_weighed" r6 (putF "_drawn" (.ref d) (putF "_given" (.ref g) (putF "_own" (.ref o) [])))))) := upd_same
    generalize upd (upd H7 q8 (.tup [])) x (.ins cP dx (putF "_took" (.ref q8) (putF "_weighed" r6 (putF "_drawn" (.ref d) (putF "_given" (.ref g) (putF "_own" (.ref o) [])))))) = H9 at hG8 hD8 tf8 rw8 hO8 hq9 b8 hx9 ⊢
    refine ⟨_, rfl, _, _, 1, _, rfl, rfl, tf8.sqT hA, at_of (j := 1) rfl rfl, pb, rfl, ⟨_, tf8.sqT hB⟩, fun D hD0 => ?_⟩
    refine lc_tup (K := K) (a := pb) (xs := xs) (Qd := fun H' => kTup K (.ref D) H' _) (fun i H' => Same H9 H' ∧ ∃ cds : List Addr, H' D = some (.lst (cds.map V.ref)) ∧ cds.length = i ∧ cds.Nodup ∧ ∀ b ∈ cds, H9 b = none ∧ H' b = some (.dK []))
      ⟨Same.new hD0, [], upd_same, rfl, List.nodup_nil, by simp⟩ (fun i H' _ p => (tf8.trans p.1.tf).sqT hB) ?_ ?_
    · rintro i x1 H1 hx1 ⟨e10, cds, hcd, hcl, hnd, hcm⟩
      have hil := (List.getElem?_eq_some_iff.mp hx1).1
      refine ⟨rfl, iteT (B := False) fun b hb => ?_⟩
      have nDb : D ≠ b := fun e => by rw [← e, hcd] at hb; cases hb
      have hnb : ¬ b ∈ cds := fun hm => by
        have := (hcm b hm).2
        rw [hb] at this
        cases this
      refine ⟨cds.map V.ref, by rw [upd_ne nDb]; exact hcd, by rw [List.length_map]; exact small' (by omega), (e10.trans (Same.new hb)).mut hD0, cds ++ [b], by rw [upd_same, List.map_append]; rfl, by rw [List.length_append, hcl]; rfl, nd_snoc hnd hnb, fun b' hb' => ?_⟩
      rcases List.mem_append.mp hb' with hm | hm
      · have h5 := hcm b' hm
        have n1 : b' ≠ D := fun e => by rw [e, hcd] at h5; cases h5.2
        have n2 : b' ≠ b := fun e => by rw [e, hb] at h5; cases h5.2
        exact ⟨h5.1, by rw [upd_ne n1, upd_ne n2]; exact h5.2⟩
      · rw [List.mem_singleton.mp hm]
        exact ⟨free_of e10 hb, by rw [upd_ne nDb.symm, upd_same]⟩
    · rintro H1 ⟨e10, cds, hcd, hcl, hnd, hcm⟩
      refine .inl ⟨D, cds.map V.ref, rfl, SqL.of hcd, fun c hc => ?_⟩
      have e11 := e10.trans (Same.new (o := .tup (cds.map V.ref)) hc)
      have hx11 := e11 x _ hx9
      refine ⟨_, rfl, x, cP, dx, _, rfl, hx11, T.clP, T.aP_came, by show 5 < 1000; decide, ?_⟩
      have tfz := TF.upd (o' := .ins cP dx (putF "_came" (.ref c) (putF "_took" (.ref q8) (putF "_weighed" r6 (putF "_drawn" (.ref d) (putF "_given" (.ref g) (putF "_own" (.ref o) []))))))) hx11 plain_ins
      have tf9 := e11.tf.trans tfz
      have nbx : ∀ b ∈ cds, b ≠ x := fun b hb e => by
        have := (hcm b hb).2
        rw [e, e10 x _ hx9] at this
        cases this
      refine q (g :: d :: cds) _ ((b8.trans e11.but).own rfl) (fun b hb => ?_) ⟨dx, g, d, c, cds, .ref o, r6, .ref q8, [], upd_same, .tup (tf9.sqT hO8) ?_, keepG _ _ (hG8.sm e11), keepD _ _ _ hx11 (hD8.sm e11), rw8.tf tf9, .tup (tf9.sqT hq9) .nil, Nat.zero_le _, tfz.sqT sqT_new, by rw [hcl, hxl], by unfold emptyC; rw [List.length_map], fun k b cr hk hcr => ?_, rfl, ?_⟩
      · rcases List.mem_cons.mp hb with rfl | hb
        · exact hg0
        · rcases List.mem_cons.mp hb with rfl | hb
          · exact hd0
          · exact b8.free (nbx b hb) (hcm b hb).1
      · have tfa := tf8.trans tf9
        exact .cons (hv.tf tfa) (.cons (hu.tf tfa) (.cons (.int _) (.cons (hz.tf tfa) (.cons (hy.tf tfa) .nil))))
      · have hm := List.mem_of_getElem? hk
        have h5 := (hcm b hm).2
        have h6 := (Same.new (o := .tup (cds.map V.ref)) hc) b _ h5
        unfold emptyC at hcr
        obtain ⟨_, _, rfl⟩ := map_got hcr
        rw [upd_ne (nbx b hm)]
        exact h6
      · obtain ⟨kg, hkg, _⟩ := hG8
        obtain ⟨kd, hkd, _⟩ := hD8
        refine List.nodup_cons.mpr ⟨fun hm => ?_, List.nodup_cons.mpr ⟨fun hm => ?_, hnd⟩⟩
        · rcases List.mem_cons.mp hm with e | hm
          · exact hgd e
          · have := (hcm g hm).1
            rw [hkg] at this
            cases this
        · have := (hcm d hm).1
          rw [hkd] at this
          cases this
end
end U

namespace U
open PySem PySem.Spec PyProof.Rows L2
theorem ixQ {X : Cx} (K : PySem.W.Frag) (h : X.K = K := by rfl) : IxR X (rIx K) := by subst h; exact ix_seq
def optV : Option Int → V
  | none => .non
  | some x => .int x
def optD : Option Int → PyData
  | none => .none
  | some x => .int x
def toldM (S : PS) (cr : List (Int × Int)) (mine : Int) : List Int := (partsM S.n).map fun i => if i = S.j then mine else (cameGet cr i).getD 0
def neededM (fo : List (Option Int)) : List Nat → Option (List Int)
  | [] => some []
  | a :: r => match fo.getD a none, neededM fo r with
    | some x, some ys => some (x :: ys)
    | _, _ => none
def firstM (p : Int) (r : Row) (ys : List Int) : Int := match r, ys with
  | .product _ _, [x, y] => (x * y) % p
  | _, _ => 0
def reckM (p : Int) (r : Row) (ys : List Int) : Int := match r, ys with
  | .times c _, [x] => (c * x) % p
  | .sum _ _, [x, y] => (x + y) % p
  | .less _ _, [x, y] => (x + (0 - y)) % p
  | _, _ => 0
def dotM (a b : List Int) : List Int := List.zipWith (fun x y => x * y) a b
def joinM (S : PS) (cr : List (Int × Int)) (k : Nat) (r : Row) (ys : List Int) : Option Int :=
  if (cr.length : Int) = S.n - 1 then some (match r with
    | .kept _ => ((toldM S cr (valueM S.p (firstM S.p r ys :: S.dr k) S.j)).sum + ys.getD 0 0) % S.p
    | _ => (dotM S.wt (toldM S cr (valueM S.p (firstM S.p r ys :: S.dr k) S.j))).sum % S.p)
  else none
def shareR (S : PS) (cr : List (Int × Int)) (k : Nat) (fo : List (Option Int)) (r : Row) : Option Int := match r with
  | .inp a => if a = S.j then some (valueM S.p (S.gv k :: S.dr k) S.j) else cameGet cr a
  | .const c => some c
  | .out _ _ => none
  | .next => none
  | .product a b => (neededM fo [a, b]).bind fun ys => joinM S cr k (.product a b) ys
  | .kept a => (neededM fo [a]).bind fun ys => joinM S cr k (.kept a) ys
  | .sum a b => (neededM fo [a, b]).map fun ys => reckM S.p (.sum a b) ys
  | .less a b => (neededM fo [a, b]).map fun ys => reckM S.p (.less a b) ys
  | .times c a => (neededM fo [a]).map fun ys => reckM S.p (.times c a) ys
def shareM (S : PS) (came : Came) (k : Nat) (fo : List (Option Int)) : Option Int := shareR S (came.getD k []) k fo (S.rows.getD k .next)
def sharesUpto (S : PS) (came : Came) : Nat → List (Option Int)
  | 0 => []
  | k + 1 => sharesUpto S came k ++ [shareM S came k (sharesUpto S came k)]
def sharesL (S : PS) (came : Came) : List (Option Int) := sharesUpto S came S.rows.length
theorem sharesUpto_len (S : PS) (came : Came) : ∀ k, (sharesUpto S came k).length = k
  | 0 => rfl
  | k + 1 => by
    show (sharesUpto S came k ++ [_]).length = _
    rw [List.length_append, sharesUpto_len S came k]
    rfl
def FoBd (p : Int) (fo : List (Option Int)) : Prop := ∀ x, some x ∈ fo → 0 ≤ x ∧ x < p
theorem getD_mem {fo : List (Option Int)} {a : Nat} {x : Int} (h : fo.getD a none = some x) : some x ∈ fo := by
  rw [List.getD_eq_getElem?_getD] at h
  cases q : fo[a]? with
  | none => rw [q] at h; cases h
  | some y =>
    rw [q] at h
    have e : y = some x := h
    rw [← e]
    exact List.mem_of_getElem? q
theorem needed_mem {fo : List (Option Int)} : ∀ {l : List Nat} {ys : List Int}, neededM fo l = some ys → ys.length = l.length ∧ ∀ y ∈ ys, some y ∈ fo
  | [], ys, h => by
    cases h
    exact ⟨rfl, by simp⟩
  | a :: r, ys, h => by
    unfold neededM at h
    cases q1 : fo.getD a none with
    | none => rw [q1] at h; cases h
    | some x =>
      cases q2 : neededM fo r with
      | none => rw [q1, q2] at h; cases h
      | some zs =>
        rw [q1, q2] at h
        cases h
        obtain ⟨h1, h2⟩ := needed_mem q2
        refine ⟨by rw [List.length_cons, h1]; rfl, fun y hy => ?_⟩
        rcases List.mem_cons.mp hy with e | hy
        · rw [e]; exact getD_mem q1
        · exact h2 y hy
theorem cameRow_at {S : PS} {came : Came} (ok : CameOk S came) {k : Nat} {cr : List (Int × Int)} (h : came[k]? = some cr) : CameRow S cr := ok.row cr (List.mem_of_getElem? h)
theorem came_at {S : PS} {came : Came} (ok : CameOk S came) {k : Nat} {r : Row} (h : S.rows[k]? = some r) : ∃ cr, came[k]? = some cr ∧ came.getD k [] = cr := by
  have hk := (List.getElem?_eq_some_iff.mp h).1
  have hk2 : k < came.length := by rw [ok.len]; exact hk
  exact ⟨came[k], List.getElem?_eq_getElem hk2, by rw [List.getD_eq_getElem?_getD, List.getElem?_eq_getElem hk2]; rfl⟩
theorem shareM_bd {S : PS} {came : Came} (ok : PSok S) (co : CameOk S came) {k : Nat} {fo : List (Option Int)} (hf : FoBd S.p fo) {x : Int} (h : shareM S came k fo = some x) : 0 ≤ x ∧ x < S.p := by
  have hp := ok.set.p0
  have md : ∀ z : Int, 0 ≤ z % S.p ∧ z % S.p < S.p := fun z => ⟨Int.emod_nonneg _ (by omega), Int.emod_lt_of_pos _ hp⟩
  have jn : ∀ {cr : List (Int × Int)} {r : Row} {ys : List Int} {x : Int}, joinM S cr k r ys = some x → 0 ≤ x ∧ x < S.p := fun {cr r ys x} h => by
    unfold joinM at h
    split at h
    · have h2 := Option.some.inj h
      rw [← h2]
      split <;> exact md _
    · cases h
  unfold shareM at h
  cases hr : S.rows[k]? with
  | none =>
    rw [show S.rows.getD k .next = .next by rw [List.getD_eq_getElem?_getD, hr]; rfl] at h
    cases h
  | some r =>
    obtain ⟨cr, hc1, hc2⟩ := came_at co hr
    rw [show S.rows.getD k .next = r by rw [List.getD_eq_getElem?_getD, hr]; rfl, hc2] at h
    have hrk := ok.rok k r hr
    have cb := cameRow_at co hc1
    cases r with
    | inp a =>
      simp only [Option.getD_some, shareR] at h
      split at h
      · have h2 := Option.some.inj h
        rw [← h2]
        exact valueM_bd hp _ _
      · have h2 := cameGet_some h
        have h3 := cb.2 _ h2
        exact ⟨h3.2.2.2.1, h3.2.2.2.2⟩
    | const c =>
      have h2 := Option.some.inj h
      rw [← h2]
      exact hrk
    | out a b => cases h
    | next => cases h
    | product a b =>
      obtain ⟨ys, h1, h2⟩ := Option.bind_eq_some_iff.mp h
      exact jn h2
    | kept a =>
      obtain ⟨ys, h1, h2⟩ := Option.bind_eq_some_iff.mp h
      exact jn h2
    | sum a b =>
      obtain ⟨ys, h1, h2⟩ := Option.map_eq_some_iff.mp h
      rw [← h2]
      unfold reckM
      split <;> first | exact md _ | exact ⟨Int.le_refl _, hp⟩
    | less a b =>
      obtain ⟨ys, h1, h2⟩ := Option.map_eq_some_iff.mp h
      rw [← h2]
      unfold reckM
      split <;> first | exact md _ | exact ⟨Int.le_refl _, hp⟩
    | times a b =>
      obtain ⟨ys, h1, h2⟩ := Option.map_eq_some_iff.mp h
      rw [← h2]
      unfold reckM
      split <;> first | exact md _ | exact ⟨Int.le_refl _, hp⟩
theorem upto_bd {S : PS} {came : Came} (ok : PSok S) (co : CameOk S came) : ∀ k, FoBd S.p (sharesUpto S came k)
  | 0 => fun x h => by cases h
  | k + 1 => fun x h => by
    rcases List.mem_append.mp h with h | h
    · exact upto_bd ok co k x h
    · exact shareM_bd ok co (upto_bd ok co k) (List.mem_singleton.mp h).symm
section
variable {P : Program} {w : World} {K : PySem.W.Frag} {mg : Str → Option Value} {base : Heap} {cP cD : Addr}
def FoAt (K : PySem.W.Frag) (H : Hp) (v : V) (fo : List (Option Int)) : Prop := ∃ l, v = .ref l ∧ (SqL K H l (fo.map optV) ∨ SqT K H l (fo.map optV))
theorem FoAt.sm {H H' : Hp} {v : V} {fo : List (Option Int)} (e : Same H H') (h : FoAt K H v fo) : FoAt K H' v fo := by
  obtain ⟨l, h1, h2 | h2⟩ := h
  · exact ⟨l, h1, .inl (e.seq h2)⟩
  · exact ⟨l, h1, .inr (e.tf.sqT h2)⟩
/-! ### number, _all_came -/
def sp_number (K : PySem.W.Frag) (cP : Addr) : Sp := fun vs H Q _ => ∃ (a : Addr) (S : PS) (m : List Addr) (came : Came), vs = [.ref a] ∧ PAt K cP S H a m came ∧ Q (.int S.j) H
theorem Txt.p_Party_number (T : Txt K mg cP cD) : Prp P w K mg base 1 cP "number" (sp_number K cP) := by
  refine T.q_Party_number.prp sc_Party_number (fun vs H Q E h => ?_) (fun f cdv A outer s H vs Q E hr h => ?_)
  · obtain ⟨a, S, m, came, rfl, _⟩ := h
    rfl
  · obtain ⟨a, S, m, came, rfl, hP, q⟩ := h
    obtain ⟨dx, g, d, c, cds, vo, vw, vt, ds, h1, h2, h3, h4, h5, h6, h7, h8, h9, h10, h11, h12, h13⟩ := hP.ex
    obtain ⟨oa, o1, o2, o4, o5, rfl, hO, r1, r2, r4, r5⟩ := h2.own
    refine ⟨_, (pss_one (ps_ret (pe_ix (ixT K) (fldK K (pv 0) rfl) pe_int (fun _ _ => rfl)))), ?_⟩
    exact ⟨_, rfl, a, cP, dx, _, _, rfl, h1, T.clP, T.aP_own, pfs_own _ _ _ _ _ _, _, _, 2, _, rfl, rfl, hO, at_of (j := 2) rfl rfl, q⟩
def sp_all_came (K : PySem.W.Frag) (cP : Addr) : Sp := fun vs H Q _ => ∃ (a : Addr) (S : PS) (m : List Addr) (came : Came) (k : Nat) (cr : List (Int × Int)), vs = [.ref a, .int (k : Int)] ∧ PAt K cP S H a m came ∧ came[k]? = some cr ∧ Q (.bl (decide ((cr.length : Int) = S.n - 1))) H
theorem Txt.t_Party__all_came (T : Txt K mg cP cD) : C8.Met P w K mg base 1 cP "_all_came" (sp_all_came K cP) [] := by
  refine T.e_Party__all_came.met sc_Party__all_came (fun vs H Q E h => ?_) (fun f cdv A outer s H vs Q E hr h => ?_)
  · obtain ⟨a, S, m, came, k, cr, rfl, _⟩ := h
    rfl
  · obtain ⟨a, S, m, came, k, cr, rfl, hP, hk, q⟩ := h
    obtain ⟨dx, g, d, c, cds, vo, vw, vt, ds, h1, h2, h3, h4, h5, h6, h7, h8, h9, h10, h11, h12, h13⟩ := hP.ex
    obtain ⟨oa, o1, o2, o4, o5, rfl, hO, r1, r2, r4, r5⟩ := h2.own
    obtain ⟨sa, hsa, hS⟩ := r1.setting
    cases hsa
    obtain ⟨x, hx⟩ : ∃ x, cds[k]? = some x := ⟨_, List.getElem?_eq_getElem (by have := (List.getElem?_eq_some_iff.mp hk).1; omega)⟩
    refine ⟨_, (pss_one (ps_ret (pe_cmpR op_eq (pe_callB call_lenD (by rfl) T.n_len PySem.boot_len (pa_cons (pe_ix (ixT K) (fldK K (pv 0) rfl) (pv 1) (fun _ _ => rfl)) pa_nil)) (pe_op op_sub (pe_ix (ixT K) (pe_ix (ixT K) (fldK K (pv 0) rfl) pe_int (fun _ _ => rfl)) pe_int (fun _ _ => rfl)) pe_int) (nomark _)))), ?_⟩
    refine ⟨_, rfl, a, cP, dx, _, _, rfl, h1, T.clP, T.aP_came, pfs_came _ _ _ _ _ _, _, rfl, _, _, _, _, rfl, rfl, h8, atI_nat (map_get hx), x, _, rfl, h11 k x cr hx hk, ?_⟩
    refine ⟨_, rfl, a, cP, dx, _, _, rfl, h1, T.clP, T.aP_own, pfs_own _ _ _ _ _ _, _, _, 0, _, rfl, rfl, hO, at_of (j := 0) rfl rfl, _, _, 2, _, rfl, rfl, hS, at_of (j := 2) rfl rfl, _, _, rfl, rfl, rfl, ?_⟩
    rw [kvC_len]
    show Q (.bl (decide (V.int _ = V.int _))) H
    rw [decInt]
    exact q
/-! ### _told -/
def sp_told (K : PySem.W.Frag) (cP : Addr) : Sp := fun vs H Q _ => ∃ (a : Addr) (S : PS) (m : List Addr) (came : Came) (k : Nat) (cr : List (Int × Int)) (mine : Int), vs = [.ref a, .int (k : Int), .int mine] ∧ PAt K cP S H a m came ∧ PSok S ∧ came[k]? = some cr ∧ CameRow S cr ∧ (cr.length : Int) = S.n - 1 ∧
  ∀ r H', Same H H' → Rp K H' r (PI (toldM S cr mine)) → Q r H'
theorem Txt.t_Party__told (T : Txt K mg cP cD) : C8.Met P w K mg base 2 cP "_told" (sp_told K cP) [] := by
  refine T.e_Party__told.met sc_Party__told (fun vs H Q E h => ?_) (fun f cdv A outer s H vs Q E hr h => ?_)
  · obtain ⟨a, S, m, came, k, cr, mine, rfl, _⟩ := h
    rfl
  · obtain ⟨a, S, m, came, k, cr, mine, rfl, hP, ok, hk, hcr, hcl, q⟩ := h
    obtain ⟨dx, g, d, c, cds, vo, vw, vt, ds, h1, h2, h3, h4, h5, h6, h7, h8, h9, h10, h11, h12, h13⟩ := hP.ex
    obtain ⟨oa, o1, o2, o4, o5, rfl, hO, r1, r2, r4, r5⟩ := h2.own
    obtain ⟨x, hx⟩ : ∃ x, cds[k]? = some x := ⟨_, List.getElem?_eq_getElem (by have := (List.getElem?_eq_some_iff.mp hk).1; omega)⟩
    have hn1 := ok.set.n1
    have T_c_parties := T.c_parties (P := P) (w := w) (base := base)
    refine ⟨_, (pss_cons (ps_set (i := 3) sc_Party__told.nd rfl (Or.inr rfl) (pe_callTy call_dictD (by rfl) T.n_dict (by decide +kernel) (pa_cons (pe_ix (ixT K) (fldK K (pv 0) rfl) (pv 1) (fun _ _ => rfl)) pa_nil)))
      (pss_cons (ps_dput (hu_of hr) (pv 3) (pe_ix (ixT K) (fldK K (pv 0) rfl) pe_int (fun _ _ => rfl)) (pv 2) rfl)
      (pss_one (ps_ret (pe_tupleOf (by rfl) T.n_tuple (pe_lc (own := [("party", 4)]) (g := gName 4) rfl sc_Party__told.nd (pi_tup (C8.pe_c T_c_parties hr (by decide) (by rfl) (pa_cons (pe_ix (ixT K) (fldK K (pv 0) rfl) pe_int (fun _ _ => rfl)) pa_nil))) (blkOk_by (N := ["self", "k", "mine", "numbers", "party"]) (sc := defScope s_Party__told) (by decide +kernel)) (fun _ _ _ _ _ => pg_name (i := 4) sc_Party__told.nd rfl (Or.inl rfl)) (fun _ _ _ _ _ => pts_nil) (fun _ _ _ _ _ => (pe_dget (hu_of hr) (pv 3) (pv 4) (fun _ _ => rfl))))))))), ?_⟩
    refine ⟨_, rfl, a, cP, dx, _, _, rfl, h1, T.clP, T.aP_came, pfs_came _ _ _ _ _ _, _, rfl, _, _, _, _, rfl, rfl, h8, atI_nat (map_get hx), x, _, rfl, .inl (h11 k x cr hx hk), fun b hb => ?_⟩
    have e1 := Same.new (o := .dK (kvC cr)) hb
    have h1' := e1 _ _ h1
    refine ⟨_, rfl, _, rfl, _, rfl, a, cP, dx, _, _, rfl, h1', T.clP, T.aP_own, pfs_own _ _ _ _ _ _, _, _, 2, _, rfl, rfl, e1.tf.sqT hO, at_of (j := 2) rfl rfl, b, _, rfl, DPut.k (k := Sum.inl S.j) upd_same (small' (by rw [kvC_len]; omega)), ?_⟩
    rw [upd_upd]
    have e2 := Same.new (o := .dK (putK (kvC cr) (Sum.inl S.j) (.int mine))) hb
    have h1'' := e2 _ _ h1
    refine ⟨_, rfl, a, cP, dx, _, _, rfl, h1'', T.clP, T.aP_own, pfs_own _ _ _ _ _ _, _, _, 0, _, rfl, rfl, e2.tf.sqT hO, at_of (j := 0) rfl rfl, S.p, S.n, S.t, _, rfl, r1.sm e2, ok.set, fun r3 H3 e3 rp3 => ?_⟩
    obtain ⟨c3, rfl, h3'⟩ := rp3.pi
    refine ⟨c3, rfl, ⟨_, h3'⟩, lcT1 (L := (toldM S cr mine).map PyData.int) h3' (by simp [toldM]) (by rw [List.length_map, partsM_len]; omega) (fun i y dd H4 hd4 hy e4 Acc ka => ?_) fun D H4 acc hD e4 ha r => tupOf ha r fun c H' e' rc => q _ _ ((e2.trans e3).trans (e4.trans e')) rc⟩
    obtain ⟨z, hz, rfl⟩ := map_got hy
    unfold toldM at hd4
    rw [map_get (map_get hz)] at hd4
    cases hd4
    have hzm := partsM_mem.mp (List.mem_of_getElem? hz)
    have hb4 := e4 b _ (e3 b _ upd_same)
    have hval : valV (putK (kvC cr) (Sum.inl S.j) (.int mine)) (Sum.inl z) = some (.int (if z = S.j then mine else (cameGet cr z).getD 0)) := by
      rw [valV_put]
      by_cases hzj : z = S.j
      · rw [if_pos (by rw [hzj]), if_pos hzj]
      · rw [if_neg (fun h => hzj (Sum.inl.inj h)), if_neg hzj, valV_kvC]
        obtain ⟨x', hx'⟩ := cameGet_mem (all_in ok hcr hcl hzm.1 hzm.2 hzj)
        rw [hx']
        rfl
    have hdg := DGet.k (k := Sum.inl z) hb4
    rw [hval] at hdg
    exact ⟨rfl, _, rfl, _, rfl, b, _, rfl, hdg, ka _ _ (Same.refl _) (.int _)⟩
end
end U

namespace U
open PySem PySem.Spec PyProof.Rows L2
theorem anyNone {fo : List (Option Int)} : ∀ (l : List Nat), inV .non (l.map fun a => optV (fo.getD a none)) = (neededM fo l).isNone
  | [] => rfl
  | a :: r => by
    have ih := anyNone (fo := fo) r
    have e : inV .non ((a :: r).map fun a => optV (fo.getD a none)) = (eqV (optV (fo.getD a none)) .non || inV .non (r.map fun a => optV (fo.getD a none))) := rfl
    rw [e, ih]
    have e2 : neededM fo (a :: r) = match fo.getD a none, neededM fo r with
      | some x, some ys => some (x :: ys)
      | _, _ => none := rfl
    rw [e2]
    cases fo.getD a none with
    | none => rfl
    | some x => cases neededM fo r <;> rfl
theorem needed_vals {fo : List (Option Int)} : ∀ {l : List Nat} {ys : List Int}, neededM fo l = some ys → (l.map fun a => optV (fo.getD a none)) = ys.map V.int
  | [], ys, h => by cases h; rfl
  | a :: r, ys, h => by
    unfold neededM at h
    cases q1 : fo.getD a none with
    | none => rw [q1] at h; cases h
    | some x =>
      cases q2 : neededM fo r with
      | none => rw [q1, q2] at h; cases h
      | some zs =>
        rw [q1, q2] at h
        cases h
        have ih := needed_vals q2
        rw [List.map_cons, ih, List.map_cons, q1]
        rfl
theorem flat_opt (l : List Nat) (fo : List (Option Int)) : (l.map fun a => optV (fo.getD a none)).all flatV = true := by
  rw [List.all_eq_true]
  intro v hv
  obtain ⟨a, _, rfl⟩ := List.mem_map.mp hv
  cases fo.getD a none <;> rfl
section
variable {P : Program} {w : World} {K : PySem.W.Frag} {mg : Str → Option Value} {base : Heap} {cP cD : Addr}
theorem Rp.opt {H : Hp} (o : Option Int) : Rp K H (optV o) (optD o) := by
  cases o with
  | none => exact .non
  | some x => exact .int x
theorem RpAll.opts {H : Hp} : ∀ {l : List (Option Int)} {vs : List V}, RpAll K H vs (l.map optD) → vs = l.map optV
  | [], _, .nil => rfl
  | o :: r, _, .cons h t => by
    rw [RpAll.opts t]
    cases o with
    | none => cases h; rfl
    | some x => cases h; rfl
theorem row_named_lt {n p : Int} {rows : List Row} {k : Nat} {r : Row} (h : r.ok n p rows k) : ∀ a ∈ r.named, a < k := by
  intro a ha
  cases r <;> simp only [Row.named, List.mem_cons, List.not_mem_nil, or_false] at ha <;> simp only [Row.ok] at h
  · rcases ha with rfl | rfl
    · exact h.1
    · exact h.2
  · rcases ha with rfl | rfl
    · exact h.1
    · exact h.2
  · rcases ha with rfl | rfl
    · exact h.1
    · exact h.2
  · rw [ha]; exact h.2.2
  · rw [ha]; exact h.1
  · rw [ha]; exact h
/-! ### _needed -/
def sp_needed (K : PySem.W.Frag) (cP : Addr) : Sp := fun vs H Q _ => ∃ (a : Addr) (S : PS) (m : List Addr) (came : Came) (k : Nat) (r : Row) (v : V) (fo : List (Option Int)), vs = [.ref a, .int (k : Int), v] ∧ PAt K cP S H a m came ∧ PSok S ∧ S.rows[k]? = some r ∧ FoAt K H v fo ∧ k ≤ fo.length ∧
  ∀ u H', Same H H' → (neededM fo r.named = none → u = .non) → (∀ ys, neededM fo r.named = some ys → ∃ l, u = .ref l ∧ SqL K H' l (ys.map V.int)) → Q u H'
theorem Txt.t_Party__needed (T : Txt K mg cP cD) : C8.Met P w K mg base 2 cP "_needed" (sp_needed K cP) [] := by
  refine T.e_Party__needed.met sc_Party__needed (fun vs H Q E h => ?_) (fun f cdv A outer s H vs Q E hr h => ?_)
  · obtain ⟨a, S, m, came, k, r, v, fo, rfl, _⟩ := h
    rfl
  · obtain ⟨a, S, m, came, k, r, v, fo, rfl, hP, ok, hk, hf, hkl, q⟩ := h
    obtain ⟨dx, g, d, c, cds, vo, vw, vt, ds, h1, h2, h3, h4, h5, h6, h7, h8, h9, h10, h11, h12, h13⟩ := hP.ex
    obtain ⟨oa, o1, o2, o4, o5, rfl, hO, r1, r2, r4, r5⟩ := h2.own
    obtain ⟨pa, pb, xs, hpa, hA, hB, hR⟩ := r2.prog
    cases hpa
    obtain ⟨vr, hvr, rpr⟩ := hR.get (map_get hk)
    have hlt := row_named_lt (ok.rok k r hk)
    obtain ⟨fl, rfl, hF⟩ := hf
    have T_c_named := T.c_named (P := P) (w := w) (base := base)
    refine ⟨_, (pss_cons (ps_setLc (i := 3) (own := [("wire", 4)]) (g := gName 4) rfl sc_Party__needed.nd rfl rfl (sw_true rfl rfl rfl (by decide +kernel)) (pi_tup (C8.pe_c T_c_named hr (by decide) (by rfl) (pa_cons (pe_ix (ixT K) (pe_ix (ixT K) (pe_ix (ixT K) (fldK K (pv 0) rfl) pe_int (fun _ _ => rfl)) pe_int (fun _ _ => rfl)) (pv 1) (fun _ _ => rfl)) pa_nil))) (blkOk_by (N := ["self", "k", "found", "some", "wire"]) (sc := defScope s_Party__needed) (by decide +kernel)) (fun _ _ _ _ _ => pg_name (i := 4) sc_Party__needed.nd rfl (Or.inl rfl)) (fun _ _ _ _ _ => pts_nil) (fun _ _ _ _ _ => (pe_ix (ixQ K) (pv 2) (pv 4) (fun _ _ => rfl))))
      (pss_one (ps_ret (pe_ifExp (pt_cmpR (inS K) pe_non (pv 3) rfl) pe_non (pv 3))))), ?_⟩
    refine ⟨_, rfl, a, cP, dx, _, _, rfl, h1, T.clP, T.aP_own, pfs_own _ _ _ _ _ _, _, _, 1, _, rfl, rfl, hO, at_of (j := 1) rfl rfl, _, _, 1, _, rfl, rfl, hA, at_of (j := 1) rfl rfl, _, rfl, _, _, _, _, rfl, rfl, hB, atI_nat hvr, vr, r, rfl, rpr, fun u1 H1 e1 rp1 => ?_⟩
    obtain ⟨c1, rfl, hc1⟩ := rp1.pi
    have hnl : r.named.length ≤ 2 := by cases r <;> simp [Row.named]
    refine ⟨c1, rfl, ⟨_, hc1⟩, lcT1 (L := (r.named.map fun a => fo.getD a none).map optD) hc1 (by simp) (by simp only [List.length_map]; omega) (fun i y dd H2 hd2 hy e2 Acc ka => ?_) fun D H2 acc hD e2 ha ra => ?_⟩
    · obtain ⟨z, hz, rfl⟩ := map_got hy
      obtain ⟨b, hb, rfl⟩ := map_got hz
      rw [map_get (map_get hb)] at hd2
      cases hd2
      have hbl := hlt b (List.mem_of_getElem? hb)
      have hbf : b < fo.length := by omega
      have hg : fo.getD b none = fo[b] := by rw [List.getD_eq_getElem?_getD, List.getElem?_eq_getElem hbf]; rfl
      have hat : atI (fo.map optV) ((b : Nat) : Int) = some (optV (fo.getD b none)) := by
        rw [hg]
        exact atI_nat (map_get (List.getElem?_eq_getElem hbf))
      refine ⟨rfl, _, rfl, _, rfl, ?_⟩
      rcases hF with hF | hF
      · exact .inl ⟨fl, _, _, _, rfl, rfl, (e1.trans e2).seq hF, hat, ka _ _ (Same.refl _) (.opt _)⟩
      · exact .inr (.inl ⟨fl, _, _, _, rfl, rfl, (e1.trans e2).tf.sqT hF, hat, ka _ _ (Same.refl _) (.opt _)⟩)
    · have hacc := RpAll.opts ra
      have hacc2 : acc = r.named.map fun a => optV (fo.getD a none) := by rw [hacc, List.map_map]; rfl
      subst hacc2
      have e12 := e1.trans e2
      refine ⟨_, rfl, D, _, rfl, .inl (SqL.of ha), rfl, flat_opt _ _, _, congrArg V.bl (anyNone r.named), ?_⟩
      cases hn : neededM fo r.named with
      | none => exact q _ _ e12 (fun _ => rfl) fun ys h => by rw [hn] at h; cases h
      | some ys =>
        refine ⟨_, rfl, q _ _ e12 (fun h => by rw [hn] at h; cases h) fun ys' h => ?_⟩
        rw [hn] at h
        cases h
        exact ⟨D, rfl, by rw [← needed_vals hn]; exact SqL.of ha⟩
/-! ### _poly, _reckoned -/
def sp_poly (K : PySem.W.Frag) (cP : Addr) : Sp := fun vs H Q _ => ∃ (a : Addr) (S : PS) (m : List Addr) (came : Came) (k : Nat) (r : Row) (l : Addr) (ys : List Int), vs = [.ref a, .int (k : Int), .ref l] ∧ PAt K cP S H a m came ∧ PSok S ∧ S.rows[k]? = some r ∧ SqL K H l (ys.map V.int) ∧ (∀ y ∈ ys, Sm y) ∧ ys.length = r.named.length ∧ needM S.j r = true ∧
  ∀ u H', Same H H' → Rp K H' u (PI (firstM S.p r ys :: S.dr k)) → Q u H'
theorem drawn_len (S : PS) (k : Nat) : (S.dr k).length ≤ S.t.toNat := by unfold PS.dr drawnM; rw [List.length_take]; omega
theorem Txt.t_Party__poly (T : Txt K mg cP cD) : C8.Met P w K mg base 1 cP "_poly" (sp_poly K cP) [] := by
  refine T.e_Party__poly.met sc_Party__poly (fun vs H Q E h => ?_) (fun f cdv A outer s H vs Q E hr h => ?_)
  · obtain ⟨a, S, m, came, k, r, l, ys, rfl, _⟩ := h
    rfl
  · obtain ⟨a, S, m, came, k, r, l, ys, rfl, hP, ok, hk, hL, hsm, hyl, hnd, q⟩ := h
    obtain ⟨dx, g, d, c, cds, vo, vw, vt, ds, h1, h2, h3, h4, h5, h6, h7, h8, h9, h10, h11, h12, h13⟩ := hP.ex
    obtain ⟨oa, o1, o2, o4, o5, rfl, hO, r1, r2, r4, r5⟩ := h2.own
    obtain ⟨pa, pb, xs, hpa, hA, hB, hR⟩ := r2.prog
    cases hpa
    obtain ⟨ra, hvr, hra⟩ := hR.rowAt hk
    obtain ⟨sa, hsa, hS⟩ := r1.setting
    cases hsa
    obtain ⟨kd, hkd, hdr⟩ := h4
    obtain ⟨vd, hvd, rpd⟩ := hdr k r hk hnd
    obtain ⟨da, rfl, hDA⟩ := rpd.pi
    have hdl := drawn_len S k
    have ht1 := ok.set.t1
    have hdg := DGet.k (k := Sum.inl (k : Int)) hkd
    rw [hvd] at hdg
    refine ⟨_, (pss_cons (ps_set (i := 3) sc_Party__poly.nd rfl (Or.inl rfl) pe_int)
      (pss_cons (ps_if (pt_cmpR op_eq (pe_ix (ixT K) (pe_ix (ixT K) (pe_ix (ixT K) (pe_ix (ixT K) (fldK K (pv 0) rfl) pe_int (fun _ _ => rfl)) pe_int (fun _ _ => rfl)) (pv 1) (fun _ _ => rfl)) pe_int (fun _ _ => rfl)) pe_str (nomark _))
        (pss_one (ps_set (i := 3) sc_Party__poly.nd rfl (Or.inl rfl) (pe_op op_mod (pe_callTy call_int1 (by rfl) T.n_int (by decide +kernel) (pa_cons (pe_op op_mul (pe_ix (ixL K) (pv 2) pe_int (fun _ _ => rfl)) (pe_ix (ixL K) (pv 2) pe_int (fun _ _ => rfl))) pa_nil)) (pe_ix (ixT K) (pe_ix (ixT K) (fldK K (pv 0) rfl) pe_int (fun _ _ => rfl)) pe_int (fun _ _ => rfl)))))
        pss_nil)
      (pss_one (ps_ret (pe_op (catT K) (pe_tup (pa_cons (pv 3) pa_nil)) (pe_dget (hu_of hr) (fldK K (pv 0) rfl) (pv 1) (fun _ _ => rfl))))))), ?_⟩
    have fin : ∀ (x : Int), firstM S.p r ys = x → tRet (tOp (rCatA K) (tTup (tCons (tVar 3) tNil)) (tDGet (tFld K (tVar 0) "_drawn") (tVar 1))) { nx := fun _ H' => Q .non H', rt := Q } [some (.ref a), some (.int (k : Int)), some (.ref l), some (.int x)] H := fun x hx => by
      refine ⟨_, rfl, by show 1 ≤ sizeLine; decide, fun t ht => ?_⟩
      have e1 := Same.new (o := .tup [V.int x]) ht
      refine ⟨_, rfl, a, cP, dx, _, _, rfl, e1 _ _ h1, T.clP, T.aP_drawn, pfs_drawn _ _ _ _ _ _, _, rfl, d, .ref da, rfl, ?_, ?_⟩
      · have hdg2 := DGet.k (k := Sum.inl (k : Int)) (e1 _ _ hkd)
        rw [hvd] at hdg2
        exact hdg2
      · refine catA sqT_new (e1.tf.sqT hDA) (by simp only [List.length_map, List.length_cons, List.length_nil]; show 0 + 1 + (drawnM S.t.toNat S.rows S.j S.cs k).length ≤ _; have : (drawnM S.t.toNat S.rows S.j S.cs k).length ≤ S.t.toNat := hdl; omega) fun c2 H2 e2 h2 => q _ _ (e1.trans e2) (.ofPi ?_)
        rw [hx]
        exact h2
    refine ⟨_, rfl, a, cP, dx, _, _, rfl, h1, T.clP, T.aP_own, pfs_own _ _ _ _ _ _, _, _, 1, _, rfl, rfl, hO, at_of (j := 1) rfl rfl, _, _, 1, _, rfl, rfl, hA, at_of (j := 1) rfl rfl, _, rfl, _, _, _, _, rfl, rfl, hB, atI_nat hvr, _, _, 0, _, rfl, rfl, hra, at_of (j := 0) rfl rfl, rfl, _, congrArg V.bl (names_eq r.kn 4), ?_⟩
    cases r
    case product b1 b2 =>
      match ys, hyl with
      | [x, y], _ =>
        have hx := hsm x (by simp)
        refine ⟨_, rfl, _, _, 0, _, rfl, rfl, hL, at_of (j := 0) rfl rfl, _, rfl, _, _, 1, _, rfl, rfl, hL, at_of (j := 1) rfl rfl, _, _, rfl, rfl, .inl ⟨by have := hx.1; omega, by have := hx.2; omega⟩, Or.inl ⟨_, rfl, ?_⟩⟩
        exact ⟨_, rfl, a, cP, dx, _, _, rfl, h1, T.clP, T.aP_own, pfs_own _ _ _ _ _ _, _, _, 0, _, rfl, rfl, hO, at_of (j := 0) rfl rfl, _, _, 1, _, rfl, rfl, hS, at_of (j := 1) rfl rfl, _, _, rfl, rfl, ok.set.p0, fin _ rfl⟩
    case kept b1 => exact fin 0 rfl
    case inp b1 => exact fin 0 rfl
    all_goals cases hnd
def sp_reckoned (K : PySem.W.Frag) (cP : Addr) : Sp := fun vs H Q _ => ∃ (a : Addr) (S : PS) (m : List Addr) (came : Came) (v : V) (r : Row) (l : Addr) (ys : List Int), vs = [.ref a, v, .ref l] ∧ PAt K cP S H a m came ∧ PSok S ∧ Rp K H v r.data ∧ (r.kn = 2 ∨ r.kn = 3 ∨ r.kn = 5) ∧ SqL K H l (ys.map V.int) ∧ (∀ y ∈ ys, Sm y) ∧ ys.length = r.named.length ∧ Q (.int (reckM S.p r ys)) H
theorem Txt.t_Party__reckoned (T : Txt K mg cP cD) : C8.Met P w K mg base 1 cP "_reckoned" (sp_reckoned K cP) [] := by
  refine T.e_Party__reckoned.met sc_Party__reckoned (fun vs H Q E h => ?_) (fun f cdv A outer s H vs Q E hr h => ?_)
  · obtain ⟨a, S, m, came, v, r, l, ys, rfl, _⟩ := h
    rfl
  · obtain ⟨a, S, m, came, v, r, l, ys, rfl, hP, ok, hv, hrk, hL, hsm, hyl, q⟩ := h
    obtain ⟨dx, g, d, c, cds, vo, vw, vt, ds, h1, h2, h3, h4, h5, h6, h7, h8, h9, h10, h11, h12, h13⟩ := hP.ex
    obtain ⟨oa, o1, o2, o4, o5, rfl, hO, r1, r2, r4, r5⟩ := h2.own
    obtain ⟨sa, hsa, hS⟩ := r1.setting
    cases hsa
    obtain ⟨ra, rfl, hra⟩ := hv.row
    refine ⟨_, (pss_cons (ps_if (pt_cmpR op_eq (pe_ix (ixT K) (pv 1) pe_int (fun _ _ => rfl)) pe_str (nomark _))
        (pss_one (ps_ret (pe_op op_mod (pe_callTy call_int1 (by rfl) T.n_int (by decide +kernel) (pa_cons (pe_op op_mul (pe_ix (ixT K) (pv 1) pe_int (fun _ _ => rfl)) (pe_ix (ixL K) (pv 2) pe_int (fun _ _ => rfl))) pa_nil)) (pe_ix (ixT K) (pe_ix (ixT K) (fldK K (pv 0) rfl) pe_int (fun _ _ => rfl)) pe_int (fun _ _ => rfl)))))
        pss_nil)
      (pss_cons (ps_set (i := 3) sc_Party__reckoned.nd rfl (Or.inl rfl) (pe_ifExp (pt_cmpR op_eq (pe_ix (ixT K) (pv 1) pe_int (fun _ _ => rfl)) pe_str (nomark _)) (pe_ix (ixL K) (pv 2) pe_int (fun _ _ => rfl)) (pe_op op_sub pe_int (pe_ix (ixL K) (pv 2) pe_int (fun _ _ => rfl)))))
      (pss_one (ps_ret (pe_op op_mod (pe_callTy call_int1 (by rfl) T.n_int (by decide +kernel) (pa_cons (pe_op op_add (pe_ix (ixL K) (pv 2) pe_int (fun _ _ => rfl)) (pv 3)) pa_nil)) (pe_ix (ixT K) (pe_ix (ixT K) (fldK K (pv 0) rfl) pe_int (fun _ _ => rfl)) pe_int (fun _ _ => rfl))))))), ?_⟩
    cases r
    case times b1 b2 =>
      match ys, hyl with
      | [x], _ =>
        have hx := hsm x (by simp)
        refine ⟨_, rfl, _, _, 0, _, rfl, rfl, hra, at_of (j := 0) rfl rfl, rfl, true, congrArg V.bl (kT 5), ?_⟩
        exact ⟨_, rfl, _, _, 1, _, rfl, rfl, hra, at_of (j := 1) rfl rfl, _, rfl, _, _, 0, _, rfl, rfl, hL, at_of (j := 0) rfl rfl, _, _, rfl, rfl, .inr ⟨by have := hx.1; omega, by have := hx.2; omega⟩, Or.inl ⟨_, rfl, _, rfl, a, cP, dx, _, _, rfl, h1, T.clP, T.aP_own, pfs_own _ _ _ _ _ _, _, _, 0, _, rfl, rfl, hO, at_of (j := 0) rfl rfl, _, _, 1, _, rfl, rfl, hS, at_of (j := 1) rfl rfl, _, _, rfl, rfl, ok.set.p0, q⟩⟩
    case sum b1 b2 =>
      match ys, hyl with
      | [x, y], _ =>
        refine ⟨_, rfl, _, _, 0, _, rfl, rfl, hra, at_of (j := 0) rfl rfl, rfl, false, congrArg V.bl (kF 2 5), ?_⟩
        refine ⟨_, rfl, _, _, 0, _, rfl, rfl, hra, at_of (j := 0) rfl rfl, rfl, true, congrArg V.bl (kT 2), ?_⟩
        refine ⟨_, rfl, _, _, 1, _, rfl, rfl, hL, at_of (j := 1) rfl rfl, ?_⟩
        exact ⟨_, rfl, _, _, 0, _, rfl, rfl, hL, at_of (j := 0) rfl rfl, _, rfl, _, _, rfl, rfl, Or.inl ⟨_, rfl, _, rfl, a, cP, dx, _, _, rfl, h1, T.clP, T.aP_own, pfs_own _ _ _ _ _ _, _, _, 0, _, rfl, rfl, hO, at_of (j := 0) rfl rfl, _, _, 1, _, rfl, rfl, hS, at_of (j := 1) rfl rfl, _, _, rfl, rfl, ok.set.p0, q⟩⟩
    case less b1 b2 =>
      match ys, hyl with
      | [x, y], _ =>
        refine ⟨_, rfl, _, _, 0, _, rfl, rfl, hra, at_of (j := 0) rfl rfl, rfl, false, congrArg V.bl (kF 3 5), ?_⟩
        refine ⟨_, rfl, _, _, 0, _, rfl, rfl, hra, at_of (j := 0) rfl rfl, rfl, false, congrArg V.bl (kF 3 2), ?_⟩
        refine ⟨_, rfl, _, _, 1, _, rfl, rfl, hL, at_of (j := 1) rfl rfl, _, _, rfl, rfl, ?_⟩
        exact ⟨_, rfl, _, _, 0, _, rfl, rfl, hL, at_of (j := 0) rfl rfl, _, rfl, _, _, rfl, rfl, Or.inl ⟨_, rfl, _, rfl, a, cP, dx, _, _, rfl, h1, T.clP, T.aP_own, pfs_own _ _ _ _ _ _, _, _, 0, _, rfl, rfl, hO, at_of (j := 0) rfl rfl, _, _, 1, _, rfl, rfl, hS, at_of (j := 1) rfl rfl, _, _, rfl, rfl, ok.set.p0, q⟩⟩
    all_goals (exfalso; revert hrk; simp only [Row.kn]; decide)
end
end U

namespace U
open PySem PySem.Spec PyProof.Rows L2
theorem weightsM_len (p : Int) (pts : List Int) (x : Int) : (weightsM p pts x).length = pts.length := by unfold weightsM; rw [List.length_map, basesM_len]
theorem weightsM_bd {p : Int} (hp : 0 < p) (pts : List Int) (x : Int) : ∀ y ∈ weightsM p pts x, 0 ≤ y ∧ y < p := by
  intro y hy
  unfold weightsM at hy
  obtain ⟨q, _, rfl⟩ := List.mem_map.mp hy
  exact valueM_bd hp q x
theorem toldM_len (S : PS) (cr : List (Int × Int)) (mine : Int) : (toldM S cr mine).length = S.n.toNat := by unfold toldM; rw [List.length_map, partsM_len]
theorem wt_len (S : PS) : S.wt.length = S.n.toNat := by unfold PS.wt; rw [weightsM_len, partsM_len]
section
variable {P : Program} {w : World} {K : PySem.W.Frag} {mg : Str → Option Value} {base : Heap} {cP cD : Addr}
/-! ### _joined -/
def sp_joined (K : PySem.W.Frag) (cP : Addr) : Sp := fun vs H Q _ => ∃ (a : Addr) (S : PS) (m : List Addr) (came : Came) (k : Nat) (r : Row) (cr : List (Int × Int)) (l : Addr) (ys : List Int), vs = [.ref a, .int (k : Int), .ref l] ∧ PAt K cP S H a m came ∧ PSok S ∧ S.rows[k]? = some r ∧ came[k]? = some cr ∧ CameRow S cr ∧ (r.kn = 4 ∨ r.kn = 8) ∧
  SqL K H l (ys.map V.int) ∧ (∀ y ∈ ys, Sm y) ∧ ys.length = r.named.length ∧ ∀ H', Same H H' → Q (optV (joinM S cr k r ys)) H'
theorem Txt.t_Party__joined (T : Txt K mg cP cD) : C8.Met P w K mg base 3 cP "_joined" (sp_joined K cP) [] := by
  refine T.e_Party__joined.met sc_Party__joined (fun vs H Q E h => ?_) (fun f cdv A outer s H vs Q E hr h => ?_)
  · obtain ⟨a, S, m, came, k, r, cr, l, ys, rfl, _⟩ := h
    rfl
  · obtain ⟨a, S, m, came, k, r, cr, l, ys, rfl, hP, ok, hk, hck, hcr, hrk, hL, hsm, hyl, q⟩ := h
    obtain ⟨dx, g, d, c, cds, vo, vw, vt, ds, h1, h2, h3, h4, h5, h6, h7, h8, h9, h10, h11, h12, h13⟩ := id hP.ex
    obtain ⟨oa, o1, o2, o4, o5, rfl, hO, r1, r2, r4, r5⟩ := h2.own
    obtain ⟨pa, pb, xs, hpa, hA, hB, hR⟩ := r2.prog
    cases hpa
    obtain ⟨ra, hvr, hra⟩ := hR.rowAt hk
    obtain ⟨sa, hsa, hS⟩ := r1.setting
    cases hsa
    obtain ⟨wa, rfl, hW⟩ := h5.pi
    have hp0 := ok.set.p0
    have hp1 := ok.set.p1
    have hn1 := ok.set.n1
    have T_t_Party__all_came := T.t_Party__all_came (P := P) (w := w) (base := base)
    have T_t_Party__told := T.t_Party__told (P := P) (w := w) (base := base)
    have T_c_value_at := T.c_value_at (P := P) (w := w) (base := base)
    have T_t_Party__poly := T.t_Party__poly (P := P) (w := w) (base := base)
    refine ⟨_, (pss_cons (ps_if (pt_not (pt_val (C8.pe_mt T_t_Party__all_came hr (by decide) (pv 0) (pa_cons (pv 1) pa_nil))))
        (pss_one (ps_ret pe_non))
        pss_nil)
      (pss_cons (ps_asg (pe_slice (slT K) (fldK K (pv 0) rfl) po_none (po_some pe_int)) (pg_tup rfl (pgs_cons (pg_name (i := 3) sc_Party__joined.nd rfl (Or.inl rfl)) (pgs_cons (pg_name (i := 4) sc_Party__joined.nd rfl (Or.inl rfl)) (pgs_cons (pg_name (i := 5) sc_Party__joined.nd rfl (Or.inl rfl)) pgs_nil)))))
      (pss_cons (ps_set (i := 6) sc_Party__joined.nd rfl (Or.inr rfl) (C8.pe_mt T_t_Party__told hr (by decide) (pv 0) (pa_cons (pv 1) (pa_cons (C8.pe_c T_c_value_at hr (by decide) (by rfl) (pa_cons (pe_ix (ixT K) (pv 3) pe_int (fun _ _ => rfl)) (pa_cons (C8.pe_mt T_t_Party__poly hr (by decide) (pv 0) (pa_cons (pv 1) (pa_cons (pv 2) pa_nil))) (pa_cons (pv 5) pa_nil)))) pa_nil))))
      (pss_cons (ps_if (pt_cmpR op_eq (pe_ix (ixT K) (pe_ix (ixT K) (pe_ix (ixT K) (pv 4) pe_int (fun _ _ => rfl)) (pv 1) (fun _ _ => rfl)) pe_int (fun _ _ => rfl)) pe_str (nomark _))
        (pss_one (ps_ret (pe_op op_mod (pe_callTy call_int1 (by rfl) T.n_int (by decide +kernel) (pa_cons (pe_op op_add (pe_callB (UR.cr_sumT rfl) (by rfl) T.n_sum (by decide +kernel) (pa_cons (pv 6) pa_nil)) (pe_ix (ixL K) (pv 2) pe_int (fun _ _ => rfl))) pa_nil)) (pe_ix (ixT K) (pv 3) pe_int (fun _ _ => rfl)))))
        pss_nil)
      (pss_one (ps_ret (pe_op op_mod (pe_callTy call_int1 (by rfl) T.n_int (by decide +kernel) (pa_cons (pe_callB (cr_sum rfl) (by rfl) T.n_sum (by decide +kernel) (pa_cons (pe_lc (own := [("place", 7)]) (g := gName 7) rfl sc_Party__joined.nd (pi_range1 (by rfl) T.n_range (pa_cons (pe_callB (lenS K) (by rfl) T.n_len PySem.boot_len (pa_cons (pv 6) pa_nil)) pa_nil)) (blkOk_by (N := ["self", "k", "some", "setting", "program", "number", "told", "place"]) (sc := defScope s_Party__joined) (by decide +kernel)) (fun _ _ _ _ _ => pg_name (i := 7) sc_Party__joined.nd rfl (Or.inl rfl)) (fun _ _ _ _ _ => pts_nil) (fun _ _ _ _ _ => (pe_op op_mul (pe_ix (ixT K) (fldK K (pv 0) rfl) (pv 7) (fun _ _ => rfl)) (pe_ix (ixT K) (pv 6) (pv 7) (fun _ _ => rfl))))) pa_nil)) pa_nil)) (pe_ix (ixT K) (pv 3) pe_int (fun _ _ => rfl))))))))), ?_⟩
    refine ⟨_, rfl, a, dx, _, rfl, h1, by rfl, _, rfl, a, S, m, came, k, cr, rfl, hP, hck, _, rfl, ?_⟩
    by_cases hl : (cr.length : Int) = S.n - 1
    · rw [decide_eq_true hl]
      have qj := fun H' (e : Same H H') => q H' e
      unfold joinM at qj
      simp only [if_pos hl] at qj
      refine ⟨_, rfl, a, cP, dx, _, _, rfl, h1, T.clP, T.aP_own, pfs_own _ _ _ _ _ _, 3, rfl, slA hO (cut_to _ 3) fun c1 H1 e1 hc1 => ?_⟩
      refine ⟨c1, _, rfl, hc1, rfl, _, _, rfl, _, _, rfl, _, _, rfl, rfl, ?_⟩
      refine ⟨_, rfl, a, dx, _, rfl, e1 _ _ h1, by rfl, _, rfl, _, rfl, _, _, 1, _, rfl, rfl, e1.tf.sqT hS, at_of (j := 1) rfl rfl, _, rfl, a, dx, _, rfl, e1 _ _ h1, by rfl, _, rfl, _, rfl, ?_⟩
      refine ⟨a, S, m, came, k, r, l, ys, rfl, hP.sm e1, ok, hk, e1.seq hL, hsm, hyl, ?_, fun u2 H2 e2 rp2 => ?_⟩
      · rcases hrk with hrk | hrk <;> cases r <;> first | rfl | (exfalso; revert hrk; simp only [Row.kn]; decide)
      refine ⟨_, rfl, S.p, S.j, u2, _, rfl, rp2, hp0, hp1, ?_⟩
      have e12 := e1.trans e2
      refine ⟨a, S, m, came, k, cr, _, rfl, hP.sm e12, ok, hck, hcr, hl, fun u3 H3 e3 rp3 => ?_⟩
      have e13 := e12.trans e3
      obtain ⟨c3, rfl, h3'⟩ := rp3.pi
      generalize hm : valueM S.p (firstM S.p r ys :: S.dr k) S.j = mine at *
      refine ⟨_, rfl, _, _, 1, _, rfl, rfl, e13.tf.sqT hA, at_of (j := 1) rfl rfl, _, rfl, _, _, _, _, rfl, rfl, e13.tf.sqT hB, atI_nat hvr, _, _, 0, _, rfl, rfl, e13.tf.sqT hra, at_of (j := 0) rfl rfl, rfl, _, congrArg V.bl (names_eq r.kn 8), ?_⟩
      cases r
      case kept b1 =>
        match ys, hyl with
        | [x], _ =>
          exact ⟨_, rfl, c3, _, rfl, h3', _, rfl, _, _, 0, _, rfl, rfl, e13.seq hL, at_of (j := 0) rfl rfl, _, _, rfl, rfl, Or.inl ⟨_, rfl, _, rfl, _, _, 1, _, rfl, rfl, e13.tf.sqT hS, at_of (j := 1) rfl rfl, _, _, rfl, rfl, hp0, qj _ e13⟩⟩
      case product b1 b2 =>
        have htl := toldM_len S cr mine
        have hwl := wt_len S
        have hdl : (dotM S.wt (toldM S cr mine)).length = S.n.toNat := by unfold dotM; rw [List.length_zipWith, hwl, htl, Nat.min_self]
        refine ⟨_, rfl, c3, _, rfl, .inr h3', _, rfl, by simp only [List.length_map]; omega, by simp only [List.length_map]; omega, ?_⟩
        refine lcR1 (K := K) (L := (dotM S.wt (toldM S cr mine)).map PyData.int) (by simp only [List.length_map]; rw [hdl, htl]; rfl) (by simp only [List.length_map]; omega) (fun i y dd H4 hd4 hy e4 Acc ka => ?_) fun D H4 acc hD e4 ha4 r4 => ?_
        · subst hy
          obtain ⟨z, hz, rfl⟩ := map_got hd4
          have hi := (List.getElem?_eq_some_iff.mp hz).1
          rw [hdl] at hi
          have hz2 : S.wt[i]'(by omega) * (toldM S cr mine)[i]'(by omega) = z := by
            unfold dotM at hz
            rw [List.getElem?_zipWith, List.getElem?_eq_getElem (by omega), List.getElem?_eq_getElem (by omega)] at hz
            exact Option.some.inj hz
          have hwb := weightsM_bd hp0 (partsM S.n) 0 (S.wt[i]'(by omega)) (List.getElem_mem _)
          have e14 := e13.trans e4
          refine ⟨rfl, _, rfl, a, cP, dx, _, _, rfl, e14 _ _ h1, T.clP, T.aP_weighed, pfs_weighed _ _ _ _ _ _, _, rfl, _, _, _, _, rfl, rfl, e14.tf.sqT hW, map_at (show i < S.wt.length by omega), _, rfl, _, rfl, _, _, _, _, rfl, rfl, e4.tf.sqT h3', map_at (show i < (toldM S cr mine).length by omega), _, _, rfl, rfl, .inl ⟨by omega, by omega⟩, ka _ _ (Same.refl _) ?_⟩
          rw [← hz2]
          exact .int _
        · have hacc := RpAll.ints_eq r4
          subst hacc
          exact ⟨D, _, rfl, SqL.of ha4, Or.inl ⟨_, rfl, _, rfl, _, _, 1, _, rfl, rfl, (e13.trans e4).tf.sqT hS, at_of (j := 1) rfl rfl, _, _, rfl, rfl, hp0, qj _ (e13.trans e4)⟩⟩
      all_goals (exfalso; revert hrk; simp only [Row.kn]; decide)
    · rw [decide_eq_false hl]
      have qj := q H (Same.refl H)
      unfold joinM at qj
      rw [if_neg hl] at qj
      exact qj
/-! ### _share -/
def sp_share (K : PySem.W.Frag) (cP : Addr) : Sp := fun vs H Q _ => ∃ (a : Addr) (S : PS) (m : List Addr) (came : Came) (k : Nat) (v : V) (fo : List (Option Int)), vs = [.ref a, .int (k : Int), v] ∧ PAt K cP S H a m came ∧ PSok S ∧ CameOk S came ∧ k < S.rows.length ∧ FoAt K H v fo ∧ k ≤ fo.length ∧ FoBd S.p fo ∧
  ∀ H', Same H H' → Q (optV (shareM S came k fo)) H'
theorem Txt.t_Party__share (T : Txt K mg cP cD) : C8.Met P w K mg base 4 cP "_share" (sp_share K cP) [] := by
  refine T.e_Party__share.met sc_Party__share (fun vs H Q E h => ?_) (fun f cdv A outer s H vs Q E hr h => ?_)
  · obtain ⟨a, S, m, came, k, v, fo, rfl, _⟩ := h
    rfl
  · obtain ⟨a, S, m, came, k, v, fo, rfl, hP, ok, co, hkl, hF, hfl, hfb, q⟩ := h
    obtain ⟨dx, g, d, c, cds, vo, vw, vt, ds, h1, h2, h3, h4, h5, h6, h7, h8, h9, h10, h11, h12, h13⟩ := id hP.ex
    obtain ⟨oa, o1, o2, o4, o5, rfl, hO, r1, r2, r4, r5⟩ := h2.own
    obtain ⟨pa, pb, xs, hpa, hA, hB, hR⟩ := r2.prog
    cases hpa
    obtain ⟨r, hk⟩ : ∃ r, S.rows[k]? = some r := ⟨_, List.getElem?_eq_getElem hkl⟩
    obtain ⟨vr, hvr, rpr⟩ := hR.get (map_get hk)
    obtain ⟨ra, rfl, hra⟩ := rpr.row
    obtain ⟨sa, hsa, hS⟩ := r1.setting
    cases hsa
    obtain ⟨cr, hck, hcD⟩ := came_at co hk
    have hcr := cameRow_at co hck
    have hp0 := ok.set.p0
    have hp1 := ok.set.p1
    have hq : ∀ H', Same H H' → Q (optV (shareR S cr k fo r)) H' := fun H' e => by
      have := q H' e
      unfold shareM at this
      rw [show S.rows.getD k .next = r by rw [List.getD_eq_getElem?_getD, hk]; rfl, hcD] at this
      exact this
    obtain ⟨x, hx⟩ : ∃ x, cds[k]? = some x := ⟨_, List.getElem?_eq_getElem (by omega)⟩
    have T_c_shares_sharing := T.c_shares_sharing (P := P) (w := w) (base := base)
    have T_t_Party__needed := T.t_Party__needed (P := P) (w := w) (base := base)
    have T_t_Party__joined := T.t_Party__joined (P := P) (w := w) (base := base)
    have T_t_Party__reckoned := T.t_Party__reckoned (P := P) (w := w) (base := base)
    refine ⟨_, (pss_cons (ps_asg (pe_slice (slT K) (fldK K (pv 0) rfl) po_none (po_some pe_int)) (pg_tup rfl (pgs_cons (pg_name (i := 3) sc_Party__share.nd rfl (Or.inl rfl)) (pgs_cons (pg_name (i := 4) sc_Party__share.nd rfl (Or.inl rfl)) (pgs_cons (pg_name (i := 5) sc_Party__share.nd rfl (Or.inl rfl)) pgs_nil)))))
      (pss_cons (ps_set (i := 6) sc_Party__share.nd rfl (Or.inl rfl) (pe_ix (ixT K) (pe_ix (ixT K) (pv 4) pe_int (fun _ _ => rfl)) (pv 1) (fun _ _ => rfl)))
      (pss_cons (ps_if (pt_cmpR op_eq (pe_ix (ixT K) (pv 6) pe_int (fun _ _ => rfl)) pe_str (nomark _))
        (pss_cons (ps_if (pt_cmpR op_ne (pe_ix (ixT K) (pv 6) pe_int (fun _ _ => rfl)) (pv 5) (nomark _))
          (pss_one (ps_ret (pe_dget1 (hu_of hr) (pe_ix (ixT K) (fldK K (pv 0) rfl) (pv 1) (fun _ _ => rfl)) (pe_ix (ixT K) (pv 6) pe_int (fun _ _ => rfl)) ⟨rfl, rfl, rfl, rfl⟩)))
          pss_nil)
        (pss_one (ps_ret (pe_ix (ixT K) (C8.pe_c T_c_shares_sharing hr (by decide) (by rfl) (pa_cons (pv 3) (pa_cons (pe_dget (hu_of hr) (fldK K (pv 0) rfl) (pv 1) (fun _ _ => rfl)) (pa_cons (pe_dget (hu_of hr) (fldK K (pv 0) rfl) (pv 1) (fun _ _ => rfl)) pa_nil)))) (pe_op op_sub (pv 5) pe_int) (fun _ _ => rfl)))))
        pss_nil)
      (pss_cons (ps_if (pt_cmpR op_eq (pe_ix (ixT K) (pv 6) pe_int (fun _ _ => rfl)) pe_str (nomark _))
        (pss_one (ps_ret (pe_ix (ixT K) (pv 6) pe_int (fun _ _ => rfl))))
        pss_nil)
      (pss_cons (ps_if (pt_cmpR (inS K) (pe_ix (ixT K) (pv 6) pe_int (fun _ _ => rfl)) (pe_tup (pa_cons pe_str (pa_cons pe_str pa_nil))) rfl)
        (pss_one (ps_ret pe_non))
        pss_nil)
      (pss_cons (ps_set (i := 7) sc_Party__share.nd rfl (Or.inl rfl) (C8.pe_mt T_t_Party__needed hr (by decide) (pv 0) (pa_cons (pv 1) (pa_cons (pv 2) pa_nil))))
      (pss_cons (ps_if (pt_cmpR op_isN1 (pv 7) pe_non (nomark _))
        (pss_one (ps_ret pe_non))
        pss_nil)
      (pss_cons (ps_if (pt_cmpR (inS K) (pe_ix (ixT K) (pv 6) pe_int (fun _ _ => rfl)) (pe_tup (pa_cons pe_str (pa_cons pe_str pa_nil))) rfl)
        (pss_one (ps_ret (C8.pe_mt T_t_Party__joined hr (by decide) (pv 0) (pa_cons (pv 1) (pa_cons (pv 7) pa_nil)))))
        pss_nil)
      (pss_one (ps_ret (C8.pe_mt T_t_Party__reckoned hr (by decide) (pv 0) (pa_cons (pv 6) (pa_cons (pv 7) pa_nil))))))))))))), ?_⟩
    refine ⟨_, rfl, a, cP, dx, _, _, rfl, h1, T.clP, T.aP_own, pfs_own _ _ _ _ _ _, 3, rfl, slA hO (cut_to _ 3) fun c1 H1 e1 hc1 => ?_⟩
    refine ⟨c1, _, rfl, hc1, rfl, _, _, rfl, _, _, rfl, _, _, rfl, rfl, ?_⟩
    refine ⟨_, rfl, _, _, 1, _, rfl, rfl, e1.tf.sqT hA, at_of (j := 1) rfl rfl, _, rfl, _, _, _, _, rfl, rfl, e1.tf.sqT hB, atI_nat hvr, ?_⟩
    have hra1 := e1.tf.sqT hra
    refine ⟨_, rfl, _, _, 0, _, rfl, rfl, hra1, at_of (j := 0) rfl rfl, rfl, _, congrArg V.bl (names_eq r.kn 0), ?_⟩
    have nsm : ∀ {ys : List Int}, neededM fo r.named = some ys → ∀ y ∈ ys, Sm y := fun h y hy => by
      have := hfb y ((needed_mem h).2 y hy)
      exact ⟨by omega, by omega⟩
    cases r
    case inp b1 =>
      refine ⟨_, rfl, _, _, 1, _, rfl, rfl, hra1, at_of (j := 1) rfl rfl, _, rfl, rfl, _, rfl, ?_⟩
      by_cases hb : b1 = S.j
      · rw [show (!decide (V.int b1 = V.int S.j)) = false by rw [decide_eq_true (congrArg V.int hb)]; rfl]
        have hq' := hq
        simp only [shareR, if_pos hb] at hq'
        obtain ⟨kg, hkg, hgv⟩ := h3
        obtain ⟨kd, hkd, hdr⟩ := h4
        have hgk := hgv k (by rw [hk, hb])
        obtain ⟨vd, hvd, rpd⟩ := hdr k _ hk (by simp [needM, hb])
        have hdg := DGet.k (k := Sum.inl (k : Int)) (e1 _ _ hkg)
        rw [hgk] at hdg
        have hdd := DGet.k (k := Sum.inl (k : Int)) (e1 _ _ hkd)
        rw [hvd] at hdd
        have hdl := drawn_len S k
        have ht1 := ok.set.t1
        refine ⟨_, rfl, _, rfl, a, cP, dx, _, _, rfl, e1 _ _ h1, T.clP, T.aP_given, pfs_given _ _ _ _ _ _, _, rfl, g, _, rfl, hdg, _, rfl, a, cP, dx, _, _, rfl, e1 _ _ h1, T.clP, T.aP_drawn, pfs_drawn _ _ _ _ _ _, _, rfl, d, _, rfl, hdd, ?_⟩
        refine ⟨S.p, S.n, S.t, _, _, vd, S.dr k, rfl, r1.sm e1, ok.set, rpd.sm e1, by omega, fun u2 H2 e2 rp2 => ?_⟩
        obtain ⟨c2, rfl, h2'⟩ := rp2.pi
        have hj0 := ok.j0
        have hj1 := ok.j1
        refine ⟨_, rfl, _, _, rfl, rfl, _, _, _, _, rfl, rfl, h2', at_of (j := (S.j - 1).toNat) (by omega) (map_get (sharesM_get (by omega))), ?_⟩
        have e3 : (((S.j - 1).toNat : Nat) : Int) + 1 = S.j := by omega
        rw [e3]
        exact hq' _ (e1.trans e2)
      · rw [show (!decide (V.int b1 = V.int S.j)) = true by rw [decide_eq_false (fun z => hb (V.int.inj z))]; rfl]
        have hq' := hq
        simp only [shareR, if_neg hb] at hq'
        have hdg := DGet.k (k := Sum.inl b1) (e1 _ _ (h11 k x cr hx hck))
        rw [valV_kvC] at hdg
        refine ⟨_, rfl, a, cP, dx, _, _, rfl, e1 _ _ h1, T.clP, T.aP_came, pfs_came _ _ _ _ _ _, _, rfl, _, _, _, _, rfl, rfl, e1.tf.sqT h8, atI_nat (map_get hx), x, rfl, .inl ⟨_, .inl (e1 _ _ (h11 k x cr hx hck))⟩, _, rfl, _, _, 1, _, rfl, rfl, hra1, at_of (j := 1) rfl rfl, _, hdg, ?_⟩
        have hq2 := hq' _ e1
        cases hcg : cameGet cr b1 with
        | none => rw [hcg] at hq2; exact hq2
        | some y => rw [hcg] at hq2; exact hq2
    case const b1 =>
      exact ⟨_, rfl, _, _, 0, _, rfl, rfl, hra1, at_of (j := 0) rfl rfl, rfl, true, congrArg V.bl (kT 1), _, rfl, _, _, 1, _, rfl, rfl, hra1, at_of (j := 1) rfl rfl, hq _ e1⟩
    case out b1 b2 =>
      refine ⟨_, rfl, _, _, 0, _, rfl, rfl, hra1, at_of (j := 0) rfl rfl, rfl, false, congrArg V.bl (kF 6 1), ?_⟩
      exact ⟨_, rfl, _, _, 0, _, rfl, rfl, hra1, at_of (j := 0) rfl rfl, by show 2 ≤ sizeLine; decide, fun t2 h2 => ⟨t2, _, rfl, .inr sqT_new, rfl, rfl, true, congrArg V.bl (in2 6 6 7), hq _ (e1.trans (Same.new h2))⟩⟩
    case next =>
      refine ⟨_, rfl, _, _, 0, _, rfl, rfl, hra1, at_of (j := 0) rfl rfl, rfl, false, congrArg V.bl (kF 7 1), ?_⟩
      exact ⟨_, rfl, _, _, 0, _, rfl, rfl, hra1, at_of (j := 0) rfl rfl, by show 2 ≤ sizeLine; decide, fun t2 h2 => ⟨t2, _, rfl, .inr sqT_new, rfl, rfl, true, congrArg V.bl (in2 7 6 7), hq _ (e1.trans (Same.new h2))⟩⟩
    case product b1 b2 =>
      refine ⟨_, rfl, _, _, 0, _, rfl, rfl, hra1, at_of (j := 0) rfl rfl, rfl, false, congrArg V.bl (kF 4 1), ?_⟩
      refine ⟨_, rfl, _, _, 0, _, rfl, rfl, hra1, at_of (j := 0) rfl rfl, by show 2 ≤ sizeLine; decide, fun t2 h2 => ⟨t2, _, rfl, .inr sqT_new, rfl, rfl, false, congrArg V.bl (in2 4 6 7), ?_⟩⟩
      have e2 := e1.trans (Same.new (o := .tup [V.str (names 6), .str (names 7)]) h2)
      refine ⟨_, rfl, a, dx, _, rfl, e2 _ _ h1, by rfl, _, rfl, _, rfl, a, S, m, came, k, _, v, fo, rfl, hP.sm e2, ok, hk, hF.sm e2, hfl, fun u3 H3 e3 hn hs => ?_⟩
      have e03 := e2.trans e3
      refine ⟨_, rfl, rfl, ?_⟩
      cases hnd : neededM fo (Row.named (.product b1 b2)) with
      | none =>
        have hu := hn hnd
        subst hu
        have hq2 := hq _ e03
        rw [show shareR S cr k fo (.product b1 b2) = none by show (neededM fo [b1, b2]).bind _ = _; rw [show neededM fo [b1, b2] = none from hnd]; rfl] at hq2
        exact ⟨true, rfl, hq2⟩
      | some ys =>
        obtain ⟨l, rfl, hl⟩ := hs ys hnd
        have hq2 := hq
        simp only [show shareR S cr k fo (.product b1 b2) = joinM S cr k (.product b1 b2) ys by show (neededM fo [b1, b2]).bind _ = _; rw [show neededM fo [b1, b2] = some ys from hnd]; rfl] at hq2
        refine ⟨false, rfl, _, rfl, _, _, 0, _, rfl, rfl, e03.tf.sqT hra, at_of (j := 0) rfl rfl, by show 2 ≤ sizeLine; decide, fun t4 h4' => ⟨t4, _, rfl, .inr sqT_new, rfl, rfl, true, congrArg V.bl (in2 4 4 8), ?_⟩⟩
        have e4 := e03.trans (Same.new (o := .tup [V.str (names 4), .str (names 8)]) h4')
        exact ⟨_, rfl, a, dx, _, rfl, e4 _ _ h1, by rfl, _, rfl, _, rfl, a, S, m, came, k, _, cr, l, ys, rfl, hP.sm e4, ok, hk, hck, hcr, .inl rfl, (Same.new h4').seq hl, nsm hnd, (needed_mem hnd).1, fun H5 e5 => hq2 _ (e4.trans e5)⟩
    case kept b1 =>
      refine ⟨_, rfl, _, _, 0, _, rfl, rfl, hra1, at_of (j := 0) rfl rfl, rfl, false, congrArg V.bl (kF 8 1), ?_⟩
      refine ⟨_, rfl, _, _, 0, _, rfl, rfl, hra1, at_of (j := 0) rfl rfl, by show 2 ≤ sizeLine; decide, fun t2 h2 => ⟨t2, _, rfl, .inr sqT_new, rfl, rfl, false, congrArg V.bl (in2 8 6 7), ?_⟩⟩
      have e2 := e1.trans (Same.new (o := .tup [V.str (names 6), .str (names 7)]) h2)
      refine ⟨_, rfl, a, dx, _, rfl, e2 _ _ h1, by rfl, _, rfl, _, rfl, a, S, m, came, k, _, v, fo, rfl, hP.sm e2, ok, hk, hF.sm e2, hfl, fun u3 H3 e3 hn hs => ?_⟩
      have e03 := e2.trans e3
      refine ⟨_, rfl, rfl, ?_⟩
      cases hnd : neededM fo (Row.named (.kept b1)) with
      | none =>
        have hu := hn hnd
        subst hu
        have hq2 := hq _ e03
        rw [show shareR S cr k fo (.kept b1) = none by show (neededM fo [b1]).bind _ = _; rw [show neededM fo [b1] = none from hnd]; rfl] at hq2
        exact ⟨true, rfl, hq2⟩
      | some ys =>
        obtain ⟨l, rfl, hl⟩ := hs ys hnd
        have hq2 := hq
        simp only [show shareR S cr k fo (.kept b1) = joinM S cr k (.kept b1) ys by show (neededM fo [b1]).bind _ = _; rw [show neededM fo [b1] = some ys from hnd]; rfl] at hq2
        refine ⟨false, rfl, _, rfl, _, _, 0, _, rfl, rfl, e03.tf.sqT hra, at_of (j := 0) rfl rfl, by show 2 ≤ sizeLine; decide, fun t4 h4' => ⟨t4, _, rfl, .inr sqT_new, rfl, rfl, true, congrArg V.bl (in2 8 4 8), ?_⟩⟩
        have e4 := e03.trans (Same.new (o := .tup [V.str (names 4), .str (names 8)]) h4')
        exact ⟨_, rfl, a, dx, _, rfl, e4 _ _ h1, by rfl, _, rfl, _, rfl, a, S, m, came, k, _, cr, l, ys, rfl, hP.sm e4, ok, hk, hck, hcr, .inr rfl, (Same.new h4').seq hl, nsm hnd, (needed_mem hnd).1, fun H5 e5 => hq2 _ (e4.trans e5)⟩
    case sum b1 b2 =>
      refine ⟨_, rfl, _, _, 0, _, rfl, rfl, hra1, at_of (j := 0) rfl rfl, rfl, false, congrArg V.bl (kF 2 1), ?_⟩
      refine ⟨_, rfl, _, _, 0, _, rfl, rfl, hra1, at_of (j := 0) rfl rfl, by show 2 ≤ sizeLine; decide, fun t2 h2 => ⟨t2, _, rfl, .inr sqT_new, rfl, rfl, false, congrArg V.bl (in2 2 6 7), ?_⟩⟩
      have e2 := e1.trans (Same.new (o := .tup [V.str (names 6), .str (names 7)]) h2)
      refine ⟨_, rfl, a, dx, _, rfl, e2 _ _ h1, by rfl, _, rfl, _, rfl, a, S, m, came, k, _, v, fo, rfl, hP.sm e2, ok, hk, hF.sm e2, hfl, fun u3 H3 e3 hn hs => ?_⟩
      have e03 := e2.trans e3
      refine ⟨_, rfl, rfl, ?_⟩
      cases hnd : neededM fo (Row.named (.sum b1 b2)) with
      | none =>
        have hu := hn hnd
        subst hu
        have hq2 := hq _ e03
        rw [show shareR S cr k fo (.sum b1 b2) = none by show (neededM fo [b1, b2]).map _ = _; rw [show neededM fo [b1, b2] = none from hnd]; rfl] at hq2
        exact ⟨true, rfl, hq2⟩
      | some ys =>
        obtain ⟨l, rfl, hl⟩ := hs ys hnd
        have hq2 := hq
        simp only [show shareR S cr k fo (.sum b1 b2) = some (reckM S.p (.sum b1 b2) ys) by show (neededM fo [b1, b2]).map _ = _; rw [show neededM fo [b1, b2] = some ys from hnd]; rfl] at hq2
        refine ⟨false, rfl, _, rfl, _, _, 0, _, rfl, rfl, e03.tf.sqT hra, at_of (j := 0) rfl rfl, by show 2 ≤ sizeLine; decide, fun t4 h4' => ⟨t4, _, rfl, .inr sqT_new, rfl, rfl, false, congrArg V.bl (in2 2 4 8), ?_⟩⟩
        have e4 := e03.trans (Same.new (o := .tup [V.str (names 4), .str (names 8)]) h4')
        exact ⟨_, rfl, a, dx, _, rfl, e4 _ _ h1, by rfl, _, rfl, _, rfl, a, S, m, came, _, _, l, ys, rfl, hP.sm e4, ok, rpr.sm e4, .inl rfl, (Same.new h4').seq hl, nsm hnd, (needed_mem hnd).1, hq2 _ e4⟩
    case less b1 b2 =>
      refine ⟨_, rfl, _, _, 0, _, rfl, rfl, hra1, at_of (j := 0) rfl rfl, rfl, false, congrArg V.bl (kF 3 1), ?_⟩
      refine ⟨_, rfl, _, _, 0, _, rfl, rfl, hra1, at_of (j := 0) rfl rfl, by show 2 ≤ sizeLine; decide, fun t2 h2 => ⟨t2, _, rfl, .inr sqT_new, rfl, rfl, false, congrArg V.bl (in2 3 6 7), ?_⟩⟩
      have e2 := e1.trans (Same.new (o := .tup [V.str (names 6), .str (names 7)]) h2)
      refine ⟨_, rfl, a, dx, _, rfl, e2 _ _ h1, by rfl, _, rfl, _, rfl, a, S, m, came, k, _, v, fo, rfl, hP.sm e2, ok, hk, hF.sm e2, hfl, fun u3 H3 e3 hn hs => ?_⟩
      have e03 := e2.trans e3
      refine ⟨_, rfl, rfl, ?_⟩
      cases hnd : neededM fo (Row.named (.less b1 b2)) with
      | none =>
        have hu := hn hnd
        subst hu
        have hq2 := hq _ e03
        rw [show shareR S cr k fo (.less b1 b2) = none by show (neededM fo [b1, b2]).map _ = _; rw [show neededM fo [b1, b2] = none from hnd]; rfl] at hq2
        exact ⟨true, rfl, hq2⟩
      | some ys =>
        obtain ⟨l, rfl, hl⟩ := hs ys hnd
        have hq2 := hq
        simp only [show shareR S cr k fo (.less b1 b2) = some (reckM S.p (.less b1 b2) ys) by show (neededM fo [b1, b2]).map _ = _; rw [show neededM fo [b1, b2] = some ys from hnd]; rfl] at hq2
        refine ⟨false, rfl, _, rfl, _, _, 0, _, rfl, rfl, e03.tf.sqT hra, at_of (j := 0) rfl rfl, by show 2 ≤ sizeLine; decide, fun t4 h4' => ⟨t4, _, rfl, .inr sqT_new, rfl, rfl, false, congrArg V.bl (in2 3 4 8), ?_⟩⟩
        have e4 := e03.trans (Same.new (o := .tup [V.str (names 4), .str (names 8)]) h4')
        exact ⟨_, rfl, a, dx, _, rfl, e4 _ _ h1, by rfl, _, rfl, _, rfl, a, S, m, came, _, _, l, ys, rfl, hP.sm e4, ok, rpr.sm e4, .inr (.inl rfl), (Same.new h4').seq hl, nsm hnd, (needed_mem hnd).1, hq2 _ e4⟩
    case times b1 b2 =>
      refine ⟨_, rfl, _, _, 0, _, rfl, rfl, hra1, at_of (j := 0) rfl rfl, rfl, false, congrArg V.bl (kF 5 1), ?_⟩
      refine ⟨_, rfl, _, _, 0, _, rfl, rfl, hra1, at_of (j := 0) rfl rfl, by show 2 ≤ sizeLine; decide, fun t2 h2 => ⟨t2, _, rfl, .inr sqT_new, rfl, rfl, false, congrArg V.bl (in2 5 6 7), ?_⟩⟩
      have e2 := e1.trans (Same.new (o := .tup [V.str (names 6), .str (names 7)]) h2)
      refine ⟨_, rfl, a, dx, _, rfl, e2 _ _ h1, by rfl, _, rfl, _, rfl, a, S, m, came, k, _, v, fo, rfl, hP.sm e2, ok, hk, hF.sm e2, hfl, fun u3 H3 e3 hn hs => ?_⟩
      have e03 := e2.trans e3
      refine ⟨_, rfl, rfl, ?_⟩
      cases hnd : neededM fo (Row.named (.times b1 b2)) with
      | none =>
        have hu := hn hnd
        subst hu
        have hq2 := hq _ e03
        rw [show shareR S cr k fo (.times b1 b2) = none by show (neededM fo [b2]).map _ = _; rw [show neededM fo [b2] = none from hnd]; rfl] at hq2
        exact ⟨true, rfl, hq2⟩
      | some ys =>
        obtain ⟨l, rfl, hl⟩ := hs ys hnd
        have hq2 := hq
        simp only [show shareR S cr k fo (.times b1 b2) = some (reckM S.p (.times b1 b2) ys) by show (neededM fo [b2]).map _ = _; rw [show neededM fo [b2] = some ys from hnd]; rfl] at hq2
        refine ⟨false, rfl, _, rfl, _, _, 0, _, rfl, rfl, e03.tf.sqT hra, at_of (j := 0) rfl rfl, by show 2 ≤ sizeLine; decide, fun t4 h4' => ⟨t4, _, rfl, .inr sqT_new, rfl, rfl, false, congrArg V.bl (in2 5 4 8), ?_⟩⟩
        have e4 := e03.trans (Same.new (o := .tup [V.str (names 4), .str (names 8)]) h4')
        exact ⟨_, rfl, a, dx, _, rfl, e4 _ _ h1, by rfl, _, rfl, _, rfl, a, S, m, came, _, _, l, ys, rfl, hP.sm e4, ok, rpr.sm e4, .inr (.inr rfl), (Same.new h4').seq hl, nsm hnd, (needed_mem hnd).1, hq2 _ e4⟩
end
end U

namespace U
open PySem PySem.Spec PyProof.Rows L2
/-! ### letters -/
structure Letter where
  k : Nat
  i : Int
  j : Int
  x : Int
  deriving DecidableEq
def Letter.data (l : Letter) : PyData := .tuple [.str "letter", .int (l.k : Int), .int l.i, .int l.j, .int l.x]
def othersM (S : PS) (r : Row) : List Int := (partsM S.n).filter fun q => sendsM r S.j q
def lettersR (S : PS) (k : Nat) (fo : List (Option Int)) (r : Row) : List Letter := match r with
  | .inp _ => (othersM S r).map fun q => ⟨k, S.j, q, valueM S.p (S.gv k :: S.dr k) q⟩
  | .out _ _ => match neededM fo r.named with
    | some ys => (othersM S r).map fun q => ⟨k, S.j, q, ys.getD 0 0⟩
    | none => []
  | .product _ _ => match neededM fo r.named with
    | some ys => (othersM S r).map fun q => ⟨k, S.j, q, valueM S.p (firstM S.p r ys :: S.dr k) q⟩
    | none => []
  | .kept _ => match neededM fo r.named with
    | some ys => (othersM S r).map fun q => ⟨k, S.j, q, valueM S.p (firstM S.p r ys :: S.dr k) q⟩
    | none => []
  | _ => []
def madeUpto (S : PS) (fo : List (Option Int)) (m : Nat) : List Letter := (List.range m).flatMap fun k => lettersR S k fo (S.rows.getD k .next)
def madeL (S : PS) (came : Came) : List Letter := madeUpto S (sharesL S came) S.rows.length
theorem othersM_len (S : PS) (r : Row) : (othersM S r).length ≤ S.n.toNat := by
  have := List.length_filter_le (fun q => sendsM r S.j q) (partsM S.n)
  rw [partsM_len] at this
  exact this
theorem lettersR_len {S : PS} (h9 : S.n ≤ 9) (k : Nat) (fo : List (Option Int)) (r : Row) : (lettersR S k fo r).length ≤ 9 := by
  have ho := othersM_len S r
  have h1 : S.n.toNat ≤ 9 := by omega
  cases r <;> simp only [lettersR, List.length_map, List.length_nil] <;> first | omega | skip
  all_goals (split <;> simp only [List.length_map, List.length_nil] <;> omega)
theorem madeUpto_len {S : PS} (h9 : S.n ≤ 9) (fo : List (Option Int)) (m : Nat) : (madeUpto S fo m).length ≤ 9 * m := by
  have := flatMap_len (fun k => lettersR S k fo (S.rows.getD k .next)) 9 (List.range m) fun k _ => lettersR_len h9 k fo _
  rw [List.length_range] at this
  unfold madeUpto
  omega
section
variable {P : Program} {w : World} {K : PySem.W.Frag} {mg : Str → Option Value} {base : Heap} {cP cD : Addr}
/-! ### shares -/
def sp_P_shares (K : PySem.W.Frag) (cP : Addr) : Sp := fun vs H Q _ => ∃ (a : Addr) (S : PS) (m : List Addr) (came : Came), vs = [.ref a] ∧ PAt K cP S H a m came ∧ PSok S ∧ CameOk S came ∧
  ∀ r H', Same H H' → Rp K H' r (.tuple ((sharesL S came).map optD)) → Q r H'
theorem Txt.p_Party_shares (T : Txt K mg cP cD) : Prp P w K mg base 5 cP "shares" (sp_P_shares K cP) := by
  refine T.q_Party_shares.prp sc_Party_shares (fun vs H Q E h => ?_) (fun f cdv A outer s H vs Q E hr h => ?_)
  · obtain ⟨a, S, m, came, rfl, _⟩ := h
    rfl
  · obtain ⟨a, S, m, came, rfl, hP, ok, co, q⟩ := h
    obtain ⟨dx, g, d, c, cds, vo, vw, vt, ds, h1, h2, h3, h4, h5, h6, h7, h8, h9, h10, h11, h12, h13⟩ := id hP.ex
    obtain ⟨oa, o1, o2, o4, o5, rfl, hO, r1, r2, r4, r5⟩ := h2.own
    obtain ⟨pa, pb, xs, hpa, hA, hB, hR⟩ := r2.prog
    cases hpa
    have hxl := hR.len
    rw [List.length_map] at hxl
    have hlen := ok.len
    have T_t_Party__share := T.t_Party__share (P := P) (w := w) (base := base)
    refine ⟨_, (pss_cons (ps_set (i := 1) sc_Party_shares.nd rfl (Or.inl rfl) (pe_lst pa_nil))
      (pss_cons (ps_for PassesOwn.never rfl (pi_range1 (by rfl) T.n_range (pa_cons (pe_callB (lenS K) (by rfl) T.n_len PySem.boot_len (pa_cons (pe_ix (ixT K) (pe_ix (ixT K) (fldK K (pv 0) rfl) pe_int (fun _ _ => rfl)) pe_int (fun _ _ => rfl)) pa_nil)) pa_nil)) (pg_name (i := 2) sc_Party_shares.nd rfl (Or.inl rfl))
        (pss_one (ps_expr (pe_bm PySem.F.plainAttrs_list PySem.F.slot_list_append PySem.F.type_list_append mt_append (pv 1) (pa_cons (C8.pe_mt T_t_Party__share hr (by decide) (pv 0) (pa_cons (pv 2) (pa_cons (pv 1) pa_nil))) pa_nil)))))
      (pss_one (ps_ret (pe_tupleOf (by rfl) T.n_tuple (pv 1)))))), ?_⟩
    refine ⟨Nat.zero_le _, fun l0 hl0 => ?_⟩
    have e0 := Same.new (o := .lst []) hl0
    refine ⟨_, rfl, a, cP, dx, _, _, rfl, e0 _ _ h1, T.clP, T.aP_own, pfs_own _ _ _ _ _ _, _, _, 1, _, rfl, rfl, e0.tf.sqT hO, at_of (j := 1) rfl rfl, _, _, 1, _, rfl, rfl, e0.tf.sqT hA, at_of (j := 1) rfl rfl, pb, xs, rfl, .inr (e0.tf.sqT hB), _, rfl, by omega, by omega, for_range (lo := 0)
      (fun i σ H' => ∃ y, σ = [some (.ref a), some (.ref l0), y] ∧ Same H H' ∧ H' l0 = some (.lst ((sharesUpto S came i).map optV)))
      ⟨none, rfl, e0, upd_same⟩ ?_ ?_⟩
    · rintro i σ H1 hi ⟨y, rfl, e1, hl⟩
      have hi' : i < S.rows.length := by simp only [Int.toNat_natCast] at hi; omega
      have ei : (0 : Int) + ((i : Nat) : Int) = ((i : Nat) : Int) := Int.zero_add _
      rw [ei]
      refine ⟨_, rfl, .inl ⟨rfl, _, SqL.of hl⟩, _, rfl, a, dx, _, rfl, e1 _ _ h1, by rfl, _, rfl, _, rfl, a, S, m, came, i, .ref l0, sharesUpto S came i, rfl, hP.sm e1, ok, co, hi', ⟨l0, rfl, .inl (SqL.of hl)⟩, by rw [sharesUpto_len]; exact Nat.le_refl _, upto_bd ok co i, fun H2 e2 => ?_⟩
      have hl2 := e2 l0 _ hl
      refine ⟨l0, _, _, rfl, rfl, hl2, small' (by rw [List.length_map, sharesUpto_len]; omega), some (.int (i : Int)), rfl, (e1.trans e2).mut hl0, ?_⟩
      rw [upd_same]
      show some (HO.lst _) = some (HO.lst ((sharesUpto S came i ++ [shareM S came i (sharesUpto S came i)]).map optV))
      rw [List.map_append]
      rfl
    · rintro σ H1 ⟨y, rfl, e1, hl⟩
      simp only [Int.toNat_natCast, hxl] at hl
      refine ⟨_, rfl, tupOf hl ?_ fun c H' e' rc => q _ _ (e1.trans e') rc⟩
      have all : ∀ (l : List (Option Int)), RpAll K H1 (l.map optV) (l.map optD) := fun l => by
        induction l with
        | nil => exact .nil
        | cons o r ih => exact .cons (.opt o) ih
      exact all _
theorem FoAt.of {H : Hp} {v : V} {fo : List (Option Int)} (h : Rp K H v (.tuple (fo.map optD))) : FoAt K H v fo := by
  obtain ⟨a, xs, rfl, h1, h2⟩ := h.tupl
  rw [RpAll.opts h2] at h1
  exact ⟨a, rfl, .inr h1⟩
/-! ### _letters -/
def sp_letters (K : PySem.W.Frag) (cP : Addr) : Sp := fun vs H Q _ => ∃ (a : Addr) (S : PS) (m : List Addr) (came : Came) (k : Nat) (v : V) (fo : List (Option Int)), vs = [.ref a, .int (k : Int), v] ∧ PAt K cP S H a m came ∧ PSok S ∧ k < S.rows.length ∧ FoAt K H v fo ∧ k ≤ fo.length ∧ FoBd S.p fo ∧
  ∀ l xs H', Same H H' → H l = none → H' l = some (.lst xs) → RpAll K H' xs ((lettersR S k fo (S.rows.getD k .next)).map Letter.data) → Q (.ref l) H'
/-- ("letter", k, number, party, x) -/
theorem Rp.letter {H : Hp} {p : Addr} (hp : H p = none) (k : Nat) (i j x : Int) : Rp K (upd H p (.tup [.str "letter", .int (k : Int), .int i, .int j, .int x])) (.ref p) (Letter.data ⟨k, i, j, x⟩) :=
  .tup sqT_new (.cons (.str _) (.cons (.int _) (.cons (.int _) (.cons (.int _) (.one (.int _))))))
theorem Txt.t_Party__letters (T : Txt K mg cP cD) : C8.Met P w K mg base 4 cP "_letters" (sp_letters K cP) [] := by
  refine T.e_Party__letters.met sc_Party__letters (fun vs H Q E h => ?_) (fun f cdv A outer s H vs Q E hr h => ?_)
  · obtain ⟨a, S, m, came, k, v, fo, rfl, _⟩ := h
    rfl
  · obtain ⟨a, S, m, came, k, v, fo, rfl, hP, ok, hkl, hF, hfl, hfb, q⟩ := h
    obtain ⟨dx, g, d, c, cds, vo, vw, vt, ds, h1, h2, h3, h4, h5, h6, h7, h8, h9, h10, h11, h12, h13⟩ := id hP.ex
    obtain ⟨oa, o1, o2, o4, o5, rfl, hO, r1, r2, r4, r5⟩ := h2.own
    obtain ⟨pa, pb, xs, hpa, hA, hB, hR⟩ := r2.prog
    cases hpa
    obtain ⟨r, hk⟩ : ∃ r, S.rows[k]? = some r := ⟨_, List.getElem?_eq_getElem hkl⟩
    obtain ⟨vr, hvr, rpr⟩ := hR.get (map_get hk)
    obtain ⟨ra, rfl, hra⟩ := rpr.row
    obtain ⟨sa, hsa, hS⟩ := r1.setting
    cases hsa
    have hp0 := ok.set.p0
    have hp1 := ok.set.p1
    have hn1 := ok.set.n1
    have hj0 := ok.j0
    have hj1 := ok.j1
    have hrD : S.rows.getD k .next = r := by rw [List.getD_eq_getElem?_getD, hk]; rfl
    rw [hrD] at q
    have hol := othersM_len S r
    have T_c_parties := T.c_parties (P := P) (w := w) (base := base)
    have T_c_sends := T.c_sends (P := P) (w := w) (base := base)
    have T_c_shares_sharing := T.c_shares_sharing (P := P) (w := w) (base := base)
    have T_t_Party__needed := T.t_Party__needed (P := P) (w := w) (base := base)
    have T_t_Party__poly := T.t_Party__poly (P := P) (w := w) (base := base)
    have T_c_value_at := T.c_value_at (P := P) (w := w) (base := base)
    refine ⟨_, (pss_cons (ps_asg (pe_slice (slT K) (fldK K (pv 0) rfl) po_none (po_some pe_int)) (pg_tup rfl (pgs_cons (pg_name (i := 3) sc_Party__letters.nd rfl (Or.inr rfl)) (pgs_cons (pg_name (i := 4) sc_Party__letters.nd rfl (Or.inr rfl)) (pgs_cons (pg_name (i := 5) sc_Party__letters.nd rfl (Or.inr rfl)) pgs_nil)))))
      (pss_cons (ps_setLc (i := 6) (own := [("party", 11)]) (g := gName 11) rfl sc_Party__letters.nd rfl rfl (sw_true rfl rfl rfl (by decide +kernel)) (pi_tup (C8.pe_c T_c_parties hr (by decide) (by rfl) (pa_cons (pv 3) pa_nil))) (blkOk_by (N := ["self", "k", "found", "setting", "program", "number", "others", "row", "numbers", "some", "poly", "party"]) (sc := defScope s_Party__letters) (by decide +kernel)) (fun _ _ _ _ _ => pg_name (i := 11) sc_Party__letters.nd rfl (Or.inl rfl)) (fun _ _ _ _ _ => pts_one (pt_val (C8.pe_c T_c_sends hr (by decide) (by rfl) (pa_cons (pv 3) (pa_cons (pv 4) (pa_cons (pv 1) (pa_cons (pv 5) (pa_cons (pv 11) pa_nil)))))))) (fun _ _ _ _ _ => (pv 11)))
      (pss_cons (ps_set (i := 7) sc_Party__letters.nd rfl (Or.inl rfl) (pe_ix (ixT K) (pe_ix (ixT K) (pv 4) pe_int (fun _ _ => rfl)) (pv 1) (fun _ _ => rfl)))
      (pss_cons (ps_if (pt_cmpR op_eq (pe_ix (ixT K) (pv 7) pe_int (fun _ _ => rfl)) pe_str (nomark _))
        (pss_cons (ps_set (i := 8) sc_Party__letters.nd rfl (Or.inr rfl) (pe_ifExp (pt_cmpR op_eq (pe_ix (ixT K) (pv 7) pe_int (fun _ _ => rfl)) (pv 5) (nomark _)) (C8.pe_c T_c_shares_sharing hr (by decide) (by rfl) (pa_cons (pv 3) (pa_cons (pe_dget (hu_of hr) (fldK K (pv 0) rfl) (pv 1) (fun _ _ => rfl)) (pa_cons (pe_dget (hu_of hr) (fldK K (pv 0) rfl) (pv 1) (fun _ _ => rfl)) pa_nil)))) (pe_tup pa_nil)))
        (pss_one (ps_ret (pe_lc (own := [("party", 11)]) (g := gName 11) rfl sc_Party__letters.nd (pi_list (pv 6)) (blkOk_by (N := ["self", "k", "found", "setting", "program", "number", "others", "row", "numbers", "some", "poly", "party"]) (sc := defScope s_Party__letters) (by decide +kernel)) (fun _ _ _ _ _ => pg_name (i := 11) sc_Party__letters.nd rfl (Or.inl rfl)) (fun _ _ _ _ _ => pts_nil) (fun _ _ _ _ _ => (pe_tup (pa_cons pe_str (pa_cons (pv 1) (pa_cons (pv 5) (pa_cons (pv 11) (pa_cons (pe_ix (ixT K) (pv 8) (pe_op op_sub (pv 11) pe_int) (fun _ _ => rfl)) pa_nil)))))))))))
        pss_nil)
      (pss_cons (ps_set (i := 9) sc_Party__letters.nd rfl (Or.inr rfl) (C8.pe_mt T_t_Party__needed hr (by decide) (pv 0) (pa_cons (pv 1) (pa_cons (pv 2) pa_nil))))
      (pss_cons (ps_if (PW.pt (pw_or (pt_cmpR op_isN1 (pv 9) pe_non (nomark _)) (pw_or1 (pt_cmpR op_eq (pe_callB (lenS K) (by rfl) T.n_len PySem.boot_len (pa_cons (pv 6) pa_nil)) pe_int (nomark _)))))
        (pss_one (ps_ret (pe_lst pa_nil)))
        pss_nil)
      (pss_cons (ps_if (pt_cmpR op_eq (pe_ix (ixT K) (pv 7) pe_int (fun _ _ => rfl)) pe_str (nomark _))
        (pss_one (ps_ret (pe_lc (own := [("party", 11)]) (g := gName 11) rfl sc_Party__letters.nd (pi_list (pv 6)) (blkOk_by (N := ["self", "k", "found", "setting", "program", "number", "others", "row", "numbers", "some", "poly", "party"]) (sc := defScope s_Party__letters) (by decide +kernel)) (fun _ _ _ _ _ => pg_name (i := 11) sc_Party__letters.nd rfl (Or.inl rfl)) (fun _ _ _ _ _ => pts_nil) (fun _ _ _ _ _ => (pe_tup (pa_cons pe_str (pa_cons (pv 1) (pa_cons (pv 5) (pa_cons (pv 11) (pa_cons (pe_ix (ixL K) (pv 9) pe_int (fun _ _ => rfl)) pa_nil))))))))))
        pss_nil)
      (pss_cons (ps_set (i := 10) sc_Party__letters.nd rfl (Or.inr rfl) (C8.pe_mt T_t_Party__poly hr (by decide) (pv 0) (pa_cons (pv 1) (pa_cons (pv 9) pa_nil))))
      (pss_one (ps_ret (pe_lc (own := [("party", 11)]) (g := gName 11) rfl sc_Party__letters.nd (pi_list (pv 6)) (blkOk_by (N := ["self", "k", "found", "setting", "program", "number", "others", "row", "numbers", "some", "poly", "party"]) (sc := defScope s_Party__letters) (by decide +kernel)) (fun _ _ _ _ _ => pg_name (i := 11) sc_Party__letters.nd rfl (Or.inl rfl)) (fun _ _ _ _ _ => pts_nil) (fun _ _ _ _ _ => (pe_tup (pa_cons pe_str (pa_cons (pv 1) (pa_cons (pv 5) (pa_cons (pv 11) (pa_cons (C8.pe_c T_c_value_at hr (by decide) (by rfl) (pa_cons (pe_ix (ixT K) (pv 3) pe_int (fun _ _ => rfl)) (pa_cons (pv 10) (pa_cons (pv 11) pa_nil)))) pa_nil)))))))))))))))))), ?_⟩
    refine ⟨_, rfl, a, cP, dx, _, _, rfl, h1, T.clP, T.aP_own, pfs_own _ _ _ _ _ _, 3, rfl, slA hO (cut_to _ 3) fun c1 H1 e1 hc1 => ?_⟩
    refine ⟨c1, _, rfl, hc1, rfl, _, _, rfl, _, _, rfl, _, _, rfl, rfl, ?_⟩
    refine ⟨_, rfl, S.p, S.n, S.t, _, rfl, r1.sm e1, ok.set, fun r2' H2 e2 rp2 => ?_⟩
    obtain ⟨c2, rfl, hc2⟩ := rp2.pi
    have e12 := e1.trans e2
    refine ⟨c2, rfl, ⟨_, hc2⟩, ?_⟩
    refine lcT (K := K) hc2 (by rw [List.length_map, partsM_len]; omega) (fun i => (partsM S.n)[i]?.bind fun z => if sendsM r S.j z then some (PyData.int z) else none) (fun i y H3 hi hy e3 Acc Skip ka ks => ?_) fun D H3 acc hD e3 ha ra3 => ?_
    · obtain ⟨z, hz, rfl⟩ := map_got hy
      refine ⟨rfl, _, rfl, _, rfl, _, rfl, _, rfl, _, rfl, .ref o1, .ref o2, S.rows, k, r, S.j, z, rfl, r2.sm (e12.trans e3), hk, fun H4 e4 => ⟨_, rfl, ?_⟩⟩
      simp only [hz, Option.bind_some] at ka ks
      cases hs : sendsM r S.j z with
      | true =>
        rw [hs] at ka
        exact ⟨_, rfl, ka _ _ _ rfl e4 (.int z)⟩
      | false =>
        rw [hs] at ks
        exact ks _ rfl e4
    rw [List.length_map, fm_range, filter_fm] at ra3
    have hacc := RpAll.ints_eq ra3
    subst hacc
    have e13 := e12.trans e3
    have hDl : H3 D = some (.lst ((othersM S r).map V.int)) := ha
    refine ⟨_, rfl, _, _, 1, _, rfl, rfl, e13.tf.sqT hA, at_of (j := 1) rfl rfl, _, rfl, _, _, _, _, rfl, rfl, e13.tf.sqT hB, atI_nat hvr, ?_⟩
    have hra3 := e13.tf.sqT hra
    have fin : ∀ (te : TE) (σ : L2.St) (H4 : Hp) (fx : Int → Int), Same H3 H4 → σ[6]? = some (some (.ref D)) → σ.length = 12 → (∀ z, z ∈ othersM S r → ∀ H5, Same H4 H5 → ∀ (Acc : V → Hp → Prop), (∀ p, ∀ H6 H7, Same H5 H6 → H6 p = none → H7 = upd H6 p (.tup [.str "letter", .int (k : Int), .int S.j, .int z, .int (fx z)]) → Acc (.ref p) H7) → te ((σ.set 11 none).set 11 (some (.int z))) H5 Acc) →
        (∀ l ys H', Same H4 H' → H4 l = none → H' l = some (.lst ys) → RpAll K H' ys (((othersM S r).map fun z => Letter.mk k S.j z (fx z)).map Letter.data) → Q (.ref l) H') →
        tLc (iList K (tVar 6)) (gName 11) tYes te [11] σ H4 Q := fun te σ H4 fx e4 hs6 hsl hte fq => by
      refine ⟨_, hs6, D, rfl, ⟨_, SqL.of (e4 _ _ hDl)⟩, ?_⟩
      refine lcL1 (K := K) (L := ((othersM S r).map fun z => Letter.mk k S.j z (fx z)).map Letter.data) (SqL.of (e4 _ _ hDl)) (by simp) (by rw [List.length_map]; omega) (fun i y dd H5 hd5 hy e5 Acc ka => ?_) fun D2 H5 acc hD2 e5 ha5 r5' => fq _ _ _ e5 hD2 ha5 r5'
      obtain ⟨z, hz, rfl⟩ := map_got hy
      rw [map_get (map_get hz)] at hd5
      cases hd5
      have hw : wipe (List.set (wipe σ [11]) 11 (some (.int z))) [11] = wipe σ [11] := by
        show (List.set (List.set σ 11 none) 11 (some (.int z))).set 11 none = List.set σ 11 none
        rw [List.set_set, List.set_set]
      exact ⟨hw, hte z (List.mem_of_getElem? hz) H5 e5 Acc fun p H6 H7 e6 hp e7 => ka _ _ (by rw [e7]; exact e6.trans (Same.new hp)) (by rw [e7]; exact Rp.letter hp k S.j z (fx z))⟩
    refine ⟨_, rfl, _, _, 0, _, rfl, rfl, hra3, at_of (j := 0) rfl rfl, rfl, _, congrArg V.bl (names_eq r.kn 0), ?_⟩
    cases hin : decide (r.kn = 0) with
    | true =>
      obtain ⟨b1, rfl⟩ : ∃ b1, r = .inp b1 := by
        have hin' := of_decide_eq_true hin
        cases r <;> first | exact ⟨_, rfl⟩ | exact absurd hin' (by simp only [Row.kn]; decide)
      refine ⟨_, rfl, _, _, 1, _, rfl, rfl, hra3, at_of (j := 1) rfl rfl, _, rfl, rfl, _, congrArg V.bl (decInt b1 S.j), ?_⟩
      have hlR : lettersR S k fo (.inp b1) = (othersM S (.inp b1)).map fun q => ⟨k, S.j, q, valueM S.p (S.gv k :: S.dr k) q⟩ := rfl
      by_cases hb : b1 = S.j
      · rw [decide_eq_true hb]
        obtain ⟨kg, hkg, hgv⟩ := h3
        obtain ⟨kd, hkd, hdr⟩ := h4
        have hgk := hgv k (by rw [hk, hb])
        obtain ⟨vd, hvd, rpd⟩ := hdr k _ hk (by simp [needM, hb])
        have hdg := DGet.k (k := Sum.inl (k : Int)) (e13 _ _ hkg)
        rw [hgk] at hdg
        have hdd := DGet.k (k := Sum.inl (k : Int)) (e13 _ _ hkd)
        rw [hvd] at hdd
        have hdl := drawn_len S k
        have ht1 := ok.set.t1
        refine ⟨_, rfl, _, rfl, a, cP, dx, _, _, rfl, e13 _ _ h1, T.clP, T.aP_given, pfs_given _ _ _ _ _ _, _, rfl, g, _, rfl, hdg, _, rfl, a, cP, dx, _, _, rfl, e13 _ _ h1, T.clP, T.aP_drawn, pfs_drawn _ _ _ _ _ _, _, rfl, d, _, rfl, hdd, ?_⟩
        refine ⟨S.p, S.n, S.t, _, _, vd, S.dr k, rfl, r1.sm e13, ok.set, rpd.sm e13, by omega, fun u4 H4 e4 rp4 => ?_⟩
        obtain ⟨c4, rfl, h4'⟩ := rp4.pi
        refine fin _ _ H4 (fun z => valueM S.p (S.gv k :: S.dr k) z) e4 rfl rfl (fun z hz H5 e5 Acc ka => ?_) fun l ys H' e' hl0 hl' rr => q l ys H' (e13.trans (e4.trans e')) (free_of (e13.trans e4) hl0) hl' (by rw [hlR]; exact rr)
        have hzp := partsM_mem.mp (List.mem_filter.mp hz).1
        refine ⟨_, rfl, _, rfl, _, rfl, _, rfl, _, rfl, _, _, rfl, rfl, _, _, _, _, rfl, rfl, (e5.tf.sqT h4'), at_of (j := (z - 1).toNat) (by omega) (map_get (sharesM_get (by omega))), by show 5 ≤ sizeLine; decide, fun p hp => ka p H5 _ (Same.refl _) hp ?_⟩
        have e3 : (((z - 1).toNat : Nat) : Int) + 1 = z := by omega
        rw [e3]
      · rw [decide_eq_false hb]
        have hoe : othersM S (.inp b1) = [] := by
          unfold othersM
          rw [List.filter_eq_nil_iff]
          intro z _
          simp only [sendsM, decide_eq_false hb]
          split <;> simp
        refine ⟨by show 0 ≤ sizeLine; decide, fun p hp => ?_⟩
        refine fin _ _ _ (fun z => valueM S.p (S.gv k :: S.dr k) z) (Same.new hp) rfl rfl (fun z hz => ?_) fun l ys H' e' hl0 hl' rr => q l ys H' (e13.trans ((Same.new hp).trans e')) (free_of (e13.trans (Same.new hp)) hl0) hl' (by rw [hlR]; exact rr)
        rw [hoe] at hz
        cases hz
    | false =>
      refine ⟨_, rfl, a, dx, _, rfl, e13 _ _ h1, by rfl, _, rfl, _, rfl, a, S, m, came, k, r, v, fo, rfl, hP.sm e13, ok, hk, hF.sm e13, hfl, fun u3 H4 e4 hn hs => ?_⟩
      have e14 := e13.trans e4
      have hnin : ∀ b1, r ≠ .inp b1 := fun b1 hb => by rw [hb] at hin; cases hin
      cases hnd : neededM fo r.named with
      | none =>
        have hu := hn hnd
        subst hu
        refine ⟨_, rfl, rfl, true, rfl, ?_⟩
        refine ⟨by show 0 ≤ sizeLine; decide, fun p hp => q p [] _ (e14.trans (Same.new hp)) (free_of e14 hp) upd_same ?_⟩
        have : lettersR S k fo r = [] := by
          cases r <;> first | rfl | exact absurd rfl (hnin _) | simp only [lettersR, hnd]
        rw [this]
        exact .nil
      | some ys =>
        obtain ⟨l, rfl, hl⟩ := hs ys hnd
        refine ⟨_, rfl, rfl, false, rfl, _, rfl, D, _, rfl, .inl (SqL.of (e4 _ _ hDl)), rfl, decide ((othersM S r).length = 0), ?_, ?_⟩
        · rw [List.length_map]
          exact congrArg V.bl (by rw [decInt]; exact decide_eq_decide.mpr (by omega))
        have hlt := row_named_lt (ok.rok k r hk)
        have nsm : ∀ y ∈ ys, Sm y := fun y hy => by
          have := hfb y ((needed_mem hnd).2 y hy)
          exact ⟨by omega, by omega⟩
        by_cases hoe : (othersM S r).length = 0
        · rw [decide_eq_true hoe]
          refine ⟨by show 0 ≤ sizeLine; decide, fun p hp => q p [] _ (e14.trans (Same.new hp)) (free_of e14 hp) upd_same ?_⟩
          have hoe' := List.eq_nil_of_length_eq_zero hoe
          have : lettersR S k fo r = [] := by
            cases r <;> first | rfl | exact absurd rfl (hnin _) | simp only [lettersR, hnd, hoe', List.map_nil]
          rw [this]
          exact .nil
        · rw [decide_eq_false hoe]
          refine ⟨_, rfl, _, _, 0, _, rfl, rfl, e14.tf.sqT hra, at_of (j := 0) rfl rfl, rfl, _, congrArg V.bl (names_eq r.kn 6), ?_⟩
          have noth : (∀ z, sendsM r S.j z = false) → False := fun hz => hoe (by
            rw [List.length_eq_zero_iff]
            unfold othersM
            rw [List.filter_eq_nil_iff]
            intro z _
            rw [hz z]
            exact Bool.false_ne_true)
          cases hou : decide (r.kn = 6) with
          | true =>
            obtain ⟨b1, b2, rfl⟩ : ∃ b1 b2, r = .out b1 b2 := by
              have hou' := of_decide_eq_true hou
              cases r <;> first | exact ⟨_, _, rfl⟩ | exact absurd hou' (by simp only [Row.kn]; decide)
            match ys, (needed_mem hnd).1 with
            | [x], _ =>
              refine fin _ _ _ (fun z => x) e4 rfl rfl (fun z hz H5 e5 Acc ka => ?_) fun l ys H' e' hl0 hl' rr => q l ys H' (e13.trans (e4.trans e')) (free_of (e13.trans e4) hl0) hl' (by simp only [lettersR, hnd]; exact rr)
              exact ⟨_, rfl, _, rfl, _, rfl, _, rfl, _, _, 0, _, rfl, rfl, (e5.seq hl), at_of (j := 0) rfl rfl, by show 5 ≤ sizeLine; decide, fun p hp => ka p H5 _ (Same.refl _) hp rfl⟩
          | false =>
            have hnd2 : needM S.j r = true := by
              cases r <;> first | rfl | exact absurd rfl (hnin _) | exact absurd rfl (of_decide_eq_false hou) | exact absurd (fun z => by simp only [sendsM]; split <;> rfl) noth
            have hkn : r.kn = 4 ∨ r.kn = 8 := by
              cases r <;> first | exact .inl rfl | exact .inr rfl | exact absurd rfl (hnin _) | cases hnd2
            refine ⟨_, rfl, a, dx, _, rfl, e14 _ _ h1, by rfl, _, rfl, _, rfl, a, S, m, came, k, r, l, ys, rfl, hP.sm e14, ok, hk, hl, nsm, (needed_mem hnd).1, hnd2, fun u5 H5 e5 rp5 => ?_⟩
            have hlr : lettersR S k fo r = (othersM S r).map fun q => ⟨k, S.j, q, valueM S.p (firstM S.p r ys :: S.dr k) q⟩ := by
              cases r <;> first | (simp only [lettersR, hnd]; done) | (exfalso; revert hkn; simp only [Row.kn]; decide)
            refine fin _ _ _ (fun z => valueM S.p (firstM S.p r ys :: S.dr k) z) (e4.trans e5) rfl rfl (fun z hz H6 e6 Acc ka => ?_) fun l ys H' e' hl0 hl' rr => q l ys H' (e13.trans ((e4.trans e5).trans e')) (free_of (e13.trans (e4.trans e5)) hl0) hl' (by rw [hlr]; exact rr)
            have e16 := (e14.trans e5).trans e6
            refine ⟨_, rfl, _, rfl, _, rfl, _, rfl, _, _, 1, _, rfl, rfl, e16.tf.sqT hS, at_of (j := 1) rfl rfl, _, rfl, _, rfl, S.p, z, u5, _, rfl, rp5.sm e6, hp0, hp1, ?_⟩
            exact ⟨by show 5 ≤ sizeLine; decide, fun p hp => ka p H6 _ (Same.refl _) hp rfl⟩
end
end U

namespace U
open PySem PySem.Spec PyProof.Rows L2
def readE (S : PS) (came : Came) (k : Nat) : Option (Nat × Option Int) := match S.rows.getD k .next with
  | .out b j => if j = S.j then match (sharesL S came).getD b none with
    | some x => if ((came.getD k []).length : Int) = S.n - 1 then some (k, readM S.p S.n S.t.toNat (toldM S (came.getD k []) x)) else none
    | none => none else none
  | _ => none
def readD (e : Nat × Option Int) : PyData := .tuple [.int (e.1 : Int), optD e.2]
def readUpto (S : PS) (came : Came) (m : Nat) : List (Nat × Option Int) := (List.range m).filterMap (readE S came)
def readL (S : PS) (came : Came) : List (Nat × Option Int) := readUpto S came S.rows.length
theorem readUpto_succ (S : PS) (came : Came) (m : Nat) : readUpto S came (m + 1) = readUpto S came m ++ (readE S came m).toList := by
  unfold readUpto
  rw [List.range_succ, List.filterMap_append]
  cases h : readE S came m <;> simp [h]
theorem readUpto_len (S : PS) (came : Came) (m : Nat) : (readUpto S came m).length ≤ m := by
  have := List.length_filterMap_le (readE S came) (List.range m)
  rw [List.length_range] at this
  exact this
theorem tyX_sqT {K : PySem.W.Frag} {H : Hp} {a : Addr} {xs : List V} (h : SqT K H a xs) : TyX K H (.ref a) (.type "tuple") := by
  rcases h with (h | ⟨o, h⟩) | ⟨o, its, n, h1, h2, _⟩
  · exact .base (.tup h)
  · exact .fTuple h
  · exact .kTuple h1 h2
section
variable {P : Program} {w : World} {K : PySem.W.Frag} {mg : Str → Option Value} {base : Heap} {cP cD : Addr}
theorem Txt.c_read_reading (T : Txt K mg cP cD) (t : Nat) (ht : t ≤ 3) : C8.Cal P w K mg base 7 "read_reading" (sp_read K t) [] := read_body T t ht T.d_read_reading
/-! ### made -/
def sp_made (K : PySem.W.Frag) (cP : Addr) : Sp := fun vs H Q _ => ∃ (a : Addr) (S : PS) (m : List Addr) (came : Came), vs = [.ref a] ∧ PAt K cP S H a m came ∧ PSok S ∧ CameOk S came ∧
  ∀ r H', Same H H' → Rp K H' r (.tuple ((madeL S came).map Letter.data)) → Q r H'
theorem sharesL_len (S : PS) (came : Came) : (sharesL S came).length = S.rows.length := sharesUpto_len S came _
theorem madeUpto_succ (S : PS) (fo : List (Option Int)) (i : Nat) : madeUpto S fo (i + 1) = madeUpto S fo i ++ lettersR S i fo (S.rows.getD i .next) := by
  unfold madeUpto
  rw [List.range_succ, List.flatMap_append]
  simp
theorem Txt.p_Party_made (T : Txt K mg cP cD) : Prp P w K mg base 7 cP "made" (sp_made K cP) := by
  refine T.q_Party_made.prp sc_Party_made (fun vs H Q E h => ?_) (fun f cdv A outer s H vs Q E hr h => ?_)
  · obtain ⟨a, S, m, came, rfl, _⟩ := h
    rfl
  · obtain ⟨a, S, m, came, rfl, hP, ok, co, q⟩ := h
    obtain ⟨dx, g, d, c, cds, vo, vw, vt, ds, h1, _⟩ := id hP.ex
    have hlen := ok.len
    have hn9 := ok.set.n1
    have hsl := sharesL_len S came
    have T_p_Party_shares := T.p_Party_shares (P := P) (w := w) (base := base)
    have T_t_Party__letters := T.t_Party__letters (P := P) (w := w) (base := base)
    refine ⟨_, (pss_cons (ps_set (i := 1) sc_Party_made.nd rfl (Or.inl rfl) (pe_pr T_p_Party_shares hr (by decide) (pv 0) rfl))
      (pss_cons (ps_set (i := 2) sc_Party_made.nd rfl (Or.inl rfl) (pe_lst pa_nil))
      (pss_cons (ps_for PassesOwn.never rfl (pi_range1 (by rfl) T.n_range (pa_cons (pe_callB (lenS K) (by rfl) T.n_len PySem.boot_len (pa_cons (pv 1) pa_nil)) pa_nil)) (pg_name (i := 3) sc_Party_made.nd rfl (Or.inl rfl))
        (pss_one (ps_expr (pe_bm PySem.F.plainAttrs_list PySem.F.slot_list_extend PySem.F.type_list_extend mt_extend (pv 2) (pa_cons (C8.pe_mt T_t_Party__letters hr (by decide) (pv 0) (pa_cons (pv 3) (pa_cons (pv 1) pa_nil))) pa_nil)))))
      (pss_one (ps_ret (pe_tupleOf (by rfl) T.n_tuple (pv 2))))))), ?_⟩
    refine ⟨_, rfl, a, dx, _, rfl, h1, a, S, m, came, rfl, hP, ok, co, fun r1 H1 e1 rp1 => ?_⟩
    have hF := FoAt.of rp1
    obtain ⟨c1, xs1, rfl, hc1, hA1⟩ := rp1.tupl
    have hx1 := RpAll.opts hA1
    subst hx1
    refine ⟨Nat.zero_le _, fun l0 hl0 => ?_⟩
    have e2 := e1.trans (Same.new (o := .lst []) hl0)
    have hl00 := free_of e1 hl0
    refine ⟨_, rfl, c1, _, rfl, .inr ((Same.new (o := .lst []) hl0).tf.sqT hc1), _, rfl, by rw [List.length_map]; omega, by rw [List.length_map]; omega, for_range (lo := 0)
      (fun i σ H' => ∃ y acc, σ = [some (.ref a), some (.ref c1), some (.ref l0), y] ∧ Same H1 H' ∧ H' l0 = some (.lst acc) ∧ RpAll K H' acc ((madeUpto S (sharesL S came) i).map Letter.data))
      ⟨none, [], rfl, Same.new hl0, upd_same, .nil⟩ ?_ ?_⟩
    · rintro i σ H3 hi ⟨y, acc, rfl, e3, hl, ra⟩
      have hi' : i < S.rows.length := by rw [List.length_map] at hi; simp only [Int.toNat_natCast] at hi; omega
      have ei : (0 : Int) + ((i : Nat) : Int) = ((i : Nat) : Int) := Int.zero_add _
      rw [ei]
      have e13 := e1.trans e3
      refine ⟨_, rfl, .inl ⟨rfl, _, SqL.of hl⟩, _, rfl, a, dx, _, rfl, e13 _ _ h1, by rfl, _, rfl, _, rfl, a, S, m, came, i, .ref c1, sharesL S came, rfl, hP.sm e13, ok, hi', hF.sm e3, by omega, upto_bd ok co _, fun l xs H4 e4 hlf hl4 ra4 => ?_⟩
      have hl0' := e4 l0 _ hl
      have hb := madeUpto_len hn9 (sharesL S came) i
      have hb2 := lettersR_len hn9 i (sharesL S came) (S.rows.getD i .next)
      have hlen1 := ra.len
      have hlen2 := ra4.len
      rw [List.length_map] at hlen1 hlen2
      refine ⟨l0, l, _, _, rfl, rfl, hl0', hl4, by rw [hlen1, hlen2]; exact small (by omega), some (.int (i : Int)), acc ++ xs, rfl, (e3.trans e4).mut hl0, upd_same, ?_⟩
      have tf : TF H4 (upd H4 l0 (.lst (acc ++ xs))) := TF.upd hl0' plain_lst
      rw [madeUpto_succ, List.map_append]
      exact ((ra.sm e4).app ra4).tf tf
    · rintro σ H3 ⟨y, acc, rfl, e3, hl, ra⟩
      rw [List.length_map] at ra
      simp only [Int.toNat_natCast, hsl] at ra
      exact ⟨_, rfl, tupOf hl ra fun c H' e' rc => q _ _ (e1.trans (e3.trans e')) rc⟩
/-! ### read -/
def sp_P_read (K : PySem.W.Frag) (cP : Addr) : Sp := fun vs H Q _ => ∃ (a : Addr) (S : PS) (m : List Addr) (came : Came), vs = [.ref a] ∧ PAt K cP S H a m came ∧ PSok S ∧ CameOk S came ∧
  (∀ (k b : Nat) (x : Int), S.rows[k]? = some (.out b S.j) → (sharesL S came).getD b none = some x → ((came.getD k []).length : Int) = S.n - 1 → (readingsM S.p S.n S.t.toNat (toldM S (came.getD k []) x) ((S.n - (S.t.toNat : Int) - 1) / 2)).length ≤ 1) ∧
  ∀ r H', Same H H' → Rp K H' r (.tuple ((readL S came).map readD)) → Q r H'
theorem toldM_sm {S : PS} (ok : PSok S) {cr : List (Int × Int)} (hcr : CameRow S cr) {x : Int} (hx : 0 ≤ x ∧ x < S.p) : ∀ y ∈ toldM S cr x, Sm y := by
  intro y hy
  have hp := ok.set.p1
  have hp0 := ok.set.p0
  unfold toldM at hy
  obtain ⟨i, _, rfl⟩ := List.mem_map.mp hy
  split
  · exact ⟨by omega, by omega⟩
  · cases h : cameGet cr i with
    | none => exact ⟨by show -(2 ^ 30) < (0 : Int); omega, by show (0 : Int) < 2 ^ 30; omega⟩
    | some z =>
      have := hcr.2 _ (cameGet_some h)
      show Sm z
      exact ⟨by have := this.2.2.2.1; simp only at this; omega, by have := this.2.2.2.2; simp only at this; omega⟩
theorem Txt.p_Party_read (T : Txt K mg cP cD) : Prp P w K mg base 8 cP "read" (sp_P_read K cP) := by
  refine T.q_Party_read.prp sc_Party_read (fun vs H Q E h => ?_) (fun f cdv A outer s H vs Q E hr h => ?_)
  · obtain ⟨a, S, m, came, rfl, _⟩ := h
    rfl
  · obtain ⟨a, S, m, came, rfl, hP, ok, co, one, q⟩ := h
    obtain ⟨dx, g, d, c, cds, vo, vw, vt, ds, h1, h2, h3, h4, h5, h6, h7, h8, h9, h10, h11, h12, h13⟩ := id hP.ex
    obtain ⟨oa, o1, o2, o4, o5, rfl, hO, r1, r2, r4, r5⟩ := h2.own
    obtain ⟨pa, pb, xs, hpa, hA, hB, hR⟩ := r2.prog
    cases hpa
    have ht0 := ok.set.t0
    have ht3 := ok.t3
    have hn9 := ok.set.n1
    have hlen := ok.len
    have hsl := sharesL_len S came
    have hp0 := ok.set.p0
    have T_c_read_reading := T.c_read_reading (P := P) (w := w) (base := base) S.t.toNat (by omega)
    have T_p_Party_shares := T.p_Party_shares (P := P) (w := w) (base := base)
    have T_t_Party__all_came := T.t_Party__all_came (P := P) (w := w) (base := base)
    have T_t_Party__told := T.t_Party__told (P := P) (w := w) (base := base)
    refine ⟨_, (pss_cons (ps_asg (pe_slice (slT K) (fldK K (pv 0) rfl) po_none (po_some pe_int)) (pg_tup rfl (pgs_cons (pg_name (i := 1) sc_Party_read.nd rfl (Or.inl rfl)) (pgs_cons (pg_name (i := 2) sc_Party_read.nd rfl (Or.inl rfl)) (pgs_cons (pg_name (i := 3) sc_Party_read.nd rfl (Or.inl rfl)) pgs_nil)))))
      (pss_cons (ps_set (i := 4) sc_Party_read.nd rfl (Or.inl rfl) (pe_pr T_p_Party_shares hr (by decide) (pv 0) rfl))
      (pss_cons (ps_set (i := 5) sc_Party_read.nd rfl (Or.inl rfl) (pe_lst pa_nil))
      (pss_cons (ps_for PassesOwn.never rfl (pi_range1 (by rfl) T.n_range (pa_cons (pe_callB (lenS K) (by rfl) T.n_len PySem.boot_len (pa_cons (pv 4) pa_nil)) pa_nil)) (pg_name (i := 6) sc_Party_read.nd rfl (Or.inl rfl))
        (pss_cons (ps_set (i := 7) sc_Party_read.nd rfl (Or.inl rfl) (pe_ix (ixT K) (pe_ix (ixT K) (pv 2) pe_int (fun _ _ => rfl)) (pv 6) (fun _ _ => rfl)))
        (pss_one (ps_if (PW.pt (pw_and (pt_cmpR op_eq (pe_ix (ixT K) (pv 7) pe_int (fun _ _ => rfl)) pe_str (nomark _)) (pw_and (pt_cmpR op_eq (pe_ix (ixT K) (pv 7) pe_int (fun _ _ => rfl)) (pv 3) (nomark _)) (pw_and (pt_cmpR op_notN1 (pe_ix (ixT K) (pv 4) (pe_ix (ixT K) (pv 7) pe_int (fun _ _ => rfl)) (fun _ _ => rfl)) pe_non (nomark _)) (pw_and1 (pt_val (C8.pe_mt T_t_Party__all_came hr (by decide) (pv 0) (pa_cons (pv 6) pa_nil))))))))
          (pss_one (ps_expr (pe_bm PySem.F.plainAttrs_list PySem.F.slot_list_append PySem.F.type_list_append mt_append (pv 5) (pa_cons (pe_tup (pa_cons (pv 6) (pa_cons (C8.pe_c T_c_read_reading hr (by decide) (by rfl) (pa_cons (pv 1) (pa_cons (C8.pe_mt T_t_Party__told hr (by decide) (pv 0) (pa_cons (pv 6) (pa_cons (pe_ix (ixT K) (pv 4) (pe_ix (ixT K) (pv 7) pe_int (fun _ _ => rfl)) (fun _ _ => rfl)) pa_nil))) pa_nil))) pa_nil))) pa_nil))))
          pss_nil))))
      (pss_one (ps_ret (pe_tupleOf (by rfl) T.n_tuple (pv 5)))))))), ?_⟩
    refine ⟨_, rfl, a, cP, dx, _, _, rfl, h1, T.clP, T.aP_own, pfs_own _ _ _ _ _ _, 3, rfl, slA hO (cut_to _ 3) fun c1 H1 e1 hc1 => ?_⟩
    refine ⟨c1, _, rfl, hc1, rfl, _, _, rfl, _, _, rfl, _, _, rfl, rfl, ?_⟩
    refine ⟨_, rfl, a, dx, _, rfl, e1 _ _ h1, a, S, m, came, rfl, hP.sm e1, ok, co, fun r2' H2 e2 rp2 => ?_⟩
    obtain ⟨c2, xs2, rfl, hc2, hA2⟩ := rp2.tupl
    have hx2 := RpAll.opts hA2
    subst hx2
    have e12 := e1.trans e2
    refine ⟨Nat.zero_le _, fun l0 hl0 => ?_⟩
    refine ⟨_, rfl, c2, _, rfl, .inr ((Same.new (o := .lst []) hl0).tf.sqT hc2), _, rfl, by rw [List.length_map]; omega, by rw [List.length_map]; omega, for_range (lo := 0)
      (fun i σ H' => ∃ y z acc, σ = [some (.ref a), some (.ref o1), some (.ref o2), some (.int S.j), some (.ref c2), some (.ref l0), y, z] ∧ Same H2 H' ∧ H' l0 = some (.lst acc) ∧ RpAll K H' acc ((readUpto S came i).map readD))
      ⟨none, none, [], rfl, Same.new hl0, upd_same, .nil⟩ ?_ ?_⟩
    · rintro i σ H3 hi ⟨y, z, acc, rfl, e3, hl, ra⟩
      have hi' : i < S.rows.length := by rw [List.length_map] at hi; simp only [Int.toNat_natCast] at hi; omega
      have ei : (0 : Int) + ((i : Nat) : Int) = ((i : Nat) : Int) := Int.zero_add _
      rw [ei]
      have e13 := e12.trans e3
      obtain ⟨r, hk⟩ : ∃ r, S.rows[i]? = some r := ⟨_, List.getElem?_eq_getElem hi'⟩
      have hrD : S.rows.getD i .next = r := by rw [List.getD_eq_getElem?_getD, hk]; rfl
      obtain ⟨ra', hvr, hra⟩ := hR.rowAt hk
      obtain ⟨cr, hck, hcD⟩ := came_at co hk
      have hcr := cameRow_at co hck
      have hrok := ok.rok i r hk
      have skip : readE S came i = none → (fun σ H' => ∃ y z acc, σ = [some (V.ref a), some (.ref o1), some (.ref o2), some (.int S.j), some (.ref c2), some (.ref l0), y, z] ∧ Same H2 H' ∧ H' l0 = some (.lst acc) ∧ RpAll K H' acc ((readUpto S came (i + 1)).map readD)) [some (V.ref a), some (.ref o1), some (.ref o2), some (.int S.j), some (.ref c2), some (.ref l0), some (.int (i : Int)), some (.ref ra')] H3 := fun hn => by
        refine ⟨_, _, acc, rfl, e3, hl, ?_⟩
        rw [readUpto_succ, hn]
        simp only [Option.toList_none, List.append_nil]
        exact ra
      refine ⟨_, rfl, _, _, 1, _, rfl, rfl, e13.tf.sqT hA, at_of (j := 1) rfl rfl, _, rfl, _, _, _, _, rfl, rfl, e13.tf.sqT hB, atI_nat hvr, ?_⟩
      have hra3 := e13.tf.sqT hra
      refine ⟨_, rfl, _, _, 0, _, rfl, rfl, hra3, at_of (j := 0) rfl rfl, rfl, _, congrArg V.bl (names_eq r.kn 6), ?_⟩
      cases hou : decide (r.kn = 6) with
      | false =>
        refine skip ?_
        unfold readE
        rw [hrD]
        cases r <;> first | rfl | cases hou
      | true =>
        obtain ⟨b1, b2, rfl⟩ : ∃ b1 b2, r = .out b1 b2 := by
          have hou' := of_decide_eq_true hou
          cases r <;> first | exact ⟨_, _, rfl⟩ | exact absurd hou' (by simp only [Row.kn]; decide)
        have hE : readE S came i = if b2 = S.j then match (sharesL S came).getD b1 none with
            | some x => if (cr.length : Int) = S.n - 1 then some (i, readM S.p S.n S.t.toNat (toldM S cr x)) else none
            | none => none else none := by
          unfold readE
          rw [hrD, hcD]
        refine ⟨_, rfl, _, _, 2, _, rfl, rfl, hra3, at_of (j := 2) rfl rfl, _, rfl, rfl, _, congrArg V.bl (decInt b2 S.j), ?_⟩
        by_cases hb : b2 = S.j
        · rw [decide_eq_true hb]
          rw [if_pos hb] at hE
          have hb1 : b1 < i := hrok.1
          have hbf : b1 < (sharesL S came).length := by omega
          have hg : (sharesL S came).getD b1 none = (sharesL S came)[b1] := by rw [List.getD_eq_getElem?_getD, List.getElem?_eq_getElem hbf]; rfl
          have hat : atI ((sharesL S came).map optV) ((b1 : Nat) : Int) = some (optV ((sharesL S came).getD b1 none)) := by
            rw [hg]
            exact atI_nat (map_get (List.getElem?_eq_getElem hbf))
          refine ⟨_, rfl, _, rfl, _, _, 1, _, rfl, rfl, hra3, at_of (j := 1) rfl rfl, _, _, _, _, rfl, rfl, e3.tf.sqT hc2, hat, rfl, ?_⟩
          cases hx : (sharesL S came).getD b1 none with
          | none =>
            rw [hx] at hE
            exact ⟨false, rfl, skip hE⟩
          | some x =>
            rw [hx] at hE hat
            simp only at hE
            refine ⟨true, rfl, _, rfl, a, dx, _, rfl, e13 _ _ h1, by rfl, _, rfl, a, S, m, came, i, cr, rfl, hP.sm e13, hck, _, rfl, ?_⟩
            by_cases hl2 : (cr.length : Int) = S.n - 1
            · rw [decide_eq_true hl2]
              rw [if_pos hl2] at hE
              have hxb : 0 ≤ x ∧ x < S.p := upto_bd ok co _ x (getD_mem hx)
              refine ⟨_, rfl, .inl ⟨rfl, _, SqL.of hl⟩, _, rfl, _, rfl, _, rfl, a, dx, _, rfl, e13 _ _ h1, by rfl, _, rfl, _, rfl, _, rfl, _, _, 1, _, rfl, rfl, hra3, at_of (j := 1) rfl rfl, _, _, _, _, rfl, rfl, e3.tf.sqT hc2, hat, ?_⟩
              refine ⟨a, S, m, came, i, cr, x, rfl, hP.sm e13, ok, hck, hcr, hl2, fun u4 H4 e4 rp4 => ?_⟩
              have ho := one i b1 x (by rw [hk, hb]) hx (by rw [hcD]; exact hl2)
              rw [hcD] at ho
              have hT : ((S.t.toNat : Nat) : Int) = S.t := by omega
              refine ⟨S.p, S.n, _, u4, _, rfl, by rw [hT]; exact r1.sm (e13.trans e4), by rw [hT]; exact ok.set, rp4, toldM_len S cr x, toldM_sm ok hcr hxb, ho, fun r5 H5 e5 hs5 hn5 => ?_⟩
              have hr5 : r5 = optV (readM S.p S.n S.t.toNat (toldM S cr x)) := by
                cases hz : readM S.p S.n S.t.toNat (toldM S cr x) with
                | none => exact hn5 hz
                | some w => exact hs5 w hz
              subst hr5
              refine ⟨by show 2 ≤ sizeLine; decide, fun tp htp => ?_⟩
              have e35 := (e4.trans e5).trans (Same.new (o := .tup [V.int (i : Int), optV (readM S.p S.n S.t.toNat (toldM S cr x))]) htp)
              have hl5 := e35 l0 _ hl
              have hb := readUpto_len S came i
              have hlen1 := ra.len
              rw [List.length_map] at hlen1
              refine ⟨l0, _, _, rfl, rfl, hl5, by rw [hlen1]; exact small' (by omega), _, _, acc ++ [.ref tp], rfl, (e3.trans e35).mut hl0, upd_same, ?_⟩
              rw [readUpto_succ, hE]
              simp only [Option.toList_some, List.map_append, List.map_cons, List.map_nil]
              have tf : TF _ (upd (upd H5 tp (.tup [V.int (i : Int), optV (readM S.p S.n S.t.toNat (toldM S cr x))])) l0 (.lst (acc ++ [.ref tp]))) := TF.upd hl5 plain_lst
              refine ((ra.sm e35).snoc ?_).tf tf
              exact .tup sqT_new (.cons (.int _) (.one (.opt _)))
            · rw [decide_eq_false hl2]
              rw [if_neg hl2] at hE
              exact skip hE
        · rw [decide_eq_false hb]
          rw [if_neg hb] at hE
          exact skip hE
    · rintro σ H3 ⟨y, z, acc, rfl, e3, hl, ra⟩
      rw [List.length_map] at ra
      simp only [Int.toNat_natCast, hsl] at ra
      exact ⟨_, rfl, tupOf hl ra fun c H' e' rc => q _ _ (e12.trans (e3.trans e')) rc⟩
end
end U

namespace U
open PySem PySem.Spec PyProof.Rows L2
section
variable {P : Program} {w : World} {K : PySem.W.Frag} {mg : Str → Option Value} {base : Heap} {cP cD : Addr}
theorem Rp.letterAt {H : Hp} {v : V} {l : Letter} (h : Rp K H v l.data) : ∃ a, v = .ref a ∧ SqT K H a [.str "letter", .int (l.k : Int), .int l.i, .int l.j, .int l.x] := by
  obtain ⟨a, xs, e, h1, h2⟩ := h.tupl
  cases h2 with | cons r1 t1 =>
  cases t1 with | cons r2 t2 =>
  cases t2 with | cons r3 t3 =>
  cases t3 with | cons r4 t4 =>
  cases t4 with | cons r5 t5 =>
  cases t5
  cases r1
  cases r2
  cases r3
  cases r4
  cases r5
  exact ⟨a, e, h1⟩
/-! ### _is_letter -/
structure LetOk (S : PS) (l : Letter) : Prop where
  k : l.k < S.rows.length
  i0 : 1 ≤ l.i
  i1 : l.i ≤ S.n
  j : l.j = S.j
  x0 : 0 ≤ l.x
  x1 : l.x < S.p
  s : sendsM (S.rows.getD l.k .next) l.i S.j = true
def sp_is_letter (K : PySem.W.Frag) (cP : Addr) : Sp := fun vs H Q _ => ∃ (a : Addr) (S : PS) (m : List Addr) (came : Came) (v : V) (l : Letter), vs = [.ref a, v] ∧ PAt K cP S H a m came ∧ PSok S ∧ Rp K H v l.data ∧ LetOk S l ∧
  ∀ H', Same H H' → Q (.bl true) H'
theorem Txt.t_Party__is_letter (T : Txt K mg cP cD) : C8.Met P w K mg base 2 cP "_is_letter" (sp_is_letter K cP) [] := by
  refine T.e_Party__is_letter.met sc_Party__is_letter (fun vs H Q E h => ?_) (fun f cdv A outer s H vs Q E hr h => ?_)
  · obtain ⟨a, S, m, came, v, l, rfl, _⟩ := h
    rfl
  · obtain ⟨a, S, m, came, v, l, rfl, hP, ok, hv, hl, q⟩ := h
    obtain ⟨dx, g, d, c, cds, vo, vw, vt, ds, h1, h2, h3, h4, h5, h6, h7, h8, h9, h10, h11, h12, h13⟩ := id hP.ex
    obtain ⟨oa, o1, o2, o4, o5, rfl, hO, r1, r2, r4, r5⟩ := h2.own
    obtain ⟨pa, pb, xs, hpa, hA, hB, hR⟩ := r2.prog
    cases hpa
    obtain ⟨sa, hsa, hS⟩ := r1.setting
    cases hsa
    obtain ⟨va, rfl, hV⟩ := hv.letterAt
    obtain ⟨r, hk⟩ : ∃ r, S.rows[l.k]? = some r := ⟨_, List.getElem?_eq_getElem hl.k⟩
    have hrD : S.rows.getD l.k .next = r := by rw [List.getD_eq_getElem?_getD, hk]; rfl
    have hs := hl.s
    rw [hrD] at hs
    have hxl := hR.len
    rw [List.length_map] at hxl
    have T_c_is_integer := T.c_is_integer (P := P) (w := w) (base := base)
    have T_c_sends := T.c_sends (P := P) (w := w) (base := base)
    refine ⟨_, (pss_cons (ps_asg (pe_slice (slT K) (fldK K (pv 0) rfl) po_none (po_some pe_int)) (pg_tup rfl (pgs_cons (pg_name (i := 2) sc_Party__is_letter.nd rfl (Or.inl rfl)) (pgs_cons (pg_name (i := 3) sc_Party__is_letter.nd rfl (Or.inl rfl)) (pgs_cons (pg_name (i := 4) sc_Party__is_letter.nd rfl (Or.inl rfl)) pgs_nil)))))
      (pss_cons (ps_if (PW.pt (pw_or (pt_not (pt_val (pe_callB call_isi (by rfl) T.n_isinstance (by decide +kernel) (pa_cons (pv 1) (pa_cons (pe_bltn (v := .ty "tuple") (by rfl) T.n_tuple (by decide +kernel) rfl) pa_nil))))) (pw_or (pt_cmpR op_ne (pe_callB (lenS K) (by rfl) T.n_len PySem.boot_len (pa_cons (pv 1) pa_nil)) pe_int (nomark _)) (pw_or1 (pt_cmpR op_ne (pe_ix (ixT K) (pv 1) pe_int (fun _ _ => rfl)) pe_str (nomark _))))))
        (pss_one (ps_ret pe_bl))
        pss_nil)
      (pss_cons (ps_if (pt_cmpR op_gt (pe_callB (lenS K) (by rfl) T.n_len PySem.boot_len (pa_cons (pe_lc (own := [("item", 9)]) (g := gName 9) rfl sc_Party__is_letter.nd (pi_tup (pe_slice (slT K) (pv 1) (po_some pe_int) po_none)) (blkOk_by (N := ["self", "letter", "setting", "program", "number", "k", "i", "j", "x", "item"]) (sc := defScope s_Party__is_letter) (by decide +kernel)) (fun _ _ _ _ _ => pg_name (i := 9) sc_Party__is_letter.nd rfl (Or.inl rfl)) (fun _ _ _ _ _ => pts_one (pt_not (pt_val (C8.pe_c T_c_is_integer hr (by decide) (by rfl) (pa_cons (pv 9) pa_nil))))) (fun _ _ _ _ _ => (pv 9))) pa_nil)) pe_int (nomark _))
        (pss_one (ps_ret pe_bl))
        pss_nil)
      (pss_cons (ps_asg (pe_slice (slT K) (pv 1) (po_some pe_int) po_none) (pg_tup rfl (pgs_cons (pg_name (i := 5) sc_Party__is_letter.nd rfl (Or.inl rfl)) (pgs_cons (pg_name (i := 6) sc_Party__is_letter.nd rfl (Or.inl rfl)) (pgs_cons (pg_name (i := 7) sc_Party__is_letter.nd rfl (Or.inl rfl)) (pgs_cons (pg_name (i := 8) sc_Party__is_letter.nd rfl (Or.inl rfl)) pgs_nil))))))
      (pss_cons (ps_if (PW.pt (pw_or (pt_not (pt_chain op_le op_lt pe_int (pv 5) (pe_callB (lenS K) (by rfl) T.n_len PySem.boot_len (pa_cons (pe_ix (ixT K) (pv 3) pe_int (fun _ _ => rfl)) pa_nil)))) (pw_or (pt_not (pt_chain op_le op_le pe_int (pv 6) (pe_ix (ixT K) (pv 2) pe_int (fun _ _ => rfl)))) (pw_or (pt_cmpR op_ne (pv 7) (pv 4) (nomark _)) (pw_or1 (pt_not (pt_chain op_le op_lt pe_int (pv 8) (pe_ix (ixT K) (pv 2) pe_int (fun _ _ => rfl)))))))))
        (pss_one (ps_ret pe_bl))
        pss_nil)
      (pss_one (ps_ret (C8.pe_c T_c_sends hr (by decide) (by rfl) (pa_cons (pv 2) (pa_cons (pv 3) (pa_cons (pv 5) (pa_cons (pv 6) (pa_cons (pv 7) pa_nil))))))))))))), ?_⟩
    refine ⟨_, rfl, a, cP, dx, _, _, rfl, h1, T.clP, T.aP_own, pfs_own _ _ _ _ _ _, 3, rfl, slA hO (cut_to _ 3) fun c1 H1 e1 hc1 => ?_⟩
    refine ⟨c1, _, rfl, hc1, rfl, _, _, rfl, _, _, rfl, _, _, rfl, rfl, ?_⟩
    have hV1 := e1.tf.sqT hV
    refine ⟨_, rfl, .ref va, .ty "tuple", .type "tuple", .type "tuple", true, rfl, .ty _, tyX_sqT hV1, kit_ty (by decide +kernel), true, rfl, ?_⟩
    refine ⟨_, rfl, va, _, rfl, .inr hV1, rfl, false, rfl, ?_⟩
    refine ⟨_, rfl, _, _, 0, _, rfl, rfl, hV1, at_of (j := 0) rfl rfl, rfl, false, by rfl, ?_⟩
    refine ⟨_, rfl, 1, rfl, noP (slA hV1 (cut_from _ 1) fun c2 H2 e2 hc2 => ⟨c2, rfl, ⟨_, hc2⟩, ?_⟩)⟩
    refine lcT (K := K) hc2 (by simp) (fun _ => none) (fun i y H3 hi hy e3 Acc Skip ka ks => ?_) fun D H3 acc hD e3 ha ra3 => ?_
    · obtain ⟨z, rfl⟩ : ∃ z : Int, y = .int z := by
        have hi4 : i < 4 := hi
        match i, hi4, hy with
        | 0, _, hy => exact ⟨_, (Option.some.inj hy).symm⟩
        | 1, _, hy => exact ⟨_, (Option.some.inj hy).symm⟩
        | 2, _, hy => exact ⟨_, (Option.some.inj hy).symm⟩
        | 3, _, hy => exact ⟨_, (Option.some.inj hy).symm⟩
      exact ⟨rfl, _, rfl, z, rfl, _, rfl, ks _ rfl (Same.refl _)⟩
    have hfm : ∀ n : Nat, (List.range n).filterMap (fun _ => (none : Option PyData)) = [] := fun n => by simp
    rw [hfm] at ra3
    cases ra3
    have e13 := (e1.trans e2).trans e3
    refine ⟨D, _, rfl, .inl (SqL.of ha), _, _, rfl, rfl, false, rfl, ?_⟩
    have hV3 := e13.tf.sqT hV
    refine ⟨_, rfl, 1, rfl, noP (slA hV3 (cut_from _ 1) fun c4 H4 e4 hc4 => ?_)⟩
    have e14 := e13.trans e4
    refine ⟨c4, _, rfl, hc4, rfl, _, _, rfl, _, _, rfl, _, _, rfl, _, _, rfl, rfl, ?_⟩
    have hk1 := hl.k
    have hi0 := hl.i0
    have hi1 := hl.i1
    have hx0 := hl.x0
    have hx1 := hl.x1
    refine ⟨_, rfl, _, _, rfl, rfl, true, congrArg V.bl (decide_eq_true (by omega)), _, rfl, _, _, 1, _, rfl, rfl, e14.tf.sqT hA, at_of (j := 1) rfl rfl, pb, xs, rfl, .inr (e14.tf.sqT hB), _, _, rfl, rfl, true, congrArg V.bl (decide_eq_true (by omega)), ?_⟩
    refine ⟨_, rfl, _, _, rfl, rfl, true, congrArg V.bl (decide_eq_true hi0), _, rfl, _, _, 2, _, rfl, rfl, e14.tf.sqT hS, at_of (j := 2) rfl rfl, _, _, rfl, rfl, true, congrArg V.bl (decide_eq_true hi1), ?_⟩
    refine ⟨_, rfl, _, rfl, rfl, false, congrArg V.bl (show (!decide (V.int l.j = V.int S.j)) = false by rw [decInt, decide_eq_true hl.j]; rfl), ?_⟩
    refine ⟨_, rfl, _, _, rfl, rfl, true, congrArg V.bl (decide_eq_true hx0), _, rfl, _, _, 1, _, rfl, rfl, e14.tf.sqT hS, at_of (j := 1) rfl rfl, _, _, rfl, rfl, true, congrArg V.bl (decide_eq_true hx1), ?_⟩
    refine ⟨_, rfl, _, rfl, _, rfl, _, rfl, _, rfl, .ref o1, .ref o2, S.rows, l.k, r, l.i, l.j, rfl, r2.sm e14, hk, fun H5 e5 => ?_⟩
    rw [hl.j, hs]
    exact q _ (e14.trans e5)
end
end U

namespace U
open PySem PySem.Spec PyProof.Rows L2
theorem total_put : ∀ {came : Came} {k : Nat} {cr : List (Int × Int)} (e : Int × Int), came[k]? = some cr → total (came.set k (cr ++ [e])) = total came + 1
  | [], _, _, _, h => by simp at h
  | c :: r, 0, cr, e, h => by
    simp only [List.getElem?_cons_zero, Option.some.injEq] at h
    subst h
    simp only [total, List.set_cons_zero, List.map_cons, List.sum_cons, List.length_append, List.length_cons, List.length_nil]
    omega
  | c :: r, k + 1, cr, e, h => by
    have ih := total_put e (show r[k]? = some cr by simpa using h)
    simp only [total, List.set_cons_succ, List.map_cons, List.sum_cons] at ih ⊢
    omega
theorem cameRow_len {S : PS} {c : List (Int × Int)} (h : CameRow S c) : c.length ≤ S.n.toNat := by
  have := nodup_len (l' := partsM S.n) h.1 fun x hx => by
    obtain ⟨e, he, rfl⟩ := List.mem_map.mp hx
    exact partsM_mem.mpr ⟨(h.2 e he).1, (h.2 e he).2.1⟩
  rw [partsM_len, List.length_map] at this
  exact this
theorem total_le' (N : Nat) : ∀ {came : Came}, (∀ c ∈ came, c.length ≤ N) → total came ≤ N * came.length
  | [], _ => by simp [total]
  | c :: r, h => by
    have ih := total_le' N (came := r) fun x hx => h x (List.mem_cons_of_mem _ hx)
    have h1 := h c (List.mem_cons_self ..)
    simp only [total, List.map_cons, List.sum_cons, List.length_cons, Nat.mul_add] at ih ⊢
    omega
theorem total_le {S : PS} (ok : PSok S) {came : Came} (co : CameOk S came) : total came ≤ 540 := by
  have h1 := total_le' S.n.toNat fun c hc => cameRow_len (co.row c hc)
  have h2 := ok.len
  have h3 := ok.set.n1
  rw [co.len] at h1
  have h4 : S.n.toNat * S.rows.length ≤ 9 * 60 := Nat.mul_le_mul (by omega) h2
  omega
theorem cameGet_none {c : List (Int × Int)} {i : Int} (h : cameGet c i = none) : i ∉ c.map (·.1) := fun hm => by
  obtain ⟨x, hx⟩ := cameGet_mem hm
  rw [h] at hx
  cases hx
theorem CameOk.put {S : PS} {came : Came} (co : CameOk S came) {k : Nat} {cr : List (Int × Int)} {i x : Int} (hk : came[k]? = some cr) (hn : cameGet cr i = none) (h1 : 1 ≤ i) (h2 : i ≤ S.n) (h3 : i ≠ S.j) (h4 : 0 ≤ x) (h5 : x < S.p) : CameOk S (came.set k (cr ++ [(i, x)])) := by
  refine ⟨by rw [List.length_set]; exact co.len, fun c hc => ?_⟩
  rcases List.mem_or_eq_of_mem_set hc with hc | rfl
  · exact co.row c hc
  · have hcr := cameRow_at co hk
    refine ⟨?_, fun e he => ?_⟩
    · rw [List.map_append]
      refine List.nodup_append.mpr ⟨hcr.1, by simp, fun a ha b hb => ?_⟩
      have hb' : b = i := by simpa using hb
      rw [hb']
      intro e
      exact cameGet_none hn (by rw [← e]; exact ha)
    · rcases List.mem_append.mp he with he | he
      · exact hcr.2 e he
      · have he' : e = (i, x) := by simpa using he
        rw [he']
        exact ⟨h1, h2, h3, h4, h5⟩
theorem putK_new (c : List (Int × Int)) (i x : Int) (h : cameGet c i = none) : putK (kvC c) (Sum.inl i) (.int x) = kvC (c ++ [(i, x)]) := by
  unfold putK
  rw [valV_any, valV_kvC, h]
  simp only [Option.map_none, Option.isSome_none, Bool.false_eq_true, if_false]
  simp [kvC]
theorem letter_inj {a b : Letter} (h : a.data = b.data) : a = b := by
  obtain ⟨k, i, j, x⟩ := a
  obtain ⟨k', i', j', x'⟩ := b
  simp only [Letter.data, PyData.tuple.injEq, List.cons.injEq, PyData.int.injEq, and_true, true_and] at h
  obtain ⟨h1, h2, h3, h4⟩ := h
  have : k = k' := by omega
  rw [this, h2, h3, h4]
theorem any_let {l : List Letter} {q : Letter} : ((l.map Letter.data).any fun z => PyData.eqv z q.data) = decide (q ∈ l) := by
  induction l with
  | nil => rfl
  | cons a r ih =>
    rw [List.map_cons, List.any_cons, ih]
    have e : PyData.eqv a.data q.data = decide (a = q) := eqv_dec (by simp [Letter.data, noB, noBs]) (by simp [Letter.data, noB, noBs]) ⟨letter_inj, fun h => by rw [h]⟩
    rw [e]
    by_cases h1 : a = q
    · subst h1
      simp
    · have h2 : ¬ q = a := fun z => h1 z.symm
      simp [h1, h2]
theorem flat_let (l : Letter) (n : Nat) : flatD (n + 1) l.data = true := by
  simp only [Letter.data, flatD, flatDs, Bool.and_true]
  decide +kernel
theorem shapedL (l : Letter) : SeqAt.shaped l.data = true := shaped_of (n := 1) (flat_let l 0) (by decide)
theorem shapedLs (l : List Letter) : SeqAt.shaped (.tuple (l.map Letter.data)) = true := shaped_of (n := 2) (by
  rw [flatD]
  exact flats_all fun d hd => by
    obtain ⟨q, _, rfl⟩ := List.mem_map.mp hd
    exact flat_let q 0) (by decide)
theorem filter_fmD {α : Type} {f : α → PyData} {l : List α} (c : α → Bool) : l.filterMap (fun z => if c z then some (f z) else none) = (l.filter c).map f := by
  induction l with
  | nil => rfl
  | cons a r ih =>
    rw [List.filterMap_cons, List.filter_cons]
    cases c a with
    | true => simp only [if_true, List.map_cons, ih]
    | false => simp only [Bool.false_eq_true, if_false, ih]
def newL (S : PS) (came came' : Came) : List Letter := (madeL S came').filter fun x => decide (x ∉ madeL S came)
section
variable {P : Program} {w : World} {K : PySem.W.Frag} {mg : Str → Option Value} {base : Heap} {cP cD : Addr}
theorem madeL_len {S : PS} (ok : PSok S) (came : Came) : (madeL S came).length ≤ 540 := by
  have h1 := madeUpto_len ok.set.n1 (sharesL S came) S.rows.length
  have := ok.len
  unfold madeL
  omega
theorem GivenAt.but {H H' : Hp} {d : Addr} {rows : List Row} {j : Int} {g : Nat → Int} (e : H' d = H d) (h : GivenAt H d rows j g) : GivenAt H' d rows j g := by
  obtain ⟨kvs, h1, h2⟩ := h
  exact ⟨kvs, by rw [e]; exact h1, h2⟩
theorem DrawnAt.but {H H' : Hp} {d : Addr} {rows : List Row} {j : Int} {g : Nat → List Int} (e : H' d = H d) (t : TF H H') (h : DrawnAt K H d rows j g) : DrawnAt K H' d rows j g := by
  obtain ⟨kvs, h1, h2⟩ := h
  refine ⟨kvs, by rw [e]; exact h1, fun k r hr hn => ?_⟩
  obtain ⟨v, h3, h4⟩ := h2 k r hr hn
  exact ⟨v, h3, h4.tf t⟩
/-! ### take -/
def sp_take (K : PySem.W.Frag) (cP : Addr) : Sp := fun vs H Q _ => ∃ (a : Addr) (S : PS) (m : List Addr) (came : Came) (v : V) (l : Letter) (cr : List (Int × Int)), vs = [.ref a, v] ∧ PAt K cP S H a m came ∧ PSok S ∧ CameOk S came ∧ Rp K H v l.data ∧ LetOk S l ∧ came[l.k]? = some cr ∧ cameGet cr l.i = none ∧
  ∀ r H', But (fun b => b = a ∨ b ∈ m) H H' → TF H H' → PAt K cP S H' a m (came.set l.k (cr ++ [(l.i, l.x)])) → Rp K H' r (.tuple ((newL S came (came.set l.k (cr ++ [(l.i, l.x)]))).map Letter.data)) → Q r H'
theorem Txt.t_Party_take (T : Txt K mg cP cD) : C8.Met P w K mg base 9 cP "take" (sp_take K cP) [] := by
  refine T.e_Party_take.met sc_Party_take (fun vs H Q E h => ?_) (fun f cdv A outer s H vs Q E hr h => ?_)
  · obtain ⟨a, S, m, came, v, l, cr, rfl, _⟩ := h
    rfl
  · obtain ⟨a, S, m, came, v, l, cr, rfl, hP, ok, co, hv, hl, hck, hcn, q⟩ := h
    obtain ⟨dx, g, d, c, cds, vo, vw, vt, ds, h1, h2, h3, h4, h5, h6, h7, h8, h9, h10, h11, h12, h13⟩ := id hP.ex
    obtain ⟨va, rfl, hV⟩ := hv.letterAt
    have hlij : l.i ≠ S.j := fun e => by
      have := hl.s
      unfold sendsM at this
      rw [if_pos e] at this
      cases this
    have co' := co.put hck hcn hl.i0 hl.i1 hlij hl.x0 hl.x1
    obtain ⟨x, hx⟩ : ∃ x, cds[l.k]? = some x := ⟨_, List.getElem?_eq_getElem (by have := hl.k; omega)⟩
    have hxm : x ∈ m := by rw [h12]; exact List.mem_cons_of_mem _ (List.mem_cons_of_mem _ (List.mem_of_getElem? hx))
    have hcl := cameRow_len (cameRow_at co hck)
    have hn9 := ok.set.n1
    have T_t_Party__is_letter := T.t_Party__is_letter (P := P) (w := w) (base := base)
    have T_p_Party_made := T.p_Party_made (P := P) (w := w) (base := base)
    refine ⟨_, (pss_cons (ps_if (pt_not (pt_val (C8.pe_mt T_t_Party__is_letter hr (by decide) (pv 0) (pa_cons (pv 1) pa_nil))))
        (pss_one ps_never)
        pss_nil)
      (pss_cons (ps_asg (pe_slice (slT K) (pv 1) (po_some pe_int) (po_some pe_int)) (pg_tup rfl (pgs_cons (pg_name (i := 2) sc_Party_take.nd rfl (Or.inl rfl)) (pgs_cons (pg_name (i := 3) sc_Party_take.nd rfl (Or.inl rfl)) pgs_nil))))
      (pss_cons (ps_if (pt_cmp (pc_din (hu_of hr) (pv 3) (pe_ix (ixT K) (fldK K (pv 0) rfl) (pv 2) (fun _ _ => rfl))))
        (pss_cons (ps_if (pt_cmpR op_ne (pe_dget (hu_of hr) (pe_ix (ixT K) (fldK K (pv 0) rfl) (pv 2) (fun _ _ => rfl)) (pv 3) (fun _ _ => rfl)) (pe_ix (ixT K) (pv 1) pe_int (fun _ _ => rfl)) (nomark _))
          (pss_one ps_never)
          pss_nil)
        (pss_one (ps_ret (pe_tup pa_nil))))
        pss_nil)
      (pss_cons (ps_set (i := 4) sc_Party_take.nd rfl (Or.inr rfl) (pe_pr T_p_Party_made hr (by decide) (pv 0) rfl))
      (pss_cons (ps_dput (hu_of hr) (pe_ix (ixT K) (fldK K (pv 0) rfl) (pv 2) (fun _ _ => rfl)) (pv 3) (pe_ix (ixT K) (pv 1) pe_int (fun _ _ => rfl)) rfl)
      (pss_cons (ps_fld (pv 0) (pe_op (catT K) (fldK K (pv 0) rfl) (pe_tup (pa_cons (pv 1) pa_nil))) rfl)
      (pss_one (ps_ret (pe_tupleOf (by rfl) T.n_tuple (pe_lc (own := [("one", 5)]) (g := gName 5) rfl sc_Party_take.nd (pi_tup (pe_pr T_p_Party_made hr (by decide) (pv 0) rfl)) (blkOk_by (N := ["self", "letter", "k", "i", "before", "one"]) (sc := defScope s_Party_take) (by decide +kernel)) (fun _ _ _ _ _ => pg_name (i := 5) sc_Party_take.nd rfl (Or.inl rfl)) (fun _ _ _ _ _ => pts_one (pt_cmpR (notInT K (UR.hu65 hr)) (pv 5) (pv 4) rfl)) (fun _ _ _ _ _ => (pv 5)))))))))))), ?_⟩
    refine ⟨_, rfl, a, dx, _, rfl, h1, by rfl, _, rfl, a, S, m, came, .ref va, l, rfl, hP, ok, hv, hl, fun H1 e1 => ⟨true, rfl, ?_⟩⟩
    have hV1 := e1.tf.sqT hV
    refine ⟨_, rfl, 1, rfl, 3, rfl, slA hV1 rfl fun c2 H2 e2 hc2 => ?_⟩
    have e12 := e1.trans e2
    refine ⟨c2, _, rfl, hc2, rfl, _, _, rfl, _, _, rfl, rfl, ?_⟩
    have hx2 := e12 _ _ (h11 _ _ _ hx hck)
    have hdg := DGet.k (k := Sum.inl l.i) hx2
    rw [valV_kvC, hcn] at hdg
    refine ⟨_, rfl, _, rfl, a, cP, dx, _, _, rfl, e12 _ _ h1, T.clP, T.aP_came, pfs_came _ _ _ _ _ _, _, rfl, _, _, _, _, rfl, rfl, e12.tf.sqT h8, atI_nat (map_get hx), x, _, rfl, hdg, false, rfl, ?_⟩
    refine ⟨_, rfl, a, dx, _, rfl, e12 _ _ h1, a, S, m, came, rfl, hP.sm e12, ok, co, fun r3 H3 e3 rp3 => ?_⟩
    have e13 := e12.trans e3
    have h1' := e13 _ _ h1
    have hx3 := e13 _ _ (h11 _ _ _ hx hck)
    refine ⟨_, rfl, _, _, 4, _, rfl, rfl, e13.tf.sqT hV, at_of (j := 4) rfl rfl, _, rfl, a, cP, dx, _, _, rfl, h1', T.clP, T.aP_came, pfs_came _ _ _ _ _ _, _, rfl, _, _, _, _, rfl, rfl, e13.tf.sqT h8, atI_nat (map_get hx), _, rfl, x, _, rfl, DPut.k (k := Sum.inl l.i) hx3 (small' (by rw [kvC_len]; omega)), ?_⟩
    rw [putK_new _ _ _ hcn]
    have tf4 : TF H3 (upd H3 x (.dK (kvC (cr ++ [(l.i, l.x)])))) := TF.upd hx3 plain_dK
    have b4 : But (fun b => b = a ∨ b ∈ m) H (upd H3 x (.dK (kvC (cr ++ [(l.i, l.x)])))) := e13.but.own (.inr hxm)
    have nax : a ≠ x := ne_of h1' hx3 (by intro e; cases e)
    have h1'' : upd H3 x (.dK (kvC (cr ++ [(l.i, l.x)]))) a = some (.ins cP dx (pfs vo (.ref g) (.ref d) vw vt (.ref c))) := by rw [upd_ne nax]; exact h1'
    have hx4 : upd H3 x (.dK (kvC (cr ++ [(l.i, l.x)]))) x = some (.dK (kvC (cr ++ [(l.i, l.x)]))) := upd_same
    have tf04 := e13.tf.trans tf4
    rw [h12] at h13
    have ngd : ∀ b, b = g ∨ b = d → b ≠ x := fun b hb e => by
      subst e
      have hxm' := List.mem_of_getElem? hx
      rcases hb with rfl | rfl
      · exact (List.nodup_cons.mp h13).1 (List.mem_cons_of_mem _ hxm')
      · exact (List.nodup_cons.mp (List.nodup_cons.mp h13).2).1 hxm'
    have hcds4 : ∀ (k : Nat) (y : Addr) (cy : List (Int × Int)), cds[k]? = some y → (came.set l.k (cr ++ [(l.i, l.x)]))[k]? = some cy → upd H3 x (.dK (kvC (cr ++ [(l.i, l.x)]))) y = some (.dK (kvC cy)) := fun k y cy hy hcy => by
      by_cases hkl : k = l.k
      · subst hkl
        rw [hx] at hy
        cases hy
        rw [List.getElem?_set_self (by have := hl.k; omega)] at hcy
        cases hcy
        exact upd_same
      · rw [List.getElem?_set_ne (fun e => hkl e.symm)] at hcy
        have nyx : y ≠ x := fun e => by
          subst e
          have nd := (List.nodup_cons.mp (List.nodup_cons.mp h13).2).2
          exact hkl ((List.getElem?_inj (List.getElem?_eq_some_iff.mp hy).1 nd).mp (by rw [hy, hx]))
        rw [upd_ne nyx]
        exact e13 _ _ (h11 k y cy hy hcy)
    have hG4 : GivenAt (upd H3 x (.dK (kvC (cr ++ [(l.i, l.x)])))) g S.rows S.j S.gv := (h3.sm e13).but (upd_ne (ngd g (.inl rfl)))
    have hD4 : DrawnAt K (upd H3 x (.dK (kvC (cr ++ [(l.i, l.x)])))) d S.rows S.j S.dr := (h4.sm e13).but (upd_ne (ngd d (.inr rfl))) tf4
    generalize upd H3 x (.dK (kvC (cr ++ [(l.i, l.x)]))) = H4 at tf4 b4 h1'' hx4 tf04 hcds4 hG4 hD4 ⊢
    obtain ⟨ta, txs, rfl, hTk, hTs⟩ := (h6.tf tf04).tupl
    have htl := hTs.len
    have htot := total_le ok co
    refine ⟨_, rfl, a, cP, dx, _, _, rfl, h1'', T.clP, T.aP_took, pfs_took _ _ _ _ _ _, _, rfl, by show 1 ≤ sizeLine; decide, fun q5 hq5 => ?_⟩
    have e5 := Same.new (o := .tup [V.ref va]) hq5
    refine catA (e5.tf.sqT hTk) sqT_new (by rw [htl]; simp only [List.length_cons, List.length_nil]; omega) fun c6 H6 e6 hc6 => ?_
    have e46 := e5.trans e6
    have h16 := e46 _ _ h1''
    refine ⟨_, rfl, a, cP, dx, _, rfl, h16, T.clP, T.aP_took, by show 6 < 1000; decide, ?_⟩
    rw [pfs_putT]
    have tf7 : TF H6 (upd H6 a (.ins cP dx (pfs vo (.ref g) (.ref d) vw (.ref c6) (.ref c)))) := TF.upd h16 plain_ins
    have na : ∀ {b : Addr} {kvs : List (Key × V)}, H6 b = some (.dK kvs) → b ≠ a := fun hb e => by rw [e, h16] at hb; cases hb
    have b7 : But (fun b => b = a ∨ b ∈ m) H (upd H6 a (.ins cP dx (pfs vo (.ref g) (.ref d) vw (.ref c6) (.ref c)))) := (b4.trans e46.but).own (.inl rfl)
    have tf07 := (tf04.trans e46.tf).trans tf7
    have hP7 : PAt K cP S (upd H6 a (.ins cP dx (pfs vo (.ref g) (.ref d) vw (.ref c6) (.ref c)))) a m (came.set l.k (cr ++ [(l.i, l.x)])) := by
      refine ⟨dx, g, d, c, cds, vo, vw, .ref c6, ds ++ [l.data], upd_same, h2.tf tf07, ?_, ?_, h5.tf tf07, .tup (tf7.sqT hc6) (((hTs.sm e46).snoc (hv.tf (tf04.trans e46.tf))).tf tf7), ?_, tf07.sqT h8, h9, by rw [List.length_set]; exact h10, ?_, h12, by rw [h12]; exact h13⟩
      · obtain ⟨kvs, z1, z2⟩ := hG4.sm e46
        exact ⟨kvs, by rw [upd_ne (na z1)]; exact z1, z2⟩
      · obtain ⟨kvs, z1, z2⟩ := hD4.sm e46
        refine ⟨kvs, by rw [upd_ne (na z1)]; exact z1, fun k r hr hn => ?_⟩
        obtain ⟨v, h3, h4⟩ := z2 k r hr hn
        exact ⟨v, h3, h4.tf tf7⟩
      · rw [total_put _ hck, List.length_append]
        simp only [List.length_cons, List.length_nil]
        omega
      · intro k y cy hy hcy
        have z1 := e46 _ _ (hcds4 k y cy hy hcy)
        rw [upd_ne (na z1)]
        exact z1
    have rp7 := rp3.tf (tf4.trans (e46.tf.trans tf7))
    generalize upd H6 a (.ins cP dx (pfs vo (.ref g) (.ref d) vw (.ref c6) (.ref c))) = H7 at tf7 b7 tf07 hP7 rp7 ⊢
    obtain ⟨dx7, g7, d7, c7, cds7, vo7, vw7, vt7, ds7, h17, _⟩ := id hP7.ex
    refine ⟨_, rfl, a, dx7, _, rfl, h17, a, S, m, came.set l.k (cr ++ [(l.i, l.x)]), rfl, hP7, ok, co', fun r8 H8 e8 rp8 => ?_⟩
    obtain ⟨c8, xs8, rfl, hc8, hA8⟩ := rp8.tupl
    have hl8 := hA8.len
    rw [List.length_map] at hl8
    have hml := madeL_len ok (came.set l.k (cr ++ [(l.i, l.x)]))
    refine ⟨c8, rfl, ⟨_, hc8⟩, ?_⟩
    refine lcT (K := K) hc8 (by omega) (fun i => (madeL S (came.set l.k (cr ++ [(l.i, l.x)])))[i]?.bind fun z => if decide (z ∉ madeL S came) then some z.data else none) (fun i y H9 hi hy e9 Acc Skip ka ks => ?_) fun D H9 acc hD e9 ha ra9 => ?_
    · obtain ⟨dd, hd1, hd2⟩ := hA8.got hy
      obtain ⟨z, hz, rfl⟩ := map_got hd1
      refine ⟨rfl, _, rfl, _, rfl, z.data, (madeL S came).map Letter.data, (hd2.sm e9).dp, (rp7.sm (e8.trans e9)).dp, shapedL z, shapedLs _, _, congrArg (fun b => V.bl (!b)) any_let, ?_⟩
      simp only [hz, Option.bind_some] at ka ks
      by_cases hm : z ∈ madeL S came
      · rw [decide_eq_true hm]
        exact ks _ (by rw [decide_eq_false (fun h => h hm)]; rfl) (Same.refl _)
      · rw [decide_eq_false hm]
        exact ⟨_, rfl, ka _ _ _ (by rw [decide_eq_true hm]; rfl) (Same.refl _) (hd2.sm e9)⟩
    · rw [hl8, fm_range, filter_fmD] at ra9
      refine tupOf ha ra9 fun p H10 e10 rp10 => ?_
      have e710 := (e8.trans e9).trans e10
      exact q _ _ (b7.trans e710.but) (tf07.trans e710.tf) (hP7.sm e710) rp10
end
end U

namespace U
open PySem PySem.Spec PyProof.Rows L2
section
variable {P : Program} {w : World} {K : PySem.W.Frag} {mg : Str → Option Value} {base : Heap} {cP cD : Addr} {S : PS} {a : Addr} {m : List Addr} {came : Came}
theorem PAt.mem {H : Hp} (h : PAt K cP S H a m came) : ∀ b ∈ m, ∃ kvs, H b = some (.dK kvs) := by
  obtain ⟨dx, g, d, c, cds, vo, vw, vt, ds, h1, h2, h3, h4, h5, h6, h7, h8, h9, h10, h11, h12, h13⟩ := h.ex
  intro b hb
  rw [h12] at hb
  rcases List.mem_cons.mp hb with rfl | hb
  · obtain ⟨kvs, z, _⟩ := h3
    exact ⟨kvs, z⟩
  · rcases List.mem_cons.mp hb with rfl | hb
    · obtain ⟨kvs, z, _⟩ := h4
      exact ⟨kvs, z⟩
    · obtain ⟨k, hk⟩ := List.getElem?_of_mem hb
      have hkl := (List.getElem?_eq_some_iff.mp hk).1
      exact ⟨_, h11 k b _ hk (List.getElem?_eq_getElem (by omega))⟩
theorem PAt.ins {H : Hp} (h : PAt K cP S H a m came) : ∃ dx fs, H a = some (.ins cP dx fs) := by
  obtain ⟨dx, g, d, c, cds, vo, vw, vt, ds, h1, _⟩ := h.ex
  exact ⟨dx, _, h1⟩
theorem PAt.nd {H : Hp} (h : PAt K cP S H a m came) : m.Nodup := by
  obtain ⟨dx, g, d, c, cds, vo, vw, vt, ds, h1, h2, h3, h4, h5, h6, h7, h8, h9, h10, h11, h12, h13⟩ := h.ex
  exact h13
/-- a party stays where another thing changes -/
theorem PAt.but {H H' : Hp} {N : Addr → Prop} (h : PAt K cP S H a m came) (b : But N H H') (t : TF H H') (na : ¬ N a) (nm : ∀ x ∈ m, ¬ N x) : PAt K cP S H' a m came := by
  obtain ⟨dx, g, d, c, cds, vo, vw, vt, ds, h1, h2, h3, h4, h5, h6, h7, h8, h9, h10, h11, h12, h13⟩ := h.ex
  have hg : g ∈ m := by rw [h12]; exact List.mem_cons_self ..
  have hd : d ∈ m := by rw [h12]; exact List.mem_cons_of_mem _ (List.mem_cons_self ..)
  have hc : ∀ x ∈ cds, x ∈ m := fun x hx => by rw [h12]; exact List.mem_cons_of_mem _ (List.mem_cons_of_mem _ hx)
  refine ⟨dx, g, d, c, cds, vo, vw, vt, ds, b _ _ h1 na, h2.tf t, ?_, ?_, h5.tf t, h6.tf t, h7, t.sqT h8, h9, h10, fun k x cr hx hcr => b _ _ (h11 k x cr hx hcr) (nm x (hc x (List.mem_of_getElem? hx))), h12, h13⟩
  · obtain ⟨kvs, z1, z2⟩ := h3
    exact ⟨kvs, b _ _ z1 (nm g hg), z2⟩
  · obtain ⟨kvs, z1, z2⟩ := h4
    refine ⟨kvs, b _ _ z1 (nm d hd), fun k r hr hn => ?_⟩
    obtain ⟨v, h3, h4⟩ := z2 k r hr hn
    exact ⟨v, h3, h4.tf t⟩
/-! ### branch -/
def sp_branch (K : PySem.W.Frag) (cP : Addr) : Sp := fun vs H Q _ => ∃ (a : Addr) (S : PS) (m : List Addr) (came : Came), vs = [.ref a] ∧ PAt K cP S H a m came ∧ PSok S ∧
  ∀ b m' H', Same H H' → H b = none → (∀ x ∈ m', H x = none) → PAt K cP S H' b m' came → Q (.ref b) H'
theorem Txt.t_Party_branch (T : Txt K mg cP cD) : C8.Met P w K mg base 8 cP "branch" (sp_branch K cP) [] := by
  refine T.e_Party_branch.met sc_Party_branch (fun vs H Q E h => ?_) (fun f cdv A outer s H vs Q E hr h => ?_)
  · obtain ⟨a, S, m, came, rfl, _⟩ := h
    rfl
  · obtain ⟨a, S, m, came, rfl, hP, ok, q⟩ := h
    obtain ⟨dx, g, d, c, cds, vo, vw, vt, ds, h1, h2, h3, h4, h5, h6, h7, h8, h9, h10, h11, h12, h13⟩ := id hP.ex
    obtain ⟨oa, o1, o2, o4, o5, rfl, hO, r1, r2, r4, r5⟩ := h2.own
    have hlen := ok.len
    have T_m_Party := T.m_Party (P := P) (w := w) (base := base)
    refine ⟨_, (pss_cons (ps_asg (fldK K (pv 0) rfl) (pg_tup rfl (pgs_cons (pg_name (i := 1) sc_Party_branch.nd rfl (Or.inl rfl)) (pgs_cons (pg_name (i := 2) sc_Party_branch.nd rfl (Or.inl rfl)) (pgs_cons (pg_name (i := 3) sc_Party_branch.nd rfl (Or.inl rfl)) (pgs_cons (pg_name (i := 4) sc_Party_branch.nd rfl (Or.inl rfl)) (pgs_cons (pg_name (i := 5) sc_Party_branch.nd rfl (Or.inl rfl)) pgs_nil)))))))
      (pss_cons (ps_set (i := 6) sc_Party_branch.nd rfl (Or.inl rfl) (C8.pe_mk T_m_Party hr (by decide) (by rfl) (pa_cons (pv 1) (pa_cons (pv 2) (pa_cons (pv 3) (pa_cons (pv 4) (pa_cons (pv 5) pa_nil)))))))
      (pss_cons (ps_fld (pv 6) (fldK K (pv 0) rfl) rfl)
      (pss_cons (ps_fld (pv 6) (pe_tupleOf (by rfl) T.n_tuple (pe_lc (own := [("some", 7)]) (g := gName 7) rfl sc_Party_branch.nd (pi_tup (fldK K (pv 0) rfl)) (blkOk_by (N := ["self", "setting", "program", "number", "inputs", "coins", "other", "some"]) (sc := defScope s_Party_branch) (by decide +kernel)) (fun _ _ _ _ _ => pg_name (i := 7) sc_Party_branch.nd rfl (Or.inl rfl)) (fun _ _ _ _ _ => pts_nil) (fun _ _ _ _ _ => (pe_callTy call_dictD (by rfl) T.n_dict (by decide +kernel) (pa_cons (pv 7) pa_nil))))) rfl)
      (pss_one (ps_ret (pv 6))))))), ?_⟩
    refine ⟨_, rfl, a, cP, dx, _, _, rfl, h1, T.clP, T.aP_own, pfs_own _ _ _ _ _ _, oa, _, rfl, hO, rfl, _, _, rfl, _, _, rfl, _, _, rfl, _, _, rfl, _, _, rfl, rfl, ?_⟩
    refine ⟨_, rfl, _, rfl, _, rfl, _, rfl, _, rfl, fun x dx' hx hdx hne => ?_⟩
    have e1 : Same H (upd (upd H dx' (.own x)) x (.ins cP dx' [])) := (Same.new hdx).mut hx
    refine ⟨x, dx', _, _, _, _, S, rfl, upd_same, r1.sm e1, r2.sm e1, r4.sm e1, r5.sm e1, ok, fun m2 H2 b2 hf2 hP2 => ⟨rfl, ?_⟩⟩
    have e2 : Same H H2 := e1.but1 b2 hx
    have hm2 : ∀ b ∈ m2, H b = none := fun b hb => free_of e1 (hf2 b hb)
    obtain ⟨dx2, g2, d2, c2, cds2, vo2, vw2, vt2, ds2, k1, k2, k3, k4, k5, k6, k7, k8, k9, k10, k11, k12, k13⟩ := id hP2.ex
    refine ⟨_, rfl, a, cP, dx, _, _, rfl, e2 _ _ h1, T.clP, T.aP_took, pfs_took _ _ _ _ _ _, _, rfl, x, cP, dx2, _, rfl, k1, T.clP, T.aP_took, by show 6 < 1000; decide, ?_⟩
    rw [pfs_putT]
    have tf3 : TF H2 (upd H2 x (.ins cP dx2 (pfs vo2 (.ref g2) (.ref d2) vw2 vt (.ref c2)))) := TF.upd k1 plain_ins
    have b3 : But (fun b => b = x) H2 (upd H2 x (.ins cP dx2 (pfs vo2 (.ref g2) (.ref d2) vw2 vt (.ref c2)))) := (But.refl _ _).own rfl
    have e3 : Same H (upd H2 x (.ins cP dx2 (pfs vo2 (.ref g2) (.ref d2) vw2 vt (.ref c2)))) := e2.mut hx
    have hx3 : upd H2 x (.ins cP dx2 (pfs vo2 (.ref g2) (.ref d2) vw2 vt (.ref c2))) x = some (.ins cP dx2 (pfs vo2 (.ref g2) (.ref d2) vw2 vt (.ref c2))) := upd_same
    generalize upd H2 x (.ins cP dx2 (pfs vo2 (.ref g2) (.ref d2) vw2 vt (.ref c2))) = H3 at tf3 b3 e3 hx3 ⊢
    refine ⟨_, rfl, a, cP, dx, _, _, rfl, e3 _ _ h1, T.clP, T.aP_came, pfs_came _ _ _ _ _ _, c, rfl, ⟨_, e3.tf.sqT h8⟩, fun D hD0 => ?_⟩
    refine lc_tup (K := K) (a := c) (xs := cds.map V.ref) (Qd := fun H' => kTup K (.ref D) H' _) (fun i H' => Same H3 H' ∧ ∃ nds : List Addr, H' D = some (.lst (nds.map V.ref)) ∧ nds.length = i ∧ nds.Nodup ∧ (∀ b ∈ nds, H3 b = none ∧ b ≠ D) ∧ ∀ (k : Nat) (b : Addr) (cr : List (Int × Int)), nds[k]? = some b → came[k]? = some cr → H' b = some (.dK (kvC cr)))
      ⟨Same.new hD0, [], upd_same, rfl, List.nodup_nil, by simp, by simp⟩ (fun i H' _ p => (e3.trans p.1).tf.sqT h8) ?_ ?_
    · rintro i x1 H4 hx1 ⟨e4, nds, hcd, hcl, hnd, hfr, hcm⟩
      have hil := (List.getElem?_eq_some_iff.mp hx1).1
      obtain ⟨y, hy, rfl⟩ := map_got hx1
      rw [List.length_map] at hil
      obtain ⟨cr, hcr⟩ : ∃ cr, came[i]? = some cr := ⟨_, List.getElem?_eq_getElem (by omega)⟩
      have hy4 := e4 _ _ (e3 _ _ (h11 i y cr hy hcr))
      refine ⟨rfl, iteT (B := False) ⟨_, rfl, y, _, rfl, .inl hy4, fun b hb => ?_⟩⟩
      have nDb : D ≠ b := fun e => by rw [← e, hcd] at hb; cases hb
      have hb3 := free_of e4 hb
      have hnb : ¬ b ∈ nds := fun hm => by
        obtain ⟨k, hk⟩ := List.getElem?_of_mem hm
        have hkl := (List.getElem?_eq_some_iff.mp hk).1
        have := hcm k b _ hk (List.getElem?_eq_getElem (by omega))
        rw [hb] at this
        cases this
      refine ⟨nds.map V.ref, by rw [upd_ne nDb]; exact hcd, by rw [List.length_map]; exact small' (by omega), (e4.trans (Same.new hb)).mut hD0, nds ++ [b], by rw [upd_same, List.map_append]; rfl, by rw [List.length_append, hcl]; rfl, ?_, fun b' hb' => ?_, fun k b' cr' hk hcr' => ?_⟩
      · refine List.nodup_append.mpr ⟨hnd, by simp, fun u hu v hv => ?_⟩
        rw [List.mem_singleton.mp hv]
        exact fun e => hnb (by rw [← e]; exact hu)
      · rcases List.mem_append.mp hb' with hm | hm
        · exact hfr b' hm
        · rw [List.mem_singleton.mp hm]
          exact ⟨hb3, nDb.symm⟩
      · by_cases hkl : k < nds.length
        · rw [List.getElem?_append_left hkl] at hk
          have hz := hcm k b' cr' hk hcr'
          have n1 := (hfr b' (List.mem_of_getElem? hk)).2
          have n2 : b' ≠ b := fun e => by rw [e, hb] at hz; cases hz
          rw [upd_ne n1, upd_ne n2]
          exact hz
        · rw [List.getElem?_append_right (by omega)] at hk
          have hk0 : k - nds.length = 0 := by
            have := (List.getElem?_eq_some_iff.mp hk).1
            simp only [List.length_cons, List.length_nil] at this
            omega
          rw [hk0] at hk
          cases hk
          have hki : k = i := by omega
          rw [hki, hcr] at hcr'
          cases hcr'
          rw [upd_ne nDb.symm, upd_same]
    · rintro H4 ⟨e4, nds, hcd, hcl, hnd, hfr, hcm⟩
      rw [List.length_map] at hcl
      refine .inl ⟨D, nds.map V.ref, rfl, SqL.of hcd, fun cc hcc => ?_⟩
      have e5 := e4.trans (Same.new (o := .tup (nds.map V.ref)) hcc)
      have hx5 := e5 x _ hx3
      refine ⟨_, rfl, x, cP, dx2, _, rfl, hx5, T.clP, T.aP_came, by show 6 < 1000; decide, ?_⟩
      rw [pfs_putC]
      have tfz := TF.upd (o' := .ins cP dx2 (pfs vo2 (.ref g2) (.ref d2) vw2 vt (.ref cc))) hx5 plain_ins
      have tf25 := tf3.trans (e5.tf.trans tfz)
      have e05 := e3.trans e5
      have e06 : Same H (upd (upd H4 cc (.tup (nds.map V.ref))) x (.ins cP dx2 (pfs vo2 (.ref g2) (.ref d2) vw2 vt (.ref cc)))) := e05.mut hx
      have nox : ∀ {b : Addr} {kvs : List (Key × V)}, upd H4 cc (.tup (nds.map V.ref)) b = some (.dK kvs) → b ≠ x := fun hb e => by rw [e, hx5] at hb; cases hb
      have hg2 : ∃ kvs, H3 g2 = some (.dK kvs) := by
        obtain ⟨kvs, z, _⟩ := k3
        exact ⟨kvs, b3 _ _ z fun e => by rw [e, k1] at z; cases z⟩
      have hd2 : ∃ kvs, H3 d2 = some (.dK kvs) := by
        obtain ⟨kvs, z, _⟩ := k4
        exact ⟨kvs, b3 _ _ z fun e => by rw [e, k1] at z; cases z⟩
      refine ⟨_, rfl, q x (g2 :: d2 :: nds) _ e06 hx (fun b hb => ?_) ⟨dx2, g2, d2, cc, nds, vo2, vw2, vt, ds, upd_same, k2.tf tf25, ?_, ?_, k5.tf tf25, h6.sm e06, h7, tfz.sqT sqT_new, by omega, h10, fun k b cr hk hcr => ?_, rfl, ?_⟩⟩
      · rcases List.mem_cons.mp hb with rfl | hb
        · exact hm2 _ (by rw [k12]; exact List.mem_cons_self ..)
        · rcases List.mem_cons.mp hb with rfl | hb
          · exact hm2 _ (by rw [k12]; exact List.mem_cons_of_mem _ (List.mem_cons_self ..))
          · exact free_of e3 (hfr b hb).1
      · obtain ⟨kvs, z1, z2⟩ := k3
        have z3 := e5 _ _ (b3 _ _ z1 fun e => by rw [e, k1] at z1; cases z1)
        exact ⟨kvs, by rw [upd_ne (nox z3)]; exact z3, z2⟩
      · obtain ⟨kvs, z1, z2⟩ := k4
        have z3 := e5 _ _ (b3 _ _ z1 fun e => by rw [e, k1] at z1; cases z1)
        refine ⟨kvs, by rw [upd_ne (nox z3)]; exact z3, fun k r hr hn => ?_⟩
        obtain ⟨v, h3, h4⟩ := z2 k r hr hn
        exact ⟨v, h3, h4.tf tf25⟩
      · have z3 := (Same.new (o := .tup (nds.map V.ref)) hcc) _ _ (hcm k b cr hk hcr)
        rw [upd_ne (nox z3)]
        exact z3
      · rw [k12] at k13
        refine List.nodup_cons.mpr ⟨fun hm => ?_, List.nodup_cons.mpr ⟨fun hm => ?_, hnd⟩⟩
        · rcases List.mem_cons.mp hm with e | hm
          · exact (List.nodup_cons.mp k13).1 (by rw [e]; exact List.mem_cons_self ..)
          · obtain ⟨kvs, z⟩ := hg2
            rw [(hfr _ hm).1] at z
            cases z
        · obtain ⟨kvs, z⟩ := hd2
          rw [(hfr _ hm).1] at z
          cases z
end
end U

namespace U
open PySem PySem.Spec PyProof.Rows L2
/-! ### crews -/
structure Mem where
  S : PS
  a : Addr
  m : List Addr
  came : Came
def Mem.cont (e : Mem) : PS × Came := (e.S, e.came)
abbrev refs (L : List Mem) : List V := L.map fun e => V.ref e.a
structure CrewAt (K : PySem.W.Frag) (cP : Addr) (H : Hp) (L : List Mem) : Prop where
  at_ : ∀ e ∈ L, PAt K cP e.S H e.a e.m e.came
  nda : (L.map Mem.a).Nodup
  ndm : (L.flatMap Mem.m).Nodup
/-- the party of number j -/
structure SOk (p n t : Int) (rows : List Row) (ins : List Int) (S : PS) : Prop where
  ep : S.p = p
  en : S.n = n
  et : S.t = t
  er : S.rows = rows
  ei : S.ins = ownInputsM rows ins S.j
  ok : PSok S
/-- one party each, with the letters that came -/
structure CrewOk (p n t : Int) (rows : List Row) (ins : List Int) (L : List Mem) : Prop where
  js : L.map (fun e => e.S.j) = partsM n
  ok : ∀ e ∈ L, SOk p n t rows ins e.S
  cm : ∀ e ∈ L, e.came = emptyC e.S
theorem partyM_at {rows : List Row} {k : Nat} {a : Int} (h : rows[k]? = some (.inp a)) : partyM rows k = a := by unfold partyM; rw [h]
theorem inputRows_take (rows : List Row) : ∀ m, m ≤ rows.length → (List.range m).filter (fun k => (rows[k]?.map Row.isInp).getD false) = inputRowsM (rows.take m) := by
  intro m hm
  unfold inputRowsM
  rw [List.length_take, Nat.min_eq_left hm]
  refine List.filter_congr fun k hk => ?_
  rw [List.getElem?_take_of_lt (List.mem_range.mp hk)]
theorem inputRows_snoc {rows : List Row} {i : Nat} {r : Row} (h : rows[i]? = some r) : inputRowsM (rows.take (i + 1)) = inputRowsM (rows.take i) ++ (if r.isInp then [i] else []) := by
  have hi := (List.getElem?_eq_some_iff.mp h).1
  rw [← inputRows_take rows (i + 1) hi, ← inputRows_take rows i (by omega), List.range_succ, List.filter_append]
  congr 1
  rw [List.filter_cons, h]
  cases r <;> rfl
theorem inputRows_cnt (rows : List Row) : ∀ i, i ≤ rows.length → (inputRowsM (rows.take i)).length = (rows.take i).countP Row.isInp := by
  intro i
  induction i with
  | zero => intro _; rfl
  | succ i ih =>
    intro hi
    have h := List.getElem?_eq_getElem (show i < rows.length from hi)
    rw [inputRows_snoc h, List.length_append, ih (by omega), countP_snoc h]
    cases rows[i].isInp <;> rfl
theorem inputRows_pre {rows : List Row} {i : Nat} (hi : i ≤ rows.length) {m : Nat} (hm : m < (inputRowsM (rows.take i)).length) : (inputRowsM rows).getD m 0 = (inputRowsM (rows.take i)).getD m 0 := by
  have key : ∀ j, i ≤ j → j ≤ rows.length → (inputRowsM (rows.take j)).getD m 0 = (inputRowsM (rows.take i)).getD m 0 := by
    intro j hj
    induction j with
    | zero => intro _; rw [show i = 0 by omega]
    | succ j ih =>
      intro hl
      by_cases e : i = j + 1
      · rw [e]
      · have h := List.getElem?_eq_getElem (show j < rows.length from hl)
        have hlen : (inputRowsM (rows.take i)).length ≤ (inputRowsM (rows.take j)).length := by
          rw [inputRows_cnt rows i hi, inputRows_cnt rows j (by omega)]
          have : (rows.take i).Sublist (rows.take j) := by
            rw [show rows.take i = (rows.take j).take i by rw [List.take_take, Nat.min_eq_left (by omega)]]
            exact List.take_sublist ..
          exact this.countP_le ..
        rw [← ih (by omega) (by omega), inputRows_snoc h, List.getD_eq_getElem?_getD, List.getD_eq_getElem?_getD, List.getElem?_append_left (by omega)]
  have := key rows.length hi (Nat.le_refl _)
  rw [List.take_length] at this
  exact this
/-- the own inputs of j among the first i rows, as a part of all of them -/
def ownUpto (rows : List Row) (ins : List Int) (j : Int) (i : Nat) : List Int :=
  (List.range ((rows.take i).countP Row.isInp)).filterMap fun m => if partyM rows ((inputRowsM rows).getD m 0) = j then some (ins.getD m 0) else none
theorem ownUpto_succ {rows : List Row} {ins : List Int} {j : Int} {i : Nat} {r : Row} (h : rows[i]? = some r) : ownUpto rows ins j (i + 1) = ownUpto rows ins j i ++ (if isM j r then [ins.getD ((rows.take i).countP Row.isInp) 0] else []) := by
  have hi := (List.getElem?_eq_some_iff.mp h).1
  unfold ownUpto
  rw [countP_snoc h]
  cases r
  case inp a =>
    show List.filterMap _ (List.range (_ + 1)) = _
    rw [List.range_succ, List.filterMap_append]
    congr 1
    have hlen := inputRows_cnt rows i (by omega)
    have hget : (inputRowsM rows).getD ((rows.take i).countP Row.isInp) 0 = i := by
      rw [inputRows_pre (i := i + 1) hi (by rw [inputRows_snoc h, List.length_append, hlen]; exact Nat.lt_succ_self _), inputRows_snoc h, List.getD_eq_getElem?_getD, List.getElem?_append_right (by omega), hlen, Nat.sub_self]
      rfl
    rw [List.filterMap_cons, hget, partyM_at h]
    by_cases e : a = j
    · rw [if_pos e]
      simp [isM, e]
    · rw [if_neg e]
      simp [isM, e]
  all_goals (show List.filterMap _ (List.range (_ + 0)) = _ ++ []; rw [List.append_nil]; rfl)
theorem ownUpto_all (rows : List Row) (ins : List Int) (j : Int) : ownUpto rows ins j rows.length = ownInputsM rows ins j := by
  unfold ownUpto ownInputsM
  have := inputRows_cnt rows rows.length (Nat.le_refl _)
  rw [List.take_length] at this
  rw [List.take_length, this]
theorem ownUpto_len {rows : List Row} {ins : List Int} {j : Int} : ∀ i, i ≤ rows.length → (ownUpto rows ins j i).length = (rows.take i).countP (isM j) := by
  intro i
  induction i with
  | zero => intro _; rfl
  | succ i ih =>
    intro hi
    have h := List.getElem?_eq_getElem (show i < rows.length from hi)
    rw [ownUpto_succ h, List.length_append, ih (by omega), countP_snoc h]
    cases isM j rows[i] <;> rfl
theorem ownInputs_len (rows : List Row) (ins : List Int) (j : Int) : (ownInputsM rows ins j).length = rows.countP (isM j) := by
  rw [← ownUpto_all, ownUpto_len _ (Nat.le_refl _), List.take_length]
theorem ownUpto_pre {rows : List Row} {ins : List Int} {j : Int} {i m : Nat} (hi : i ≤ rows.length) (hm : m < (ownUpto rows ins j i).length) : ∀ k, i ≤ k → k ≤ rows.length → (ownUpto rows ins j k).getD m 0 = (ownUpto rows ins j i).getD m 0 := by
  intro k hk
  induction k with
  | zero => intro _; rw [show i = 0 by omega]
  | succ k ih =>
    intro hl
    by_cases e : i = k + 1
    · rw [e]
    · have h := List.getElem?_eq_getElem (show k < rows.length from hl)
      have hlen : (ownUpto rows ins j i).length ≤ (ownUpto rows ins j k).length := by
        rw [ownUpto_len i hi, ownUpto_len k (by omega)]
        have : (rows.take i).Sublist (rows.take k) := by
          rw [show rows.take i = (rows.take k).take i by rw [List.take_take, Nat.min_eq_left (by omega)]]
          exact List.take_sublist ..
        exact this.countP_le ..
      rw [← ih (by omega) (by omega), ownUpto_succ h]
      simp only [List.getD_eq_getElem?_getD]
      rw [List.getElem?_append_left (by omega)]
/-- the number given to row k is the input of that row -/
theorem given_eq {rows : List Row} {ins : List Int} {j : Int} {k : Nat} (h : rows[k]? = some (.inp j)) : givenM rows j (ownInputsM rows ins j) k = ins.getD ((rows.take k).countP Row.isInp) 0 := by
  have hk := (List.getElem?_eq_some_iff.mp h).1
  have hl := ownUpto_len (rows := rows) (ins := ins) (j := j) k (by omega)
  have hl2 := ownUpto_len (rows := rows) (ins := ins) (j := j) (k + 1) hk
  have hc := countP_snoc (c := isM j) h
  have hs := ownUpto_succ (ins := ins) (j := j) h
  have hm : isM j (.inp j) = true := by simp [isM]
  rw [hm] at hc hs
  simp only [if_true] at hc hs
  unfold givenM
  rw [← ownUpto_all, ownUpto_pre (i := k + 1) hk (by omega) rows.length hk (Nat.le_refl _), hs, ← hl]
  simp only [List.getD_eq_getElem?_getD]
  rw [List.getElem?_append_right (Nat.le_refl _), Nat.sub_self]
  rfl
theorem ownInputs_bd {p : Int} {rows : List Row} {ins : List Int} (hp : 0 < p) (h : ∀ x ∈ ins, 0 ≤ x ∧ x < p) (j : Int) : ∀ x ∈ ownInputsM rows ins j, 0 ≤ x ∧ x < p := by
  intro x hx
  unfold ownInputsM at hx
  obtain ⟨m, _, hm⟩ := List.mem_filterMap.mp hx
  split at hm
  · have e := Option.some.inj hm
    rw [← e, List.getD_eq_getElem?_getD]
    cases q : ins[m]? with
    | none => exact ⟨Int.le_refl _, hp⟩
    | some y => exact h y (List.mem_of_getElem? q)
  · cases hm
section
variable {P : Program} {w : World} {K : PySem.W.Frag} {mg : Str → Option Value} {base : Heap} {cP cD : Addr}
theorem CrewAt.sm {H H' : Hp} {L : List Mem} (e : Same H H') (h : CrewAt K cP H L) : CrewAt K cP H' L := ⟨fun x hx => (h.at_ x hx).sm e, h.nda, h.ndm⟩
theorem CrewAt.but {H H' : Hp} {L : List Mem} {N : Addr → Prop} (h : CrewAt K cP H L) (b : But N H H') (t : TF H H') (n : ∀ e ∈ L, ¬ N e.a ∧ ∀ x ∈ e.m, ¬ N x) : CrewAt K cP H' L := ⟨fun e he => (h.at_ e he).but b t (n e he).1 (n e he).2, h.nda, h.ndm⟩
theorem CrewAt.lst {H H' : Hp} {L : List Mem} {D : Addr} {xs : List V} (h : CrewAt K cP H L) (hD : H D = some (.lst xs)) (b : But (fun b => b = D) H H') (t : TF H H') : CrewAt K cP H' L := h.but b t fun e he => by
  refine ⟨fun z => ?_, fun x hx z => ?_⟩
  · obtain ⟨dx, fs, q⟩ := (h.at_ e he).ins
    rw [z, hD] at q
    cases q
  · obtain ⟨kvs, q⟩ := (h.at_ e he).mem x hx
    rw [z, hD] at q
    cases q
theorem CrewAt.snoc {H H' : Hp} {L : List Mem} {S : PS} {b : Addr} {m' : List Addr} {came : Came} (h : CrewAt K cP H L) (e : Same H H') (hb : H b = none) (hm : ∀ x ∈ m', H x = none) (hP : PAt K cP S H' b m' came) : CrewAt K cP H' (L ++ [⟨S, b, m', came⟩]) := by
  refine ⟨fun x hx => ?_, ?_, ?_⟩
  · rcases List.mem_append.mp hx with hx | hx
    · exact (h.at_ x hx).sm e
    · rw [List.mem_singleton.mp hx]
      exact hP
  · rw [List.map_append]
    refine List.nodup_append.mpr ⟨h.nda, by simp, fun u hu v hv => ?_⟩
    obtain ⟨x, hx, rfl⟩ := List.mem_map.mp hu
    have hv' : v = b := by simpa using hv
    rw [hv']
    obtain ⟨dx, fs, q⟩ := (h.at_ x hx).ins
    exact fun z => by rw [z, hb] at q; cases q
  · rw [List.flatMap_append]
    refine List.nodup_append.mpr ⟨h.ndm, by simpa using hP.nd, fun u hu v hv => ?_⟩
    obtain ⟨x, hx, hux⟩ := List.mem_flatMap.mp hu
    have hv' : v ∈ m' := by simpa using hv
    obtain ⟨kvs, q⟩ := (h.at_ x hx).mem u hux
    exact fun z => by rw [z, hm v hv'] at q; cases q
theorem CrewAt.nil {H : Hp} : CrewAt K cP H [] := ⟨by simp, by simp, by simp⟩
/-! ### crew_of -/
structure PrOk (p n t : Int) (rows : List Row) (ins cs : List Int) : Prop where
  set : SetOk p n t
  t3 : t ≤ 3
  len : rows.length ≤ 60
  rok : RowsOk n p rows
  inl : ins.length = (inputRowsM rows).length
  inb : ∀ x ∈ ins, 0 ≤ x ∧ x < p
  csl : (cs.length : Int) = offM n t rows
  csb : ∀ x ∈ cs, 0 ≤ x ∧ x < p
def sp_crew_of (K : PySem.W.Frag) (cP : Addr) : Sp := fun vs H Q _ => ∃ (p n t : Int) (v u z y : V) (rows : List Row) (ins cs : List Int), vs = [v, u, z, y] ∧ Rp K H v (setD p n t) ∧ Rp K H u (progD rows) ∧ Rp K H z (PI ins) ∧ Rp K H y (PI cs) ∧ PrOk p n t rows ins cs ∧
  ∀ l H' L, Same H H' → H l = none → H' l = some (.lst (refs L)) → CrewAt K cP H' L → CrewOk p n t rows ins L → Q (.ref l) H'
theorem Txt.c_crew_of (T : Txt K mg cP cD) : C8.Cal P w K mg base 8 "crew_of" (sp_crew_of K cP) [] := by
  refine T.d_crew_of.cal sc_crew_of (fun vs H Q E h => ?_) (fun f cdv A outer s H vs Q E hr h => ?_)
  · obtain ⟨p, n, t, v, u, z, y, rows, ins, cs, rfl, _⟩ := h
    rfl
  · obtain ⟨p, n, t, v, u, z, y, rows, ins, cs, rfl, hv, hu, hz, hy, ok, q⟩ := h
    have hn1 := ok.set.n1
    have T_c_parties := T.c_parties (P := P) (w := w) (base := base)
    have T_c_own_inputs := T.c_own_inputs (P := P) (w := w) (base := base)
    have T_m_Party := T.m_Party (P := P) (w := w) (base := base)
    have T_c_own_coins := T.c_own_coins (P := P) (w := w) (base := base)
    refine ⟨_, (pss_cons (ps_set (i := 4) sc_crew_of.nd rfl (Or.inl rfl) (pe_lst pa_nil))
      (pss_cons (ps_for PassesOwn.never rfl (pi_tup (C8.pe_c T_c_parties hr (by decide) (by rfl) (pa_cons (pv 0) pa_nil))) (pg_name (i := 5) sc_crew_of.nd rfl (Or.inl rfl))
        (pss_cons (ps_set (i := 6) sc_crew_of.nd rfl (Or.inl rfl) (C8.pe_c T_c_own_inputs hr (by decide) (by rfl) (pa_cons (pv 1) (pa_cons (pv 2) (pa_cons (pv 5) pa_nil)))))
        (pss_one (ps_expr (pe_bm PySem.F.plainAttrs_list PySem.F.slot_list_append PySem.F.type_list_append mt_append (pv 4) (pa_cons (C8.pe_mk T_m_Party hr (by decide) (by rfl) (pa_cons (pv 0) (pa_cons (pv 1) (pa_cons (pv 5) (pa_cons (pv 6) (pa_cons (C8.pe_c T_c_own_coins hr (by decide) (by rfl) (pa_cons (pv 0) (pa_cons (pv 1) (pa_cons (pv 3) (pa_cons (pv 5) pa_nil))))) pa_nil)))))) pa_nil))))))
      (pss_one (ps_ret (pv 4))))), ?_⟩
    refine ⟨Nat.zero_le _, fun l0 hl0 => ?_⟩
    have e0 := Same.new (o := .lst []) hl0
    refine ⟨_, rfl, p, n, t, _, rfl, hv.sm e0, ok.set, fun r1 H1 e1 rp1 => ?_⟩
    obtain ⟨c1, rfl, hc1⟩ := rp1.pi
    have e01 := e0.trans e1
    have hl1 := e1 _ _ (show upd H l0 (.lst []) l0 = _ from upd_same)
    refine ⟨c1, rfl, ⟨_, hc1⟩, for_tup (K := K) (a := c1) (xs := (partsM n).map V.int)
      (fun i σ H' => ∃ y1 y2 L, σ = [some v, some u, some z, some y, some (.ref l0), y1, y2] ∧ Same H H' ∧ SqT K H' c1 ((partsM n).map V.int) ∧ H' l0 = some (.lst (refs L)) ∧ CrewAt K cP H' L ∧ L.map (fun e => e.S.j) = (partsM n).take i ∧ (∀ e ∈ L, SOk p n t rows ins e.S) ∧ ∀ e ∈ L, e.came = emptyC e.S)
      ⟨none, none, [], rfl, e01, hc1, hl1, CrewAt.nil, by simp, by simp, by simp⟩ (fun i σ H' hi ⟨_, _, _, _, _, h, _⟩ => h) ?_ ?_⟩
    · rintro i x1 σ H2 hx1 ⟨y1, y2, L, rfl, e2, hc2, hl2, hC, hj, hS, hcm⟩
      obtain ⟨j, hj1, rfl⟩ := map_got hx1
      have hjm := partsM_mem.mp (List.mem_of_getElem? hj1)
      have hLl : L.length ≤ 9 := by
        have := congrArg List.length hj
        rw [List.length_map, List.length_take, partsM_len] at this
        omega
      refine ⟨_, rfl, _, rfl, _, rfl, u, z, rows, ins, j, rfl, hu.sm e2, ok.len, hz.sm e2, ok.inl, fun r3 H3 e3 rp3 => ?_⟩
      have e23 := e2.trans e3
      refine ⟨_, rfl, .inl ⟨rfl, _, SqL.of (e3 _ _ hl2)⟩, _, rfl, _, rfl, _, rfl, _, rfl, _, rfl, _, rfl, _, rfl, _, rfl, ?_⟩
      refine ⟨p, n, t, v, u, y, rows, cs, j, rfl, hv.sm e23, ok.set, hu.sm e23, ok.len, hy.sm e23, ok.csl, hjm.1, hjm.2, fun r4 H4 ms e4 rp4 hms hml => ?_⟩
      have e24 := e23.trans e4
      intro x dx hx hdx hne
      have e5 : Same H4 (upd (upd H4 dx (.own x)) x (.ins cP dx [])) := (Same.new hdx).mut hx
      have e25 := e24.trans e5
      have okS : PSok ⟨p, n, t, rows, j, ownInputsM rows ins j, ms⟩ := ⟨ok.set, ok.t3, hjm.1, hjm.2, ok.len, ok.rok, Nat.le_of_eq (ownInputs_len rows ins j).symm, ownInputs_bd ok.set.p0 ok.inb j, fun x hx => ok.csb x (hms x hx)⟩
      refine ⟨x, dx, _, _, _, _, ⟨p, n, t, rows, j, ownInputsM rows ins j, ms⟩, rfl, upd_same, hv.sm e25, hu.sm e25, rp3.sm (e4.trans e5), rp4.sm e5, okS, fun m2 H6 b6 hf6 hP6 => ⟨rfl, ?_⟩⟩
      have e6 : Same H4 H6 := e5.but1 b6 hx
      have e36 := (e3.trans e4).trans e6
      have hl6 := e36 _ _ hl2
      have hC6 := (hC.sm (e3.trans e4)).snoc e6 hx (fun b hb => free_of e5 (hf6 b hb)) hP6
      refine ⟨l0, _, _, rfl, rfl, hl6, by rw [List.length_map]; exact small' (by omega), ?_⟩
      have b7 : But (fun b => b = l0) H6 (upd H6 l0 (.lst (refs L ++ [.ref x]))) := (But.refl _ _).own rfl
      have t7 : TF H6 (upd H6 l0 (.lst (refs L ++ [.ref x]))) := TF.upd hl6 plain_lst
      refine ⟨_, _, L ++ [⟨_, x, m2, _⟩], rfl, (e2.trans e36).mut hl0, t7.sqT (e36.tf.sqT hc2), ?_, hC6.lst hl6 b7 t7, ?_, ?_, ?_⟩
      · rw [upd_same]
        simp [refs]
      · rw [List.map_append, hj, List.take_add_one, hj1]
        rfl
      · intro e he
        rcases List.mem_append.mp he with he | he
        · exact hS e he
        · rw [List.mem_singleton.mp he]
          exact ⟨rfl, rfl, rfl, rfl, rfl, okS⟩
      · intro e he
        rcases List.mem_append.mp he with he | he
        · exact hcm e he
        · rw [List.mem_singleton.mp he]
    · rintro σ H2 ⟨y1, y2, L, rfl, e2, hc2, hl2, hC, hj, hS, hcm⟩
      rw [List.length_map, List.take_length] at hj
      exact ⟨_, rfl, q l0 H2 L e2 hl0 hl2 hC ⟨hj, hS, hcm⟩⟩
/-! ### first_letters -/
def sp_first_letters (K : PySem.W.Frag) (cP : Addr) : Sp := fun vs H Q _ => ∃ (c : Addr) (L : List Mem), vs = [.ref c] ∧ SqT K H c (refs L) ∧ CrewAt K cP H L ∧ L.length ≤ 9 ∧ (∀ e ∈ L, PSok e.S ∧ CameOk e.S e.came) ∧
  ∀ l xs H', Same H H' → H l = none → H' l = some (.lst xs) → RpAll K H' xs ((L.flatMap fun e => madeL e.S e.came).map Letter.data) → Q (.ref l) H'
theorem Txt.c_first_letters (T : Txt K mg cP cD) : C8.Cal P w K mg base 9 "first_letters" (sp_first_letters K cP) [] := by
  refine T.d_first_letters.cal sc_first_letters (fun vs H Q E h => ?_) (fun f cdv A outer s H vs Q E hr h => ?_)
  · obtain ⟨c, L, rfl, _⟩ := h
    rfl
  · obtain ⟨c, L, rfl, hc, hC, hLl, hok, q⟩ := h
    have T_p_Party_made := T.p_Party_made (P := P) (w := w) (base := base)
    refine ⟨_, (pss_cons (ps_set (i := 1) sc_first_letters.nd rfl (Or.inl rfl) (pe_lst pa_nil))
      (pss_cons (ps_for PassesOwn.never rfl (pi_tup (pv 0)) (pg_name (i := 2) sc_first_letters.nd rfl (Or.inl rfl))
        (pss_one (ps_expr (pe_bm PySem.F.plainAttrs_list PySem.F.slot_list_extend PySem.F.type_list_extend UR.mt_extT (pv 1) (pa_cons (pe_pr T_p_Party_made hr (by decide) (pv 2) rfl) pa_nil)))))
      (pss_one (ps_ret (pv 1))))), ?_⟩
    refine ⟨Nat.zero_le _, fun l0 hl0 => ?_⟩
    have e0 := Same.new (o := .lst []) hl0
    refine ⟨_, rfl, c, rfl, ⟨_, e0.tf.sqT hc⟩, for_tup (K := K) (a := c) (xs := refs L)
      (fun i σ H' => ∃ y1 acc, σ = [some (.ref c), some (.ref l0), y1] ∧ Same H H' ∧ H' l0 = some (.lst acc) ∧ RpAll K H' acc (((L.take i).flatMap fun e => madeL e.S e.came).map Letter.data))
      ⟨none, [], rfl, e0, upd_same, .nil⟩ (fun i σ H' hi ⟨_, _, _, h, _⟩ => h.tf.sqT hc) ?_ ?_⟩
    · rintro i x1 σ H2 hx1 ⟨y1, acc, rfl, e2, hl2, ra⟩
      obtain ⟨e, he, rfl⟩ := map_got hx1
      have hem := List.mem_of_getElem? he
      have hP := (hC.at_ e hem).sm e2
      obtain ⟨dx, fs, hins⟩ := hP.ins
      have hil := (List.getElem?_eq_some_iff.mp he).1
      refine ⟨_, rfl, .inl ⟨rfl, _, SqL.of hl2⟩, _, rfl, e.a, dx, fs, rfl, hins, e.a, e.S, e.m, e.came, rfl, hP, (hok e hem).1, (hok e hem).2, fun r3 H3 e3 rp3 => ?_⟩
      obtain ⟨b3, zs, rfl, hb3, rz⟩ := rp3.tupl
      have hl3 := e3 _ _ hl2
      have h1 := flatMap_len (fun e : Mem => madeL e.S e.came) 540 (L.take i) fun x hx => madeL_len (hok x (List.mem_of_mem_take hx)).1 _
      have h2 := madeL_len (hok e hem).1 e.came
      have hl1' := ra.len
      have hl2' := rz.len
      rw [List.length_map] at hl1' hl2'
      rw [List.length_take] at h1
      have h3 : min i L.length * 540 ≤ 9 * 540 := Nat.mul_le_mul (by omega) (Nat.le_refl _)
      refine ⟨l0, b3, acc, zs, rfl, rfl, hl3, hb3, by rw [hl1', hl2']; exact small (by omega), _, acc ++ zs, rfl, (e2.trans e3).mut hl0, upd_same, ?_⟩
      have tf : TF H3 (upd H3 l0 (.lst (acc ++ zs))) := TF.upd hl3 plain_lst
      rw [List.take_add_one, he, List.flatMap_append, List.map_append]
      refine ((ra.sm e3).app ?_).tf tf
      have : (Option.toList (some e)).flatMap (fun e => madeL e.S e.came) = madeL e.S e.came := by simp
      rw [this]
      exact rz
    · rintro σ H2 ⟨y1, acc, rfl, e2, hl2, ra⟩
      rw [List.length_map, List.take_length] at ra
      exact ⟨_, rfl, q l0 acc H2 e2 hl0 hl2 ra⟩
end
end U

namespace U
open PySem PySem.Spec PyProof.Rows L2
def dfs (vs vp vg vc vw vl vt : V) : List (Str × V) := [("_setting", vs), ("_program", vp), ("_given", vg), ("_crew", vc), ("_way", vw), ("_log", vl), ("_past", vt)]
section
variable (vs vp vg vc vw vl vt : V)
theorem dfs_setting : (dfs vs vp vg vc vw vl vt).lookup ("_setting" : Str) = some vs := by rfl
theorem dfs_program : (dfs vs vp vg vc vw vl vt).lookup ("_program" : Str) = some vp := by rfl
theorem dfs_crew : (dfs vs vp vg vc vw vl vt).lookup ("_crew" : Str) = some vc := by rfl
theorem dfs_way : (dfs vs vp vg vc vw vl vt).lookup ("_way" : Str) = some vw := by rfl
theorem dfs_log : (dfs vs vp vg vc vw vl vt).lookup ("_log" : Str) = some vl := by rfl
theorem dfs_past : (dfs vs vp vg vc vw vl vt).lookup ("_past" : Str) = some vt := by rfl
theorem dfs_putC (x : V) : putF "_crew" x (dfs vs vp vg vc vw vl vt) = dfs vs vp vg x vw vl vt := by rfl
theorem dfs_putW (x : V) : putF "_way" x (dfs vs vp vg vc vw vl vt) = dfs vs vp vg vc x vl vt := by rfl
theorem dfs_putL (x : V) : putF "_log" x (dfs vs vp vg vc vw vl vt) = dfs vs vp vg vc vw x vt := by rfl
theorem dfs_putP (x : V) : putF "_past" x (dfs vs vp vg vc vw vl vt) = dfs vs vp vg vc vw vl x := by rfl
end
/-- a desk: setting, program, crew, letters on the way, how many deeds at most -/
structure DS where
  p : Int
  n : Int
  t : Int
  rows : List Row
  L : List Mem
  way : List Letter
  N : Nat
structure DAt (K : PySem.W.Frag) (cP cD : Addr) (H : Hp) (x : Addr) (D : DS) : Prop where
  ex : ∃ (dx : Addr) (vs vp vg : V) (c w lg ps : Addr) (xl xp : List V), H x = some (.ins cD dx (dfs vs vp vg (.ref c) (.ref w) (.ref lg) (.ref ps))) ∧ Rp K H vs (setD D.p D.n D.t) ∧ Rp K H vp (progD D.rows) ∧ SqT K H c (refs D.L) ∧ CrewAt K cP H D.L ∧
    Rp K H (.ref w) (.tuple (D.way.map Letter.data)) ∧ SqT K H lg xl ∧ xl.length ≤ D.N ∧ SqT K H ps xp ∧ xp.length ≤ D.N
section
variable {P : Program} {w : World} {K : PySem.W.Frag} {mg : Str → Option Value} {base : Heap} {cP cD : Addr}
theorem DAt.sm {H H' : Hp} {x : Addr} {D : DS} (e : Same H H') (h : DAt K cP cD H x D) : DAt K cP cD H' x D := by
  obtain ⟨dx, vs, vp, vg, c, ww, lg, ps, xl, xp, h1, h2, h3, h4, h5, h6, h7, h8, h9, h10⟩ := h.ex
  exact ⟨dx, vs, vp, vg, c, ww, lg, ps, xl, xp, e _ _ h1, h2.sm e, h3.sm e, e.tf.sqT h4, h5.sm e, h6.sm e, e.tf.sqT h7, h8, e.tf.sqT h9, h10⟩
/-- the crew stays where an instance of another class changes -/
theorem CrewAt.desk {H H' : Hp} {L : List Mem} {x C dx : Addr} {fs : List (Str × V)} (h : CrewAt K cP H L) (hx : H x = some (.ins C dx fs)) (ne : cP ≠ C) (b : But (fun b => b = x) H H') (t : TF H H') : CrewAt K cP H' L := h.but b t fun e he => by
  refine ⟨fun z => ?_, fun y hy z => ?_⟩
  · obtain ⟨dx', fs', q⟩ := (h.at_ e he).ins
    rw [z, hx] at q
    cases q
    exact ne rfl
  · obtain ⟨kvs, q⟩ := (h.at_ e he).mem y hy
    rw [z, hx] at q
    cases q
/-! ### parties, on_the_way, done -/
def sp_D_parties (K : PySem.W.Frag) (cP cD : Addr) : Sp := fun vs H Q _ => ∃ (x : Addr) (D : DS), vs = [.ref x] ∧ DAt K cP cD H x D ∧ D.L.length ≤ 9 ∧ (∀ e ∈ D.L, PSok e.S) ∧
  ∀ c H' L', Same H H' → SqT K H' c (refs L') → CrewAt K cP H' L' → L'.map Mem.cont = D.L.map Mem.cont → (∀ e ∈ L', H e.a = none ∧ ∀ y ∈ e.m, H y = none) → Q (.ref c) H'
theorem Txt.t_Desk_parties (T : Txt K mg cP cD) : C8.Met P w K mg base 9 cD "parties" (sp_D_parties K cP cD) [] := by
  refine T.e_Desk_parties.met sc_Desk_parties (fun vs H Q E h => ?_) (fun f cdv A outer s H vs Q E hr h => ?_)
  · obtain ⟨x, D, rfl, _⟩ := h
    rfl
  · obtain ⟨x, D, rfl, hD, hLl, hok, q⟩ := h
    obtain ⟨dx, vs, vp, vg, c, ww, lg, ps, xl, xp, h1, h2, h3, h4, h5, h6, h7, h8, h9, h10⟩ := id hD.ex
    have T_t_Party_branch := T.t_Party_branch (P := P) (w := w) (base := base)
    refine ⟨_, (pss_one (ps_ret (pe_tupleOf (by rfl) T.n_tuple (pe_lc (own := [("party", 1)]) (g := gName 1) rfl sc_Desk_parties.nd (pi_tup (fldK K (pv 0) rfl)) (blkOk_by (N := ["self", "party"]) (sc := defScope s_Desk_parties) (by decide +kernel)) (fun _ _ _ _ _ => pg_name (i := 1) sc_Desk_parties.nd rfl (Or.inl rfl)) (fun _ _ _ _ _ => pts_nil) (fun _ _ _ _ _ => (C8.pe_mt0 T_t_Party_branch hr (by decide) (pv 1))))))), ?_⟩
    refine ⟨_, rfl, x, cD, dx, _, _, rfl, h1, T.clD, T.aD_crew, dfs_crew _ _ _ _ _ _ _, c, rfl, ⟨_, h4⟩, fun B hB0 => ?_⟩
    refine lc_tup (K := K) (a := c) (xs := refs D.L) (Qd := fun H' => kTup K (.ref B) H' _) (fun i H' => Same H H' ∧ ∃ L' : List Mem, H' B = some (.lst (refs L')) ∧ CrewAt K cP H' L' ∧ L'.map Mem.cont = (D.L.take i).map Mem.cont ∧ ∀ e ∈ L', H e.a = none ∧ ∀ y ∈ e.m, H y = none)
      ⟨Same.new hB0, [], upd_same, CrewAt.nil, by simp, by simp⟩ (fun i H' _ p => p.1.tf.sqT h4) ?_ ?_
    · rintro i x1 H1 hx1 ⟨e1, L', hB, hC, hcont, hfr⟩
      obtain ⟨e, he, rfl⟩ := map_got hx1
      have hem := List.mem_of_getElem? he
      have hP := (h5.at_ e hem).sm e1
      obtain ⟨dx', g', d', c', cds', vo', vw', vt', ds', hins, _⟩ := id hP.ex
      have hl := congrArg List.length hcont
      rw [List.length_map, List.length_map, List.length_take] at hl
      refine ⟨rfl, iteT (B := False) ⟨_, rfl, e.a, dx', _, rfl, hins, by rfl, e.a, e.S, e.m, e.came, rfl, hP, hok e hem, fun b m' H2 e2 hb hm hP2 => ?_⟩⟩
      have hB2 := e2 _ _ hB
      refine ⟨refs L', hB2, by rw [List.length_map]; exact small' (by omega), (e1.trans e2).mut hB0, L' ++ [⟨e.S, b, m', e.came⟩], by rw [upd_same]; simp [refs], ?_, ?_, ?_⟩
      · exact (hC.snoc e2 hb hm hP2).lst hB2 ((But.refl _ _).own rfl) (TF.upd hB2 plain_lst)
      · rw [List.map_append, hcont, List.take_add_one, he, List.map_append]
        rfl
      · intro z hz
        rcases List.mem_append.mp hz with hz | hz
        · exact hfr z hz
        · rw [List.mem_singleton.mp hz]
          exact ⟨free_of e1 hb, fun y hy => free_of e1 (hm y hy)⟩
    · rintro H1 ⟨e1, L', hB, hC, hcont, hfr⟩
      rw [List.length_map, List.take_length] at hcont
      refine .inl ⟨B, refs L', rfl, SqL.of hB, fun cc hcc => ?_⟩
      exact q cc _ L' (e1.trans (Same.new hcc)) sqT_new (hC.sm (Same.new hcc)) hcont hfr
def sp_on_the_way (K : PySem.W.Frag) (cP cD : Addr) : Sp := fun vs H Q _ => ∃ (x : Addr) (D : DS), vs = [.ref x] ∧ DAt K cP cD H x D ∧ ∀ w, Rp K H (.ref w) (.tuple (D.way.map Letter.data)) → Q (.ref w) H
theorem Txt.p_Desk_on_the_way (T : Txt K mg cP cD) : Prp P w K mg base 1 cD "on_the_way" (sp_on_the_way K cP cD) := by
  refine T.q_Desk_on_the_way.prp sc_Desk_on_the_way (fun vs H Q E h => ?_) (fun f cdv A outer s H vs Q E hr h => ?_)
  · obtain ⟨x, D, rfl, _⟩ := h
    rfl
  · obtain ⟨x, D, rfl, hD, q⟩ := h
    obtain ⟨dx, vs, vp, vg, c, ww, lg, ps, xl, xp, h1, h2, h3, h4, h5, h6, h7, h8, h9, h10⟩ := id hD.ex
    refine ⟨_, (pss_one (ps_ret (fldK K (pv 0) rfl))), ?_⟩
    exact ⟨_, rfl, x, cD, dx, _, _, rfl, h1, T.clD, T.aD_way, dfs_way _ _ _ _ _ _ _, q ww h6⟩
def sp_done (K : PySem.W.Frag) (cP cD : Addr) : Sp := fun vs H Q _ => ∃ (x : Addr) (D : DS), vs = [.ref x] ∧ DAt K cP cD H x D ∧ Q (.bl (decide (D.way.length = 0))) H
theorem Txt.p_Desk_done (T : Txt K mg cP cD) : Prp P w K mg base 1 cD "done" (sp_done K cP cD) := by
  refine T.q_Desk_done.prp sc_Desk_done (fun vs H Q E h => ?_) (fun f cdv A outer s H vs Q E hr h => ?_)
  · obtain ⟨x, D, rfl, _⟩ := h
    rfl
  · obtain ⟨x, D, rfl, hD, q⟩ := h
    obtain ⟨dx, vs, vp, vg, c, ww, lg, ps, xl, xp, h1, h2, h3, h4, h5, h6, h7, h8, h9, h10⟩ := id hD.ex
    obtain ⟨w', xs, hw, hW, hA⟩ := h6.tupl
    cases hw
    have hl := hA.len
    rw [List.length_map] at hl
    refine ⟨_, (pss_one (ps_ret (pe_cmpR op_eq (pe_callB (lenS K) (by rfl) T.n_len PySem.boot_len (pa_cons (fldK K (pv 0) rfl) pa_nil)) pe_int (nomark _)))), ?_⟩
    refine ⟨_, rfl, x, cD, dx, _, _, rfl, h1, T.clD, T.aD_way, dfs_way _ _ _ _ _ _ _, ww, _, rfl, .inr hW, rfl, ?_⟩
    have e : decide (V.int (xs.length : Int) = V.int 0) = decide (D.way.length = 0) := by rw [decInt, hl]; exact decide_eq_decide.mpr (by omega)
    rw [e]
    exact q
/-! ### _letter_at, _begin -/
def sp_letter_at (K : PySem.W.Frag) (cP cD : Addr) : Sp := fun vs H Q _ => ∃ (x : Addr) (D : DS) (i : Nat) (l : Letter), vs = [.ref x, .int (i : Int)] ∧ DAt K cP cD H x D ∧ D.way[i]? = some l ∧ ∀ v, Rp K H v l.data → Q v H
theorem Txt.t_Desk__letter_at (T : Txt K mg cP cD) : C8.Met P w K mg base 2 cD "_letter_at" (sp_letter_at K cP cD) [] := by
  refine T.e_Desk__letter_at.met sc_Desk__letter_at (fun vs H Q E h => ?_) (fun f cdv A outer s H vs Q E hr h => ?_)
  · obtain ⟨x, D, i, l, rfl, _⟩ := h
    rfl
  · obtain ⟨x, D, i, l, rfl, hD, hl, q⟩ := h
    obtain ⟨dx, vs, vp, vg, c, ww, lg, ps, xl, xp, h1, h2, h3, h4, h5, h6, h7, h8, h9, h10⟩ := id hD.ex
    obtain ⟨w', xs, hw, hW, hA⟩ := h6.tupl
    cases hw
    have hxl := hA.len
    rw [List.length_map] at hxl
    have hil := (List.getElem?_eq_some_iff.mp hl).1
    obtain ⟨v, hv, rv⟩ := hA.get (map_get hl)
    have T_c_is_integer := T.c_is_integer (P := P) (w := w) (base := base)
    refine ⟨_, (pss_cons (ps_if (PW.pt (pw_or (pt_not (pt_val (C8.pe_c T_c_is_integer hr (by decide) (by rfl) (pa_cons (pv 1) pa_nil)))) (pw_or1 (pt_not (pt_chain op_le op_lt pe_int (pv 1) (pe_callB (lenS K) (by rfl) T.n_len PySem.boot_len (pa_cons (fldK K (pv 0) rfl) pa_nil)))))))
        (pss_one ps_never)
        pss_nil)
      (pss_one (ps_ret (pe_ix (ixT K) (fldK K (pv 0) rfl) (pv 1) (fun _ _ => rfl))))), ?_⟩
    refine ⟨_, rfl, i, rfl, true, rfl, ?_⟩
    refine ⟨_, rfl, _, _, rfl, rfl, true, congrArg V.bl (decide_eq_true (by omega)), _, rfl, x, cD, dx, _, _, rfl, h1, T.clD, T.aD_way, dfs_way _ _ _ _ _ _ _, ww, _, rfl, .inr hW, _, _, rfl, rfl, true, congrArg V.bl (decide_eq_true (by omega)), ?_⟩
    exact ⟨_, rfl, x, cD, dx, _, _, rfl, h1, T.clD, T.aD_way, dfs_way _ _ _ _ _ _ _, _, rfl, _, _, _, _, rfl, rfl, hW, atI_nat hv, q v rv⟩
def sp_begin (K : PySem.W.Frag) (cP cD : Addr) : Sp := fun vs H Q _ => ∃ (x : Addr) (D : DS) (v : V), vs = [.ref x, v] ∧ DAt K cP cD H x D ∧ D.L.length ≤ 9 ∧ (∀ e ∈ D.L, PSok e.S) ∧ D.N ≤ 100000 ∧
  ∀ H' L', But (fun b => b = x) H H' → TF H H' → DAt K cP cD H' x { D with L := L', N := D.N + 1 } → L'.map Mem.cont = D.L.map Mem.cont → (∀ e ∈ L', H e.a = none ∧ ∀ y ∈ e.m, H y = none) → Q .non H'
theorem Txt.t_Desk__begin (T : Txt K mg cP cD) : C8.Met P w K mg base 10 cD "_begin" (sp_begin K cP cD) [] := by
  refine T.e_Desk__begin.met sc_Desk__begin (fun vs H Q E h => ?_) (fun f cdv A outer s H vs Q E hr h => ?_)
  · obtain ⟨x, D, v, rfl, _⟩ := h
    rfl
  · obtain ⟨x, D, v, rfl, hD, hLl, hok, hN, q⟩ := h
    obtain ⟨dx, vs, vp, vg, c, ww, lg, ps, xl, xp, h1, h2, h3, h4, h5, h6, h7, h8, h9, h10⟩ := id hD.ex
    have T_t_Desk_parties := T.t_Desk_parties (P := P) (w := w) (base := base)
    refine ⟨_, (pss_cons (ps_fld (pv 0) (pe_op (catT K) (fldK K (pv 0) rfl) (pe_tup (pa_cons (pe_tup (pa_cons (fldK K (pv 0) rfl) (pa_cons (fldK K (pv 0) rfl) pa_nil))) pa_nil))) rfl)
      (pss_cons (ps_fld (pv 0) (pe_op (catT K) (fldK K (pv 0) rfl) (pe_tup (pa_cons (pv 1) pa_nil))) rfl)
      (pss_one (ps_fld (pv 0) (C8.pe_mt0 T_t_Desk_parties hr (by decide) (pv 0)) rfl)))), ?_⟩
    refine ⟨_, rfl, x, cD, dx, _, _, rfl, h1, T.clD, T.aD_past, dfs_past _ _ _ _ _ _ _, _, rfl, x, cD, dx, _, _, rfl, h1, T.clD, T.aD_crew, dfs_crew _ _ _ _ _ _ _, _, rfl, x, cD, dx, _, _, rfl, h1, T.clD, T.aD_way, dfs_way _ _ _ _ _ _ _, by show 2 ≤ sizeLine; decide, fun t1 ht1 => ⟨by show 1 ≤ sizeLine; decide, fun t2 ht2 => ?_⟩⟩
    have e2 := (Same.new (o := .tup [V.ref c, .ref ww]) ht1).trans (Same.new (o := .tup [V.ref t1]) ht2)
    refine catA (e2.tf.sqT h9) sqT_new (by simp only [List.length_cons, List.length_nil]; omega) fun p3 H3 e3 hp3 => ?_
    have e03 := e2.trans e3
    have h13 := e03 _ _ h1
    refine ⟨_, rfl, x, cD, dx, _, rfl, h13, T.clD, T.aD_past, by show 7 < 1000; decide, ?_⟩
    rw [dfs_putP]
    have b4 : But (fun b => b = x) H (upd H3 x (.ins cD dx (dfs vs vp vg (.ref c) (.ref ww) (.ref lg) (.ref p3)))) := e03.but.own rfl
    have t34 : TF H3 (upd H3 x (.ins cD dx (dfs vs vp vg (.ref c) (.ref ww) (.ref lg) (.ref p3)))) := TF.upd h13 plain_ins
    have h14 : upd H3 x (.ins cD dx (dfs vs vp vg (.ref c) (.ref ww) (.ref lg) (.ref p3))) x = some (.ins cD dx (dfs vs vp vg (.ref c) (.ref ww) (.ref lg) (.ref p3))) := upd_same
    have hp4 := t34.sqT hp3
    have t04 := e03.tf.trans t34
    generalize upd H3 x (.ins cD dx (dfs vs vp vg (.ref c) (.ref ww) (.ref lg) (.ref p3))) = H4 at b4 t34 h14 hp4 t04 ⊢
    refine ⟨_, rfl, x, cD, dx, _, _, rfl, h14, T.clD, T.aD_log, dfs_log _ _ _ _ _ _ _, _, rfl, by show 1 ≤ sizeLine; decide, fun t5 ht5 => ?_⟩
    have e5 := Same.new (o := .tup [v]) ht5
    refine catA (e5.tf.sqT (t04.sqT h7)) sqT_new (by simp only [List.length_cons, List.length_nil]; omega) fun p6 H6 e6 hp6 => ?_
    have e46 := e5.trans e6
    have h16 := e46 _ _ h14
    refine ⟨_, rfl, x, cD, dx, _, rfl, h16, T.clD, T.aD_log, by show 7 < 1000; decide, ?_⟩
    rw [dfs_putL]
    have b7 : But (fun b => b = x) H (upd H6 x (.ins cD dx (dfs vs vp vg (.ref c) (.ref ww) (.ref p6) (.ref p3)))) := (b4.trans e46.but).own rfl
    have t67 : TF H6 (upd H6 x (.ins cD dx (dfs vs vp vg (.ref c) (.ref ww) (.ref p6) (.ref p3)))) := TF.upd h16 plain_ins
    have h17 : upd H6 x (.ins cD dx (dfs vs vp vg (.ref c) (.ref ww) (.ref p6) (.ref p3))) x = some (.ins cD dx (dfs vs vp vg (.ref c) (.ref ww) (.ref p6) (.ref p3))) := upd_same
    have hp7 := (e46.tf.trans t67).sqT hp4
    have hl7 := t67.sqT hp6
    have t07 := t04.trans (e46.tf.trans t67)
    generalize upd H6 x (.ins cD dx (dfs vs vp vg (.ref c) (.ref ww) (.ref p6) (.ref p3))) = H7 at b7 t67 h17 hp7 hl7 t07 ⊢
    have hD7 : DAt K cP cD H7 x { D with N := D.N + 1 } := ⟨dx, vs, vp, vg, c, ww, p6, p3, _, _, h17, h2.tf t07, h3.tf t07, t07.sqT h4, h5.desk h1 T.ne b7 t07, h6.tf t07, hl7, by simp only [List.length_append, List.length_cons, List.length_nil]; omega, hp7, by simp only [List.length_append, List.length_cons, List.length_nil]; omega⟩
    refine ⟨_, rfl, x, dx, _, rfl, h17, by rfl, x, { D with N := D.N + 1 }, rfl, hD7, hLl, hok, fun c8 H8 L' e8 hc8 hC8 hcont hfr => ?_⟩
    have h18 := e8 _ _ h17
    refine ⟨_, rfl, x, cD, dx, _, rfl, h18, T.clD, T.aD_crew, by show 7 < 1000; decide, ?_⟩
    rw [dfs_putC]
    have b9 : But (fun b => b = x) H8 (upd H8 x (.ins cD dx (dfs vs vp vg (.ref c8) (.ref ww) (.ref p6) (.ref p3)))) := (But.refl _ _).own rfl
    have t89 : TF H8 (upd H8 x (.ins cD dx (dfs vs vp vg (.ref c8) (.ref ww) (.ref p6) (.ref p3)))) := TF.upd h18 plain_ins
    have t79 := e8.tf.trans t89
    have t09 := t07.trans t79
    have nx : ∀ {y : Addr}, H7 y = none → y ≠ x := fun hy z => by rw [z, h17] at hy; cases hy
    exact q _ L' ((b7.trans e8.but).trans b9) t09 ⟨dx, vs, vp, vg, c8, ww, p6, p3, _, _, upd_same, h2.tf t09, h3.tf t09, t89.sqT hc8, hC8.desk h18 T.ne b9 t89, h6.tf t09, t79.sqT hl7, by simp only [List.length_append, List.length_cons, List.length_nil]; omega, t79.sqT hp7, by simp only [List.length_append, List.length_cons, List.length_nil]; omega⟩ hcont
      fun e he => ⟨b7.free (nx (hfr e he).1) (hfr e he).1, fun y hy => b7.free (nx ((hfr e he).2 y hy)) ((hfr e he).2 y hy)⟩
end
end U

namespace U
open PySem PySem.Spec PyProof.Rows L2
theorem flat_disj : ∀ {L : List Mem} {i k : Nat} {e e' : Mem} {x : Addr}, (L.flatMap Mem.m).Nodup → L[i]? = some e → L[k]? = some e' → x ∈ e.m → x ∈ e'.m → i = k
  | [], _, _, _, _, _, _, h, _, _, _ => by simp at h
  | a :: r, 0, 0, _, _, _, _, _, _, _, _ => rfl
  | a :: r, 0, k + 1, e, e', x, nd, h1, h2, hx, hx' => by
    exfalso
    rw [List.flatMap_cons] at nd
    obtain ⟨_, _, d⟩ := List.nodup_append.mp nd
    have he : a = e := by simpa using h1
    have he' : e' ∈ r := List.mem_of_getElem? (show r[k]? = some e' by simpa using h2)
    exact d x (by rw [he]; exact hx) x (List.mem_flatMap.mpr ⟨e', he', hx'⟩) rfl
  | a :: r, i + 1, 0, e, e', x, nd, h1, h2, hx, hx' => by
    exfalso
    rw [List.flatMap_cons] at nd
    obtain ⟨_, _, d⟩ := List.nodup_append.mp nd
    have he : a = e' := by simpa using h2
    have he' : e ∈ r := List.mem_of_getElem? (show r[i]? = some e by simpa using h1)
    exact d x (by rw [he]; exact hx') x (List.mem_flatMap.mpr ⟨e, he', hx⟩) rfl
  | a :: r, i + 1, k + 1, e, e', x, nd, h1, h2, hx, hx' => by
    rw [List.flatMap_cons] at nd
    obtain ⟨_, nr, _⟩ := List.nodup_append.mp nd
    rw [flat_disj nr (show r[i]? = some e by simpa using h1) (show r[k]? = some e' by simpa using h2) hx hx']
theorem set_fmap {β : Type} (f : Mem → List β) (g : Mem → β) : True := True.intro
theorem map_set_same {α β : Type} (f : α → β) : ∀ {L : List α} {i : Nat} {e e' : α}, L[i]? = some e → f e' = f e → (L.set i e').map f = L.map f
  | [], _, _, _, _, _ => rfl
  | a :: r, 0, e, e', h, he => by
    have : a = e := by simpa using h
    rw [List.set_cons_zero, List.map_cons, List.map_cons, he, this]
  | a :: r, i + 1, e, e', h, he => by
    rw [List.set_cons_succ, List.map_cons, List.map_cons, map_set_same f (show r[i]? = some e by simpa using h) he]
section
variable {P : Program} {w : World} {K : PySem.W.Frag} {mg : Str → Option Value} {base : Heap} {cP cD : Addr}
theorem CrewAt.put {H H' : Hp} {L : List Mem} {i : Nat} {e : Mem} {came' : Came} (h : CrewAt K cP H L) (hi : L[i]? = some e) (b : But (fun b => b = e.a ∨ b ∈ e.m) H H') (t : TF H H') (hP : PAt K cP e.S H' e.a e.m came') : CrewAt K cP H' (L.set i { e with came := came' }) := by
  refine ⟨fun z hz => ?_, ?_, ?_⟩
  · obtain ⟨k, hk⟩ := List.getElem?_of_mem hz
    by_cases hki : k = i
    · subst hki
      rw [List.getElem?_set_self (List.getElem?_eq_some_iff.mp hi).1] at hk
      cases hk
      exact hP
    · rw [List.getElem?_set_ne (fun q => hki q.symm)] at hk
      have hzm := List.mem_of_getElem? hk
      have hem := List.mem_of_getElem? hi
      obtain ⟨dx, fs, q⟩ := (h.at_ z hzm).ins
      obtain ⟨dx', fs', q'⟩ := (h.at_ e hem).ins
      refine (h.at_ z hzm).but b t (fun hn => ?_) fun x hx hn => ?_
      · rcases hn with hn | hn
        · refine hki ((List.getElem?_inj (l := L.map Mem.a) (by rw [List.length_map]; exact (List.getElem?_eq_some_iff.mp hk).1) h.nda).mp ?_)
          rw [map_get hk, map_get hi, hn]
        · obtain ⟨kvs, q2⟩ := (h.at_ e hem).mem _ hn
          rw [q] at q2
          cases q2
      · rcases hn with hn | hn
        · obtain ⟨kvs, q2⟩ := (h.at_ z hzm).mem x hx
          rw [hn, q'] at q2
          cases q2
        · exact hki (flat_disj h.ndm hk hi hx hn)
  · rw [map_set_same Mem.a (e' := { e with came := came' }) hi rfl]
    exact h.nda
  · have : (L.set i { e with came := came' }).flatMap Mem.m = L.flatMap Mem.m := by
      rw [List.flatMap_def, List.flatMap_def, map_set_same Mem.m (e' := { e with came := came' }) hi rfl]
    rw [this]
    exact h.ndm
theorem RpAll.dropAt {H : Hp} {xs : List V} {l : List Letter} (h : RpAll K H xs (l.map Letter.data)) (i : Nat) : RpAll K H (xs.drop i) ((l.drop i).map Letter.data) := by
  rw [List.map_drop]; exact h.drop i
theorem RpAll.takeAt {H : Hp} {xs : List V} {l : List Letter} (h : RpAll K H xs (l.map Letter.data)) (i : Nat) : RpAll K H (xs.take i) ((l.take i).map Letter.data) := by
  rw [List.map_take]; exact h.take i
/-! ### _hand, hand, lie -/
def handCame (e : Mem) (l : Letter) : Came := e.came.set l.k (e.came.getD l.k [] ++ [(l.i, l.x)])
def handL (L : List Mem) (e : Mem) (l : Letter) : List Mem := L.set (l.j - 1).toNat { e with came := handCame e l }
def handWay (way : List Letter) (i : Nat) (e : Mem) (l : Letter) : List Letter := way.take i ++ way.drop (i + 1) ++ newL e.S e.came (handCame e l)
structure HandOk (D : DS) (i : Nat) (l : Letter) (e : Mem) : Prop where
  hl : D.way[i]? = some l
  he : D.L[(l.j - 1).toNat]? = some e
  j : 1 ≤ l.j
  ok : PSok e.S
  co : CameOk e.S e.came
  lo : LetOk e.S l
  cn : cameGet (e.came.getD l.k []) l.i = none
  wl : D.way.length ≤ 10000
def sp__hand (K : PySem.W.Frag) (cP cD : Addr) : Sp := fun vs H Q _ => ∃ (x : Addr) (D : DS) (i : Nat) (l : Letter) (e : Mem), vs = [.ref x, .int (i : Int)] ∧ DAt K cP cD H x D ∧ HandOk D i l e ∧
  ∀ r H', But (fun b => b = x ∨ (b = e.a ∨ b ∈ e.m)) H H' → TF H H' → DAt K cP cD H' x { D with L := handL D.L e l, way := handWay D.way i e l } → Q r H'
theorem Txt.t_Desk__hand (T : Txt K mg cP cD) : C8.Met P w K mg base 10 cD "_hand" (sp__hand K cP cD) [] := by
  refine T.e_Desk__hand.met sc_Desk__hand (fun vs H Q E h => ?_) (fun f cdv A outer s H vs Q E hr h => ?_)
  · obtain ⟨x, D, i, l, e, rfl, _⟩ := h
    rfl
  · obtain ⟨x, D, i, l, e, rfl, hD, hh, q⟩ := h
    obtain ⟨dx, vs, vp, vg, c, ww, lg, ps, xl, xp, h1, h2, h3, h4, h5, h6, h7, h8, h9, h10⟩ := id hD.ex
    obtain ⟨w', xs, hw, hW, hA⟩ := h6.tupl
    cases hw
    have hxl := hA.len
    rw [List.length_map] at hxl
    have hil := (List.getElem?_eq_some_iff.mp hh.hl).1
    obtain ⟨v, hv, rv⟩ := hA.get (map_get hh.hl)
    obtain ⟨va, rfl, hV⟩ := rv.letterAt
    have hem := List.mem_of_getElem? hh.he
    have hP := h5.at_ e hem
    obtain ⟨dx', g', d', c', cds', vo', vw', vt', ds', hins, _⟩ := id hP.ex
    have hj := hh.j
    have hwl := hh.wl
    have hck : e.came[l.k]? = some (e.came.getD l.k []) := by
      have := hh.co.len
      have := hh.lo.k
      rw [List.getD_eq_getElem?_getD, List.getElem?_eq_getElem (show l.k < e.came.length by omega), Option.getD_some]
    have T_t_Party_take := T.t_Party_take (P := P) (w := w) (base := base)
    refine ⟨_, (pss_cons (ps_set (i := 2) sc_Desk__hand.nd rfl (Or.inl rfl) (pe_ix (ixT K) (fldK K (pv 0) rfl) (pv 1) (fun _ _ => rfl)))
      (pss_cons (ps_set (i := 3) sc_Desk__hand.nd rfl (Or.inl rfl) (C8.pe_mt T_t_Party_take hr (by decide) (pe_ix (ixT K) (fldK K (pv 0) rfl) (pe_op op_sub (pe_ix (ixT K) (pv 2) pe_int (fun _ _ => rfl)) pe_int) (fun _ _ => rfl)) (pa_cons (pv 2) pa_nil)))
      (pss_cons (ps_fld (pv 0) (pe_op (catT K) (pe_op (catT K) (pe_slice (slT K) (fldK K (pv 0) rfl) po_none (po_some (pv 1))) (pe_slice (slT K) (fldK K (pv 0) rfl) (po_some (pe_op op_add (pv 1) pe_int)) po_none)) (pv 3)) rfl)
      (pss_one (ps_ret (pv 3)))))), ?_⟩
    refine ⟨_, rfl, x, cD, dx, _, _, rfl, h1, T.clD, T.aD_way, dfs_way _ _ _ _ _ _ _, _, rfl, _, _, _, _, rfl, rfl, hW, atI_nat hv, ?_⟩
    refine ⟨_, rfl, x, cD, dx, _, _, rfl, h1, T.clD, T.aD_crew, dfs_crew _ _ _ _ _ _ _, _, rfl, _, _, 3, _, rfl, rfl, hV, at_of (j := 3) rfl rfl, _, _, rfl, rfl, _, _, _, _, rfl, rfl, h4, at_of (j := (l.j - 1).toNat) (by omega) (map_get hh.he), e.a, dx', _, rfl, hins, by rfl, _, rfl, ?_⟩
    refine ⟨e.a, e.S, e.m, e.came, .ref va, l, e.came.getD l.k [], rfl, hP, hh.ok, hh.co, rv, hh.lo, hck, hh.cn, fun r1 H1 b1 t1 hP1 rp1 => ?_⟩
    have nx : ¬ (x = e.a ∨ x ∈ e.m) := fun z => by
      rcases z with z | z
      · rw [z, hins] at h1
        cases h1
      · obtain ⟨kvs, q2⟩ := hP.mem x z
        rw [h1] at q2
        cases q2
    have h11 := b1 _ _ h1 nx
    have hC1 := h5.put hh.he b1 t1 hP1
    obtain ⟨m1, zs, rfl, hm1, rz⟩ := rp1.tupl
    have hzl := rz.len
    rw [List.length_map] at hzl
    have hnl : (newL e.S e.came (handCame e l)).length ≤ 540 := by
      have h1 := List.length_filter_le (fun x => decide (x ∉ madeL e.S e.came)) (madeL e.S (handCame e l))
      have h2 := madeL_len hh.ok (handCame e l)
      unfold newL
      omega
    have hzl2 : zs.length ≤ 540 := by
      have : zs.length = (newL e.S e.came (handCame e l)).length := hzl
      omega
    refine ⟨_, rfl, x, cD, dx, _, _, rfl, h11, T.clD, T.aD_way, dfs_way _ _ _ _ _ _ _, _, rfl, i, rfl, slA (t1.sqT hW) (cut_to _ i) fun c2 H2 e2 hc2 => ?_⟩
    have h12 := e2 _ _ h11
    refine ⟨_, rfl, x, cD, dx, _, _, rfl, h12, T.clD, T.aD_way, dfs_way _ _ _ _ _ _ _, _, rfl, _, _, rfl, rfl, _, rfl, noP (slA ((t1.trans e2.tf).sqT hW) (cut_from1 _ i) fun c3 H3 e3 hc3 => ?_)⟩
    refine catA (e3.tf.sqT hc2) hc3 (by rw [List.length_take, List.length_drop]; omega) fun c4 H4 e4 hc4 => ?_
    have e14 := (e2.trans e3).trans e4
    refine ⟨_, rfl, catA hc4 (e14.tf.sqT hm1) (by rw [List.length_append, List.length_take, List.length_drop]; omega) fun c5 H5 e5 hc5 => ?_⟩
    have e15 := e14.trans e5
    have h15 := e15 _ _ h11
    refine ⟨_, rfl, x, cD, dx, _, rfl, h15, T.clD, T.aD_way, by show 7 < 1000; decide, ?_⟩
    rw [dfs_putW]
    have b6 : But (fun b => b = x) H5 (upd H5 x (.ins cD dx (dfs vs vp vg (.ref c) (.ref c5) (.ref lg) (.ref ps)))) := (But.refl _ _).own rfl
    have t6 : TF H5 (upd H5 x (.ins cD dx (dfs vs vp vg (.ref c) (.ref c5) (.ref lg) (.ref ps)))) := TF.upd h15 plain_ins
    have t06 := t1.trans (e15.tf.trans t6)
    refine ⟨_, rfl, q _ _ ((b1.mono fun b hb => .inr hb).trans ((e15.but).trans (b6.mono fun b hb => .inl hb))) t06 ?_⟩
    refine ⟨dx, vs, vp, vg, c, c5, lg, ps, xl, xp, upd_same, h2.tf t06, h3.tf t06, ?_, (hC1.sm e15).desk h15 T.ne b6 t6, .tup (t6.sqT hc5) ?_, t06.sqT h7, h8, t06.sqT h9, h10⟩
    · have : refs (handL D.L e l) = refs D.L := map_set_same (fun z : Mem => V.ref z.a) (e' := { e with came := handCame e l }) hh.he rfl
      show SqT K _ c (refs (handL D.L e l))
      rw [this]
      exact t06.sqT h4
    · show RpAll K _ _ ((handWay D.way i e l).map Letter.data)
      unfold handWay
      rw [List.map_append, List.map_append]
      have hA6 := hA.tf t06
      exact ((hA6.takeAt i).app (hA6.dropAt (i + 1))).app ((rz.sm e15).tf t6)
theorem handOk_fresh {D : DS} {L' : List Mem} {i : Nat} {l : Letter} {e : Mem} {N : Nat} (h : HandOk D i l e) (hc : L'.map Mem.cont = D.L.map Mem.cont) : ∃ e', e' ∈ L' ∧ e'.S = e.S ∧ e'.came = e.came ∧ HandOk { D with L := L', N := N } i l e' := by
  have h1 := map_get (f := Mem.cont) h.he
  rw [← hc] at h1
  obtain ⟨e', he', hce⟩ := map_got h1
  have hS : e'.S = e.S := (congrArg (·.1) hce).symm
  have hcm : e'.came = e.came := (congrArg (·.2) hce).symm
  exact ⟨e', List.mem_of_getElem? he', hS, hcm, ⟨h.hl, he', h.j, by rw [hS]; exact h.ok, by rw [hS, hcm]; exact h.co, by rw [hS]; exact h.lo, by rw [hcm]; exact h.cn, h.wl⟩⟩
def sp_hand (K : PySem.W.Frag) (cP cD : Addr) : Sp := fun vs H Q _ => ∃ (x : Addr) (D : DS) (i : Nat) (l : Letter) (e : Mem), vs = [.ref x, .int (i : Int)] ∧ DAt K cP cD H x D ∧ HandOk D i l e ∧ D.L.length ≤ 9 ∧ (∀ e ∈ D.L, PSok e.S) ∧ D.N ≤ 100000 ∧
  ∀ r H' L', But (fun b => b = x) H H' → TF H H' → DAt K cP cD H' x { D with L := L', way := handWay D.way i e l, N := D.N + 1 } → L'.map Mem.cont = (handL D.L e l).map Mem.cont → Q r H'
theorem Txt.t_Desk_hand (T : Txt K mg cP cD) : C8.Met P w K mg base 11 cD "hand" (sp_hand K cP cD) [] := by
  refine T.e_Desk_hand.met sc_Desk_hand (fun vs H Q E h => ?_) (fun f cdv A outer s H vs Q E hr h => ?_)
  · obtain ⟨x, D, i, l, e, rfl, _⟩ := h
    rfl
  · obtain ⟨x, D, i, l, e, rfl, hD, hh, hLl, hok, hN, q⟩ := h
    obtain ⟨dx, vs, vp, vg, c, ww, lg, ps, xl, xp, h1, _⟩ := id hD.ex
    have T_t_Desk__letter_at := T.t_Desk__letter_at (P := P) (w := w) (base := base)
    have T_t_Desk__begin := T.t_Desk__begin (P := P) (w := w) (base := base)
    have T_t_Desk__hand := T.t_Desk__hand (P := P) (w := w) (base := base)
    refine ⟨_, (pss_cons (ps_expr (C8.pe_mt T_t_Desk__letter_at hr (by decide) (pv 0) (pa_cons (pv 1) pa_nil)))
      (pss_cons (ps_expr (C8.pe_mt T_t_Desk__begin hr (by decide) (pv 0) (pa_cons (pe_tup (pa_cons pe_str (pa_cons (pv 1) pa_nil))) pa_nil)))
      (pss_one (ps_ret (C8.pe_mt T_t_Desk__hand hr (by decide) (pv 0) (pa_cons (pv 1) pa_nil)))))), ?_⟩
    refine ⟨_, rfl, x, dx, _, rfl, h1, by rfl, _, rfl, x, D, i, l, rfl, hD, hh.hl, fun v rv => ?_⟩
    refine ⟨_, rfl, x, dx, _, rfl, h1, by rfl, _, rfl, by show 2 ≤ sizeLine; decide, fun t ht => ?_⟩
    have e1 := Same.new (o := .tup [V.str "hand", .int (i : Int)]) ht
    refine ⟨x, D, .ref t, rfl, hD.sm e1, hLl, hok, hN, fun H2 L2 b2 t2 hD2 hc2 hfr => ?_⟩
    obtain ⟨dx2, vs2, vp2, vg2, c2, ww2, lg2, ps2, xl2, xp2, k1, _⟩ := id hD2.ex
    obtain ⟨e', hem, hS, hcm, hh2⟩ := handOk_fresh (N := D.N + 1) hh hc2
    refine ⟨_, rfl, x, dx2, _, rfl, k1, by rfl, _, rfl, x, _, i, l, e', rfl, hD2, hh2, fun r H3 b3 t3 hD3 => ?_⟩
    have hw : handWay D.way i e' l = handWay D.way i e l := by unfold handWay handCame; rw [hS, hcm]
    have hfre := hfr e' hem
    have b23 : But (fun b => b = x) H H3 := fun b o hb hn => by
      refine b3 b o (b2 b o (e1 b o hb) hn) fun z => ?_
      have hb1 := e1 b o hb
      rcases z with z | z | z
      · exact hn z
      · rw [z, hfre.1] at hb1
        cases hb1
      · rw [hfre.2 b z] at hb1
        cases hb1
    refine q r H3 _ b23 (e1.tf.trans (t2.trans t3)) (by rw [← hw]; exact hD3) ?_
    unfold handL
    rw [List.map_set, List.map_set, hc2]
    congr 1
    unfold Mem.cont handCame
    rw [hS, hcm]
def sp_lie (K : PySem.W.Frag) (cP cD : Addr) : Sp := fun vs H Q _ => ∃ (x : Addr) (D : DS) (i : Nat) (l : Letter) (z : Int), vs = [.ref x, .int (i : Int), .int z] ∧ DAt K cP cD H x D ∧ D.way[i]? = some l ∧ 0 ≤ z ∧ z < D.p ∧ D.L.length ≤ 9 ∧ (∀ e ∈ D.L, PSok e.S) ∧ D.N ≤ 100000 ∧ D.way.length ≤ 10000 ∧
  ∀ r H' L', But (fun b => b = x) H H' → TF H H' → DAt K cP cD H' x { D with L := L', way := D.way.set i { l with x := z }, N := D.N + 1 } → L'.map Mem.cont = D.L.map Mem.cont → Q r H'
theorem Txt.t_Desk_lie (T : Txt K mg cP cD) : C8.Met P w K mg base 11 cD "lie" (sp_lie K cP cD) [] := by
  refine T.e_Desk_lie.met sc_Desk_lie (fun vs H Q E h => ?_) (fun f cdv A outer s H vs Q E hr h => ?_)
  · obtain ⟨x, D, i, l, z, rfl, _⟩ := h
    rfl
  · obtain ⟨x, D, i, l, z, rfl, hD, hl, hz0, hz1, hLl, hok, hN, hwl, q⟩ := h
    obtain ⟨dx, vs, vp, vg, c, ww, lg, ps, xl, xp, h1, h2, _⟩ := id hD.ex
    obtain ⟨sa, rfl, hS⟩ := h2.setting
    have hil := (List.getElem?_eq_some_iff.mp hl).1
    have T_t_Desk__letter_at := T.t_Desk__letter_at (P := P) (w := w) (base := base)
    have T_c_is_integer := T.c_is_integer (P := P) (w := w) (base := base)
    have T_t_Desk__begin := T.t_Desk__begin (P := P) (w := w) (base := base)
    refine ⟨_, (pss_cons (ps_set (i := 3) sc_Desk_lie.nd rfl (Or.inl rfl) (C8.pe_mt T_t_Desk__letter_at hr (by decide) (pv 0) (pa_cons (pv 1) pa_nil)))
      (pss_cons (ps_if (PW.pt (pw_or (pt_not (pt_val (C8.pe_c T_c_is_integer hr (by decide) (by rfl) (pa_cons (pv 2) pa_nil)))) (pw_or1 (pt_not (pt_chain op_le op_lt pe_int (pv 2) (pe_ix (ixT K) (fldK K (pv 0) rfl) pe_int (fun _ _ => rfl)))))))
        (pss_one ps_never)
        pss_nil)
      (pss_cons (ps_expr (C8.pe_mt T_t_Desk__begin hr (by decide) (pv 0) (pa_cons (pe_tup (pa_cons pe_str (pa_cons (pv 1) (pa_cons (pv 2) pa_nil)))) pa_nil)))
      (pss_cons (ps_set (i := 4) sc_Desk_lie.nd rfl (Or.inl rfl) (pe_op (catT K) (pe_slice (slT K) (pv 3) po_none (po_some pe_int)) (pe_tup (pa_cons (pv 2) pa_nil))))
      (pss_cons (ps_fld (pv 0) (pe_op (catT K) (pe_op (catT K) (pe_slice (slT K) (fldK K (pv 0) rfl) po_none (po_some (pv 1))) (pe_tup (pa_cons (pv 4) pa_nil))) (pe_slice (slT K) (fldK K (pv 0) rfl) (po_some (pe_op op_add (pv 1) pe_int)) po_none)) rfl)
      (pss_one (ps_ret (pv 4)))))))), ?_⟩
    refine ⟨_, rfl, x, dx, _, rfl, h1, by rfl, _, rfl, x, D, i, l, rfl, hD, hl, fun v rv => ?_⟩
    obtain ⟨va, rfl, hV⟩ := rv.letterAt
    refine ⟨_, rfl, z, rfl, true, rfl, ?_⟩
    refine ⟨_, rfl, _, _, rfl, rfl, true, congrArg V.bl (decide_eq_true hz0), _, rfl, x, cD, dx, _, _, rfl, h1, T.clD, T.aD_setting, dfs_setting _ _ _ _ _ _ _, _, _, 1, _, rfl, rfl, hS, at_of (j := 1) rfl rfl, _, _, rfl, rfl, true, congrArg V.bl (decide_eq_true hz1), ?_⟩
    refine ⟨_, rfl, x, dx, _, rfl, h1, by rfl, _, rfl, _, rfl, by show 3 ≤ sizeLine; decide, fun t ht => ?_⟩
    have e1 := Same.new (o := .tup [V.str "lie", .int (i : Int), .int z]) ht
    refine ⟨x, D, .ref t, rfl, hD.sm e1, hLl, hok, hN, fun H2 L2 b2 t2 hD2 hc2 hfr => ?_⟩
    obtain ⟨dx2, vs2, vp2, vg2, c2, ww2, lg2, ps2, xl2, xp2, k1, k2, k3, k4, k5, k6, k7, k8, k9, k10⟩ := id hD2.ex
    obtain ⟨w', xs, hw, hW, hA⟩ := k6.tupl
    cases hw
    have hxl := hA.len
    rw [List.length_map] at hxl
    have hxl' : xs.length = D.way.length := hxl
    have t02 := e1.tf.trans t2
    refine ⟨_, rfl, 4, rfl, slA (t02.sqT hV) (cut_to _ 4) fun c3 H3 e3 hc3 => ⟨_, rfl, by show 1 ≤ sizeLine; decide, fun t4 ht4 => ?_⟩⟩
    have e4 := Same.new (o := .tup [V.int z]) ht4
    refine catA (e4.tf.sqT hc3) sqT_new (by simp) fun c5 H5 e5 hc5 => ?_
    have e25 := (e3.trans e4).trans e5
    have h15 := e25 _ _ k1
    have rl : Rp K H5 (.ref c5) (Letter.data { l with x := z }) := .tup hc5 (.cons (.str _) (.cons (.int _) (.cons (.int _) (.cons (.int _) (.one (.int _))))))
    refine ⟨_, rfl, x, cD, dx2, _, _, rfl, h15, T.clD, T.aD_way, dfs_way _ _ _ _ _ _ _, _, rfl, i, rfl, slA (e25.tf.sqT hW) (cut_to _ i) fun c6 H6 e6 hc6 => ⟨_, rfl, by show 1 ≤ sizeLine; decide, fun t7 ht7 => ?_⟩⟩
    have e7 := Same.new (o := .tup [V.ref c5]) ht7
    refine catA (e7.tf.sqT hc6) sqT_new (by rw [List.length_take]; simp only [List.length_cons, List.length_nil]; omega) fun c8 H8 e8 hc8 => ?_
    have e58 := (e6.trans e7).trans e8
    have h18 := e58 _ _ h15
    refine ⟨_, rfl, x, cD, dx2, _, _, rfl, h18, T.clD, T.aD_way, dfs_way _ _ _ _ _ _ _, _, rfl, _, _, rfl, rfl, _, rfl, noP (slA ((e25.trans e58).tf.sqT hW) (cut_from1 _ i) fun c9 H9 e9 hc9 => ?_)⟩
    refine catA (e9.tf.sqT hc8) hc9 (by simp only [List.length_append, List.length_take, List.length_drop, List.length_cons, List.length_nil]; omega) fun cA HA eA hcA => ?_
    have e5A := (e58.trans e9).trans eA
    have h1A := e5A _ _ h15
    refine ⟨_, rfl, x, cD, dx2, _, rfl, h1A, T.clD, T.aD_way, by show 7 < 1000; decide, ?_⟩
    rw [dfs_putW]
    have bB : But (fun b => b = x) HA (upd HA x (.ins cD dx2 (dfs vs2 vp2 vg2 (.ref c2) (.ref cA) (.ref lg2) (.ref ps2)))) := (But.refl _ _).own rfl
    have tB : TF HA (upd HA x (.ins cD dx2 (dfs vs2 vp2 vg2 (.ref c2) (.ref cA) (.ref lg2) (.ref ps2)))) := TF.upd h1A plain_ins
    have e2A := e25.trans e5A
    have t2B := e2A.tf.trans tB
    refine ⟨_, rfl, q _ _ L2 ((e1.but.trans b2).trans (e2A.but.trans bB)) (t02.trans t2B) ?_ hc2⟩
    refine ⟨dx2, vs2, vp2, vg2, c2, cA, lg2, ps2, xl2, xp2, upd_same, k2.tf t2B, k3.tf t2B, t2B.sqT k4, (k5.sm e2A).desk h1A T.ne bB tB, .tup (tB.sqT hcA) ?_, t2B.sqT k7, k8, t2B.sqT k9, k10⟩
    show RpAll K _ _ ((D.way.set i { l with x := z }).map Letter.data)
    rw [List.set_eq_take_append_cons_drop, if_pos hil, List.map_append, List.map_cons]
    have hA6 := hA.tf t2B
    have := ((hA6.takeAt i).app (.one ((rl.sm e5A).tf tB))).app (hA6.dropAt (i + 1))
    simp only [List.append_assoc] at this ⊢
    exact this
end
end U

namespace U
open PySem PySem.Spec PyProof.Rows L2
theorem cameOk_empty {S : PS} : CameOk S (emptyC S) := by
  refine ⟨by unfold emptyC; rw [List.length_map], fun c hc => ?_⟩
  unfold emptyC at hc
  obtain ⟨_, _, rfl⟩ := List.mem_map.mp hc
  exact ⟨by simp, by simp⟩
def firstDS (p n t : Int) (rows : List Row) (L : List Mem) : DS := ⟨p, n, t, rows, L, L.flatMap fun e => madeL e.S e.came, 0⟩
section
variable {P : Program} {w : World} {K : PySem.W.Frag} {mg : Str → Option Value} {base : Heap} {cP cD : Addr}
def sp_Desk_init (K : PySem.W.Frag) (cP cD : Addr) : Sp := fun vs H Q _ => ∃ (x dx : Addr) (p n t : Int) (v u z y : V) (rows : List Row) (ins cs : List Int), vs = [.ref x, v, u, z, y] ∧ H x = some (.ins cD dx []) ∧ Rp K H v (setD p n t) ∧ Rp K H u (progD rows) ∧ Rp K H z (PI ins) ∧ Rp K H y (PI cs) ∧ PrOk p n t rows ins cs ∧
  ∀ H' L, But (fun b => b = x) H H' → TF H H' → DAt K cP cD H' x (firstDS p n t rows L) → CrewOk p n t rows ins L → Q .non H'
theorem Txt.m_Desk (T : Txt K mg cP cD) : C8.Mak P w K mg base 10 "Desk" cD (sp_Desk_init K cP cD) [] := by
  refine T.i_Desk.mak sc_Desk___init__ (fun vs H Q E h => ?_) (fun f cdv A outer s H vs Q E hr h => ?_)
  · obtain ⟨x, dx, p, n, t, v, u, z, y, rows, ins, cs, rfl, _⟩ := h
    rfl
  · obtain ⟨x, dx, p, n, t, v, u, z, y, rows, ins, cs, rfl, hx, hv, hu, hz, hy, ok, q⟩ := h
    have st : ∀ (H1 : Hp) (fs fs' : List (Str × V)), H1 x = some (.ins cD dx fs) → ∃ H2, H2 = upd H1 x (.ins cD dx fs') ∧ But (fun b => b = x) H1 H2 ∧ TF H1 H2 ∧ H2 x = some (.ins cD dx fs') := fun H1 fs fs' h => ⟨_, rfl, (But.refl _ _).own rfl, TF.upd h plain_ins, upd_same⟩
    have T_c_crew_of := T.c_crew_of (P := P) (w := w) (base := base)
    have T_c_first_letters := T.c_first_letters (P := P) (w := w) (base := base)
    refine ⟨_, (pss_cons (ps_fld (pv 0) (pv 1) rfl)
      (pss_cons (ps_fld (pv 0) (pv 2) rfl)
      (pss_cons (ps_fld (pv 0) (pe_tup (pa_cons (pv 3) (pa_cons (pv 4) pa_nil))) rfl)
      (pss_cons (ps_fld (pv 0) (pe_tupleOf (by rfl) T.n_tuple (C8.pe_c T_c_crew_of hr (by decide) (by rfl) (pa_cons (pv 1) (pa_cons (pv 2) (pa_cons (pv 3) (pa_cons (pv 4) pa_nil)))))) rfl)
      (pss_cons (ps_fld (pv 0) (pe_tupleOf (by rfl) T.n_tuple (C8.pe_c T_c_first_letters hr (by decide) (by rfl) (pa_cons (fldK K (pv 0) rfl) pa_nil))) rfl)
      (pss_cons (ps_fld (pv 0) (pe_tup pa_nil) rfl)
      (pss_one (ps_fld (pv 0) (pe_tup pa_nil) rfl)))))))), ?_⟩
    refine ⟨_, rfl, _, rfl, x, cD, dx, [], rfl, hx, T.clD, T.aD_setting, by show 0 < 1000; decide, ?_⟩
    obtain ⟨H1, eH1, b1, t1, hx1⟩ := st H [] (putF "_setting" v []) hx
    rw [← eH1]
    refine ⟨_, rfl, _, rfl, x, cD, dx, _, rfl, hx1, T.clD, T.aD_program, by show 1 < 1000; decide, ?_⟩
    obtain ⟨H2, eH2, b2, t2, hx2⟩ := st H1 _ (putF "_program" u (putF "_setting" v [])) hx1
    rw [← eH2]
    refine ⟨_, rfl, _, rfl, by show 2 ≤ sizeLine; decide, fun g hg => ?_⟩
    have e3 := Same.new (o := .tup [z, y]) hg
    refine ⟨_, rfl, x, cD, dx, _, rfl, e3 _ _ hx2, T.clD, T.aD_given, by show 2 < 1000; decide, ?_⟩
    obtain ⟨H4, eH4, b4, t4, hx4⟩ := st _ _ (putF "_given" (.ref g) (putF "_program" u (putF "_setting" v []))) (e3 _ _ hx2)
    rw [← eH4]
    have b04 := ((b1.trans b2).trans e3.but).trans b4
    have t04 := ((t1.trans t2).trans e3.tf).trans t4
    refine ⟨_, rfl, _, rfl, _, rfl, _, rfl, p, n, t, v, u, z, y, rows, ins, cs, rfl, hv.tf t04, hu.tf t04, hz.tf t04, hy.tf t04, ok, fun l5 H5 L e5 hl5 hL5 hC5 hK5 => ?_⟩
    refine .inl ⟨l5, refs L, rfl, SqL.of hL5, fun c6 hc6 => ?_⟩
    have e6 := Same.new (o := .tup (refs L)) hc6
    have e46 := e5.trans e6
    have hx6 := e46 _ _ hx4
    refine ⟨_, rfl, x, cD, dx, _, rfl, hx6, T.clD, T.aD_crew, by show 3 < 1000; decide, ?_⟩
    obtain ⟨H7, eH7, b7, t7, hx7⟩ := st _ _ (putF "_crew" (.ref c6) (putF "_given" (.ref g) (putF "_program" u (putF "_setting" v [])))) hx6
    rw [← eH7]
    have hc7 : SqT K H7 c6 (refs L) := t7.sqT sqT_new
    have hC7 : CrewAt K cP H7 L := (hC5.sm e6).desk hx6 T.ne b7 t7
    have b07 := (b04.trans e46.but).trans b7
    have t07 := (t04.trans e46.tf).trans t7
    have hLl : L.length ≤ 9 := by
      have := congrArg List.length hK5.js
      rw [List.length_map, partsM_len] at this
      have := ok.set.n1
      omega
    refine ⟨_, rfl, x, cD, dx, _, _, rfl, hx7, T.clD, T.aD_crew, by rfl, c6, L, rfl, hc7, hC7, hLl, fun e he => ⟨(hK5.ok e he).ok, by rw [hK5.cm e he]; exact cameOk_empty⟩, fun l8 zs H8 e8 hl8 hL8 rz => ?_⟩
    refine .inl ⟨l8, zs, rfl, SqL.of hL8, fun w9 hw9 => ?_⟩
    have e9 := Same.new (o := .tup zs) hw9
    have e79 := e8.trans e9
    have hx9 := e79 _ _ hx7
    refine ⟨_, rfl, x, cD, dx, _, rfl, hx9, T.clD, T.aD_way, by show 4 < 1000; decide, ?_⟩
    obtain ⟨HA, eHA, bA, tA, hxA⟩ := st _ _ (putF "_way" (.ref w9) (putF "_crew" (.ref c6) (putF "_given" (.ref g) (putF "_program" u (putF "_setting" v []))))) hx9
    rw [← eHA]
    have hWA : Rp K HA (.ref w9) (.tuple ((L.flatMap fun e => madeL e.S e.came).map Letter.data)) := .tup (tA.sqT sqT_new) ((rz.sm e9).tf tA)
    have hCA : CrewAt K cP HA L := (hC7.sm e79).desk hx9 T.ne bA tA
    have b0A := (b07.trans e79.but).trans bA
    have t7A := e79.tf.trans tA
    have t0A := t07.trans t7A
    refine ⟨by show 0 ≤ sizeLine; decide, fun gB hgB => ?_⟩
    have eB := Same.new (o := .tup []) hgB
    refine ⟨_, rfl, x, cD, dx, _, rfl, eB _ _ hxA, T.clD, T.aD_log, by show 5 < 1000; decide, ?_⟩
    obtain ⟨HC, eHC, bC, tC, hxC⟩ := st _ _ (putF "_log" (.ref gB) (putF "_way" (.ref w9) (putF "_crew" (.ref c6) (putF "_given" (.ref g) (putF "_program" u (putF "_setting" v [])))))) (eB _ _ hxA)
    rw [← eHC]
    have hlC : SqT K HC gB [] := tC.sqT sqT_new
    have hCC := (hCA.sm eB).desk (eB _ _ hxA) T.ne bC tC
    have tAC := eB.tf.trans tC
    have b0C := (b0A.trans eB.but).trans bC
    refine ⟨by show 0 ≤ sizeLine; decide, fun gD hgD => ?_⟩
    have eD := Same.new (o := .tup []) hgD
    refine ⟨_, rfl, x, cD, dx, _, rfl, eD _ _ hxC, T.clD, T.aD_past, by show 6 < 1000; decide, ?_⟩
    obtain ⟨HE, eHE, bE, tE, hxE⟩ := st _ _ (putF "_past" (.ref gD) (putF "_log" (.ref gB) (putF "_way" (.ref w9) (putF "_crew" (.ref c6) (putF "_given" (.ref g) (putF "_program" u (putF "_setting" v []))))))) (eD _ _ hxC)
    rw [← eHE]
    have hpE : SqT K HE gD [] := tE.sqT sqT_new
    have tCE := eD.tf.trans tE
    have tAE := tAC.trans tCE
    have t0E := t0A.trans tAE
    refine q HE L ((b0C.trans eD.but).trans bE) t0E ⟨dx, v, u, .ref g, c6, w9, gB, gD, [], [], hxE, hv.tf t0E, hu.tf t0E, (t7A.trans tAE).sqT hc7, (hCC.sm eD).desk (eD _ _ hxC) T.ne bE tE, hWA.tf tAE, tCE.sqT hlC, Nat.le_refl _, hpE, Nat.le_refl _⟩ hK5
end
end U

namespace U
open PySem PySem.Spec PyProof.Rows L2
theorem cutS {t u : TS} {D : Ends} {σ : L2.St} {H : Hp} (I : L2.St → Hp → Prop) (h1 : ∀ nx : L2.St → Hp → Prop, (∀ σ' H', I σ' H' → nx σ' H') → t { D with nx := nx } σ H) (h2 : ∀ σ' H', I σ' H' → u D σ' H') : tSeq t u D σ H := h1 (u D) h2
/-- the law's box: its digits and its place -/
def Box (H : Hp) (b dg : Addr) : Prop := ∃ (ds : List Int) (pos : Nat), H b = some (.lst [.ref dg, .int (pos : Int)]) ∧ H dg = some (.lst (ds.map V.int))
section
variable {P : Program} {w : World} {K : PySem.W.Frag} {mg : Str → Option Value} {base : Heap} {cP cD : Addr}
/-! ### the law's cells -/
def sp_cell (K : PySem.W.Frag) : Sp := fun vs H Q _ => ∃ (s : Addr) (ns : List Int) (k : Nat), vs = [.ref s, .int (k : Int)] ∧ SqL K H s (ns.map V.int) ∧ ∀ z : Int, Q (.int z) H
theorem Txt.c__law_cell (T : Txt K mg cP cD) : C8.Cal P w K mg base 1 "_law_cell" (sp_cell K) [] := by
  refine T.d__law_cell.cal sc__law_cell (fun vs H Q E h => ?_) (fun f cdv A outer s H vs Q E hr h => ?_)
  · obtain ⟨s, ns, k, rfl, _⟩ := h
    rfl
  · obtain ⟨a, ns, k, rfl, hs, q⟩ := h
    refine ⟨_, (pss_cons (ps_if (pt_cmpR op_lt (pv 1) (pe_callB (lenS K) (by rfl) T.n_len PySem.boot_len (pa_cons (pv 0) pa_nil)) (nomark _))
        (pss_one (ps_ret (pe_ix (ixL K) (pv 0) (pv 1) (fun _ _ => rfl))))
        pss_nil)
      (pss_one (ps_ret pe_int))), ?_⟩
    refine ⟨_, rfl, _, rfl, a, _, rfl, .inl hs, _, _, rfl, rfl, _, rfl, ?_⟩
    refine ite2 (fun hc => ?_) (fun hc => q 0)
    have hk := of_decide_eq_true hc
    rw [List.length_map] at hk
    exact ⟨_, rfl, _, rfl, _, _, _, _, rfl, rfl, hs, map_at (show k < ns.length by omega), q _⟩
def sp_digits (K : PySem.W.Frag) : Sp := fun vs H Q _ => ∃ (s : Addr) (ns : List Int), vs = [.ref s, .int 0, .int 63] ∧ SqL K H s (ns.map V.int) ∧ ∀ l ds H', Same H H' → H l = none → H' l = some (.lst (List.map V.int ds)) → Q (.ref l) H'
theorem Txt.c__law_digits (T : Txt K mg cP cD) : C8.Cal P w K mg base 2 "_law_digits" (sp_digits K) [] := by
  refine T.d__law_digits.cal sc__law_digits (fun vs H Q E h => ?_) (fun f cdv A outer s H vs Q E hr h => ?_)
  · obtain ⟨s, ns, rfl, _⟩ := h
    rfl
  · obtain ⟨a, ns, rfl, hs, q⟩ := h
    have T_c__law_cell := T.c__law_cell (P := P) (w := w) (base := base)
    refine ⟨_, (pss_cons (ps_set (i := 3) sc__law_digits.nd rfl (Or.inl rfl) (pe_lst pa_nil))
      (pss_cons (ps_for PassesOwn.never rfl (pi_range2 (by rfl) T.n_range (pa_cons (pv 1) (pa_cons (pv 2) pa_nil))) (pg_name (i := 4) sc__law_digits.nd rfl (Or.inl rfl))
        (pss_cons (ps_set (i := 5) sc__law_digits.nd rfl (Or.inl rfl) (C8.pe_c T_c__law_cell hr (by decide) (by rfl) (pa_cons (pv 0) (pa_cons (pv 4) pa_nil))))
        (pss_cons (ps_if (pt_cmpR op_lt (pv 5) pe_int (nomark _))
          (pss_one (ps_set (i := 5) sc__law_digits.nd rfl (Or.inl rfl) (pe_op op_sub pe_int (pe_op op_mul pe_int (pv 5)))))
          pss_nil)
        (pss_one (ps_if (pt_cmpR op_ge (pv 5) (pe_op op_pow pe_int pe_int) (nomark _))
          (pss_one (ps_for PassesOwn.never rfl (pi_range1 (by rfl) T.n_range (pa_cons pe_int pa_nil)) (pg_name (i := 6) sc__law_digits.nd rfl (Or.inl rfl))
            (pss_one (ps_if (pt_cmpR op_gt (pv 5) pe_int (nomark _))
              (pss_cons (ps_expr (pe_bm PySem.F.plainAttrs_list PySem.F.slot_list_append PySem.F.type_list_append mt_append (pv 3) (pa_cons (pe_op op_mod (pe_callTy call_int1 (by rfl) T.n_int (by decide +kernel) (pa_cons (pv 5) pa_nil)) pe_int) pa_nil)))
              (pss_one (ps_set (i := 5) sc__law_digits.nd rfl (Or.inl rfl) (pe_op op_fdiv (pv 5) pe_int))))
              pss_nil))))
          (pss_cons (ps_set (i := 7) sc__law_digits.nd rfl (Or.inl rfl) (pe_op op_mod (pe_callTy call_int1 (by rfl) T.n_int (by decide +kernel) (pa_cons (pe_op op_add (pe_op op_add (pe_op op_mul (pv 5) pe_int) (pe_op op_mul (pv 4) pe_int)) pe_int) pa_nil)) pe_int))
          (pss_one (ps_for PassesOwn.never rfl (pi_range1 (by rfl) T.n_range (pa_cons pe_int pa_nil)) (pg_name (i := 6) sc__law_digits.nd rfl (Or.inl rfl))
            (pss_cons (ps_set (i := 7) sc__law_digits.nd rfl (Or.inl rfl) (pe_op op_mod (pe_callTy call_int1 (by rfl) T.n_int (by decide +kernel) (pa_cons (pe_op op_add (pe_op op_add (pe_op op_mul (pv 7) pe_int) (pe_op op_mul pe_int (pv 6))) pe_int) pa_nil)) pe_int))
            (pss_one (ps_expr (pe_bm PySem.F.plainAttrs_list PySem.F.slot_list_append PySem.F.type_list_append mt_append (pv 3) (pa_cons (pe_op op_mod (pe_callTy call_int1 (by rfl) T.n_int (by decide +kernel) (pa_cons (pe_op op_fdiv (pv 7) pe_int) pa_nil)) pe_int) pa_nil)))))))))))))
      (pss_one (ps_ret (pv 3))))), ?_⟩
    refine ⟨Nat.zero_le _, fun l0 hl0 => ?_⟩
    have e0 := Same.new (o := .lst []) hl0
    refine ⟨_, rfl, _, rfl, 0, 63, rfl, by decide, for_range (lo := 0) (n := 63)
      (fun i σ H' => ∃ y1 y2 y3 y4, ∃ ds : List Int, σ = [some (.ref a), some (.int 0), some (.int 63), some (.ref l0), y1, y2, y3, y4] ∧ Same H H' ∧ H' l0 = some (.lst (ds.map V.int)) ∧ ds.length ≤ 60 * i)
      ⟨none, none, none, none, [], rfl, e0, upd_same, by simp⟩ ?_ ?_⟩
    · rintro i σ H1 hi ⟨y1, y2, y3, y4, ds, rfl, e1, hl1, hdl⟩
      have ei : (0 : Int) + ((i : Nat) : Int) = ((i : Nat) : Int) := Int.zero_add _
      rw [ei]
      refine ⟨_, rfl, _, rfl, a, ns, i, rfl, e1.seq hs, fun c => ?_⟩
      dsimp only
      refine cutS (fun σ' H' => H' = H1 ∧ ∃ c, σ' = [some (.ref a), some (.int 0), some (.int 63), some (.ref l0), some (.int (i : Int)), some (.int c), y3, y4]) (fun nx hn => ?_) ?_
      · refine ⟨_, rfl, _, _, rfl, rfl, _, rfl, ite2 (fun hc => ?_) (fun hc => hn _ _ ⟨rfl, c, rfl⟩)⟩
        exact ⟨_, rfl, _, _, rfl, rfl, .inl (by constructor <;> omega), _, _, rfl, rfl, hn _ _ ⟨rfl, _, rfl⟩⟩
      · rintro σ' H' ⟨rfl, c, rfl⟩
        have ap : ∀ (H2 : Hp) (ds : List Int) (z : Int), Same H H2 → H2 l0 = some (.lst (ds.map V.int)) → Same H (upd H2 l0 (.lst (ds.map V.int ++ [.int z]))) ∧ upd H2 l0 (.lst (ds.map V.int ++ [.int z])) l0 = some (.lst ((ds ++ [z]).map V.int)) := fun H2 ds z e h => ⟨e.mut hl0, by rw [upd_same, List.map_append]; rfl⟩
        have hdl9 : ds.length ≤ 3780 := by omega
        refine ⟨_, rfl, _, _, rfl, rfl, ⟨by decide, by decide, by decide⟩, _, _, rfl, rfl, _, rfl, ite2 (fun hc => ?_) (fun hc => ?_)⟩
        · refine ⟨60, rfl, by decide, by decide, for_range (lo := 0) (n := 60)
            (fun m σ H' => ∃ y2 c, ∃ ds : List Int, σ = [some (.ref a), some (.int 0), some (.int 63), some (.ref l0), some (.int (i : Int)), some (.int c), y2, y4] ∧ Same H H' ∧ H' l0 = some (.lst (ds.map V.int)) ∧ ds.length ≤ 60 * i + m)
            ⟨_, c, ds, rfl, e1, hl1, by omega⟩ ?_ ?_⟩
          · rintro m σ H2 hm ⟨y2, c, ds, rfl, e2, hl2, hdl2⟩
            refine ⟨_, rfl, _, _, rfl, rfl, _, rfl, ite2 (fun hc => ?_) (fun hc => ⟨_, c, ds, rfl, e2, hl2, by omega⟩)⟩
            refine ⟨_, rfl, .inl ⟨rfl, _, SqL.of hl2⟩, _, rfl, Or.inl ⟨_, rfl, _, _, rfl, rfl, by show (0 : Int) < 1000; decide, ?_⟩⟩
            obtain ⟨u1, u2⟩ := ap H2 ds (c % 1000) e2 hl2
            refine ⟨l0, _, _, rfl, rfl, hl2, by rw [List.length_map]; exact small' (by omega), ?_⟩
            exact ⟨_, rfl, _, _, rfl, rfl, ⟨by decide, by decide⟩, _, _, _, rfl, u1, u2, by rw [List.length_append]; simp only [List.length_cons, List.length_nil]; omega⟩
          · rintro σ H2 ⟨y2, c, ds, rfl, e2, hl2, hdl2⟩
            exact ⟨_, _, _, _, ds, rfl, e2, hl2, by omega⟩
        · refine ⟨_, rfl, _, _, rfl, rfl, .inr (by constructor <;> decide), _, rfl, _, _, rfl, rfl, .inr (by constructor <;> decide), _, _, rfl, rfl, _, _, rfl, rfl, Or.inl ⟨_, rfl, _, _, rfl, rfl, by show (0 : Int) < 2147483647; decide, ?_⟩⟩
          have sm : ∀ z : Int, 0 ≤ z % 2147483647 ∧ z % 2147483647 < 2147483647 := fun z => ⟨Int.emod_nonneg _ (by decide), Int.emod_lt_of_pos _ (by decide)⟩
          refine ⟨12, rfl, by decide, by decide, for_range (lo := 0) (n := 12)
            (fun m σ H' => ∃ y2, ∃ sd : Int, ∃ ds : List Int, σ = [some (.ref a), some (.int 0), some (.int 63), some (.ref l0), some (.int (i : Int)), some (.int c), y2, some (.int sd)] ∧ (0 ≤ sd ∧ sd < 2147483647) ∧ Same H H' ∧ H' l0 = some (.lst (ds.map V.int)) ∧ ds.length ≤ 60 * i + m)
            ⟨_, _, ds, rfl, sm _, e1, hl1, by omega⟩ ?_ ?_⟩
          · rintro m σ H2 hm ⟨y2, sd, ds, rfl, hsd, e2, hl2, hdl2⟩
            refine ⟨_, rfl, _, _, rfl, rfl, .inr (by constructor <;> decide), _, rfl, _, _, rfl, rfl, .inl (by constructor <;> decide), _, _, rfl, rfl, _, _, rfl, rfl, Or.inl ⟨_, rfl, _, _, rfl, rfl, by show (0 : Int) < 2147483647; decide, ?_⟩⟩
            refine ⟨_, rfl, .inl ⟨rfl, _, SqL.of hl2⟩, _, rfl, _, _, rfl, rfl, ⟨by decide, by decide⟩, Or.inl ⟨_, rfl, _, _, rfl, rfl, by show (0 : Int) < 1000; decide, ?_⟩⟩
            refine ⟨l0, _, _, rfl, rfl, hl2, by rw [List.length_map]; exact small' (by omega), ?_⟩
            obtain ⟨u1, u2⟩ := ap H2 ds _ e2 hl2
            exact ⟨_, _, _, rfl, sm _, u1, u2, by rw [List.length_append]; simp only [List.length_cons, List.length_nil]; omega⟩
          · rintro σ H2 ⟨y2, sd, ds, rfl, hsd, e2, hl2, hdl2⟩
            exact ⟨_, _, _, _, ds, rfl, e2, hl2, by omega⟩
    · rintro σ H1 ⟨y1, y2, y3, y4, ds, rfl, e1, hl1, hdl⟩
      exact ⟨_, rfl, q l0 ds H1 e1 hl0 hl1⟩
/-! ### draws -/
def sp_draw (K : PySem.W.Frag) : Sp := fun vs H Q _ => ∃ (b dg : Addr) (many : Int), vs = [.ref b, .int many] ∧ Box H b dg ∧ 0 < many ∧ ∀ (z : Int) H', 0 ≤ z → z < many → But (fun a => a = b) H H' → TF H H' → Box H' b dg → Q (.int z) H'
theorem Txt.c__law_draw (T : Txt K mg cP cD) : C8.Cal P w K mg base 1 "_law_draw" (sp_draw K) [] := by
  refine T.d__law_draw.cal sc__law_draw (fun vs H Q E h => ?_) (fun f cdv A outer s H vs Q E hr h => ?_)
  · obtain ⟨b, dg, many, rfl, _⟩ := h
    rfl
  · obtain ⟨b, dg, many, rfl, ⟨ds, pos, hb, hd⟩, hm, q⟩ := h
    refine ⟨_, (pss_cons (ps_set (i := 2) sc__law_draw.nd rfl (Or.inl rfl) (pe_ix (ixL K) (pv 0) pe_int (fun _ _ => rfl)))
      (pss_cons (ps_asg (pe_op op_add (pv 2) pe_int) (pg_sub (pv 0) pe_int set_list))
      (pss_cons (ps_if (pt_cmpR op_lt (pv 2) (pe_callB (lenS K) (by rfl) T.n_len PySem.boot_len (pa_cons (pe_ix (ixL K) (pv 0) pe_int (fun _ _ => rfl)) pa_nil)) (nomark _))
        (pss_one (ps_ret (pe_op op_mod (pe_callTy call_int1 (by rfl) T.n_int (by decide +kernel) (pa_cons (pe_ix (ixL K) (pe_ix (ixL K) (pv 0) pe_int (fun _ _ => rfl)) (pv 2) (fun _ _ => rfl)) pa_nil)) (pv 1))))
        pss_nil)
      (pss_one (ps_ret pe_int))))), ?_⟩
    refine ⟨_, rfl, _, _, 1, _, rfl, rfl, SqL.of hb, at_of (j := 1) rfl rfl, ?_⟩
    refine ⟨_, rfl, _, _, rfl, rfl, _, rfl, b, _, 1, 1, rfl, rfl, hb, by rfl, ?_⟩
    have ndb : dg ≠ b := fun e => by
      rw [e, hb] at hd
      cases ds with
      | nil => cases hd
      | cons d r => cases hd
    have hb1 : upd H b (.lst ([V.ref dg, .int (pos : Int)].set 1 (.int ((pos : Int) + 1)))) b = some (.lst [.ref dg, .int (((pos + 1 : Nat)) : Int)]) := upd_same
    have b1 : But (fun a => a = b) H (upd H b (.lst ([V.ref dg, .int (pos : Int)].set 1 (.int ((pos : Int) + 1))))) := (But.refl _ _).own rfl
    have t1 : TF H (upd H b (.lst ([V.ref dg, .int (pos : Int)].set 1 (.int ((pos : Int) + 1))))) := TF.upd hb plain_lst
    have hd1 : upd H b (.lst ([V.ref dg, .int (pos : Int)].set 1 (.int ((pos : Int) + 1)))) dg = some (.lst (ds.map V.int)) := by rw [upd_ne ndb]; exact hd
    generalize upd H b (.lst ([V.ref dg, .int (pos : Int)].set 1 (.int ((pos : Int) + 1)))) = H1 at hb1 b1 t1 hd1 ⊢
    have hB1 : Box H1 b dg := ⟨ds, pos + 1, hb1, hd1⟩
    refine ⟨_, rfl, _, rfl, _, _, 0, _, rfl, rfl, SqL.of hb1, at_of (j := 0) rfl rfl, dg, _, rfl, .inl (SqL.of hd1), _, _, rfl, rfl, _, rfl, ite2 (fun hc => ?_) (fun hc => q 0 H1 (Int.le_refl _) hm b1 t1 hB1)⟩
    have hk := of_decide_eq_true hc
    rw [List.length_map] at hk
    exact ⟨_, rfl, _, _, 0, _, rfl, rfl, SqL.of hb1, at_of (j := 0) rfl rfl, _, rfl, _, _, _, _, rfl, rfl, SqL.of hd1, map_at (show pos < ds.length by omega), Or.inl ⟨_, rfl, _, rfl, _, _, rfl, rfl, hm, q _ H1 (Int.emod_nonneg _ (by omega)) (Int.emod_lt_of_pos _ hm) b1 t1 hB1⟩⟩
def sp_pick (K : PySem.W.Frag) : Sp := fun vs H Q _ => ∃ (b dg l : Addr) (xs : List V), vs = [.ref b, .ref l] ∧ Box H b dg ∧ H l = some (.lst xs) ∧ l ≠ b ∧ 1 ≤ xs.length ∧ ∀ (i : Nat) (x : V) H', xs[i]? = some x → But (fun a => a = b) H H' → TF H H' → Box H' b dg → Q x H'
theorem Txt.c__law_pick (T : Txt K mg cP cD) : C8.Cal P w K mg base 2 "_law_pick" (sp_pick K) [] := by
  refine T.d__law_pick.cal sc__law_pick (fun vs H Q E h => ?_) (fun f cdv A outer s H vs Q E hr h => ?_)
  · obtain ⟨b, dg, l, xs, rfl, _⟩ := h
    rfl
  · obtain ⟨b, dg, l, xs, rfl, hB, hl, hlb, hx, q⟩ := h
    have T_c__law_draw := T.c__law_draw (P := P) (w := w) (base := base)
    refine ⟨_, (pss_one (ps_ret (pe_ix (ixL K) (pv 1) (pe_op op_mod (pe_callTy call_int1 (by rfl) T.n_int (by decide +kernel) (pa_cons (C8.pe_c T_c__law_draw hr (by decide) (by rfl) (pa_cons (pv 0) (pa_cons pe_int pa_nil))) pa_nil)) (pe_callB (lenS K) (by rfl) T.n_len PySem.boot_len (pa_cons (pv 1) pa_nil))) (fun _ _ => rfl)))), ?_⟩
    refine ⟨_, rfl, _, rfl, b, dg, 900, rfl, hB, by decide, fun z H1 hz0 hz1 b1 t1 hB1 => Or.inl ⟨_, rfl, ?_⟩⟩
    have hl1 := b1 _ _ hl hlb
    have h0 : 0 ≤ z % (xs.length : Int) := Int.emod_nonneg _ (by omega)
    have h1 : z % (xs.length : Int) < (xs.length : Int) := Int.emod_lt_of_pos _ (by omega)
    obtain ⟨i, hi⟩ : ∃ i : Nat, z % (xs.length : Int) = (i : Int) := ⟨(z % (xs.length : Int)).toNat, by omega⟩
    have hil : i < xs.length := by omega
    refine ⟨_, rfl, l, xs, rfl, .inl (SqL.of hl1), _, _, rfl, rfl, by show (0 : Int) < xs.length; omega, ?_⟩
    dsimp only
    rw [hi]
    exact ⟨_, _, _, _, rfl, rfl, SqL.of hl1, atI_nat (List.getElem?_eq_getElem hil), q i _ H1 (List.getElem?_eq_getElem hil) b1 t1 hB1⟩
def sp_number1 (K : PySem.W.Frag) : Sp := fun vs H Q _ => ∃ (b dg : Addr) (p : Int), vs = [.ref b, .int p] ∧ Box H b dg ∧ 0 < p ∧ ∀ (z : Int) H', 0 ≤ z → z < p → But (fun a => a = b) H H' → TF H H' → Box H' b dg → Q (.int z) H'
theorem Txt.c__law_number (T : Txt K mg cP cD) : C8.Cal P w K mg base 2 "_law_number" (sp_number1 K) [] := by
  refine T.d__law_number.cal sc__law_number (fun vs H Q E h => ?_) (fun f cdv A outer s H vs Q E hr h => ?_)
  · obtain ⟨b, dg, p, rfl, _⟩ := h
    rfl
  · obtain ⟨b, dg, p, rfl, hB, hp, q⟩ := h
    have T_c__law_draw := T.c__law_draw (P := P) (w := w) (base := base)
    refine ⟨_, (pss_one (ps_ret (pe_op op_mod (pe_callTy call_int1 (by rfl) T.n_int (by decide +kernel) (pa_cons (pe_op op_add (pe_op op_mul (C8.pe_c T_c__law_draw hr (by decide) (by rfl) (pa_cons (pv 0) (pa_cons pe_int pa_nil))) pe_int) (C8.pe_c T_c__law_draw hr (by decide) (by rfl) (pa_cons (pv 0) (pa_cons pe_int pa_nil)))) pa_nil)) (pv 1)))), ?_⟩
    refine ⟨_, rfl, b, dg, 1000, rfl, hB, by decide, fun z H1 hz0 hz1 b1 t1 hB1 => ⟨_, _, rfl, rfl, .inr (by constructor <;> decide), ?_⟩⟩
    refine ⟨_, rfl, b, dg, 1000, rfl, hB1, by decide, fun z2 H2 hz2 hz3 b2 t2 hB2 => ⟨_, _, rfl, rfl, Or.inl ⟨_, rfl, ?_⟩⟩⟩
    exact ⟨_, rfl, _, _, rfl, rfl, hp, q _ H2 (Int.emod_nonneg _ (by omega)) (Int.emod_lt_of_pos _ hp) (b1.trans b2) (t1.trans t2) hB2⟩
def sp_numbers (K : PySem.W.Frag) : Sp := fun vs H Q _ => ∃ (b dg : Addr) (p : Int) (many : Nat), vs = [.ref b, .int p, .int (many : Int)] ∧ Box H b dg ∧ 0 < p ∧ many ≤ 1000 ∧
  ∀ r H' ns, But (fun a => a = b) H H' → TF H H' → Box H' b dg → Rp K H' r (PI ns) → ns.length = many → (∀ x ∈ ns, 0 ≤ x ∧ x < p) → Q r H'
theorem Txt.c__law_numbers (T : Txt K mg cP cD) : C8.Cal P w K mg base 3 "_law_numbers" (sp_numbers K) [] := by
  refine T.d__law_numbers.cal sc__law_numbers (fun vs H Q E h => ?_) (fun f cdv A outer s H vs Q E hr h => ?_)
  · obtain ⟨b, dg, p, many, rfl, _⟩ := h
    rfl
  · obtain ⟨b, dg, p, many, rfl, hB, hp, hm, q⟩ := h
    have T_c__law_number := T.c__law_number (P := P) (w := w) (base := base)
    refine ⟨_, (pss_one (ps_ret (pe_tupleOf (by rfl) T.n_tuple (pe_lc (own := [("_law_k", 3)]) (g := gName 3) rfl sc__law_numbers.nd (pi_range1 (by rfl) T.n_range (pa_cons (pv 2) pa_nil)) (blkOk_by (N := ["_law_box", "_law_p", "_law_many", "_law_k"]) (sc := defScope s__law_numbers) (by decide +kernel)) (fun _ _ _ _ _ => pg_name (i := 3) sc__law_numbers.nd rfl (Or.inl rfl)) (fun _ _ _ _ _ => pts_nil) (fun _ _ _ _ _ => (C8.pe_c T_c__law_number hr (by decide) (by rfl) (pa_cons (pv 0) (pa_cons (pv 1) pa_nil)))))))), ?_⟩
    refine ⟨_, rfl, _, rfl, by omega, by omega, fun D hD0 => ?_⟩
    obtain ⟨ds0, pos0, hb0, hd0⟩ := id hB
    have nDb : b ≠ D := ne_of_none hb0 hD0
    have e0 := Same.new (o := .lst []) hD0
    have hB0 : Box (upd H D (.lst [])) b dg := ⟨ds0, pos0, e0 _ _ hb0, e0 _ _ hd0⟩
    refine lc_range (lo := 0) (n := many) (Qd := fun H' => kTup K (.ref D) H' _) (fun i H' => But (fun a => a = b) H H' ∧ TF H H' ∧ Box H' b dg ∧ ∃ ns : List Int, H' D = some (.lst (ns.map V.int)) ∧ ns.length = i ∧ ∀ x ∈ ns, 0 ≤ x ∧ x < p)
      ⟨e0.but, e0.tf, hB0, [], upd_same, rfl, by simp⟩ ?_ ?_
    · rintro i H1 hi ⟨b1, t1, hB1, ns, hD1, hnl, hnb⟩
      refine ⟨rfl, iteT (B := False) ⟨_, rfl, _, rfl, b, dg, p, rfl, hB1, hp, fun z H2 hz0 hz1 b2 t2 hB2 => ?_⟩⟩
      have hD2 := b2 _ _ hD1 nDb.symm
      have t3 : TF H2 (upd H2 D (.lst (ns.map V.int ++ [.int z]))) := TF.upd hD2 plain_lst
      obtain ⟨ds, pos, hb3, hd3⟩ := id hB2
      have ndD : dg ≠ D := ne_of_none hd0 hD0
      refine ⟨_, hD2, by rw [List.length_map]; exact small' (by omega), (b1.trans b2).mut hD0, (t1.trans t2).trans t3, ⟨ds, pos, by rw [upd_ne nDb]; exact hb3, by rw [upd_ne ndD]; exact hd3⟩, ns ++ [z], by rw [upd_same, List.map_append]; rfl, by rw [List.length_append, hnl]; rfl, fun x hx => ?_⟩
      rcases List.mem_append.mp hx with hx | hx
      · exact hnb x hx
      · rw [List.mem_singleton.mp hx]
        exact ⟨hz0, hz1⟩
    · rintro H1 ⟨b1, t1, hB1, ns, hD1, hnl, hnb⟩
      refine tupOf hD1 (.ints ns) fun c H2 e2 rc => ?_
      obtain ⟨ds, pos, hb3, hd3⟩ := id hB1
      exact q _ _ ns (b1.trans e2.but) (t1.trans e2.tf) ⟨ds, pos, e2 _ _ hb3, e2 _ _ hd3⟩ rc (by rw [hnl]) hnb
end
end U

namespace U
open PySem PySem.Spec PyProof.Rows L2
theorem ifCut {c : TT} {t u : TS} {D : Ends} {σ : L2.St} {H : Hp} (I : Bool → Hp → Prop) (h1 : ∀ Q : Bool → Hp → Prop, (∀ b H1, I b H1 → Q b H1) → c σ H Q) (h2 : ∀ H1, I true H1 → t D σ H1) (h3 : ∀ H1, I false H1 → u D σ H1) : tIfS c t u D σ H :=
  h1 _ fun b H1 hI => by
    cases b with
    | true => exact h2 H1 hI
    | false => exact h3 H1 hI
def Row.isVal (r : Row) : Bool := !(decide (r.kn = 6) || decide (r.kn = 7))
def Wired (rows : List Row) : Prop := ∀ (k : Nat) (r : Row), rows[k]? = some r → ∀ a ∈ r.named, (rows.getD a .next).isVal = true
/-- a row that may stand at place i -/
structure RG (n p : Int) (rows : List Row) (i : Nat) (r : Row) : Prop where
  ok : r.ok n p [] i
  wd : ∀ a ∈ r.named, (rows.getD a .next).isVal = true
def Gw (rows : List Row) (ws : List Nat) : Prop := ws.length ≤ rows.length ∧ ∀ a ∈ ws, a < rows.length ∧ (rows.getD a .next).isVal = true
abbrev natV (l : List Nat) : List V := l.map fun (a : Nat) => V.int (a : Int)
section
variable {P : Program} {w : World} {K : PySem.W.Frag} {mg : Str → Option Value} {base : Heap} {cP cD : Addr}
structure PB (K : PySem.W.Frag) (H H' : Hp) (b dg rl lw lb : Addr) (rows : List Row) (ws bs : List Nat) (n p : Int) : Prop where
  bt : But (fun a => a = b) H H'
  tf : TF H H'
  box : Box H' b dg
  hrl : ∃ rs, H' rl = some (.lst rs) ∧ RpAll K H' rs (rows.map Row.data)
  hlw : H' lw = some (.lst (natV ws))
  hlb : H' lb = some (.lst (natV bs))
  frl : H rl = none
  flw : H lw = none
  flb : H lb = none
  n1 : rl ≠ lw
  n2 : rl ≠ lb
  hb0 : ∃ o, H b = some o
  hdg : ∃ o, H dg = some o
  gw : Gw rows ws
  gb : Gw rows bs
  rg : ∀ (k : Nat) (r : Row), rows[k]? = some r → RG n p rows k r
variable {H H' H2 : Hp} {b dg rl lw lb : Addr} {rows : List Row} {ws bs : List Nat} {n p : Int}
theorem PB.nb (h : PB K H H' b dg rl lw lb rows ws bs n p) : rl ≠ b ∧ lw ≠ b ∧ lb ≠ b := by
  obtain ⟨o, ho⟩ := h.hb0
  refine ⟨fun e => ?_, fun e => ?_, fun e => ?_⟩
  · have := h.frl
    rw [e, ho] at this
    cases this
  · have := h.flw
    rw [e, ho] at this
    cases this
  · have := h.flb
    rw [e, ho] at this
    cases this
theorem PB.step (h : PB K H H' b dg rl lw lb rows ws bs n p) (b1 : But (fun a => a = b) H' H2) (t1 : TF H' H2) (hB : Box H2 b dg) : PB K H H2 b dg rl lw lb rows ws bs n p := by
  obtain ⟨q1, q2, q3⟩ := h.nb
  obtain ⟨rs, r1, r2⟩ := h.hrl
  exact ⟨h.bt.trans b1, h.tf.trans t1, hB, ⟨rs, b1 _ _ r1 q1, r2.tf t1⟩, b1 _ _ h.hlw q2, b1 _ _ h.hlb q3, h.frl, h.flw, h.flb, h.n1, h.n2, h.hb0, h.hdg, h.gw, h.gb, h.rg⟩
theorem Box.sm {H H' : Hp} {b dg : Addr} (e : Same H H') (h : Box H b dg) : Box H' b dg := by
  obtain ⟨ds, pos, h1, h2⟩ := h
  exact ⟨ds, pos, e _ _ h1, e _ _ h2⟩
theorem PB.sm (h : PB K H H' b dg rl lw lb rows ws bs n p) (e : Same H' H2) : PB K H H2 b dg rl lw lb rows ws bs n p := h.step e.but e.tf (h.box.sm e)
theorem neNil {σ : L2.St} {H : Hp} {l : Addr} {ws : List Nat} {Q : Bool → Hp → Prop} {i : Nat} (hi : σ[i]? = some (some (.ref l))) (h : H l = some (.lst (natV ws))) (q : ∀ H' c, Same H H' → (c = true → ws ≠ []) → (c = false → ws = []) → Q c H') : tTest (tOp (rNeD K) (tVar i) (tLst tNil)) σ H Q := by
  refine ⟨_, hi, Nat.zero_le _, fun l2 hl2 => ?_⟩
  have e := Same.new (o := .lst []) hl2
  refine ⟨.list (ws.map fun (a : Nat) => PyData.int (a : Int)), .list [], .lst (SqL.of (e _ _ h)) ?_, .lst sqL_new .nil, ?_, by decide, _, rfl, ?_⟩
  · have : ∀ l : List Nat, DpAll K (upd H l2 (.lst [])) (natV l) (l.map fun (a : Nat) => PyData.int (a : Int)) := fun l => by
      induction l with
      | nil => exact .nil
      | cons a r ih => exact .cons (.int _) ih
    exact this ws
  · refine shaped_of (n := 1) ?_ (by decide)
    rw [flatD]
    exact flats_all fun d hd => by
      obtain ⟨a, _, rfl⟩ := List.mem_map.mp hd
      simp [flatD]
  · refine q _ _ e (fun hc hw => ?_) fun hc => ?_
    · rw [hw] at hc
      simp [PyData.eqv, PyData.eqvAll] at hc
    · cases ws with
      | nil => rfl
      | cons a r => simp [PyData.eqv, PyData.eqvAll] at hc
def sp_program (K : PySem.W.Frag) : Sp := fun vs H Q _ => ∃ (b dg : Addr) (p n t : Int) (v : V), vs = [.ref b, v, .int 5, .int 1] ∧ Box H b dg ∧ Rp K H v (setD p n t) ∧ SetOk p n t ∧
  ∀ r H' rows, But (fun a => a = b) H H' → TF H H' → Box H' b dg → Rp K H' r (progD rows) → 1 ≤ rows.length → rows.length ≤ 5 → RowsOk n p rows → Wired rows → Q r H'
theorem Txt.c__law_program (T : Txt K mg cP cD) : C8.Cal P w K mg base 3 "_law_program" (sp_program K) [] := by
  refine T.d__law_program.cal sc__law_program (fun vs H Q E h => ?_) (fun f cdv A outer s H vs Q E hr h => ?_)
  · obtain ⟨b, dg, p, n, t, v, rfl, _⟩ := h
    rfl
  · obtain ⟨b, dg, p, n, t, v, rfl, hB, hv, ok, q⟩ := h
    obtain ⟨sa, rfl, hS⟩ := hv.setting
    have hp0 := ok.p0
    have hn0 := ok.n0
    have T_c__law_draw := T.c__law_draw (P := P) (w := w) (base := base)
    have T_c__law_number := T.c__law_number (P := P) (w := w) (base := base)
    have T_c__law_pick := T.c__law_pick (P := P) (w := w) (base := base)
    refine ⟨_, (pss_cons (ps_asg (pe_slice (slT K) (pv 1) (po_some pe_int) po_none) (pg_tup rfl (pgs_cons (pg_name (i := 4) sc__law_program.nd rfl (Or.inl rfl)) (pgs_cons (pg_name (i := 5) sc__law_program.nd rfl (Or.inl rfl)) (pgs_cons (pg_name (i := 6) sc__law_program.nd rfl (Or.inl rfl)) pgs_nil)))))
      (pss_cons (ps_set (i := 7) sc__law_program.nd rfl (Or.inl rfl) (pe_lst pa_nil))
      (pss_cons (ps_set (i := 8) sc__law_program.nd rfl (Or.inl rfl) (pe_lst pa_nil))
      (pss_cons (ps_set (i := 9) sc__law_program.nd rfl (Or.inl rfl) (pe_lst pa_nil))
      (pss_cons (ps_for PassesOwn.never rfl (pi_range1 (by rfl) T.n_range (pa_cons (pe_op op_add pe_int (C8.pe_c T_c__law_draw hr (by decide) (by rfl) (pa_cons (pv 0) (pa_cons (pv 2) pa_nil)))) pa_nil)) (pg_name (i := 10) sc__law_program.nd rfl (Or.inl rfl))
        (pss_cons (ps_set (i := 11) sc__law_program.nd rfl (Or.inl rfl) (C8.pe_c T_c__law_draw hr (by decide) (by rfl) (pa_cons (pv 0) (pa_cons pe_int pa_nil))))
        (pss_cons (ps_set (i := 12) sc__law_program.nd rfl (Or.inl rfl) (pe_tup (pa_cons pe_str (pa_cons (pe_op op_add pe_int (C8.pe_c T_c__law_draw hr (by decide) (by rfl) (pa_cons (pv 0) (pa_cons (pv 5) pa_nil)))) pa_nil))))
        (pss_cons (ps_if (pt_cmpR op_eq (pv 11) pe_int (nomark _))
          (pss_one (ps_set (i := 12) sc__law_program.nd rfl (Or.inl rfl) (pe_tup (pa_cons pe_str (pa_cons (C8.pe_c T_c__law_number hr (by decide) (by rfl) (pa_cons (pv 0) (pa_cons (pv 4) pa_nil))) pa_nil)))))
          pss_nil)
        (pss_cons (ps_if (PW.pt (pw_and (pt_cmpR (op_neD hr.units) (pv 9) (pe_lst pa_nil) (nomark _)) (pw_and1 (pt_cmpR (inS K) (pv 11) (pe_tup (pa_cons pe_int (pa_cons pe_int (pa_cons pe_int pa_nil)))) rfl))))
          (pss_one (ps_set (i := 12) sc__law_program.nd rfl (Or.inl rfl) (pe_tup (pa_cons pe_str (pa_cons (C8.pe_c T_c__law_pick hr (by decide) (by rfl) (pa_cons (pv 0) (pa_cons (pv 9) pa_nil))) pa_nil)))))
          (pss_one (ps_if (pt_cmpR (op_neD hr.units) (pv 8) (pe_lst pa_nil) (nomark _))
            (pss_cons (ps_set (i := 13) sc__law_program.nd rfl (Or.inl rfl) (C8.pe_c T_c__law_pick hr (by decide) (by rfl) (pa_cons (pv 0) (pa_cons (pv 8) pa_nil))))
            (pss_cons (ps_set (i := 14) sc__law_program.nd rfl (Or.inl rfl) (C8.pe_c T_c__law_pick hr (by decide) (by rfl) (pa_cons (pv 0) (pa_cons (pv 8) pa_nil))))
            (pss_cons (ps_if (pt_cmpR (inS K) (pv 11) (pe_tup (pa_cons pe_int (pa_cons pe_int (pa_cons pe_int pa_nil)))) rfl)
              (pss_one (ps_set (i := 12) sc__law_program.nd rfl (Or.inl rfl) (pe_tup (pa_cons pe_str (pa_cons (pv 13) (pa_cons (pv 14) pa_nil))))))
              pss_nil)
            (pss_cons (ps_if (pt_cmpR op_eq (pv 11) pe_int (nomark _))
              (pss_one (ps_set (i := 12) sc__law_program.nd rfl (Or.inl rfl) (pe_tup (pa_cons pe_str (pa_cons (pv 13) (pa_cons (pv 14) pa_nil))))))
              pss_nil)
            (pss_cons (ps_if (pt_cmpR op_eq (pv 11) pe_int (nomark _))
              (pss_one (ps_set (i := 12) sc__law_program.nd rfl (Or.inl rfl) (pe_tup (pa_cons pe_str (pa_cons (pv 13) (pa_cons (pv 14) pa_nil))))))
              pss_nil)
            (pss_cons (ps_if (pt_cmpR op_eq (pv 11) pe_int (nomark _))
              (pss_one (ps_set (i := 12) sc__law_program.nd rfl (Or.inl rfl) (pe_tup (pa_cons pe_str (pa_cons (C8.pe_c T_c__law_number hr (by decide) (by rfl) (pa_cons (pv 0) (pa_cons (pv 4) pa_nil))) (pa_cons (pv 13) pa_nil))))))
              pss_nil)
            (pss_one (ps_if (pt_cmpR op_eq (pv 11) pe_int (nomark _))
              (pss_one (ps_set (i := 12) sc__law_program.nd rfl (Or.inl rfl) (pe_tup (pa_cons pe_str (pa_cons (pv 13) (pa_cons (pe_op op_add pe_int (C8.pe_c T_c__law_draw hr (by decide) (by rfl) (pa_cons (pv 0) (pa_cons (pv 5) pa_nil)))) pa_nil))))))
              pss_nil))))))))
            pss_nil)))
        (pss_cons (ps_if (PW.pt (pw_and (pt_cmpR op_eq (pv 11) pe_int (nomark _)) (pw_and1 (pt_cmpR op_gt (pv 3) pe_int (nomark _)))))
          (pss_cons (ps_set (i := 12) sc__law_program.nd rfl (Or.inl rfl) (pe_tup (pa_cons pe_str pa_nil)))
          (pss_cons (ps_set (i := 3) sc__law_program.nd rfl (Or.inl rfl) (pe_op op_sub (pv 3) pe_int))
          (pss_cons (ps_set (i := 9) sc__law_program.nd rfl (Or.inl rfl) (pv 8))
          (pss_one (ps_set (i := 8) sc__law_program.nd rfl (Or.inl rfl) (pe_lst pa_nil))))))
          (pss_one (ps_if (pt_cmpR op_ne (pe_ix (ixT K) (pv 12) pe_int (fun _ _ => rfl)) pe_str (nomark _))
            (pss_one (ps_set (i := 8) sc__law_program.nd rfl (Or.inl rfl) (pe_op op_cat (pv 8) (pe_lst (pa_cons (pv 10) pa_nil)))))
            pss_nil)))
        (pss_one (ps_expr (pe_bm PySem.F.plainAttrs_list PySem.F.slot_list_append PySem.F.type_list_append mt_append (pv 7) (pa_cons (pv 12) pa_nil))))))))))
      (pss_one (ps_ret (pe_tup (pa_cons pe_str (pa_cons (pe_tupleOf (by rfl) T.n_tuple (pv 7)) pa_nil)))))))))), ?_⟩
    refine ⟨_, rfl, 1, rfl, noP (slA hS (cut_from _ 1) fun c1 H1 e1 hc1 => ?_)⟩
    refine ⟨c1, _, rfl, hc1, rfl, _, _, rfl, _, _, rfl, _, _, rfl, rfl, ?_⟩
    refine ⟨Nat.zero_le _, fun rl hrl => ⟨Nat.zero_le _, fun lw hlw => ⟨Nat.zero_le _, fun lb hlb => ?_⟩⟩⟩
    have e2 := Same.new (o := .lst []) hrl
    have e3 := Same.new (o := .lst []) hlw
    have e4 := Same.new (o := .lst []) hlb
    have e14 := ((e1.trans e2).trans e3).trans e4
    obtain ⟨ds0, pos0, hb0, hd0⟩ := id hB
    have n1 : rl ≠ lw := ne_of_none (show upd H1 rl (.lst []) rl = _ from upd_same) hlw
    have n2 : rl ≠ lb := ne_of_none (e3 _ _ (show upd H1 rl (.lst []) rl = _ from upd_same)) hlb
    have hPB : PB K H (upd (upd (upd H1 rl (.lst [])) lw (.lst [])) lb (.lst [])) b dg rl lw lb [] [] [] n p :=
      ⟨e14.but, e14.tf, hB.sm e14, ⟨[], e4 _ _ (e3 _ _ upd_same), .nil⟩, e4 _ _ upd_same, upd_same, free_of e1 hrl, free_of (e1.trans e2) hlw, free_of ((e1.trans e2).trans e3) hlb, n1, n2, ⟨_, hb0⟩, ⟨_, hd0⟩, ⟨Nat.zero_le _, fun a ha => by cases ha⟩, ⟨Nat.zero_le _, fun a ha => by cases ha⟩, (fun k r h => by simp at h)⟩
    generalize upd (upd (upd H1 rl (.lst [])) lw (.lst [])) lb (.lst []) = H4 at hPB e14 ⊢
    refine ⟨_, rfl, _, rfl, b, dg, 5, rfl, hPB.box, by decide, fun z H5 hz0 hz1 b5 t5 hB5 => ?_⟩
    have hPB5 := hPB.step b5 t5 hB5
    refine ⟨_, _, rfl, rfl, _, rfl, by omega, by omega, for_range (lo := 0)
      (fun i σ H' => ∃ (turns : Int) (lw lb : Addr) (rows : List Row) (ws bs : List Nat) (y1 y2 y3 y4 y5 : Option V), σ = [some (.ref b), some (.ref sa), some (.int 5), some (.int turns), some (.int p), some (.int n), some (.int t), some (.ref rl), some (.ref lw), some (.ref lb), y1, y2, y3, y4, y5] ∧ rows.length = i ∧ PB K H H' b dg rl lw lb rows ws bs n p)
      ⟨1, lw, lb, [], [], [], _, _, _, _, _, rfl, rfl, hPB5⟩ ?_ ?_⟩
    · rintro i σ H6 hi ⟨turns, lw, lb, rows, ws, bs, y1, y2, y3, y4, y5, rfl, hrl, hP⟩
      have ei : (0 : Int) + ((i : Nat) : Int) = ((i : Nat) : Int) := Int.zero_add _
      rw [ei]
      have hi5 : i ≤ 5 := by omega
      refine ⟨_, rfl, b, dg, 13, rfl, hP.box, by decide, fun kd H7 hk0 hk1 b7 t7 hB7 => ?_⟩
      have hP7 := hP.step b7 t7 hB7
      refine ⟨_, rfl, _, rfl, b, dg, n, rfl, hB7, by omega, fun j H8 hj0 hj1 b8 t8 hB8 => ⟨_, _, rfl, rfl, by show 2 ≤ sizeLine; decide, fun rv hrv => ?_⟩⟩
      have hP8 := (hP7.step b8 t8 hB8).sm (Same.new (o := .tup [.str "in", .int (1 + j)]) hrv)
      have hr8 : Rp K (upd H8 rv (.tup [.str "in", .int (1 + j)])) (.ref rv) (Row.data (.inp (1 + j))) := .tup sqT_new (.cons (.str _) (.one (.int _)))
      have rg8 : RG n p rows i (.inp (1 + j)) := ⟨by show 1 ≤ 1 + j ∧ 1 + j ≤ n; omega, by intro a ha; cases ha⟩
      generalize upd H8 rv (.tup [.str "in", .int (1 + j)]) = H9 at hP8 hr8 ⊢
      dsimp only
      refine cutS (fun σ' H' => ∃ (r : Row) (v : V), σ' = [some (.ref b), some (.ref sa), some (.int 5), some (.int turns), some (.int p), some (.int n), some (.int t), some (.ref rl), some (.ref lw), some (.ref lb), some (.int (i : Int)), some (.int kd), some v, y4, y5] ∧ PB K H H' b dg rl lw lb rows ws bs n p ∧ Rp K H' v r.data ∧ RG n p rows i r ∧ r.kn ≠ 7 ∧ r.named = []) (fun nx hn => ?_) ?_
      · refine ⟨_, rfl, rfl, _, rfl, ite2 (fun hc => ?_) (fun hc => hn _ _ ⟨_, _, rfl, hP8, hr8, rg8, by simp only [Row.kn]; decide, rfl⟩)⟩
        refine ⟨_, rfl, _, rfl, b, dg, p, rfl, hP8.box, hp0, fun z HA hz0 hz1 bA tA hBA => ⟨by show 2 ≤ sizeLine; decide, fun rv2 hrv2 => ?_⟩⟩
        exact hn _ _ ⟨.const z, _, rfl, (hP8.step bA tA hBA).sm (Same.new hrv2), .tup sqT_new (.cons (.str _) (.one (.int _))), ⟨⟨hz0, hz1⟩, by intro a ha; cases ha⟩, by simp only [Row.kn]; decide, rfl⟩
      clear hP8 hr8 rg8 hP7 b7 t7 b8 t8 hB7 hB8
      rintro σ' H' ⟨r, v, rfl, hP8, hr8, rg8, h7, hnm⟩
      refine cutS (fun σ' H' => ∃ (r : Row) (v : V) (y4 y5 : Option V), σ' = [some (.ref b), some (.ref sa), some (.int 5), some (.int turns), some (.int p), some (.int n), some (.int t), some (.ref rl), some (.ref lw), some (.ref lb), some (.int (i : Int)), some (.int kd), some v, y4, y5] ∧ PB K H H' b dg rl lw lb rows ws bs n p ∧ Rp K H' v r.data ∧ RG n p rows i r ∧ r.kn ≠ 7) (fun nx hn => ?_) ?_
      · refine ifCut (fun c H1 => Same H' H1 ∧ (c = true → bs ≠ [])) (fun Q hq => ?_) (fun H1 hI => ?_) (fun H1 hI => ?_)
        · refine neNil (K := K) rfl hP8.hlb fun H1 c e1 hct hcf => ?_
          cases c with
          | false => exact hq _ _ ⟨e1, fun h => by cases h⟩
          | true =>
            exact ⟨_, rfl, by show 3 ≤ sizeLine; decide, fun t2 h2 => ⟨t2, _, rfl, .inr sqT_new, rfl, rfl, _, rfl, hq _ _ ⟨e1.trans (Same.new h2), fun _ => hct rfl⟩⟩⟩
        · obtain ⟨e1, hbs⟩ := hI
          have hP9 := hP8.sm e1
          have hb1 : 1 ≤ bs.length := by
            cases bs with
            | nil => exact absurd rfl (hbs rfl)
            | cons a r => simp
          refine ⟨_, rfl, _, rfl, b, dg, lb, _, rfl, hP9.box, hP9.hlb, hP9.nb.2.2, by rw [List.length_map]; exact hb1, fun m x HA hx bA tA hBA => ⟨by show 2 ≤ sizeLine; decide, fun rv2 hrv2 => ?_⟩⟩
          obtain ⟨a, ha, rfl⟩ := map_got hx
          have hga := hP9.gb.2 a (List.mem_of_getElem? ha)
          exact hn _ _ ⟨.kept a, _, _, _, rfl, (hP9.step bA tA hBA).sm (Same.new hrv2), .tup sqT_new (.cons (.str _) (.one (.int _))), ⟨by show a < i; omega, fun z hz => by rw [List.mem_singleton.mp hz]; exact hga.2⟩, by simp only [Row.kn]; decide⟩
        · obtain ⟨e1, _⟩ := hI
          have hP9 := hP8.sm e1
          have hr9 := hr8.sm e1
          refine neNil (K := K) rfl hP9.hlw fun H2 c e2 hct hcf => ?_
          have hPA := hP9.sm e2
          have hrA := hr9.sm e2
          cases c with
          | false => exact hn _ _ ⟨r, v, _, _, rfl, hPA, hrA, rg8, h7⟩
          | true =>
            have hw1 : 1 ≤ ws.length := by
              cases ws with
              | nil => exact absurd rfl (hct rfl)
              | cons a r => simp
            refine ⟨_, rfl, _, rfl, b, dg, lw, _, rfl, hPA.box, hPA.hlw, hPA.nb.2.1, by rw [List.length_map]; exact hw1, fun m x HB hx bB tB hBB => ?_⟩
            have hPB := hPA.step bB tB hBB
            obtain ⟨wa, hwa, rfl⟩ := map_got hx
            have hga := hPA.gw.2 wa (List.mem_of_getElem? hwa)
            refine ⟨_, rfl, _, rfl, b, dg, lw, _, rfl, hPB.box, hPB.hlw, hPB.nb.2.1, by rw [List.length_map]; exact hw1, fun m2 x2 HC hx2 bC tC hBC => ?_⟩
            have hPC := hPB.step bC tC hBC
            obtain ⟨wb, hwb, rfl⟩ := map_got hx2
            have hgb := hPA.gw.2 wb (List.mem_of_getElem? hwb)
            have hrC := (hrA.tf tB).tf tC
            clear hPB hPA hrA hP9 hr9 hr8 hP8
            have ga : wa < i := by omega
            have gb : wb < i := by omega
            have I5 : True := trivial
            dsimp only
            refine cutS (fun σ' H' => ∃ (r : Row) (v : V), σ' = [some (.ref b), some (.ref sa), some (.int 5), some (.int turns), some (.int p), some (.int n), some (.int t), some (.ref rl), some (.ref lw), some (.ref lb), some (.int (i : Int)), some (.int kd), some v, some (.int (wa : Int)), some (.int (wb : Int))] ∧ PB K H H' b dg rl lw lb rows ws bs n p ∧ Rp K H' v r.data ∧ RG n p rows i r ∧ r.kn ≠ 7) (fun nx hn2 => ?_) ?_
            · refine ⟨_, rfl, by show 3 ≤ sizeLine; decide, fun t2 h2 => ⟨t2, _, rfl, .inr sqT_new, rfl, rfl, _, rfl, ?_⟩⟩
              have e3 := Same.new (o := .tup [V.int 4, .int 5, .int 6]) h2
              refine ite2 (fun hc => ⟨_, rfl, _, rfl, by show 3 ≤ sizeLine; decide, fun rv2 hrv2 => hn2 _ _ ⟨.product wa wb, _, rfl, (hPC.sm e3).sm (Same.new hrv2), .tup sqT_new (.cons (.str _) (.cons (.int _) (.one (.int _)))), ⟨⟨ga, gb⟩, fun z hz => ?_⟩, by simp only [Row.kn]; decide⟩⟩) (fun hc => hn2 _ _ ⟨r, v, rfl, hPC.sm e3, hrC.sm e3, rg8, h7⟩)
              rcases List.mem_cons.mp hz with e | hz
              · rw [e]; exact hga.2
              · rw [List.mem_singleton.mp hz]; exact hgb.2
            clear hPC hrC rg8 h7 hnm
            rintro σ' H'' ⟨r, v, rfl, hPC, hrC, rg8, h7⟩
            refine cutS (fun σ' H' => ∃ (r : Row) (v : V), σ' = [some (.ref b), some (.ref sa), some (.int 5), some (.int turns), some (.int p), some (.int n), some (.int t), some (.ref rl), some (.ref lw), some (.ref lb), some (.int (i : Int)), some (.int kd), some v, some (.int (wa : Int)), some (.int (wb : Int))] ∧ PB K H H' b dg rl lw lb rows ws bs n p ∧ Rp K H' v r.data ∧ RG n p rows i r ∧ r.kn ≠ 7) (fun nx hn2 => ?_) ?_
            · refine ⟨_, rfl, rfl, _, rfl, ite2 (fun hc => ⟨_, rfl, _, rfl, by show 3 ≤ sizeLine; decide, fun rv2 hrv2 => hn2 _ _ ⟨.sum wa wb, _, rfl, hPC.sm (Same.new hrv2), .tup sqT_new (.cons (.str _) (.cons (.int _) (.one (.int _)))), ⟨⟨ga, gb⟩, fun z hz => ?_⟩, by simp only [Row.kn]; decide⟩⟩) (fun hc => hn2 _ _ ⟨r, v, rfl, hPC, hrC, rg8, h7⟩)⟩
              rcases List.mem_cons.mp hz with e | hz
              · rw [e]; exact hga.2
              · rw [List.mem_singleton.mp hz]; exact hgb.2
            clear hPC hrC rg8 h7
            rintro σ' H'' ⟨r, v, rfl, hPC, hrC, rg8, h7⟩
            refine cutS (fun σ' H' => ∃ (r : Row) (v : V), σ' = [some (.ref b), some (.ref sa), some (.int 5), some (.int turns), some (.int p), some (.int n), some (.int t), some (.ref rl), some (.ref lw), some (.ref lb), some (.int (i : Int)), some (.int kd), some v, some (.int (wa : Int)), some (.int (wb : Int))] ∧ PB K H H' b dg rl lw lb rows ws bs n p ∧ Rp K H' v r.data ∧ RG n p rows i r ∧ r.kn ≠ 7) (fun nx hn2 => ?_) ?_
            · refine ⟨_, rfl, rfl, _, rfl, ite2 (fun hc => ⟨_, rfl, _, rfl, by show 3 ≤ sizeLine; decide, fun rv2 hrv2 => hn2 _ _ ⟨.less wa wb, _, rfl, hPC.sm (Same.new hrv2), .tup sqT_new (.cons (.str _) (.cons (.int _) (.one (.int _)))), ⟨⟨ga, gb⟩, fun z hz => ?_⟩, by simp only [Row.kn]; decide⟩⟩) (fun hc => hn2 _ _ ⟨r, v, rfl, hPC, hrC, rg8, h7⟩)⟩
              rcases List.mem_cons.mp hz with e | hz
              · rw [e]; exact hga.2
              · rw [List.mem_singleton.mp hz]; exact hgb.2
            clear hPC hrC rg8 h7
            rintro σ' H'' ⟨r, v, rfl, hPC, hrC, rg8, h7⟩
            refine cutS (fun σ' H' => ∃ (r : Row) (v : V), σ' = [some (.ref b), some (.ref sa), some (.int 5), some (.int turns), some (.int p), some (.int n), some (.int t), some (.ref rl), some (.ref lw), some (.ref lb), some (.int (i : Int)), some (.int kd), some v, some (.int (wa : Int)), some (.int (wb : Int))] ∧ PB K H H' b dg rl lw lb rows ws bs n p ∧ Rp K H' v r.data ∧ RG n p rows i r ∧ r.kn ≠ 7) (fun nx hn2 => ?_) ?_
            · refine ⟨_, rfl, rfl, _, rfl, ite2 (fun hc => ⟨_, rfl, _, rfl, b, dg, p, rfl, hPC.box, hp0, fun z HD hz0 hz1 bD tD hBD => ⟨_, rfl, by show 3 ≤ sizeLine; decide, fun rv2 hrv2 => hn2 _ _ ⟨.times z wa, _, rfl, (hPC.step bD tD hBD).sm (Same.new hrv2), .tup sqT_new (.cons (.str _) (.cons (.int _) (.one (.int _)))), ⟨⟨hz0, hz1, ga⟩, fun z hz => ?_⟩, by simp only [Row.kn]; decide⟩⟩⟩) (fun hc => hn2 _ _ ⟨r, v, rfl, hPC, hrC, rg8, h7⟩)⟩
              rw [List.mem_singleton.mp hz]; exact hga.2
            clear hPC hrC rg8 h7
            rintro σ' H'' ⟨r, v, rfl, hPC, hrC, rg8, h7⟩
            refine ⟨_, rfl, rfl, _, rfl, ite2 (fun hc => ⟨_, rfl, _, rfl, _, rfl, b, dg, n, rfl, hPC.box, by omega, fun z HD hz0 hz1 bD tD hBD => ⟨_, _, rfl, rfl, by show 3 ≤ sizeLine; decide, fun rv2 hrv2 => hn _ _ ⟨.out wa (1 + z), _, _, _, rfl, (hPC.step bD tD hBD).sm (Same.new hrv2), .tup sqT_new (.cons (.str _) (.cons (.int _) (.one (.int _)))), ⟨⟨ga, by omega, by omega⟩, fun z hz => ?_⟩, by simp only [Row.kn]; decide⟩⟩⟩) (fun hc => hn _ _ ⟨r, v, _, _, rfl, hPC, hrC, rg8, h7⟩)⟩
            rw [List.mem_singleton.mp hz]; exact hga.2
      clear hP8 hr8 rg8 h7 hnm
      rintro σ' H' ⟨r, v, y4, y5, rfl, hP8, hr8, rg8, h7⟩
      have snocR : ∀ {r : Row}, RG n p rows i r → ∀ (k : Nat) (r' : Row), (rows ++ [r])[k]? = some r' → RG n p (rows ++ [r]) k r' := fun {r} rg k r' hk => by
        have wd : ∀ {r'' : Row} {k : Nat}, k ≤ rows.length → RG n p rows k r'' → RG n p (rows ++ [r]) k r'' := fun {r'' k} hkl g => ⟨g.ok, fun a ha => by
          have hak : a < k := row_named_lt g.ok a ha
          rw [List.getD_eq_getElem?_getD, List.getElem?_append_left (by omega), ← List.getD_eq_getElem?_getD]
          exact g.wd a ha⟩
        by_cases hkl : k < rows.length
        · rw [List.getElem?_append_left hkl] at hk
          exact wd (by omega) (hP8.rg k r' hk)
        · rw [List.getElem?_append_right (by omega)] at hk
          have hk0 : k - rows.length = 0 := by
            have := (List.getElem?_eq_some_iff.mp hk).1
            simp only [List.length_cons, List.length_nil] at this
            omega
          rw [hk0] at hk
          cases hk
          have : k = i := by omega
          rw [this]
          exact wd (by omega) rg
      have gwS : ∀ {us : List Nat} (r : Row), Gw rows us → Gw (rows ++ [r]) us := fun {us} r g => by
        refine ⟨by rw [List.length_append]; have := g.1; omega, fun a ha => ?_⟩
        obtain ⟨g1, g2⟩ := g.2 a ha
        refine ⟨by rw [List.length_append]; omega, ?_⟩
        rw [List.getD_eq_getElem?_getD, List.getElem?_append_left g1, ← List.getD_eq_getElem?_getD]
        exact g2
      refine cutS (fun σ' H' => ∃ (r : Row) (v : V) (turns : Int) (lw lb : Addr) (ws bs : List Nat), σ' = [some (.ref b), some (.ref sa), some (.int 5), some (.int turns), some (.int p), some (.int n), some (.int t), some (.ref rl), some (.ref lw), some (.ref lb), some (.int (i : Int)), some (.int kd), some v, y4, y5] ∧
          Rp K H' v r.data ∧ RG n p rows i r ∧ But (fun a => a = b) H H' ∧ TF H H' ∧ Box H' b dg ∧ (∃ rs, H' rl = some (.lst rs) ∧ RpAll K H' rs (rows.map Row.data)) ∧ H' lw = some (.lst (natV ws)) ∧ H' lb = some (.lst (natV bs)) ∧ H lw = none ∧ H lb = none ∧ rl ≠ lw ∧ rl ≠ lb ∧ Gw (rows ++ [r]) ws ∧ Gw (rows ++ [r]) bs) (fun nx hn => ?_) ?_
      · -- the test on 11
        have els : ∀ H1, Same H' H1 → tIfS (tTest (tOp rNe (tOp (rIxT K) (tVar 12) (tC (.int 0))) (tC (.str "out")))) (tAsg (tOp rCat (tVar 8) (tLst (tCons (tVar 10) tNil))) (gName 8)) tNext { nx := nx, rt := Q } [some (.ref b), some (.ref sa), some (.int 5), some (.int turns), some (.int p), some (.int n), some (.int t), some (.ref rl), some (.ref lw), some (.ref lb), some (.int (i : Int)), some (.int kd), some v, y4, y5] H1 := fun H1 e1 => by
          have hP9 := hP8.sm e1
          obtain ⟨ra, rfl, hra⟩ := (hr8.sm e1).row
          refine ⟨_, rfl, _, _, 0, _, rfl, rfl, hra, at_of (j := 0) rfl rfl, rfl, _, congrArg (fun c => V.bl (!c)) (names_eq r.kn 6), ?_⟩
          cases ho : decide (r.kn = 6) with
          | true => exact hn _ _ ⟨r, _, turns, lw, lb, ws, bs, rfl, hr8.sm e1, rg8, hP9.bt, hP9.tf, hP9.box, hP9.hrl, hP9.hlw, hP9.hlb, hP9.flw, hP9.flb, hP9.n1, hP9.n2, gwS r hP9.gw, gwS r hP9.gb⟩
          | false =>
            refine ⟨_, rfl, _, rfl, by show 1 ≤ sizeLine; decide, fun l1 hl1 => ?_⟩
            have e2 := Same.new (o := .lst [V.int (i : Int)]) hl1
            have hPA := hP9.sm e2
            have hwl := hP9.gw.1
            refine ⟨lw, l1, natV ws, _, rfl, rfl, hPA.hlw, upd_same, by rw [List.length_map]; exact small (by simp only [List.length_cons, List.length_nil]; omega), fun l2 hl2 => ?_⟩
            have e3 := Same.new (o := .lst (natV ws ++ [V.int (i : Int)])) hl2
            have hPC := hPA.sm e3
            refine hn _ _ ⟨r, _, turns, l2, lb, ws ++ [i], bs, rfl, ((hr8.sm e1).sm e2).sm e3, rg8, hPC.bt, hPC.tf, hPC.box, hPC.hrl, by rw [upd_same]; simp, hPC.hlb, ?_, hPC.flb, ?_, hPC.n2, ?_, gwS r hP9.gb⟩
            · have := hPA.bt.free (p := l2)
              exact this (fun e => by
                obtain ⟨o, ho⟩ := hPA.hb0
                obtain ⟨ds, pos, q1, q2⟩ := hPA.box
                rw [e, q1] at hl2
                cases hl2) hl2
            · obtain ⟨rs, z1, z2⟩ := hPA.hrl
              exact ne_of_none z1 hl2
            · refine ⟨by rw [List.length_append, List.length_append]; simp only [List.length_cons, List.length_nil]; omega, fun a ha => ?_⟩
              rcases List.mem_append.mp ha with ha | ha
              · exact (gwS r hP9.gw).2 a ha
              · rw [List.mem_singleton.mp ha]
                refine ⟨by rw [List.length_append]; simp only [List.length_cons, List.length_nil]; omega, ?_⟩
                rw [List.getD_eq_getElem?_getD, List.getElem?_append_right (by omega), show i - rows.length = 0 by omega]
                show r.isVal = true
                unfold Row.isVal
                rw [ho, decide_eq_false h7]
                rfl
        refine ⟨_, rfl, rfl, _, rfl, ite2 (fun hc => ?_) (fun hc => els _ (Same.refl _))⟩
        refine ⟨_, rfl, _, _, rfl, rfl, _, rfl, ite2 (fun hc2 => ?_) (fun hc => els _ (Same.refl _))⟩
        refine ⟨by show 1 ≤ sizeLine; decide, fun rv hrv => ?_⟩
        have e1 := Same.new (o := .tup [V.str "next"]) hrv
        have hP9 := hP8.sm e1
        refine ⟨_, rfl, _, _, rfl, rfl, _, rfl, Nat.zero_le _, fun l2 hl2 => ?_⟩
        have e2 := Same.new (o := .lst []) hl2
        have hPA := hP9.sm e2
        refine hn _ _ ⟨.next, _, turns - 1, l2, lw, [], ws, rfl, .tup (e2.tf.sqT sqT_new) (.one (.str _)), ⟨trivial, by intro a ha; cases ha⟩, hPA.bt, hPA.tf, hPA.box, hPA.hrl, upd_same, hPA.hlw, ?_, hPA.flw, ?_, hPA.n1, ?_, gwS .next hP9.gw⟩
        · exact hP9.bt.free (p := l2) (fun e => by
            obtain ⟨ds, pos, q1, q2⟩ := hP9.box
            rw [e, q1] at hl2
            cases hl2) hl2
        · obtain ⟨rs, z1, z2⟩ := hP9.hrl
          exact ne_of_none z1 hl2
        · exact ⟨Nat.zero_le _, fun a ha => by cases ha⟩
      · rintro σ' H'' ⟨r, v, turns, lw, lb, ws, bs, rfl, hrv, rg, hbt, htf, hbx, ⟨rs, hr1, hr2⟩, hw, hlb', fw, fb, m1, m2, g1, g2⟩
        refine ⟨_, rfl, .inl ⟨rfl, _, SqL.of hr1⟩, _, rfl, rl, rs, v, rfl, rfl, hr1, by rw [hr2.len, List.length_map]; exact small' (by omega), ?_⟩
        have t1 : TF H'' (upd H'' rl (.lst (rs ++ [v]))) := TF.upd hr1 plain_lst
        obtain ⟨ds, pos, q1, q2⟩ := hbx
        have nrb := hP8.nb.1
        have nrd : dg ≠ rl := fun e => by
          obtain ⟨o, ho⟩ := hP8.hdg
          have := hP8.frl
          rw [← e, ho] at this
          cases this
        exact ⟨turns, lw, lb, rows ++ [r], ws, bs, _, _, _, _, _, rfl, by rw [List.length_append, hrl]; rfl,
          ⟨hbt.mut hP8.frl, htf.trans t1, ⟨ds, pos, by rw [upd_ne nrb.symm]; exact q1, by rw [upd_ne nrd]; exact q2⟩, ⟨_, upd_same, by rw [List.map_append]; exact (hr2.tf t1).snoc (hrv.tf t1)⟩, by rw [upd_ne m1.symm]; exact hw, by rw [upd_ne m2.symm]; exact hlb', hP8.frl, fw, fb, m1, m2, hP8.hb0, hP8.hdg, g1, g2, snocR rg⟩⟩
    · rintro σ H6 ⟨turns, lw, lb, rows, ws, bs, y1, y2, y3, y4, y5, rfl, hrl, hP⟩
      obtain ⟨rs, hr1, hr2⟩ := hP.hrl
      have hlen : rows.length = (1 + z).toNat := hrl
      refine ⟨_, rfl, tupOf hr1 hr2 fun c H7 e7 rc => ⟨by show 2 ≤ sizeLine; decide, fun pr hpr => ?_⟩⟩
      have e8 := Same.new (o := .tup [V.str "program", .ref c]) hpr
      have hP9 := (hP.sm e7).sm e8
      exact q _ _ rows hP9.bt hP9.tf hP9.box (.tup sqT_new (.cons (.str _) (.one (rc.sm e8)))) (by omega) (by omega) (fun k r hk => (hP.rg k r hk).ok) (fun k r hk => (hP.rg k r hk).wd)
end
end U

namespace U
open PySem PySem.Spec PyProof.Rows L2
theorem eqV_names : ∀ a b : Fin 9, eqV (V.str (names a)) (V.str (names b)) = decide (a = b) := by decide +kernel
theorem lt1 {m : Nat} {z : V} (hm : m < 1) (hz : [V.str (names 2), V.str (names 3), V.str (names 4)][m]? = some z) : eqV z (V.str (names 3)) = false := by
  have hm0 : m = 0 := by omega
  subst hm0
  cases hz
  exact eqV_names 2 3
theorem lt2 {m : Nat} {z : V} (hm : m < 2) (hz : [V.str (names 2), V.str (names 3), V.str (names 4)][m]? = some z) : eqV z (V.str (names 4)) = false := by
  have hm0 : m = 0 ∨ m = 1 := by omega
  rcases hm0 with hm0 | hm0
  · subst hm0
    cases hz
    exact eqV_names 2 4
  · subst hm0
    cases hz
    exact eqV_names 3 4
/-! ### the plain values -/
def valR (p : Int) (rows : List Row) (ins : List Int) (k : Nat) (fo : List (Option Int)) (r : Row) : Option Int := match r with
  | .inp _ => some (ins.getD ((rows.take k).countP Row.isInp) 0)
  | .const c => some c
  | .kept a => fo.getD a none
  | .times c a => some ((c * (fo.getD a none).getD 0) % p)
  | .sum a b => some (((fo.getD a none).getD 0 + (fo.getD b none).getD 0) % p)
  | .less a b => some (((fo.getD a none).getD 0 - (fo.getD b none).getD 0) % p)
  | .product a b => some (((fo.getD a none).getD 0 * (fo.getD b none).getD 0) % p)
  | .out _ _ => none
  | .next => none
def valsUpto (p : Int) (rows : List Row) (ins : List Int) : Nat → List (Option Int)
  | 0 => []
  | k + 1 => valsUpto p rows ins k ++ [valR p rows ins k (valsUpto p rows ins k) (rows.getD k .next)]
def valsM (p : Int) (rows : List Row) (ins : List Int) : List (Option Int) := valsUpto p rows ins rows.length
theorem valsUpto_len (p : Int) (rows : List Row) (ins : List Int) : ∀ k, (valsUpto p rows ins k).length = k
  | 0 => rfl
  | k + 1 => by
    show (valsUpto p rows ins k ++ [_]).length = _
    rw [List.length_append, valsUpto_len p rows ins k]
    rfl
theorem valsUpto_get {p : Int} {rows : List Row} {ins : List Int} {k : Nat} : ∀ {m : Nat}, k < m → (valsUpto p rows ins m).getD k none = valR p rows ins k (valsUpto p rows ins k) (rows.getD k .next)
  | 0, h => by omega
  | m + 1, h => by
    show (valsUpto p rows ins m ++ [_]).getD k none = _
    have hl := valsUpto_len p rows ins m
    rw [List.getD_eq_getElem?_getD]
    by_cases hk : k < m
    · rw [List.getElem?_append_left (by omega), ← List.getD_eq_getElem?_getD]
      exact valsUpto_get hk
    · have : k = m := by omega
      subst this
      rw [List.getElem?_append_right (by omega), hl, Nat.sub_self]
      rfl
/-- a wire row has a value, in [0, p) -/
theorem vals_val {n p : Int} {rows : List Row} {ins : List Int} (hp : 0 < p) (rok : RowsOk n p rows) (wd : Wired rows) (hin : ∀ x ∈ ins, 0 ≤ x ∧ x < p) : ∀ (m k : Nat), k < m → m ≤ rows.length → (rows.getD k .next).isVal = true → ∃ x, (valsUpto p rows ins m).getD k none = some x ∧ 0 ≤ x ∧ x < p := by
  intro m
  induction m with
  | zero => intro k h; omega
  | succ m ih =>
    intro k hk hm hv
    rw [valsUpto_get hk]
    obtain ⟨r, hr⟩ : ∃ r, rows[k]? = some r := ⟨_, List.getElem?_eq_getElem (by omega)⟩
    have hrD : rows.getD k .next = r := by rw [List.getD_eq_getElem?_getD, hr]; rfl
    have hg := rok k r hr
    have hw := wd k r hr
    rw [hrD] at hv ⊢
    have md : ∀ z : Int, ∃ x, some (z % p) = some x ∧ 0 ≤ x ∧ x < p := fun z => ⟨_, rfl, Int.emod_nonneg _ (by omega), Int.emod_lt_of_pos _ hp⟩
    cases r
    case inp a =>
      refine ⟨_, rfl, ?_⟩
      rw [List.getD_eq_getElem?_getD]
      cases q : ins[(rows.take k).countP Row.isInp]? with
      | none => exact ⟨Int.le_refl _, hp⟩
      | some y => exact hin y (List.mem_of_getElem? q)
    case const c => exact ⟨c, rfl, hg⟩
    case kept a =>
      have ha : a < k := hg
      have h1 := hw a (by simp [Row.named])
      obtain ⟨x, hx, hb⟩ := ih a (by omega) (by omega) h1
      refine ⟨x, ?_, hb⟩
      rw [valsUpto_get (show a < m by omega)] at hx
      show (valsUpto p rows ins k).getD a none = some x
      rw [valsUpto_get ha]
      exact hx
    case out a b => cases hv
    case next => cases hv
    all_goals exact md _
theorem vals_at {n p : Int} {rows : List Row} {ins : List Int} (hp : 0 < p) (rok : RowsOk n p rows) (wd : Wired rows) (hin : ∀ x ∈ ins, 0 ≤ x ∧ x < p) {k a : Nat} {r : Row} (hr : rows[k]? = some r) (ha : a ∈ r.named) : ∃ x, (valsUpto p rows ins k).getD a none = some x ∧ 0 ≤ x ∧ x < p :=
  vals_val hp rok wd hin k a (row_named_lt (rok k r hr) a ha) (Nat.le_of_lt (List.getElem?_eq_some_iff.mp hr).1) (wd k r hr a ha)
def shownE (p : Int) (rows : List Row) (ins : List Int) (k : Nat) : Option (Nat × Int × Option Int) := match rows.getD k .next with
  | .out a j => some (k, j, (valsM p rows ins).getD a none)
  | _ => none
def shownD (e : Nat × Int × Option Int) : PyData := .tuple [.int (e.1 : Int), .int e.2.1, optD e.2.2]
def shownL (p : Int) (rows : List Row) (ins : List Int) : List (Nat × Int × Option Int) := (List.range rows.length).filterMap (shownE p rows ins)
section
variable {P : Program} {w : World} {K : PySem.W.Frag} {mg : Str → Option Value} {base : Heap} {cP cD : Addr}
/-! ### inputs -/
def sp_inputs (K : PySem.W.Frag) : Sp := fun vs H Q _ => ∃ (b dg : Addr) (p n t : Int) (v u : V) (rows : List Row), vs = [.ref b, v, u] ∧ Box H b dg ∧ Rp K H v (setD p n t) ∧ 0 < p ∧ Rp K H u (progD rows) ∧ rows.length ≤ 60 ∧
  ∀ r H' ns, But (fun a => a = b) H H' → TF H H' → Box H' b dg → Rp K H' r (PI ns) → ns.length = (inputRowsM rows).length → (∀ x ∈ ns, 0 ≤ x ∧ x < p) → Q r H'
theorem inputs_cnt (rows : List Row) : (rows.filter fun r => decide (r.kn = 0)).length = (inputRowsM rows).length := by
  have h1 := inputRows_cnt rows rows.length (Nat.le_refl _)
  rw [List.take_length] at h1
  rw [h1, ← List.countP_eq_length_filter]
  congr 1
  funext r
  cases r <;> rfl
theorem Txt.c__law_inputs (T : Txt K mg cP cD) : C8.Cal P w K mg base 4 "_law_inputs" (sp_inputs K) [] := by
  refine T.d__law_inputs.cal sc__law_inputs (fun vs H Q E h => ?_) (fun f cdv A outer s H vs Q E hr h => ?_)
  · obtain ⟨b, dg, p, n, t, v, u, rows, rfl, _⟩ := h
    rfl
  · obtain ⟨b, dg, p, n, t, v, u, rows, rfl, hB, hv, hp, hu, hrl, q⟩ := h
    obtain ⟨sa, rfl, hS⟩ := hv.setting
    obtain ⟨pa, pb, xs, rfl, hA, hB', hR⟩ := hu.prog
    have hxl := hR.len
    rw [List.length_map] at hxl
    have T_c__law_numbers := T.c__law_numbers (P := P) (w := w) (base := base)
    refine ⟨_, (pss_one (ps_ret (C8.pe_c T_c__law_numbers hr (by decide) (by rfl) (pa_cons (pv 0) (pa_cons (pe_ix (ixT K) (pv 1) pe_int (fun _ _ => rfl)) (pa_cons (pe_callB (lenS K) (by rfl) T.n_len PySem.boot_len (pa_cons (pe_lc (own := [("_law_row", 3)]) (g := gName 3) rfl sc__law_inputs.nd (pi_tup (pe_ix (ixT K) (pv 2) pe_int (fun _ _ => rfl))) (blkOk_by (N := ["_law_box", "_law_setting", "_law_program_here", "_law_row"]) (sc := defScope s__law_inputs) (by decide +kernel)) (fun _ _ _ _ _ => pg_name (i := 3) sc__law_inputs.nd rfl (Or.inl rfl)) (fun _ _ _ _ _ => pts_one (pt_cmpR op_eq (pe_ix (ixT K) (pv 3) pe_int (fun _ _ => rfl)) pe_str (nomark _))) (fun _ _ _ _ _ => (pv 3))) pa_nil)) pa_nil)))))), ?_⟩
    refine ⟨_, rfl, _, rfl, _, _, 1, _, rfl, rfl, hS, at_of (j := 1) rfl rfl, _, rfl, _, _, 1, _, rfl, rfl, hA, at_of (j := 1) rfl rfl, pb, rfl, ⟨_, hB'⟩, ?_⟩
    refine lcT (K := K) hB' (by omega) (fun i => rows[i]?.bind fun r => if decide (r.kn = 0) then some r.data else none) (fun i y H1 hi hy e1 Acc Skip ka ks => ?_) fun D H1 acc hD e1 ha ra => ?_
    · obtain ⟨dd, hd1, hd2⟩ := hR.got hy
      obtain ⟨r, hr, rfl⟩ := map_got hd1
      have hd3 := hd2.sm e1
      obtain ⟨ra, rfl, hra⟩ := hd3.row
      refine ⟨rfl, _, rfl, _, _, 0, _, rfl, rfl, hra, at_of (j := 0) rfl rfl, rfl, _, congrArg V.bl (names_eq r.kn 0), ?_⟩
      simp only [hr, Option.bind_some] at ka ks
      cases hk : decide (r.kn = 0) with
      | true =>
        rw [hk] at ka
        exact ⟨_, rfl, ka _ _ _ rfl (Same.refl _) hd3⟩
      | false =>
        rw [hk] at ks
        exact ks _ rfl (Same.refl _)
    · rw [hxl, fm_range, filter_fmD] at ra
      have hl := ra.len
      rw [List.length_map, inputs_cnt] at hl
      have hin := inputRows_cnt rows rows.length (Nat.le_refl _)
      rw [List.take_length] at hin
      have hc := List.countP_le_length (p := Row.isInp) (l := rows)
      refine ⟨D, _, rfl, .inl (SqL.of ha), ?_⟩
      refine ⟨b, dg, p, acc.length, rfl, hB.sm e1, hp, by omega, fun r H' ns b2 t2 hB2 rp hnl hnb => q r H' ns (e1.but.trans b2) (e1.tf.trans t2) hB2 rp (by omega) hnb⟩
/-! ### values -/
def sp_values (K : PySem.W.Frag) : Sp := fun vs H Q _ => ∃ (p n t : Int) (v u z : V) (rows : List Row) (ins : List Int), vs = [v, u, z] ∧ Rp K H v (setD p n t) ∧ SetOk p n t ∧ Rp K H u (progD rows) ∧ rows.length ≤ 60 ∧ RowsOk n p rows ∧ Wired rows ∧ Rp K H z (PI ins) ∧ ins.length = (inputRowsM rows).length ∧ (∀ x ∈ ins, 0 ≤ x ∧ x < p) ∧
  ∀ l H', Same H H' → H l = none → H' l = some (.lst ((valsM p rows ins).map optV)) → Q (.ref l) H'
theorem Txt.c__law_values (T : Txt K mg cP cD) : C8.Cal P w K mg base 1 "_law_values" (sp_values K) [] := by
  refine T.d__law_values.cal sc__law_values (fun vs H Q E h => ?_) (fun f cdv A outer s H vs Q E hr h => ?_)
  · obtain ⟨p, n, t, v, u, z, rows, ins, rfl, _⟩ := h
    rfl
  · obtain ⟨p, n, t, v, u, z, rows, ins, rfl, hv, ok, hu, hrl, rok, wd, hz, hil, hib, q⟩ := h
    obtain ⟨sa, rfl, hS⟩ := hv.setting
    obtain ⟨pa, pb, xs, rfl, hA, hB, hR⟩ := hu.prog
    obtain ⟨za, rfl, hZ⟩ := hz.pi
    have hxl := hR.len
    rw [List.length_map] at hxl
    have hp0 := ok.p0
    have hp1 := ok.p1
    refine ⟨_, (pss_cons (ps_set (i := 3) sc__law_values.nd rfl (Or.inl rfl) (pe_ix (ixT K) (pv 0) pe_int (fun _ _ => rfl)))
      (pss_cons (ps_set (i := 4) sc__law_values.nd rfl (Or.inl rfl) (pe_lst pa_nil))
      (pss_cons (ps_set (i := 5) sc__law_values.nd rfl (Or.inl rfl) pe_int)
      (pss_cons (ps_for PassesOwn.never rfl (pi_tup (pe_ix (ixT K) (pv 1) pe_int (fun _ _ => rfl))) (pg_name (i := 6) sc__law_values.nd rfl (Or.inl rfl))
        (pss_cons (ps_set (i := 7) sc__law_values.nd rfl (Or.inl rfl) (pe_ix (ixT K) (pv 6) pe_int (fun _ _ => rfl)))
        (pss_cons (ps_set (i := 8) sc__law_values.nd rfl (Or.inl rfl) pe_non)
        (pss_cons (ps_if (pt_cmpR op_eq (pv 7) pe_str (nomark _))
          (pss_cons (ps_set (i := 8) sc__law_values.nd rfl (Or.inl rfl) (pe_ix (ixT K) (pv 2) (pv 5) (fun _ _ => rfl)))
          (pss_one (ps_set (i := 5) sc__law_values.nd rfl (Or.inl rfl) (pe_op op_add (pv 5) pe_int))))
          (pss_one (ps_if (pt_cmpR op_eq (pv 7) pe_str (nomark _))
            (pss_one (ps_set (i := 8) sc__law_values.nd rfl (Or.inl rfl) (pe_ix (ixT K) (pv 6) pe_int (fun _ _ => rfl))))
            (pss_one (ps_if (pt_cmpR op_eq (pv 7) pe_str (nomark _))
              (pss_one (ps_set (i := 8) sc__law_values.nd rfl (Or.inl rfl) (pe_ix (ixL K) (pv 4) (pe_ix (ixT K) (pv 6) pe_int (fun _ _ => rfl)) (fun _ _ => rfl))))
              (pss_one (ps_if (pt_cmpR op_eq (pv 7) pe_str (nomark _))
                (pss_one (ps_set (i := 8) sc__law_values.nd rfl (Or.inl rfl) (pe_op op_mod (pe_callTy call_int1 (by rfl) T.n_int (by decide +kernel) (pa_cons (pe_op op_mul (pe_ix (ixT K) (pv 6) pe_int (fun _ _ => rfl)) (pe_ix (ixL K) (pv 4) (pe_ix (ixT K) (pv 6) pe_int (fun _ _ => rfl)) (fun _ _ => rfl))) pa_nil)) (pv 3))))
                (pss_one (ps_if (pt_cmpR (inS K) (pv 7) (pe_tup (pa_cons pe_str (pa_cons pe_str (pa_cons pe_str pa_nil)))) rfl)
                  (pss_cons (ps_set (i := 9) sc__law_values.nd rfl (Or.inl rfl) (pe_ix (ixL K) (pv 4) (pe_ix (ixT K) (pv 6) pe_int (fun _ _ => rfl)) (fun _ _ => rfl)))
                  (pss_cons (ps_set (i := 10) sc__law_values.nd rfl (Or.inl rfl) (pe_ix (ixL K) (pv 4) (pe_ix (ixT K) (pv 6) pe_int (fun _ _ => rfl)) (fun _ _ => rfl)))
                  (pss_one (ps_set (i := 8) sc__law_values.nd rfl (Or.inl rfl) (pe_op op_mod (pe_callTy call_int1 (by rfl) T.n_int (by decide +kernel) (pa_cons (pe_ix (ixL K) (pe_lst (pa_cons (pe_op op_add (pv 9) (pv 10)) (pa_cons (pe_op op_sub (pv 9) (pv 10)) (pa_cons (pe_op op_mul (pv 9) (pv 10)) pa_nil)))) (pe_bm PySem.F.plainAttrs_list PySem.F.slot_list_index PySem.F.type_list_index mt_index (pe_lst (pa_cons pe_str (pa_cons pe_str (pa_cons pe_str pa_nil)))) (pa_cons (pv 7) pa_nil)) (fun _ _ => rfl)) pa_nil)) (pv 3))))))
                  pss_nil)))))))))
        (pss_one (ps_expr (pe_bm PySem.F.plainAttrs_list PySem.F.slot_list_append PySem.F.type_list_append mt_append (pv 4) (pa_cons (pv 8) pa_nil))))))))
      (pss_one (ps_ret (pv 4))))))), ?_⟩
    refine ⟨_, rfl, _, _, 1, _, rfl, rfl, hS, at_of (j := 1) rfl rfl, Nat.zero_le _, fun l0 hl0 => ?_⟩
    have e0 := Same.new (o := .lst []) hl0
    refine ⟨_, rfl, _, _, 1, _, rfl, rfl, e0.tf.sqT hA, at_of (j := 1) rfl rfl, pb, rfl, ⟨_, e0.tf.sqT hB⟩, for_tup (K := K) (a := pb) (xs := xs)
      (fun i σ H' => ∃ y6 y7 y8 y9 y10, σ = [some (.ref sa), some (.ref pa), some (.ref za), some (.int p), some (.ref l0), some (.int ((rows.take i).countP Row.isInp : Nat)), y6, y7, y8, y9, y10] ∧ Same H H' ∧ H' l0 = some (.lst ((valsUpto p rows ins i).map optV)))
      ⟨none, none, none, none, none, rfl, e0, upd_same⟩ (fun i σ H' hi ⟨_, _, _, _, _, _, e, _⟩ => e.tf.sqT hB) ?_ ?_⟩
    · rintro i x1 σ H1 hx1 ⟨y6, y7, y8, y9, y10, rfl, e1, hl1⟩
      obtain ⟨dd, hd1, hd2⟩ := hR.got hx1
      obtain ⟨r, hr, rfl⟩ := map_got hd1
      have hd3 := hd2.sm e1
      obtain ⟨ra, rfl, hra⟩ := hd3.row
      have hi := (List.getElem?_eq_some_iff.mp hr).1
      have hrD : rows.getD i .next = r := by rw [List.getD_eq_getElem?_getD, hr]; rfl
      have hrok := rok i r hr
      have hvl := valsUpto_len p rows ins i
      have hcnt := countP_snoc (c := Row.isInp) hr
      have fin : ∀ (H2 : Hp) (y9 y10 : Option V) (vv : Option Int) (m : Nat), Same H1 H2 → vv = valR p rows ins i (valsUpto p rows ins i) r → m = (rows.take (i + 1)).countP Row.isInp →
          ∃ (y6 y7 y8 y9' y10' : Option V), [some (V.ref sa), some (.ref pa), some (.ref za), some (.int p), some (.ref l0), some (.int (m : Nat)), some (.ref ra), some (.str (names r.kn)), some (optV vv), y9, y10] = [some (V.ref sa), some (.ref pa), some (.ref za), some (.int p), some (.ref l0), some (.int ((rows.take (i + 1)).countP Row.isInp : Nat)), y6, y7, y8, y9', y10'] ∧ Same H (upd H2 l0 (.lst ((valsUpto p rows ins i).map optV ++ [optV vv]))) ∧ upd H2 l0 (.lst ((valsUpto p rows ins i).map optV ++ [optV vv])) l0 = some (.lst ((valsUpto p rows ins (i + 1)).map optV)) := fun H2 y9 y10 vv m e2 hvv hm => by
        refine ⟨_, _, _, _, _, by rw [hm], (e1.trans e2).mut hl0, ?_⟩
        rw [upd_same, hvv]
        show _ = some (HO.lst ((valsUpto p rows ins i ++ [valR p rows ins i (valsUpto p rows ins i) (rows.getD i .next)]).map optV))
        rw [hrD, List.map_append]
        rfl
      have wire : ∀ a ∈ r.named, ∃ x, (valsUpto p rows ins i).getD a none = some x ∧ (0 ≤ x ∧ x < p) ∧ atI ((valsUpto p rows ins i).map optV) ((a : Nat) : Int) = some (.int x) := fun a ha => by
        obtain ⟨x, hx, hb⟩ := vals_at ok.p0 rok wd hib hr ha
        have hal := row_named_lt hrok a ha
        refine ⟨x, hx, hb, ?_⟩
        have hg : (valsUpto p rows ins i)[a]? = some (some x) := by
          rw [List.getD_eq_getElem?_getD] at hx
          cases hq : (valsUpto p rows ins i)[a]? with
          | none => rw [List.getElem?_eq_none_iff] at hq; omega
          | some y => rw [hq] at hx; rw [show y = some x from hx]
        exact atI_nat (map_get hg)
      have ap : ∀ {H2 : Hp}, Same H1 H2 → H2 l0 = some (.lst ((valsUpto p rows ins i).map optV)) := fun e => e _ _ hl1
      have sz : ((valsUpto p rows ins i).map optV).length < sizeLine := by rw [List.length_map]; exact small' (by omega)
      have hl1' : SqL K H1 l0 ((valsUpto p rows ins i).map optV) := SqL.of hl1
      refine ⟨_, rfl, _, _, 0, _, rfl, rfl, hra, at_of (j := 0) rfl rfl, ?_⟩
      refine ⟨_, rfl, rfl, _, congrArg V.bl (names_eq r.kn 0), ?_⟩
      cases r
      case inp a =>
        have hci : (rows.take i).countP Row.isInp < ins.length := by
          have h1 := inputRows_cnt rows (i + 1) hi
          have h2 := inputRows_cnt rows rows.length (Nat.le_refl _)
          rw [List.take_length] at h2
          have h3 : ((rows.take (i + 1)).countP Row.isInp) ≤ rows.countP Row.isInp := (List.take_sublist ..).countP_le ..
          rw [hcnt] at h3
          simp only [Row.isInp, if_true] at h3
          omega
        refine ⟨_, rfl, _, rfl, _, _, _, _, rfl, rfl, e1.tf.sqT hZ, map_at hci, _, rfl, _, _, rfl, rfl, ?_⟩
        refine ⟨_, rfl, .inl ⟨rfl, _, hl1'⟩, _, rfl, l0, _, _, rfl, rfl, hl1, sz, ?_⟩
        have hc : (rows.take i).countP Row.isInp + 1 = (rows.take (i + 1)).countP Row.isInp := by rw [hcnt]; rfl
        exact fin H1 y9 y10 (some ins[(rows.take i).countP Row.isInp]) _ (Same.refl _) (by show _ = some (ins.getD _ 0); rw [getD_get hci]) hc
      case const c =>
        refine ⟨_, rfl, rfl, true, congrArg V.bl (kT 1), _, rfl, _, _, 1, _, rfl, rfl, hra, at_of (j := 1) rfl rfl, ?_⟩
        exact ⟨_, rfl, .inl ⟨rfl, _, hl1'⟩, _, rfl, l0, _, _, rfl, rfl, hl1, sz, fin H1 y9 y10 (some c) _ (Same.refl _) rfl (by rw [hcnt]; rfl)⟩
      case kept a =>
        obtain ⟨x, hx, hb, hat⟩ := wire a (by simp [Row.named])
        refine ⟨_, rfl, rfl, false, congrArg V.bl (kF 8 1), _, rfl, rfl, true, congrArg V.bl (kT 8), _, rfl, _, rfl, _, _, 1, _, rfl, rfl, hra, at_of (j := 1) rfl rfl, _, _, _, _, rfl, rfl, hl1', hat, ?_⟩
        exact ⟨_, rfl, .inl ⟨rfl, _, hl1'⟩, _, rfl, l0, _, _, rfl, rfl, hl1, sz, fin H1 y9 y10 (some x) _ (Same.refl _) hx.symm (by rw [hcnt]; rfl)⟩
      case times c a =>
        obtain ⟨x, hx, hb, hat⟩ := wire a (by simp [Row.named])
        refine ⟨_, rfl, rfl, false, congrArg V.bl (kF 5 1), _, rfl, rfl, false, congrArg V.bl (kF 5 8), _, rfl, rfl, true, congrArg V.bl (kT 5), ?_⟩
        refine ⟨_, rfl, _, _, 1, _, rfl, rfl, hra, at_of (j := 1) rfl rfl, _, rfl, _, rfl, _, _, 2, _, rfl, rfl, hra, at_of (j := 2) rfl rfl, _, _, _, _, rfl, rfl, hl1', hat, _, _, rfl, rfl, .inr (by constructor <;> omega), Or.inl ⟨_, rfl, _, rfl, _, _, rfl, rfl, hp0, ?_⟩⟩
        exact ⟨_, rfl, .inl ⟨rfl, _, hl1'⟩, _, rfl, l0, _, _, rfl, rfl, hl1, sz, fin H1 y9 y10 (some ((c * x) % p)) _ (Same.refl _) (by show _ = some ((c * (((valsUpto p rows ins i)).getD a none).getD 0) % p); rw [hx]; rfl) (by rw [hcnt]; rfl)⟩
      case out a b =>
        refine ⟨_, rfl, rfl, false, congrArg V.bl (kF 6 1), _, rfl, rfl, false, congrArg V.bl (kF 6 8), _, rfl, rfl, false, congrArg V.bl (kF 6 5), _, rfl, by show 3 ≤ sizeLine; decide, fun t2 h2 => ⟨t2, _, rfl, .inr sqT_new, rfl, rfl, false, congrArg V.bl (in3 6 2 3 4), ?_⟩⟩
        have e2 := Same.new (o := .tup [V.str (names 2), .str (names 3), .str (names 4)]) h2
        exact ⟨_, rfl, .inl ⟨rfl, _, e2.seq hl1'⟩, _, rfl, l0, _, _, rfl, rfl, ap e2, sz, fin _ y9 y10 none _ e2 rfl (by rw [hcnt]; rfl)⟩
      case next =>
        refine ⟨_, rfl, rfl, false, congrArg V.bl (kF 7 1), _, rfl, rfl, false, congrArg V.bl (kF 7 8), _, rfl, rfl, false, congrArg V.bl (kF 7 5), _, rfl, by show 3 ≤ sizeLine; decide, fun t2 h2 => ⟨t2, _, rfl, .inr sqT_new, rfl, rfl, false, congrArg V.bl (in3 7 2 3 4), ?_⟩⟩
        have e2 := Same.new (o := .tup [V.str (names 2), .str (names 3), .str (names 4)]) h2
        exact ⟨_, rfl, .inl ⟨rfl, _, e2.seq hl1'⟩, _, rfl, l0, _, _, rfl, rfl, ap e2, sz, fin _ y9 y10 none _ e2 rfl (by rw [hcnt]; rfl)⟩
      case sum a b =>
        obtain ⟨x, hx, hb, hat⟩ := wire a (by simp [Row.named])
        obtain ⟨y, hy, hc, hbt⟩ := wire b (by simp [Row.named])
        refine ⟨_, rfl, rfl, false, congrArg V.bl (kF 2 1), _, rfl, rfl, false, congrArg V.bl (kF 2 8), _, rfl, rfl, false, congrArg V.bl (kF 2 5), _, rfl, by show 3 ≤ sizeLine; decide, fun t2 h2 => ⟨t2, _, rfl, .inr sqT_new, rfl, rfl, true, congrArg V.bl (in3 2 2 3 4), ?_⟩⟩
        have e2 := Same.new (o := .tup [V.str (names 2), .str (names 3), .str (names 4)]) h2
        refine ⟨_, rfl, _, rfl, _, _, 1, _, rfl, rfl, e2.tf.sqT hra, at_of (j := 1) rfl rfl, _, _, _, _, rfl, rfl, e2.seq hl1', hat, _, rfl, _, rfl, _, _, 2, _, rfl, rfl, e2.tf.sqT hra, at_of (j := 2) rfl rfl, _, _, _, _, rfl, rfl, e2.seq hl1', hbt, ?_⟩
        refine ⟨_, rfl, _, rfl, _, _, rfl, rfl, _, rfl, _, rfl, _, _, rfl, rfl, _, rfl, _, rfl, _, _, rfl, rfl, .inr (by constructor <;> omega), by show 3 ≤ sizeLine; decide, fun l2 hl2 => ⟨by show 3 ≤ sizeLine; decide, fun l3 hl3 => ?_⟩⟩
        have e3 := Same.new (o := .lst [V.int (x + y), .int (x - y), .int (x * y)]) hl2
        have e4 := Same.new (o := .lst [V.str (names 2), .str (names 3), .str (names 4)]) hl3
        have e5 := (e2.trans e3).trans e4
        refine ⟨.inl ⟨rfl, _, sqL_new⟩, _, rfl, l3, _, _, 0, .str (names 2), rfl, rfl, sqL_new, rfl, rfl, rfl, eqV_names 2 2, (fun m z2 hm hz2 => absurd hm (by omega)), ?_⟩
        refine ⟨_, _, 0, _, rfl, rfl, SqL.of (e4 _ _ upd_same), at_of (j := 0) rfl rfl, Or.inl ⟨_, rfl, _, rfl, _, _, rfl, rfl, hp0, ?_⟩⟩
        exact ⟨_, rfl, .inl ⟨rfl, _, e5.seq hl1'⟩, _, rfl, l0, _, _, rfl, rfl, ap e5, sz, fin _ _ _ (some ((x + y) % p)) _ e5 (by show _ = some (((((valsUpto p rows ins i)).getD a none).getD 0 + (((valsUpto p rows ins i)).getD b none).getD 0) % p); rw [hx, hy]; rfl) (by rw [hcnt]; rfl)⟩
      case less a b =>
        obtain ⟨x, hx, hb, hat⟩ := wire a (by simp [Row.named])
        obtain ⟨y, hy, hc, hbt⟩ := wire b (by simp [Row.named])
        refine ⟨_, rfl, rfl, false, congrArg V.bl (kF 3 1), _, rfl, rfl, false, congrArg V.bl (kF 3 8), _, rfl, rfl, false, congrArg V.bl (kF 3 5), _, rfl, by show 3 ≤ sizeLine; decide, fun t2 h2 => ⟨t2, _, rfl, .inr sqT_new, rfl, rfl, true, congrArg V.bl (in3 3 2 3 4), ?_⟩⟩
        have e2 := Same.new (o := .tup [V.str (names 2), .str (names 3), .str (names 4)]) h2
        refine ⟨_, rfl, _, rfl, _, _, 1, _, rfl, rfl, e2.tf.sqT hra, at_of (j := 1) rfl rfl, _, _, _, _, rfl, rfl, e2.seq hl1', hat, _, rfl, _, rfl, _, _, 2, _, rfl, rfl, e2.tf.sqT hra, at_of (j := 2) rfl rfl, _, _, _, _, rfl, rfl, e2.seq hl1', hbt, ?_⟩
        refine ⟨_, rfl, _, rfl, _, _, rfl, rfl, _, rfl, _, rfl, _, _, rfl, rfl, _, rfl, _, rfl, _, _, rfl, rfl, .inr (by constructor <;> omega), by show 3 ≤ sizeLine; decide, fun l2 hl2 => ⟨by show 3 ≤ sizeLine; decide, fun l3 hl3 => ?_⟩⟩
        have e3 := Same.new (o := .lst [V.int (x + y), .int (x - y), .int (x * y)]) hl2
        have e4 := Same.new (o := .lst [V.str (names 2), .str (names 3), .str (names 4)]) hl3
        have e5 := (e2.trans e3).trans e4
        refine ⟨.inl ⟨rfl, _, sqL_new⟩, _, rfl, l3, _, _, 1, .str (names 3), rfl, rfl, sqL_new, rfl, rfl, rfl, eqV_names 3 3, (fun m z2 hm hz2 => lt1 hm hz2), ?_⟩
        refine ⟨_, _, 1, _, rfl, rfl, SqL.of (e4 _ _ upd_same), at_of (j := 1) rfl rfl, Or.inl ⟨_, rfl, _, rfl, _, _, rfl, rfl, hp0, ?_⟩⟩
        exact ⟨_, rfl, .inl ⟨rfl, _, e5.seq hl1'⟩, _, rfl, l0, _, _, rfl, rfl, ap e5, sz, fin _ _ _ (some ((x - y) % p)) _ e5 (by show _ = some (((((valsUpto p rows ins i)).getD a none).getD 0 - (((valsUpto p rows ins i)).getD b none).getD 0) % p); rw [hx, hy]; rfl) (by rw [hcnt]; rfl)⟩
      case product a b =>
        obtain ⟨x, hx, hb, hat⟩ := wire a (by simp [Row.named])
        obtain ⟨y, hy, hc, hbt⟩ := wire b (by simp [Row.named])
        refine ⟨_, rfl, rfl, false, congrArg V.bl (kF 4 1), _, rfl, rfl, false, congrArg V.bl (kF 4 8), _, rfl, rfl, false, congrArg V.bl (kF 4 5), _, rfl, by show 3 ≤ sizeLine; decide, fun t2 h2 => ⟨t2, _, rfl, .inr sqT_new, rfl, rfl, true, congrArg V.bl (in3 4 2 3 4), ?_⟩⟩
        have e2 := Same.new (o := .tup [V.str (names 2), .str (names 3), .str (names 4)]) h2
        refine ⟨_, rfl, _, rfl, _, _, 1, _, rfl, rfl, e2.tf.sqT hra, at_of (j := 1) rfl rfl, _, _, _, _, rfl, rfl, e2.seq hl1', hat, _, rfl, _, rfl, _, _, 2, _, rfl, rfl, e2.tf.sqT hra, at_of (j := 2) rfl rfl, _, _, _, _, rfl, rfl, e2.seq hl1', hbt, ?_⟩
        refine ⟨_, rfl, _, rfl, _, _, rfl, rfl, _, rfl, _, rfl, _, _, rfl, rfl, _, rfl, _, rfl, _, _, rfl, rfl, .inr (by constructor <;> omega), by show 3 ≤ sizeLine; decide, fun l2 hl2 => ⟨by show 3 ≤ sizeLine; decide, fun l3 hl3 => ?_⟩⟩
        have e3 := Same.new (o := .lst [V.int (x + y), .int (x - y), .int (x * y)]) hl2
        have e4 := Same.new (o := .lst [V.str (names 2), .str (names 3), .str (names 4)]) hl3
        have e5 := (e2.trans e3).trans e4
        refine ⟨.inl ⟨rfl, _, sqL_new⟩, _, rfl, l3, _, _, 2, .str (names 4), rfl, rfl, sqL_new, rfl, rfl, rfl, eqV_names 4 4, (fun m z2 hm hz2 => lt2 hm hz2), ?_⟩
        refine ⟨_, _, 2, _, rfl, rfl, SqL.of (e4 _ _ upd_same), at_of (j := 2) rfl rfl, Or.inl ⟨_, rfl, _, rfl, _, _, rfl, rfl, hp0, ?_⟩⟩
        exact ⟨_, rfl, .inl ⟨rfl, _, e5.seq hl1'⟩, _, rfl, l0, _, _, rfl, rfl, ap e5, sz, fin _ _ _ (some ((x * y) % p)) _ e5 (by show _ = some (((((valsUpto p rows ins i)).getD a none).getD 0 * (((valsUpto p rows ins i)).getD b none).getD 0) % p); rw [hx, hy]; rfl) (by rw [hcnt]; rfl)⟩
    · rintro σ H1 ⟨y6, y7, y8, y9, y10, rfl, e1, hl1⟩
      rw [hxl] at hl1
      exact ⟨_, rfl, q l0 H1 e1 hl0 hl1⟩
end
end U

namespace U
open PySem PySem.Spec PyProof.Rows L2
section
variable {P : Program} {w : World} {K : PySem.W.Frag} {mg : Str → Option Value} {base : Heap} {cP cD : Addr}
/-! ### shown -/
def sp_shown (K : PySem.W.Frag) : Sp := fun vs H Q _ => ∃ (p n t : Int) (v u z : V) (rows : List Row) (ins : List Int), vs = [v, u, z] ∧ Rp K H v (setD p n t) ∧ SetOk p n t ∧ Rp K H u (progD rows) ∧ rows.length ≤ 60 ∧ RowsOk n p rows ∧ Wired rows ∧ Rp K H z (PI ins) ∧ ins.length = (inputRowsM rows).length ∧ (∀ x ∈ ins, 0 ≤ x ∧ x < p) ∧
  ∀ r H', Same H H' → Rp K H' r (.tuple ((shownL p rows ins).map shownD)) → Q r H'
theorem fm_map2 {α β γ : Type} (f : α → Option β) (g : β → γ) (l : List α) : l.filterMap (fun k => (f k).map g) = (l.filterMap f).map g := by
  induction l with
  | nil => rfl
  | cons a r ih =>
    rw [List.filterMap_cons, List.filterMap_cons]
    cases f a with
    | none => simp only [Option.map_none, ih]
    | some b => simp only [Option.map_some, List.map_cons, ih]
theorem Txt.c__law_shown (T : Txt K mg cP cD) : C8.Cal P w K mg base 2 "_law_shown" (sp_shown K) [] := by
  refine T.d__law_shown.cal sc__law_shown (fun vs H Q E h => ?_) (fun f cdv A outer s H vs Q E hr h => ?_)
  · obtain ⟨p, n, t, v, u, z, rows, ins, rfl, _⟩ := h
    rfl
  · obtain ⟨p, n, t, v, u, z, rows, ins, rfl, hv, ok, hu, hrl, rok, wd, hz, hil, hib, q⟩ := h
    obtain ⟨pa, pb, xs, rfl, hA, hB, hR⟩ := hu.prog
    have hxl := hR.len
    rw [List.length_map] at hxl
    have T_c__law_values := T.c__law_values (P := P) (w := w) (base := base)
    refine ⟨_, (pss_cons (ps_set (i := 3) sc__law_shown.nd rfl (Or.inr rfl) (C8.pe_c T_c__law_values hr (by decide) (by rfl) (pa_cons (pv 0) (pa_cons (pv 1) (pa_cons (pv 2) pa_nil)))))
      (pss_cons (ps_set (i := 4) sc__law_shown.nd rfl (Or.inr rfl) (pe_ix (ixT K) (pv 1) pe_int (fun _ _ => rfl)))
      (pss_one (ps_ret (pe_tupleOf (by rfl) T.n_tuple (pe_lc (own := [("_law_k", 5)]) (g := gName 5) rfl sc__law_shown.nd (pi_range1 (by rfl) T.n_range (pa_cons (pe_callB (lenS K) (by rfl) T.n_len PySem.boot_len (pa_cons (pv 4) pa_nil)) pa_nil)) (blkOk_by (N := ["_law_setting", "_law_program_here", "_law_inputs_here", "_law_found", "_law_rows", "_law_k"]) (sc := defScope s__law_shown) (by decide +kernel)) (fun _ _ _ _ _ => pg_name (i := 5) sc__law_shown.nd rfl (Or.inl rfl)) (fun _ _ _ _ _ => pts_one (pt_cmpR op_eq (pe_ix (ixT K) (pe_ix (ixT K) (pv 4) (pv 5) (fun _ _ => rfl)) pe_int (fun _ _ => rfl)) pe_str (nomark _))) (fun _ _ _ _ _ => (pe_tup (pa_cons (pv 5) (pa_cons (pe_ix (ixT K) (pe_ix (ixT K) (pv 4) (pv 5) (fun _ _ => rfl)) pe_int (fun _ _ => rfl)) (pa_cons (pe_ix (ixL K) (pv 3) (pe_ix (ixT K) (pe_ix (ixT K) (pv 4) (pv 5) (fun _ _ => rfl)) pe_int (fun _ _ => rfl)) (fun _ _ => rfl)) pa_nil))))))))))), ?_⟩
    refine ⟨_, rfl, _, rfl, _, rfl, p, n, t, v, _, z, rows, ins, rfl, hv, ok, hu, hrl, rok, wd, hz, hil, hib, fun l H1 e1 hl0 hl1 => ?_⟩
    refine ⟨_, rfl, _, _, 1, _, rfl, rfl, e1.tf.sqT hA, at_of (j := 1) rfl rfl, ?_⟩
    have hB1 := e1.tf.sqT hB
    refine ⟨_, rfl, pb, xs, rfl, .inr hB1, _, rfl, by omega, by omega, ?_⟩
    refine lcR (K := K) (n := ((xs.length : Nat) : Int).toNat) (by rw [Int.toNat_natCast]; omega) (fun k => (shownE p rows ins k).map shownD) (fun i y H2 hi hy e2 Acc Skip ka ks => ?_) fun D H2 acc hD e2 ha ra => ?_
    · subst hy
      have hi' : i < rows.length := by rw [Int.toNat_natCast] at hi; omega
      obtain ⟨r, hr⟩ : ∃ r, rows[i]? = some r := ⟨_, List.getElem?_eq_getElem hi'⟩
      have hrD : rows.getD i .next = r := by rw [List.getD_eq_getElem?_getD, hr]; rfl
      obtain ⟨ra, hvr, hra⟩ := hR.rowAt hr
      have e12 := e1.trans e2
      have hra2 := e12.tf.sqT hra
      have hB2 := e2.tf.sqT hB1
      refine ⟨rfl, _, rfl, _, rfl, _, _, _, _, rfl, rfl, hB2, atI_nat hvr, _, _, 0, _, rfl, rfl, hra2, at_of (j := 0) rfl rfl, rfl, _, congrArg V.bl (names_eq r.kn 6), ?_⟩
      cases ho : decide (r.kn = 6) with
      | false =>
        refine ks _ ?_ (Same.refl _)
        show (shownE p rows ins i).map shownD = none
        unfold shownE
        rw [hrD]
        cases r <;> first | rfl | cases ho
      | true =>
        obtain ⟨b1, b2, rfl⟩ : ∃ b1 b2, r = .out b1 b2 := by
          have hou' := of_decide_eq_true ho
          cases r <;> first | exact ⟨_, _, rfl⟩ | exact absurd hou' (by simp only [Row.kn]; decide)
        have hal := row_named_lt (rok i _ hr) b1 (by simp [Row.named])
        have hvl := valsUpto_len p rows ins rows.length
        have hat : atI ((valsM p rows ins).map optV) ((b1 : Nat) : Int) = some (optV ((valsM p rows ins).getD b1 none)) := by
          have hbl : b1 < (valsM p rows ins).length := by unfold valsM; omega
          rw [List.getD_eq_getElem?_getD, List.getElem?_eq_getElem hbl]
          exact atI_nat (map_get (List.getElem?_eq_getElem hbl))
        refine ⟨_, rfl, _, rfl, _, rfl, _, _, _, _, rfl, rfl, hB2, atI_nat hvr, _, _, 2, _, rfl, rfl, hra2, at_of (j := 2) rfl rfl, _, rfl, _, rfl, _, rfl, _, _, _, _, rfl, rfl, hB2, atI_nat hvr, _, _, 1, _, rfl, rfl, hra2, at_of (j := 1) rfl rfl, _, _, _, _, rfl, rfl, SqL.of (e2 _ _ hl1), hat, by show 3 ≤ sizeLine; decide, fun tp htp => ?_⟩
        refine ka _ _ _ ?_ (Same.new htp) (.tup sqT_new (.cons (.int _) (.cons (.int _) (.one (.opt _)))))
        show (shownE p rows ins i).map shownD = _
        unfold shownE
        rw [hrD]
        rfl
    · rw [Int.toNat_natCast, hxl, fm_map2] at ra
      exact tupOf ha ra fun c H3 e3 rc => q _ _ ((e1.trans e2).trans e3) rc
/-! ### coins -/
def sp_coins_of (K : PySem.W.Frag) : Sp := fun vs H Q _ => ∃ (p n t : Int) (v u : V) (rows : List Row), vs = [v, u] ∧ Rp K H v (setD p n t) ∧ SetOk p n t ∧ Rp K H u (progD rows) ∧ rows.length ≤ 60 ∧ ∀ H', Same H H' → Q (.int (offM n t rows)) H'
theorem Txt.c__law_coins_of (T : Txt K mg cP cD) : C8.Cal P w K mg base 1 "_law_coins_of" (sp_coins_of K) [] := by
  refine T.d__law_coins_of.cal sc__law_coins_of (fun vs H Q E h => ?_) (fun f cdv A outer s H vs Q E hr h => ?_)
  · obtain ⟨p, n, t, v, u, rows, rfl, _⟩ := h
    rfl
  · obtain ⟨p, n, t, v, u, rows, rfl, hv, ok, hu, hrl, q⟩ := h
    obtain ⟨sa, rfl, hS⟩ := hv.setting
    obtain ⟨pa, pb, xs, rfl, hA, hB, hR⟩ := hu.prog
    have hxl := hR.len
    rw [List.length_map] at hxl
    have ht0 := ok.t0
    have ht1 := ok.t1
    refine ⟨_, (pss_cons (ps_set (i := 2) sc__law_coins_of.nd rfl (Or.inr rfl) (pe_disp (pps_cons pe_str pe_int (pps_cons pe_str (pe_ix (ixT K) (pv 0) pe_int (fun _ _ => rfl)) (pps_cons pe_str (pe_ix (ixT K) (pv 0) pe_int (fun _ _ => rfl)) pps_nil))) (by rfl) (by rfl) (fun z => by cases z) (by decide)))
      (pss_one (ps_ret (pe_callB (cr_sum rfl) (by rfl) T.n_sum (by decide +kernel) (pa_cons (pe_lc (own := [("_law_row", 3)]) (g := gName 3) rfl sc__law_coins_of.nd (pi_tup (pe_ix (ixT K) (pv 1) pe_int (fun _ _ => rfl))) (blkOk_by (N := ["_law_setting", "_law_program_here", "_law_each", "_law_row"]) (sc := defScope s__law_coins_of) (by decide +kernel)) (fun _ _ _ _ _ => pg_name (i := 3) sc__law_coins_of.nd rfl (Or.inl rfl)) (fun _ _ _ _ _ => pts_nil) (fun _ _ _ _ _ => (pe_op op_mul (pe_ix (ixT K) (pv 0) pe_int (fun _ _ => rfl)) (pe_dget2 (hu_of hr) (pv 2) (pe_ix (ixT K) (pv 3) pe_int (fun _ _ => rfl)) pe_int ⟨rfl, rfl, rfl, rfl⟩)))) pa_nil))))), ?_⟩
    refine fun d hd => ?_
    have e1 := Same.new (o := .dK []) hd
    refine ⟨_, rfl, _, _, 2, _, rfl, rfl, e1.tf.sqT hS, at_of (j := 2) rfl rfl, _, rfl, _, _, 2, _, rfl, rfl, e1.tf.sqT hS, at_of (j := 2) rfl rfl, upd_same, eachK n, rfl, by show 3 ≤ 15; decide, ?_⟩
    rw [upd_upd, merge_each]
    have e2 := Same.new (o := .dK (eachK n)) hd
    refine ⟨_, rfl, _, _, 1, _, rfl, rfl, e2.tf.sqT hA, at_of (j := 1) rfl rfl, pb, rfl, ⟨_, e2.tf.sqT hB⟩, ?_⟩
    refine lcT1 (K := K) (L := (rows.map fun r => t * manyM n r).map PyData.int) (e2.tf.sqT hB) (by simp only [List.length_map]; omega) (by omega) (fun i y dd H1 hd1 hy e3 Acc ka => ?_) fun D H1 acc hD e3 ha ra => ?_
    · obtain ⟨d2, hd2, hd3⟩ := hR.got hy
      obtain ⟨r, hr, rfl⟩ := map_got hd2
      rw [map_get (map_get hr)] at hd1
      cases hd1
      have e23 := e2.trans e3
      obtain ⟨ra, rfl, hra⟩ := (hd3.sm e23).row
      have hdk := e3 _ _ (show upd H d (.dK (eachK n)) d = _ from upd_same)
      refine ⟨rfl, _, rfl, _, _, 3, _, rfl, rfl, e23.tf.sqT hS, at_of (j := 3) rfl rfl, _, rfl, d, rfl, .inl ⟨_, .inl hdk⟩, _, rfl, _, _, 0, _, rfl, rfl, hra, at_of (j := 0) rfl rfl, _, DGet.k (k := Sum.inr (names r.kn)) hdk, ?_⟩
      rw [each_get]
      exact ⟨_, _, rfl, rfl, .inl (by constructor <;> omega), ka _ _ (Same.refl _) (.int _)⟩
    · have hacc := RpAll.ints_eq ra
      subst hacc
      exact ⟨D, _, rfl, SqL.of ha, q _ (e2.trans e3)⟩
def sp_law_coins (K : PySem.W.Frag) : Sp := fun vs H Q _ => ∃ (b dg : Addr) (p n t : Int) (v u : V) (rows : List Row), vs = [.ref b, v, u] ∧ Box H b dg ∧ Rp K H v (setD p n t) ∧ SetOk p n t ∧ Rp K H u (progD rows) ∧ rows.length ≤ 60 ∧
  ∀ r H' ns, But (fun a => a = b) H H' → TF H H' → Box H' b dg → Rp K H' r (PI ns) → (ns.length : Int) = offM n t rows → (∀ x ∈ ns, 0 ≤ x ∧ x < p) → Q r H'
theorem Txt.c__law_coins (T : Txt K mg cP cD) : C8.Cal P w K mg base 2 "_law_coins" (sp_law_coins K) [] := by
  refine T.d__law_coins.cal sc__law_coins (fun vs H Q E h => ?_) (fun f cdv A outer s H vs Q E hr h => ?_)
  · obtain ⟨b, dg, p, n, t, v, u, rows, rfl, _⟩ := h
    rfl
  · obtain ⟨b, dg, p, n, t, v, u, rows, rfl, hB, hv, ok, hu, hrl, q⟩ := h
    have hoff := offM_bd ok.n0 ok.n1 ok.t0 ok.t1 rows
    have hp0 := ok.p0
    have T_c__law_draw := T.c__law_draw (P := P) (w := w) (base := base)
    have T_c__law_coins_of := T.c__law_coins_of (P := P) (w := w) (base := base)
    refine ⟨_, (pss_cons (ps_set (i := 3) sc__law_coins.nd rfl (Or.inl rfl) (pe_op op_add (pe_op op_add pe_int (pe_op op_mul (C8.pe_c T_c__law_draw hr (by decide) (by rfl) (pa_cons (pv 0) (pa_cons pe_int pa_nil))) pe_int)) (C8.pe_c T_c__law_draw hr (by decide) (by rfl) (pa_cons (pv 0) (pa_cons pe_int pa_nil)))))
      (pss_cons (ps_set (i := 4) sc__law_coins.nd rfl (Or.inl rfl) (pe_lst pa_nil))
      (pss_cons (ps_for PassesOwn.never rfl (pi_range1 (by rfl) T.n_range (pa_cons (C8.pe_c T_c__law_coins_of hr (by decide) (by rfl) (pa_cons (pv 1) (pa_cons (pv 2) pa_nil))) pa_nil)) (pg_name (i := 5) sc__law_coins.nd rfl (Or.inl rfl))
        (pss_cons (ps_set (i := 3) sc__law_coins.nd rfl (Or.inl rfl) (pe_op op_mod (pe_callTy call_int1 (by rfl) T.n_int (by decide +kernel) (pa_cons (pe_op op_add (pe_op op_mul (pv 3) pe_int) pe_int) pa_nil)) pe_int))
        (pss_one (ps_expr (pe_bm PySem.F.plainAttrs_list PySem.F.slot_list_append PySem.F.type_list_append mt_append (pv 4) (pa_cons (pe_op op_mod (pe_callTy call_int1 (by rfl) T.n_int (by decide +kernel) (pa_cons (pe_op op_fdiv (pv 3) pe_int) pa_nil)) (pe_ix (ixT K) (pv 1) pe_int (fun _ _ => rfl))) pa_nil))))))
      (pss_one (ps_ret (pe_tupleOf (by rfl) T.n_tuple (pv 4))))))), ?_⟩
    refine ⟨_, rfl, b, dg, 1000, rfl, hB, by decide, fun z H1 hz0 hz1 b1 t1 hB1 => ⟨_, _, rfl, rfl, .inr (by constructor <;> decide), _, _, rfl, rfl, ?_⟩⟩
    refine ⟨_, rfl, b, dg, 1000, rfl, hB1, by decide, fun z2 H2 hz2 hz3 b2 t2 hB2 => ⟨_, _, rfl, rfl, ?_⟩⟩
    have b12 := b1.trans b2
    have t12 := t1.trans t2
    refine ⟨Nat.zero_le _, fun l0 hl0 => ?_⟩
    have e3 := Same.new (o := .lst []) hl0
    have hv3 := (hv.tf t12).sm e3
    refine ⟨_, rfl, _, rfl, p, n, t, v, u, rows, rfl, hv3, ok, (hu.tf t12).sm e3, hrl, fun H4 e4 => ?_⟩
    have e34 := e3.trans e4
    have hl4 := e4 _ _ (show upd H2 l0 (.lst []) l0 = _ from upd_same)
    obtain ⟨sa, rfl, hS⟩ := hv3.setting
    have hS4 := e4.tf.sqT hS
    refine ⟨_, rfl, by omega, by omega, for_range (lo := 0) (n := (offM n t rows).toNat)
      (fun i σ H' => ∃ (sd : Int) (y5 : Option V) (ns : List Int), σ = [some (.ref b), some (.ref sa), some u, some (.int sd), some (.ref l0), y5] ∧ Same H2 H' ∧ SqT K H' sa [.str "setting", .int p, .int n, .int t] ∧ H' l0 = some (.lst (ns.map V.int)) ∧ ns.length = i ∧ ∀ x ∈ ns, 0 ≤ x ∧ x < p)
      ⟨_, none, [], rfl, e34, hS4, hl4, rfl, by simp⟩ ?_ ?_⟩
    · rintro i σ H5 hi ⟨sd, y5, ns, rfl, e5, hS5, hl5, hnl, hnb⟩
      refine ⟨_, rfl, _, _, rfl, rfl, .inr (by constructor <;> decide), _, _, rfl, rfl, Or.inl ⟨_, rfl, _, _, rfl, rfl, by show (0 : Int) < 2147483647; decide, ?_⟩⟩
      refine ⟨_, rfl, .inl ⟨rfl, _, SqL.of hl5⟩, _, rfl, _, _, rfl, rfl, ⟨by decide, by decide⟩, Or.inl ⟨_, rfl, _, rfl, _, _, 1, _, rfl, rfl, hS5, at_of (j := 1) rfl rfl, _, _, rfl, rfl, hp0, ?_⟩⟩
      refine ⟨l0, _, _, rfl, rfl, hl5, by rw [List.length_map]; exact small' (by omega), ?_⟩
      refine ⟨_, _, ns ++ [_], rfl, e5.mut hl0, (TF.upd hl5 plain_lst).sqT hS5, by rw [upd_same, List.map_append]; rfl, by rw [List.length_append, hnl]; rfl, fun x hx => ?_⟩
      rcases List.mem_append.mp hx with hx | hx
      · exact hnb x hx
      · rw [List.mem_singleton.mp hx]
        exact ⟨Int.emod_nonneg _ (by omega), Int.emod_lt_of_pos _ hp0⟩
    · rintro σ H5 ⟨sd, y5, ns, rfl, e5, hS5, hl5, hnl, hnb⟩
      refine ⟨_, rfl, tupOf hl5 (.ints ns) fun c H6 e6 rc => ?_⟩
      have e56 := e5.trans e6
      exact q _ _ ns (b12.trans e56.but) (t12.trans e56.tf) (hB2.sm e56) rc (by omega) hnb
end
end U

namespace U
/-! ### sums -/
def sumN : Nat → (Nat → Int) → Int
  | 0, _ => 0
  | n + 1, f => sumN n f + f n
theorem sumN_congr {f g : Nat → Int} : ∀ {n : Nat}, (∀ i, i < n → f i = g i) → sumN n f = sumN n g
  | 0, _ => rfl
  | n + 1, h => by
    show sumN n f + f n = sumN n g + g n
    rw [sumN_congr fun i hi => h i (by omega), h n (by omega)]
theorem sumN_cg {p : Int} {f g : Nat → Int} : ∀ {n : Nat}, (∀ i, i < n → f i % p = g i % p) → sumN n f % p = sumN n g % p
  | 0, _ => rfl
  | n + 1, h => by
    show (sumN n f + f n) % p = (sumN n g + g n) % p
    rw [Int.add_emod, sumN_cg fun i hi => h i (by omega), h n (by omega), ← Int.add_emod]
theorem sumN_add (f g : Nat → Int) : ∀ n : Nat, sumN n (fun i => f i + g i) = sumN n f + sumN n g
  | 0 => rfl
  | n + 1 => by
    show sumN n _ + (f n + g n) = (sumN n f + f n) + (sumN n g + g n)
    rw [sumN_add f g n]
    omega
theorem sumN_mulL (c : Int) (f : Nat → Int) : ∀ n : Nat, sumN n (fun i => c * f i) = c * sumN n f
  | 0 => by show (0 : Int) = c * 0; rw [Int.mul_zero]
  | n + 1 => by
    show sumN n _ + c * f n = c * (sumN n f + f n)
    rw [sumN_mulL c f n, Int.mul_add]
theorem sumN_mulR (c : Int) (f : Nat → Int) (n : Nat) : sumN n (fun i => f i * c) = sumN n f * c := by
  rw [Int.mul_comm, ← sumN_mulL]
  exact sumN_congr fun i _ => Int.mul_comm _ _
theorem sumN_zero {f : Nat → Int} : ∀ {n : Nat}, (∀ i, i < n → f i = 0) → sumN n f = 0
  | 0, _ => rfl
  | n + 1, h => by
    show sumN n f + f n = 0
    rw [sumN_zero fun i hi => h i (by omega), h n (by omega)]
    rfl
theorem sumN_swap (f : Nat → Nat → Int) (b : Nat) : ∀ a : Nat, sumN a (fun i => sumN b fun m => f i m) = sumN b (fun m => sumN a fun i => f i m)
  | 0 => (sumN_zero fun i _ => rfl).symm
  | a + 1 => by
    show sumN a _ + sumN b (fun m => f a m) = sumN b (fun m => sumN a (fun i => f i m) + f a m)
    rw [sumN_swap f b a, sumN_add]
theorem sumN_left (f : Nat → Int) : ∀ n : Nat, sumN (n + 1) f = f 0 + sumN n fun i => f (i + 1)
  | 0 => by show 0 + f 0 = f 0 + 0; omega
  | n + 1 => by
    show sumN (n + 1) f + f (n + 1) = f 0 + (sumN n _ + f (n + 1))
    rw [sumN_left f n]
    omega
theorem sumN_more {f : Nat → Int} {a : Nat} : ∀ {b : Nat}, a ≤ b → (∀ i, a ≤ i → f i = 0) → sumN b f = sumN a f
  | 0, h, _ => by rw [show a = 0 by omega]
  | b + 1, h, z => by
    by_cases e : a = b + 1
    · rw [e]
    · show sumN b f + f b = _
      rw [sumN_more (by omega) z, z b (by omega)]
      omega
theorem sumN_delta {f : Nat → Int} {r : Nat} : ∀ {n : Nat}, r < n → sumN n (fun m => f m * if m = r then 1 else 0) = f r
  | 0, h => by omega
  | n + 1, h => by
    show sumN n _ + f n * (if n = r then 1 else 0) = f r
    by_cases e : n = r
    · rw [if_pos e, sumN_zero fun i hi => by rw [if_neg (by omega), Int.mul_zero], e]
      omega
    · rw [if_neg e, sumN_delta (by omega), Int.mul_zero]
      omega
theorem sum_map_sumN (f : Int → Int) : ∀ l : List Int, (l.map f).sum = sumN l.length fun i => f (l.getD i 0)
  | [] => rfl
  | a :: r => by
    rw [List.map_cons, List.sum_cons, sum_map_sumN f r, List.length_cons, sumN_left]
    rfl
theorem sum_sumN (l : List Int) : l.sum = sumN l.length fun i => l.getD i 0 := by
  have := sum_map_sumN id l
  rw [List.map_id] at this
  exact this
/-! ### congruence -/
def Cg (p a b : Int) : Prop := a % p = b % p
theorem Cg.rfl' {p a : Int} : Cg p a a := rfl
theorem Cg.mod (p a : Int) : Cg p (a % p) a := Int.emod_emod_of_dvd _ (Int.dvd_refl p)
theorem Cg.sym {p a b : Int} (h : Cg p a b) : Cg p b a := Eq.symm h
theorem Cg.tr {p a b c : Int} (h : Cg p a b) (k : Cg p b c) : Cg p a c := Eq.trans h k
theorem Cg.add {p a b c d : Int} (h : Cg p a b) (k : Cg p c d) : Cg p (a + c) (b + d) := by
  show (a + c) % p = (b + d) % p
  rw [Int.add_emod, show a % p = b % p from h, show c % p = d % p from k, ← Int.add_emod]
theorem Cg.mul {p a b c d : Int} (h : Cg p a b) (k : Cg p c d) : Cg p (a * c) (b * d) := by
  show (a * c) % p = (b * d) % p
  rw [Int.mul_emod, show a % p = b % p from h, show c % p = d % p from k, ← Int.mul_emod]
theorem Cg.sub {p a b c d : Int} (h : Cg p a b) (k : Cg p c d) : Cg p (a - c) (b - d) := by
  show (a - c) % p = (b - d) % p
  rw [Int.sub_emod, show a % p = b % p from h, show c % p = d % p from k, ← Int.sub_emod]
theorem Cg.of_eq {p a b : Int} (h : a = b) : Cg p a b := by rw [h]; exact Cg.rfl'
theorem Cg.small {p a b : Int} (h : Cg p a b) (h0 : 0 ≤ a) (h1 : a < p) : a = b % p := by
  rw [← show a % p = b % p from h, Int.emod_eq_of_lt h0 h1]
theorem Cg.sumN {p : Int} {f g : Nat → Int} {n : Nat} (h : ∀ i, i < n → Cg p (f i) (g i)) : Cg p (sumN n f) (sumN n g) := sumN_cg h
/-! ### the settings of the law -/
def combos : List (Int × Nat × Nat) := [7, 11, 101].flatMap fun p => [(p, 3, 0), (p, 4, 1), (p, 5, 1), (p, 4, 0), (p, 6, 1), (p, 6, 2)]
/-- the weights read at 0, to twice the degree -/
def chkW (p : Int) (n t : Nat) : Bool := (List.range (2 * t + 1)).all fun m => sumN n (fun i => (weightsM p (partsM (n : Int)) 0).getD i 0 * ((i : Int) + 1) ^ m) % p == (if m = 0 then 1 else 0) % p
/-- the bases at any t + 1 points -/
def chkB (p : Int) (n t : Nat) : Bool := (setsM (t + 1) (partsM (n : Int))).all fun pts => (List.range (t + 1)).all fun m => (List.range (t + 1)).all fun r => sumN (t + 1) (fun i => (pts.getD i 0) ^ r * (basisM p pts i).getD m 0) % p == (if r = m then 1 else 0) % p
def chkP (p : Int) (n t : Nat) : Bool := decide (7 ≤ p) && decide (p ≤ 101) && decide (3 ≤ n) && decide (n ≤ 6) && decide (t ≤ 2) && decide (2 * t + 1 ≤ n) && decide (3 * t ≤ n)
theorem chk_all : (combos.all fun c => chkW c.1 c.2.1 c.2.2 && (chkB c.1 c.2.1 c.2.2 && chkP c.1 c.2.1 c.2.2)) = true := by decide +kernel
structure Good (p : Int) (n t : Nat) : Prop where
  w : ∀ m, m ≤ 2 * t → Cg p (sumN n fun i => (weightsM p (partsM (n : Int)) 0).getD i 0 * ((i : Int) + 1) ^ m) (if m = 0 then 1 else 0)
  b : ∀ pts ∈ setsM (t + 1) (partsM (n : Int)), ∀ r m, r ≤ t → m ≤ t → Cg p (sumN (t + 1) fun i => (pts.getD i 0) ^ r * (basisM p pts i).getD m 0) (if r = m then 1 else 0)
  p0 : 7 ≤ p
  p1 : p ≤ 101
  n0 : 3 ≤ n
  n1 : n ≤ 6
  t1 : t ≤ 2
  nt : 2 * t + 1 ≤ n
theorem good_of {p : Int} {n t : Nat} (h : (p, n, t) ∈ combos) : Good p n t := by
  have q := List.all_eq_true.mp chk_all _ h
  simp only [Bool.and_eq_true] at q
  obtain ⟨q1, q2, q3⟩ := q
  unfold chkP at q3
  simp only [Bool.and_eq_true, decide_eq_true_eq] at q3
  obtain ⟨⟨⟨⟨⟨⟨a1, a2⟩, a3⟩, a4⟩, a5⟩, a6⟩, a7⟩ := q3
  refine ⟨fun m hm => ?_, fun pts hp r m hr hm => ?_, a1, a2, a3, a4, a5, a6⟩
  · exact eq_of_beq (List.all_eq_true.mp q1 m (List.mem_range.mpr (by omega)))
  · have := List.all_eq_true.mp (List.all_eq_true.mp (List.all_eq_true.mp q2 pts hp) m (List.mem_range.mpr (by omega))) r (List.mem_range.mpr (by omega))
    exact eq_of_beq this
/-! ### polynomials by their coefficients -/
def ev (f : Nat → Int) (t : Nat) (x : Int) : Int := sumN (t + 1) fun m => f m * x ^ m
theorem ev_zero (f : Nat → Int) (t : Nat) : ev f t 0 = f 0 := by
  unfold ev
  rw [sumN_left, sumN_zero fun i _ => by rw [Int.pow_succ, Int.mul_zero, Int.mul_zero], Int.pow_zero, Int.mul_one]
  omega
theorem ev_add (f g : Nat → Int) (t : Nat) (x : Int) : ev (fun m => f m + g m) t x = ev f t x + ev g t x := by
  unfold ev
  rw [← sumN_add]
  exact sumN_congr fun i _ => Int.add_mul _ _ _
theorem ev_mul (c : Int) (f : Nat → Int) (t : Nat) (x : Int) : ev (fun m => c * f m) t x = c * ev f t x := by
  unfold ev
  rw [← sumN_mulL]
  exact sumN_congr fun i _ => Int.mul_assoc _ _ _
theorem ev_sub (f g : Nat → Int) (t : Nat) (x : Int) : ev (fun m => f m - g m) t x = ev f t x - ev g t x := by
  have h1 := ev_add (fun m => f m - g m) g t x
  have h2 : ev (fun m => f m - g m + g m) t x = ev f t x := by
    unfold ev
    exact sumN_congr fun i _ => by
      show (f i - g i + g i) * x ^ i = _
      rw [Int.sub_add_cancel]
  omega
theorem ev_sum (F : Nat → Nat → Int) (n t : Nat) (x : Int) : ev (fun m => sumN n fun i => F i m) t x = sumN n fun i => ev (F i) t x := by
  unfold ev
  rw [← sumN_swap]
  exact sumN_congr fun m _ => (sumN_mulR _ _ _).symm
theorem ev_cg {p : Int} {f g : Nat → Int} {t : Nat} (h : ∀ m, m ≤ t → Cg p (f m) (g m)) (x : Int) : Cg p (ev f t x) (ev g t x) :=
  Cg.sumN fun m hm => (h m (by omega)).mul Cg.rfl'
/-- a list of coefficients -/
def lf (l : List Int) : Nat → Int := fun m => l.getD m 0
theorem valueM_len (p : Int) (x : Int) : ∀ l : List Int, valueM p l x = sumN l.length (fun m => l.getD m 0 * x ^ m) % p
  | [] => by
    show (0 : Int) = 0 % p
    rw [Int.zero_emod]
  | c :: l => by
    show (valueM p l x * x + c) % p = _
    rw [valueM_len p x l, List.length_cons, sumN_left, Int.add_emod, Int.mul_emod, Int.emod_emod_of_dvd _ (Int.dvd_refl p), ← Int.mul_emod, ← Int.add_emod, ← sumN_mulR]
    have e : sumN l.length (fun i => l.getD i 0 * x ^ i * x) = sumN l.length (fun i => (c :: l).getD (i + 1) 0 * x ^ (i + 1)) := sumN_congr fun i _ => by
      rw [Int.mul_assoc, ← Int.pow_succ]
      rfl
    rw [e]
    congr 1
    show _ + c = c * x ^ 0 + _
    rw [Int.pow_zero, Int.mul_one, Int.add_comm]
theorem valueM_ev {p : Int} {l : List Int} {t : Nat} (h : l.length ≤ t + 1) (x : Int) : valueM p l x = ev (lf l) t x % p := by
  rw [valueM_len]
  congr 1
  refine (sumN_more h fun i hi => ?_).symm
  rw [List.getD_eq_getElem?_getD, List.getElem?_eq_none (by omega)]
  show (0 : Int) * _ = 0
  rw [Int.zero_mul]
theorem ext_getD {a b : List Int} (hl : a.length = b.length) (h : ∀ m, m < a.length → a.getD m 0 = b.getD m 0) : a = b :=
  List.ext_getElem hl fun i h1 h2 => by
    have := h i h1
    rw [getD_get h1, getD_get h2] at this
    exact this
def canon (p : Int) (f : Nat → Int) (t : Nat) : List Int := (List.range (t + 1)).map fun m => f m % p
theorem canon_len (p : Int) (f : Nat → Int) (t : Nat) : (canon p f t).length = t + 1 := by unfold canon; rw [List.length_map, List.length_range]
theorem canon_get {p : Int} {f : Nat → Int} {t m : Nat} (h : m ≤ t) : (canon p f t).getD m 0 = f m % p := by
  unfold canon
  rw [List.getD_eq_getElem?_getD, List.getElem?_map, List.getElem?_range (by omega)]
  rfl
theorem canon_val (p : Int) (f : Nat → Int) (t : Nat) (x : Int) : valueM p (canon p f t) x = ev f t x % p := by
  rw [valueM_ev (t := t) (by rw [canon_len]; exact Nat.le_refl _)]
  exact ev_cg (fun m hm => by unfold lf; rw [canon_get hm]; exact Cg.mod p _) x
theorem canon_self {p : Int} {l : List Int} {t : Nat} (hl : l.length = t + 1) (hb : ∀ x ∈ l, 0 ≤ x ∧ x < p) : canon p (lf l) t = l := by
  refine ext_getD (by rw [canon_len, hl]) fun i h1 => ?_
  rw [canon_len] at h1
  rw [canon_get (by omega)]
  show l.getD i 0 % p = l.getD i 0
  rw [getD_get (by omega)]
  have := hb _ (List.getElem_mem (show i < l.length by omega))
  exact Int.emod_eq_of_lt this.1 this.2
/-! ### through -/
theorem getD_zip {f : Int → Int → Int} {a b : List Int} {m : Nat} (ha : m < a.length) (hb : m < b.length) : (List.zipWith f a b).getD m 0 = f (a.getD m 0) (b.getD m 0) := by
  simp only [List.getD_eq_getElem?_getD, List.getElem?_zipWith, List.getElem?_eq_getElem ha, List.getElem?_eq_getElem hb, Option.getD_some]
theorem getD_map {f : Int → Int} {a : List Int} {m : Nat} (ha : m < a.length) : (a.map f).getD m 0 = f (a.getD m 0) := by
  simp only [List.getD_eq_getElem?_getD, List.getElem?_map, List.getElem?_eq_getElem ha, Option.map_some, Option.getD_some]
theorem through_get {p : Int} {pts vals : List Int} {m : Nat} (hm : m < pts.length) : ∀ k, k ≤ pts.length → ((List.range k).foldl (stepM p pts vals) (List.replicate pts.length 0)).getD m 0 = sumN k (fun i => vals.getD i 0 * (basisM p pts i).getD m 0) % p
  | 0, _ => by
    show (List.replicate pts.length (0 : Int)).getD m 0 = 0 % p
    rw [Int.zero_emod, List.getD_eq_getElem?_getD, List.getElem?_replicate, if_pos hm]
    rfl
  | k + 1, hk => by
    have ih := through_get (p := p) (vals := vals) hm k (by omega)
    have hl := through_part (p := p) (vals := vals) k (show k ≤ pts.length by omega)
    rw [List.range_succ, List.foldl_append, List.foldl_cons, List.foldl_nil]
    unfold stepM at *
    have hb : (basesM p pts).getD k [] = basisM p pts k := by rw [List.getD_eq_getElem?_getD, basesM_get (by omega)]; rfl
    unfold addedM scaledM at *
    have hbl := basisM_len (p := p) (pts := pts) (i := k) (by omega)
    rw [getD_zip (by rw [hl]; exact hm) (by rw [List.length_map, hb, hbl]; exact hm), ih, hb, getD_map (by rw [hbl]; exact hm)]
    show _ = (sumN k _ + _) % p
    exact Cg.add (Cg.mod p _) (Cg.mod p _)
theorem through_canon {p : Int} {n t : Nat} (G : Good p n t) {pts : List Int} (hp : pts ∈ setsM (t + 1) (partsM (n : Int))) (f : Nat → Int) : throughM p pts (pts.map fun i => ev f t i % p) = canon p f t := by
  have hl := (setsM_mem _ _ _ hp).1
  refine ext_getD (by rw [throughM_len, canon_len, hl]) fun m h1 => ?_
  rw [throughM_len] at h1
  have e1 := through_get (p := p) (vals := pts.map fun i => ev f t i % p) h1 pts.length (Nat.le_refl _)
  have e2 : throughM p pts (pts.map fun i => ev f t i % p) = (List.range pts.length).foldl (stepM p pts (pts.map fun i => ev f t i % p)) (List.replicate pts.length 0) := rfl
  rw [e2, e1, canon_get (by omega)]
  rw [hl] at h1 ⊢
  show Cg p _ _
  have e3 : Cg p (sumN (t + 1) fun i => (pts.map fun i => ev f t i % p).getD i 0 * (basisM p pts i).getD m 0) (sumN (t + 1) fun i => ev f t (pts.getD i 0) * (basisM p pts i).getD m 0) := Cg.sumN fun i hi => by
    rw [getD_map (by omega)]
    exact (Cg.mod p _).mul Cg.rfl'
  refine e3.tr ?_
  have e4 : sumN (t + 1) (fun i => ev f t (pts.getD i 0) * (basisM p pts i).getD m 0) = sumN (t + 1) fun r => f r * sumN (t + 1) fun i => (pts.getD i 0) ^ r * (basisM p pts i).getD m 0 := by
    have a1 : ∀ i, ev f t (pts.getD i 0) * (basisM p pts i).getD m 0 = sumN (t + 1) fun r => f r * ((pts.getD i 0) ^ r * (basisM p pts i).getD m 0) := fun i => by
      unfold ev
      rw [← sumN_mulR]
      exact sumN_congr fun r _ => Int.mul_assoc _ _ _
    rw [sumN_congr fun i _ => a1 i, sumN_swap]
    exact sumN_congr fun r _ => sumN_mulL _ _ _
  rw [e4]
  refine (Cg.sumN fun r hr => (Cg.rfl' (a := f r)).mul (G.b pts hp r m (by omega) (by omega))).tr ?_
  rw [sumN_delta (by omega)]
  exact Cg.rfl'
end U

namespace U
/-! ### reading -/
theorem sub_at {x : Int} {r : List Int} : ∀ {l : List Int}, (x :: r).Sublist l → ∃ i, i < l.length ∧ l.getD i 0 = x ∧ r.Sublist (l.drop (i + 1))
  | [], h => by cases h
  | a :: l, h => by
    cases h with
    | cons _ h =>
      obtain ⟨i, h1, h2, h3⟩ := sub_at h
      exact ⟨i + 1, by rw [List.length_cons]; omega, h2, h3⟩
    | cons_cons _ h => exact ⟨0, Nat.zero_lt_succ _, rfl, h⟩
theorem setsM_sub : ∀ (m : Nat) (l s : List Int), s.Sublist l → s.length = m → s ∈ setsM m l
  | 0, l, s, _, hl => by
    have := List.eq_nil_of_length_eq_zero hl
    rw [this]
    exact List.mem_singleton.mpr rfl
  | m + 1, l, [], _, hl => by cases hl
  | m + 1, l, x :: r, h, hl => by
    obtain ⟨i, h1, h2, h3⟩ := sub_at h
    refine List.mem_flatMap.mpr ⟨i, List.mem_range.mpr h1, List.mem_map.mpr ⟨r, setsM_sub m _ _ h3 (by rw [List.length_cons] at hl; omega), by rw [h2]⟩⟩
theorem filter3 (c d : Int → Bool) : ∀ l : List Int, l.length ≤ (l.filter fun i => c i && d i).length + (l.filter fun i => !c i).length + (l.filter fun i => !d i).length
  | [] => Nat.zero_le _
  | a :: l => by
    have ih := filter3 c d l
    simp only [List.filter_cons, List.length_cons]
    cases c a <;> cases d a <;> simp only [Bool.and_true, Bool.and_false, Bool.true_and, Bool.false_and, Bool.not_true, Bool.not_false, if_true, Bool.false_eq_true, if_false, List.length_cons] <;> omega
theorem fold_one {p n : Int} {row : List Int} {e : Int} {c : List Int} (hc : ((wrongM p n row c).length : Int) ≤ e) : ∀ (S found : List (List Int)), (found = [] ∨ found = [c]) → (∀ pts ∈ S, ((wrongM p n row (polyAt p row pts)).length : Int) ≤ e → polyAt p row pts = c) →
    (found = [c] ∨ ∃ pts ∈ S, polyAt p row pts = c) → S.foldl (readStep p n row e) found = [c]
  | [], found, _, _, h => by
    rcases h with h | ⟨_, h, _⟩
    · exact h
    · cases h
  | s :: S, found, h0, h1, h2 => by
    rw [List.foldl_cons]
    have hs := h1 s (List.mem_cons_self ..)
    have hS := fun x hx => h1 x (List.mem_cons_of_mem _ hx)
    unfold readStep
    by_cases hq : ¬ polyAt p row s ∈ found ∧ ((wrongM p n row (polyAt p row s)).length : Int) ≤ e
    · have := hs hq.2
      rw [if_pos hq]
      rcases h0 with rfl | rfl
      · rw [this]
        exact fold_one hc S _ (.inr rfl) hS (.inl rfl)
      · rw [this] at hq
        exact absurd (List.mem_singleton.mpr rfl) hq.1
    · rw [if_neg hq]
      refine fold_one hc S _ h0 hS ?_
      rcases h2 with h2 | ⟨pts, hp, h2⟩
      · exact .inl h2
      · rcases List.mem_cons.mp hp with rfl | hp
        · rw [h2] at hq
          rcases h0 with rfl | rfl
          · exact absurd ⟨by simp, hc⟩ hq
          · exact .inl rfl
        · exact .inr ⟨pts, hp, h2⟩
theorem readings_one {p : Int} {n t : Nat} (G : Good p n t) {row : List Int} (f : Nat → Int) (hw : ((wrongM p n row (canon p f t)).length : Int) ≤ ((n : Int) - t - 1) / 2) : readingsM p n t row (((n : Int) - t - 1) / 2) = [canon p f t] := by
  have hp0 : 0 < p := by have := G.p0; omega
  have hnt := G.nt
  have he : 2 * (((n : Int) - t - 1) / 2) ≤ (n : Int) - t - 1 := by omega
  have hpl : (partsM (n : Int)).length = n := by rw [partsM_len]; rfl
  have rd : ∀ (g : Nat → Int) (T : List Int), T ∈ setsM (t + 1) (partsM (n : Int)) → (∀ i ∈ T, row.getD (i - 1).toNat 0 = valueM p (canon p g t) i) → polyAt p row T = canon p g t := fun g T hT h => by
    unfold polyAt
    rw [← through_canon G hT g]
    congr 1
    refine List.map_congr_left fun i hi => ?_
    rw [h i hi, canon_val]
  have tk : ∀ {A : List Int}, A.Sublist (partsM (n : Int)) → t + 1 ≤ A.length → A.take (t + 1) ∈ setsM (t + 1) (partsM (n : Int)) := fun h hl => setsM_sub _ _ _ ((List.take_sublist ..).trans h) (by rw [List.length_take]; omega)
  have wl : ∀ q, (wrongM p n row q).length = ((partsM (n : Int)).filter fun i => !decide (row.getD (i - 1).toNat 0 = valueM p q i)).length := fun q => by
    unfold wrongM
    congr 1
    refine List.filter_congr fun i _ => ?_
    rw [decide_not]
  refine fold_one hw _ _ (.inl rfl) (fun pts hpts hacc => ?_) (.inr ?_)
  · have hlen := (setsM_mem _ _ _ hpts).1
    have hbd : TS.Bd p (polyAt p row pts) := throughM_bd hp0 (by omega)
    have hpl2 : (polyAt p row pts).length = t + 1 := by unfold polyAt; rw [throughM_len, hlen]
    have hcs := canon_self hpl2 hbd
    generalize polyAt p row pts = q at *
    have f3 := filter3 (fun i => decide (row.getD (i - 1).toNat 0 = valueM p (canon p f t) i)) (fun i => decide (row.getD (i - 1).toNat 0 = valueM p q i)) (partsM (n : Int))
    rw [← wl, ← wl, hpl] at f3
    have hT := tk (A := (partsM (n : Int)).filter fun i => decide (row.getD (i - 1).toNat 0 = valueM p (canon p f t) i) && decide (row.getD (i - 1).toNat 0 = valueM p q i)) (List.filter_sublist ..) (by omega)
    have h1 := rd f _ hT fun i hi => by
      have := (List.mem_filter.mp (List.mem_of_mem_take hi)).2
      simp only [Bool.and_eq_true, decide_eq_true_eq] at this
      exact this.1
    have h2 := rd (lf q) _ hT fun i hi => by
      have := (List.mem_filter.mp (List.mem_of_mem_take hi)).2
      simp only [Bool.and_eq_true, decide_eq_true_eq] at this
      rw [hcs]
      exact this.2
    rw [hcs] at h2
    exact h2.symm.trans h1
  · have f3 := filter3 (fun i => decide (row.getD (i - 1).toNat 0 = valueM p (canon p f t) i)) (fun _ => true) (partsM (n : Int))
    have hz : ((partsM (n : Int)).filter fun _ => !true).length = 0 := by simp
    rw [← wl, hpl, hz] at f3
    have hT := tk (A := (partsM (n : Int)).filter fun i => decide (row.getD (i - 1).toNat 0 = valueM p (canon p f t) i) && true) (List.filter_sublist ..) (by omega)
    exact ⟨_, hT, rd f _ hT fun i hi => by
      have := (List.mem_filter.mp (List.mem_of_mem_take hi)).2
      simp only [Bool.and_true, decide_eq_true_eq] at this
      exact this⟩
theorem read_one {p : Int} {n t : Nat} (G : Good p n t) {row : List Int} (f : Nat → Int) (hw : ((wrongM p n row (canon p f t)).length : Int) ≤ ((n : Int) - t - 1) / 2) : readM p n t row = some (f 0 % p) := by
  unfold readM
  rw [readings_one G f hw]
  show some ((canon p f t).getD 0 0) = _
  rw [canon_get (Nat.zero_le _)]
end U

namespace U
/-! ### the truth -/
structure Env where
  p : Int
  n : Nat
  t : Nat
  rows : List Row
  ins : List Int
  Ss : Int → PS
structure EnvOk (e : Env) : Prop where
  G : Good e.p e.n e.t
  so : ∀ j, 1 ≤ j → j ≤ (e.n : Int) → SOk e.p e.n e.t e.rows e.ins (e.Ss j) ∧ (e.Ss j).j = j
  rok : RowsOk e.n e.p e.rows
  wd : Wired e.rows
  inb : ∀ x ∈ e.ins, 0 ≤ x ∧ x < e.p
variable {e : Env}
def Env.row (e : Env) (k : Nat) : Row := e.rows.getD k .next
theorem Env.row_at {k : Nat} {r : Row} (h : e.rows[k]? = some r) : e.row k = r := by unfold Env.row; rw [List.getD_eq_getElem?_getD, h]; rfl
theorem Env.row_lt {k : Nat} (h : k < e.rows.length) : e.rows[k]? = some (e.row k) := by
  unfold Env.row; rw [List.getD_eq_getElem?_getD, List.getElem?_eq_getElem h]; rfl
def subFirst (e : Env) (i : Int) (pl : Nat → Nat → Int) : Row → Int
  | .product a b => ((ev (pl a) e.t i % e.p) * (ev (pl b) e.t i % e.p)) % e.p
  | _ => 0
def subL (e : Env) (k : Nat) (i : Int) (pl : Nat → Nat → Int) (r : Row) : List Int := subFirst e i pl r :: (e.Ss i).dr k
def wtF (e : Env) (i : Nat) : Int := (weightsM e.p (partsM (e.n : Int)) 0).getD i 0
def polyR (e : Env) (k : Nat) (pl : Nat → Nat → Int) : Row → Nat → Int
  | .inp a => lf ((e.Ss a).gv k :: (e.Ss a).dr k)
  | .const c => fun m => if m = 0 then c else 0
  | .sum a b => fun m => pl a m + pl b m
  | .less a b => fun m => pl a m - pl b m
  | .times c a => fun m => c * pl a m
  | .product a b => fun m => sumN e.n fun i => wtF e i * lf (subL e k ((i : Int) + 1) pl (.product a b)) m
  | .kept a => fun m => (sumN e.n fun i => lf (subL e k ((i : Int) + 1) pl (.kept a)) m) + pl a m
  | .out _ _ => fun _ => 0
  | .next => fun _ => 0
def plUpto (e : Env) : Nat → Nat → Nat → Int
  | 0 => fun _ _ => 0
  | k + 1 => fun a => if a = k then polyR e k (plUpto e k) (e.row k) else plUpto e k a
def Env.F (e : Env) (a : Nat) : Nat → Int := plUpto e (a + 1) a
theorem plUpto_F : ∀ {k a : Nat}, a < k → plUpto e k a = e.F a
  | 0, a, h => by omega
  | k + 1, a, h => by
    by_cases q : a = k
    · rw [q]; rfl
    · show (if a = k then _ else plUpto e k a) = _
      rw [if_neg q]
      exact plUpto_F (by omega)
theorem subFirst_congr {i : Int} {pl pl' : Nat → Nat → Int} {r : Row} (h : ∀ a ∈ r.named, pl a = pl' a) : subFirst e i pl r = subFirst e i pl' r := by
  cases r <;> first | rfl | skip
  simp only [Row.named] at h
  simp only [subFirst]
  rw [h _ (List.mem_cons_self ..), h _ (List.mem_cons_of_mem _ (List.mem_cons_self ..))]
theorem subL_congr {k : Nat} {i : Int} {pl pl' : Nat → Nat → Int} {r : Row} (h : ∀ a ∈ r.named, pl a = pl' a) : subL e k i pl r = subL e k i pl' r := by
  unfold subL
  rw [subFirst_congr h]
theorem polyR_congr {k : Nat} {pl pl' : Nat → Nat → Int} {r : Row} (h : ∀ a ∈ r.named, pl a = pl' a) : polyR e k pl r = polyR e k pl' r := by
  cases r
  case product a b =>
    funext m
    show sumN e.n _ = sumN e.n _
    exact sumN_congr fun i _ => by rw [subL_congr h]
  case kept a =>
    funext m
    show sumN e.n _ + pl a m = sumN e.n _ + pl' a m
    rw [h a (List.mem_cons_self ..), sumN_congr (f := fun i => lf (subL e k ((i : Int) + 1) pl (.kept a)) m) (g := fun i => lf (subL e k ((i : Int) + 1) pl' (.kept a)) m) fun i _ => by rw [subL_congr h]]
  case sum a b =>
    funext m
    show pl a m + pl b m = _
    rw [h a (List.mem_cons_self ..), h b (List.mem_cons_of_mem _ (List.mem_cons_self ..))]
    rfl
  case less a b =>
    funext m
    show pl a m - pl b m = _
    rw [h a (List.mem_cons_self ..), h b (List.mem_cons_of_mem _ (List.mem_cons_self ..))]
    rfl
  case times c a =>
    funext m
    show c * pl a m = _
    rw [h a (List.mem_cons_self ..)]
    rfl
  all_goals rfl
theorem F_eq (ok : EnvOk e) {k : Nat} (hk : k < e.rows.length) : e.F k = polyR e k e.F (e.row k) := by
  show (if k = k then polyR e k (plUpto e k) (e.row k) else plUpto e k k) = _
  rw [if_pos rfl]
  exact polyR_congr fun a ha => plUpto_F (row_named_lt (ok.rok k _ (Env.row_lt hk)) a ha)
/-- the number of the letter of row k from i to j -/
def num (e : Env) (k : Nat) (i j : Int) : Int := match e.row k with
  | .inp a => valueM e.p ((e.Ss a).gv k :: (e.Ss a).dr k) j
  | .product a b => valueM e.p (subL e k i e.F (.product a b)) j
  | .kept a => valueM e.p (subL e k i e.F (.kept a)) j
  | .out a _ => ev (e.F a) e.t i % e.p
  | _ => 0
def shv (e : Env) (k : Nat) (j : Int) : Int := ev (e.F k) e.t j % e.p
theorem pp (ok : EnvOk e) : 0 < e.p := by have := ok.G.p0; omega
theorem shv_bd (ok : EnvOk e) (k : Nat) (j : Int) : 0 ≤ shv e k j ∧ shv e k j < e.p := ⟨Int.emod_nonneg _ (by have := pp ok; omega), Int.emod_lt_of_pos _ (pp ok)⟩
theorem dr_len (ok : EnvOk e) {j : Int} (h1 : 1 ≤ j) (h2 : j ≤ (e.n : Int)) (k : Nat) : ((e.Ss j).dr k).length ≤ e.t := by
  have := drawn_len (e.Ss j) k
  rw [(ok.so j h1 h2).1.et] at this
  exact this
theorem num_bd (ok : EnvOk e) (k : Nat) (i j : Int) : 0 ≤ num e k i j ∧ num e k i j < e.p := by
  unfold num
  split
  · exact valueM_bd (pp ok) _ _
  · exact valueM_bd (pp ok) _ _
  · exact valueM_bd (pp ok) _ _
  · exact ⟨Int.emod_nonneg _ (by have := pp ok; omega), Int.emod_lt_of_pos _ (pp ok)⟩
  · exact ⟨Int.le_refl _, pp ok⟩
/-! ### values -/
def vv (e : Env) (k : Nat) : Int := ((valsM e.p e.rows e.ins).getD k none).getD 0
theorem vv_eq {k : Nat} (hk : k < e.rows.length) : (valsM e.p e.rows e.ins).getD k none = valR e.p e.rows e.ins k (valsUpto e.p e.rows e.ins k) (e.row k) := valsUpto_get hk
theorem vv_pre {k a : Nat} (hk : k < e.rows.length) (ha : a < k) : (valsUpto e.p e.rows e.ins k).getD a none = (valsM e.p e.rows e.ins).getD a none := by
  unfold valsM
  rw [valsUpto_get ha, valsUpto_get (by omega)]
theorem mulW (ok : EnvOk e) (f g : Nat → Int) : Cg e.p (sumN e.n fun i => wtF e i * (ev f e.t ((i : Int) + 1) * ev g e.t ((i : Int) + 1))) (f 0 * g 0) := by
  have h1 : ∀ i : Nat, wtF e i * (ev f e.t ((i : Int) + 1) * ev g e.t ((i : Int) + 1)) = sumN (e.t + 1) fun a => sumN (e.t + 1) fun b => (f a * g b) * (wtF e i * ((i : Int) + 1) ^ (a + b)) := fun i => by
    unfold ev
    rw [← sumN_mulR, ← sumN_mulL]
    refine sumN_congr fun a _ => ?_
    rw [← sumN_mulL, ← sumN_mulL]
    refine sumN_congr fun b _ => ?_
    rw [Int.pow_add]
    generalize ((i : Int) + 1) ^ a = xa
    generalize ((i : Int) + 1) ^ b = xb
    grind
  rw [sumN_congr fun i _ => h1 i, sumN_swap]
  have h2 : ∀ a, a < e.t + 1 → Cg e.p (sumN e.n fun i => sumN (e.t + 1) fun b => (f a * g b) * (wtF e i * ((i : Int) + 1) ^ (a + b))) (f a * g 0 * if a = 0 then 1 else 0) := fun a ha => by
    rw [sumN_swap]
    have h3 : ∀ b, b < e.t + 1 → Cg e.p (sumN e.n fun i => (f a * g b) * (wtF e i * ((i : Int) + 1) ^ (a + b))) ((f a * (if a = 0 then 1 else 0) * g b) * if b = 0 then 1 else 0) := fun b hb => by
      rw [sumN_mulL]
      refine (Cg.rfl'.mul (ok.G.w (a + b) (by omega))).tr (Cg.of_eq ?_)
      by_cases h : a = 0 <;> by_cases h' : b = 0 <;> simp [h, h']
    refine (Cg.sumN h3).tr (Cg.of_eq ?_)
    rw [sumN_delta (f := fun b => f a * (if a = 0 then 1 else 0) * g b) (by omega)]
    by_cases h : a = 0 <;> simp [h]
  refine (Cg.sumN h2).tr (Cg.of_eq ?_)
  exact sumN_delta (f := fun a => f a * g 0) (by omega)
theorem value_true (ok : EnvOk e) : ∀ k, k < e.rows.length → (e.row k).isVal = true → ∃ v, (valsM e.p e.rows e.ins).getD k none = some v ∧ (0 ≤ v ∧ v < e.p) ∧ Cg e.p (e.F k 0) v := by
  intro k
  induction k using Nat.strongRecOn with
  | ind k ih =>
    intro hk hv
    have hr := Env.row_lt hk
    have hrk := ok.rok k _ hr
    obtain ⟨v, hv1, hvb⟩ := vals_val (pp ok) ok.rok ok.wd ok.inb e.rows.length k hk (Nat.le_refl _) hv
    refine ⟨v, hv1, hvb, ?_⟩
    have hv2 : (valsM e.p e.rows e.ins).getD k none = some v := hv1
    rw [vv_eq hk] at hv2
    rw [F_eq ok hk]
    have sub : ∀ a ∈ (e.row k).named, ∃ x, (valsUpto e.p e.rows e.ins k).getD a none = some x ∧ Cg e.p (e.F a 0) x := fun a ha => by
      have hal := row_named_lt hrk a ha
      obtain ⟨x, h1, _, h2⟩ := ih a hal (by omega) (ok.wd k _ hr a ha)
      exact ⟨x, by rw [vv_pre hk hal]; exact h1, h2⟩
    generalize hrr : e.row k = r at *
    cases r
    case inp a =>
      have hin : 1 ≤ a ∧ a ≤ (e.n : Int) := hrk
      obtain ⟨so, sj⟩ := ok.so a hin.1 hin.2
      have hg : (e.Ss a).gv k = e.ins.getD ((e.rows.take k).countP Row.isInp) 0 := by
        unfold PS.gv
        rw [so.er, so.ei, sj]
        exact given_eq hr
      have := Option.some.inj hv2
      rw [← this, ← hg]
      exact Cg.rfl'
    case const c =>
      have := Option.some.inj hv2
      rw [← this]
      exact Cg.rfl'
    case sum a b =>
      obtain ⟨x, hx, cx⟩ := sub a (by simp [Row.named])
      obtain ⟨y, hy, cy⟩ := sub b (by simp [Row.named])
      have := Option.some.inj hv2
      rw [hx, hy] at this
      rw [← this]
      exact (cx.add cy).tr (Cg.mod _ _).sym
    case less a b =>
      obtain ⟨x, hx, cx⟩ := sub a (by simp [Row.named])
      obtain ⟨y, hy, cy⟩ := sub b (by simp [Row.named])
      have := Option.some.inj hv2
      rw [hx, hy] at this
      rw [← this]
      exact (cx.sub cy).tr (Cg.mod _ _).sym
    case times c a =>
      obtain ⟨x, hx, cx⟩ := sub a (by simp [Row.named])
      have := Option.some.inj hv2
      rw [hx] at this
      rw [← this]
      exact (Cg.rfl'.mul cx).tr (Cg.mod _ _).sym
    case product a b =>
      obtain ⟨x, hx, cx⟩ := sub a (by simp [Row.named])
      obtain ⟨y, hy, cy⟩ := sub b (by simp [Row.named])
      have := Option.some.inj hv2
      rw [hx, hy] at this
      rw [← this]
      refine Cg.tr ?_ ((cx.mul cy).tr (Cg.mod _ _).sym)
      refine Cg.tr (Cg.sumN fun i hi => ?_) (mulW ok (e.F a) (e.F b))
      refine Cg.rfl'.mul ?_
      show Cg e.p (subFirst e ((i : Int) + 1) e.F (.product a b)) _
      exact (Cg.mod _ _).tr ((Cg.mod _ _).mul (Cg.mod _ _))
    case kept a =>
      obtain ⟨x, hx, cx⟩ := sub a (by simp [Row.named])
      have h2 : (valsUpto e.p e.rows e.ins k).getD a none = some v := hv2
      rw [hx] at h2
      rw [← Option.some.inj h2]
      refine Cg.tr (Cg.of_eq ?_) cx
      show (sumN e.n fun i => lf (subL e k ((i : Int) + 1) e.F (.kept a)) 0) + e.F a 0 = e.F a 0
      have hz : (sumN e.n fun i => lf (subL e k ((i : Int) + 1) e.F (.kept a)) 0) = 0 := sumN_zero fun i _ => rfl
      rw [hz]
      omega
    case out a b => cases hv
    case next => cases hv
end U

namespace U
variable {e : Env}
/-! ### the shares are true -/
def Row.isOut : Row → Bool
  | .out _ _ => true
  | _ => false
theorem sharesUpto_get {S : PS} {came : Came} {k : Nat} : ∀ {m : Nat}, k < m → (sharesUpto S came m).getD k none = shareM S came k (sharesUpto S came k)
  | 0, h => by omega
  | m + 1, h => by
    show (sharesUpto S came m ++ [_]).getD k none = _
    have hl := sharesUpto_len S came m
    rw [List.getD_eq_getElem?_getD]
    by_cases hk : k < m
    · rw [List.getElem?_append_left (by omega), ← List.getD_eq_getElem?_getD]
      exact sharesUpto_get hk
    · have : k = m := by omega
      subst this
      rw [List.getElem?_append_right (by omega), hl, Nat.sub_self]
      rfl
theorem needed1 {fo : List (Option Int)} {a : Nat} {ys : List Int} (h : neededM fo [a] = some ys) : ∃ x, fo.getD a none = some x ∧ ys = [x] := by
  unfold neededM at h
  cases q : fo.getD a none with
  | none => rw [q] at h; cases h
  | some x => rw [q] at h; exact ⟨x, rfl, (Option.some.inj h).symm⟩
theorem needed2 {fo : List (Option Int)} {a b : Nat} {ys : List Int} (h : neededM fo [a, b] = some ys) : ∃ x y, fo.getD a none = some x ∧ fo.getD b none = some y ∧ ys = [x, y] := by
  unfold neededM at h
  cases q : fo.getD a none with
  | none => rw [q] at h; cases h
  | some x =>
    cases q2 : neededM fo [b] with
    | none => rw [q, q2] at h; cases h
    | some zs =>
      obtain ⟨y, hy, rfl⟩ := needed1 q2
      rw [q, q2] at h
      exact ⟨x, y, rfl, hy, (Option.some.inj h).symm⟩
def TrueC (e : Env) (j : Int) (came : Came) : Prop := ∀ (k : Nat) (cr : List (Int × Int)), came[k]? = some cr → ∀ x ∈ cr, sendsM (e.row k) x.1 j = true ∧ ((e.row k).isOut = true ∨ x.2 = num e k x.1 j)
theorem subFirst_true (ok : EnvOk e) {r : Row} {i : Int} {fo : List (Option Int)} {ys : List Int} (hfo : ∀ a x, a ∈ r.named → fo.getD a none = some x → x = shv e a i) (h : neededM fo r.named = some ys) : firstM e.p r ys = subFirst e i e.F r := by
  cases r <;> first | rfl | skip
  obtain ⟨x, y, hx, hy, rfl⟩ := needed2 h
  show (x * y) % e.p = _
  rw [hfo _ _ (by simp [Row.named]) hx, hfo _ _ (by simp [Row.named]) hy]
  rfl
theorem partsM_getD {n i : Nat} (h : i < n) : (partsM (n : Int)).getD i 0 = (i : Int) + 1 := by
  rw [List.getD_eq_getElem?_getD, partsM_get (by omega)]
  rfl
theorem sub_ev (ok : EnvOk e) {k : Nat} {i : Int} (h1 : 1 ≤ i) (h2 : i ≤ (e.n : Int)) (r : Row) (x : Int) : Cg e.p (valueM e.p (subL e k i e.F r) x) (ev (lf (subL e k i e.F r)) e.t x) := by
  rw [valueM_ev (t := e.t) (by
    show ((e.Ss i).dr k).length + 1 ≤ e.t + 1
    have := dr_len ok h1 h2 k
    omega)]
  exact Cg.mod _ _
/-- what a party told of a row with shares anew, all true -/
theorem told_true (ok : EnvOk e) {j : Int} (h1 : 1 ≤ j) (h2 : j ≤ (e.n : Int)) {k : Nat} {r : Row} (hr : e.row k = r) (hkn : r.kn = 4 ∨ r.kn = 8) {cr : List (Int × Int)} (hcr : CameRow (e.Ss j) cr) (hl : (cr.length : Int) = (e.Ss j).n - 1) (tr : ∀ x ∈ cr, x.2 = num e k x.1 j) {i : Nat} (hi : i < e.n) :
    (toldM (e.Ss j) cr (valueM e.p (subL e k j e.F r) j)).getD i 0 = valueM e.p (subL e k ((i : Int) + 1) e.F r) j := by
  obtain ⟨so, sj⟩ := ok.so j h1 h2
  unfold toldM
  rw [so.en, getD_map (by rw [partsM_len]; omega), partsM_getD hi, sj]
  by_cases hij : (i : Int) + 1 = j
  · rw [if_pos hij, hij]
  · rw [if_neg hij]
    obtain ⟨z, hz⟩ := cameGet_mem (all_in so.ok hcr hl (i := (i : Int) + 1) (by omega) (by rw [so.en]; omega) (by rw [sj]; exact hij))
    rw [hz]
    have hzz : z = num e k ((i : Int) + 1) j := tr _ (cameGet_some hz)
    show z = _
    rw [hzz]
    unfold num
    rw [hr]
    cases r <;> first | rfl | (exfalso; revert hkn; simp only [Row.kn]; decide)
theorem dotM_sum {a b : List Int} {n : Nat} (ha : a.length = n) (hb : b.length = n) : (dotM a b).sum = sumN n fun i => a.getD i 0 * b.getD i 0 := by
  unfold dotM
  rw [sum_sumN, List.length_zipWith, ha, hb, Nat.min_self]
  exact sumN_congr fun i hi => getD_zip (by omega) (by omega)
theorem share_true (ok : EnvOk e) {j : Int} (h1 : 1 ≤ j) (h2 : j ≤ (e.n : Int)) {came : Came} (co : CameOk (e.Ss j) came) (tr : TrueC e j came) : ∀ k, k < e.rows.length → ∀ x, (sharesL (e.Ss j) came).getD k none = some x → x = shv e k j := by
  obtain ⟨so, sj⟩ := ok.so j h1 h2
  have hlen : (e.Ss j).rows.length = e.rows.length := by rw [so.er]
  intro k
  induction k using Nat.strongRecOn with
  | ind k ih =>
    intro hk x hx
    have hr := Env.row_lt hk
    have hrk := ok.rok k _ hr
    unfold sharesL at hx
    rw [sharesUpto_get (by omega)] at hx
    have hfo : ∀ a ∈ (e.row k).named, ∀ x, (sharesUpto (e.Ss j) came k).getD a none = some x → x = shv e a j := fun a ha x hx => by
      have hal := row_named_lt hrk a ha
      refine ih a hal (by omega) x ?_
      unfold sharesL
      rw [sharesUpto_get (by omega)]
      rw [sharesUpto_get hal] at hx
      exact hx
    generalize sharesUpto (e.Ss j) came k = fo at hx hfo
    unfold shareM at hx
    have hrow : (e.Ss j).rows.getD k .next = e.row k := by rw [so.er]; rfl
    obtain ⟨cr, hck, hcD⟩ := came_at co (show (e.Ss j).rows[k]? = some (e.row k) by rw [so.er]; exact hr)
    have hcr := cameRow_at co hck
    have htr := tr k cr hck
    rw [hrow, hcD] at hx
    have hsh : shv e k j = ev (polyR e k e.F (e.row k)) e.t j % e.p := by unfold shv; rw [F_eq ok hk]
    generalize hrr : e.row k = r at *
    have cgs : ∀ a ∈ r.named, ∀ x, fo.getD a none = some x → Cg e.p x (ev (e.F a) e.t j) := fun a ha x hx => by
      rw [hfo a ha x hx]
      exact Cg.mod _ _
    cases r
    case inp a =>
      have hin : 1 ≤ a ∧ a ≤ (e.n : Int) := hrk
      rw [hsh]
      show x = ev (lf ((e.Ss a).gv k :: (e.Ss a).dr k)) e.t j % e.p
      rw [← valueM_ev (by show ((e.Ss a).dr k).length + 1 ≤ e.t + 1; have := dr_len ok hin.1 hin.2 k; omega)]
      unfold shareR at hx
      by_cases ha : a = j
      · simp only [sj] at hx
        rw [if_pos ha] at hx
        have := Option.some.inj hx
        rw [← this, so.ep, ha]
      · simp only [sj] at hx
        rw [if_neg ha] at hx
        have hm := cameGet_some hx
        obtain ⟨_, q⟩ := htr _ hm
        rcases q with q | q
        · cases q
        · simp only at q
          rw [q]
          unfold num
          rw [hrr]
    case const c =>
      have := Option.some.inj hx
      rw [hsh, ← this]
      refine Cg.small (Cg.of_eq ?_) hrk.1 hrk.2
      show c = ev (fun m => if m = 0 then c else 0) e.t j
      unfold ev
      have hz : (sumN e.t fun i => (fun m => if m = 0 then c else 0) (i + 1) * j ^ (i + 1)) = 0 := sumN_zero fun i _ => by
        show (if i + 1 = 0 then c else 0) * _ = 0
        rw [if_neg (by omega), Int.zero_mul]
      rw [sumN_left, hz]
      show c = c * j ^ 0 + 0
      rw [Int.pow_zero]
      omega
    case out a b => cases hx
    case next => cases hx
    case sum a b =>
      obtain ⟨ys, hy, hx2⟩ := Option.map_eq_some_iff.mp (show (neededM fo [a, b]).map _ = some x from hx)
      obtain ⟨u, v, hu, hv, rfl⟩ := needed2 hy
      rw [hsh, ← hx2, so.ep]
      show Cg e.p (u + v) _
      refine ((cgs a (by simp [Row.named]) u hu).add (cgs b (by simp [Row.named]) v hv)).tr (Cg.of_eq ?_)
      exact (ev_add _ _ _ _).symm
    case less a b =>
      obtain ⟨ys, hy, hx2⟩ := Option.map_eq_some_iff.mp (show (neededM fo [a, b]).map _ = some x from hx)
      obtain ⟨u, v, hu, hv, rfl⟩ := needed2 hy
      rw [hsh, ← hx2, so.ep]
      show Cg e.p (u + (0 - v)) _
      refine ((Cg.of_eq (show u + (0 - v) = u - v by omega)).tr ((cgs a (by simp [Row.named]) u hu).sub (cgs b (by simp [Row.named]) v hv))).tr (Cg.of_eq ?_)
      exact (ev_sub _ _ _ _).symm
    case times c a =>
      obtain ⟨ys, hy, hx2⟩ := Option.map_eq_some_iff.mp (show (neededM fo [a]).map _ = some x from hx)
      obtain ⟨u, hu, rfl⟩ := needed1 hy
      rw [hsh, ← hx2, so.ep]
      show Cg e.p (c * u) _
      refine (Cg.rfl'.mul (cgs a (by simp [Row.named]) u hu)).tr (Cg.of_eq ?_)
      exact (ev_mul _ _ _ _).symm
    case product a b =>
      obtain ⟨ys, hy, hx2⟩ := Option.bind_eq_some_iff.mp (show (neededM fo [a, b]).bind _ = some x from hx)
      have hf := subFirst_true ok (i := j) (fun a' x' ha' hx' => hfo a' ha' x' hx') (show neededM fo (Row.product a b).named = some ys from hy)
      unfold joinM at hx2
      by_cases hl : (cr.length : Int) = (e.Ss j).n - 1
      · rw [if_pos hl] at hx2
        have hx3 := Option.some.inj hx2
        simp only at hx3
        rw [so.ep, sj, hf] at hx3
        have htl := toldM_len (e.Ss j) cr (valueM e.p (subFirst e j e.F (.product a b) :: (e.Ss j).dr k) j)
        have hwl := wt_len (e.Ss j)
        rw [so.en] at htl hwl
        rw [hsh, ← hx3, dotM_sum (n := e.n) (by rw [hwl]; rfl) (by rw [htl]; rfl)]
        show Cg e.p _ _
        refine Cg.tr (Cg.sumN fun i hi => ?_) (Cg.of_eq (ev_sum (fun i m => wtF e i * lf (subL e k ((i : Int) + 1) e.F (.product a b)) m) e.n e.t j).symm)
        have hw : (e.Ss j).wt.getD i 0 = wtF e i := by unfold PS.wt wtF; rw [so.ep, so.en]
        have ht := told_true ok h1 h2 hrr (.inl rfl) hcr hl (fun x hx => by
          rcases (htr x hx).2 with q | q
          · cases q
          · exact q) hi
        rw [hw, show subFirst e j e.F (.product a b) :: (e.Ss j).dr k = subL e k j e.F (.product a b) from rfl, ht]
        refine (Cg.rfl'.mul (sub_ev ok (by omega) (by omega) _ _)).tr (Cg.of_eq ?_)
        exact (ev_mul _ _ _ _).symm
      · rw [if_neg hl] at hx2
        cases hx2
    case kept a =>
      obtain ⟨ys, hy, hx2⟩ := Option.bind_eq_some_iff.mp (show (neededM fo [a]).bind _ = some x from hx)
      have hf := subFirst_true ok (i := j) (fun a' x' ha' hx' => hfo a' ha' x' hx') (show neededM fo (Row.kept a).named = some ys from hy)
      obtain ⟨u, hu, rfl⟩ := needed1 hy
      unfold joinM at hx2
      by_cases hl : (cr.length : Int) = (e.Ss j).n - 1
      · rw [if_pos hl] at hx2
        have hx3 := Option.some.inj hx2
        simp only at hx3
        rw [so.ep, sj, hf] at hx3
        have htl := toldM_len (e.Ss j) cr (valueM e.p (subFirst e j e.F (.kept a) :: (e.Ss j).dr k) j)
        rw [so.en] at htl
        rw [hsh, ← hx3, sum_sumN, htl]
        show Cg e.p _ _
        have hev : ev (polyR e k e.F (.kept a)) e.t j = (sumN e.n fun i => ev (lf (subL e k ((i : Int) + 1) e.F (.kept a))) e.t j) + ev (e.F a) e.t j := by
          rw [← ev_sum, ← ev_add]
          rfl
        rw [hev]
        refine Cg.add (Cg.sumN fun i hi => ?_) (cgs a (by simp [Row.named]) u hu)
        have hi' : i < e.n := by simpa using hi
        have ht := told_true ok h1 h2 hrr (.inr rfl) hcr hl (fun x hx => by
          rcases (htr x hx).2 with q | q
          · cases q
          · exact q) hi'
        rw [show subFirst e j e.F (.kept a) :: (e.Ss j).dr k = subL e k j e.F (.kept a) from rfl, ht]
        exact sub_ev ok (by omega) (by omega) _ _
      · rw [if_neg hl] at hx2
        cases hx2
end U

namespace U
variable {e : Env}
/-! ### letters made -/
def rdy (fo : List (Option Int)) (r : Row) : Bool := match r with
  | .inp _ => true
  | .out a b => (neededM fo (Row.out a b).named).isSome
  | .product a b => (neededM fo (Row.product a b).named).isSome
  | .kept a => (neededM fo (Row.kept a).named).isSome
  | _ => false
theorem fo_true (ok : EnvOk e) {j : Int} (h1 : 1 ≤ j) (h2 : j ≤ (e.n : Int)) {came : Came} (co : CameOk (e.Ss j) came) (tr : TrueC e j came) {k : Nat} (hk : k < e.rows.length) : ∀ a x, a ∈ (e.row k).named → (sharesL (e.Ss j) came).getD a none = some x → x = shv e a j := fun a x ha hx =>
  share_true ok h1 h2 co tr a (by have := row_named_lt (ok.rok k _ (Env.row_lt hk)) a ha; omega) x hx
theorem letters_true (ok : EnvOk e) {j : Int} (h1 : 1 ≤ j) (h2 : j ≤ (e.n : Int)) {came : Came} (co : CameOk (e.Ss j) came) (tr : TrueC e j came) {k : Nat} (hk : k < e.rows.length) :
    lettersR (e.Ss j) k (sharesL (e.Ss j) came) (e.row k) = if rdy (sharesL (e.Ss j) came) (e.row k) = true then (othersM (e.Ss j) (e.row k)).map fun q => ⟨k, j, q, num e k j q⟩ else [] := by
  obtain ⟨so, sj⟩ := ok.so j h1 h2
  have hfo := fo_true ok h1 h2 co tr hk
  generalize sharesL (e.Ss j) came = fo at *
  generalize hrr : e.row k = r at *
  cases r
  case inp a =>
    show List.map _ _ = List.map _ _
    refine List.map_congr_left fun q hq => ?_
    have hs := (List.mem_filter.mp hq).2
    have ha : a = j := by
      unfold sendsM at hs
      rw [sj] at hs
      split at hs
      · cases hs
      · exact of_decide_eq_true hs
    unfold num
    rw [hrr, so.ep, sj, ha]
  case out a b =>
    cases hn : neededM fo (Row.out a b).named with
    | none => simp only [lettersR, rdy, hn]; rfl
    | some ys =>
      simp only [lettersR, rdy, hn]
      show List.map _ _ = List.map _ _
      refine List.map_congr_left fun q hq => ?_
      obtain ⟨x, hx, rfl⟩ := needed1 (show neededM fo [a] = some ys from hn)
      unfold num
      rw [hrr, sj]
      show Letter.mk k j q x = _
      rw [hfo a x (by simp [Row.named]) hx]
      rfl
  case product a b =>
    cases hn : neededM fo (Row.product a b).named with
    | none => simp only [lettersR, rdy, hn]; rfl
    | some ys =>
      have hf := subFirst_true ok (i := j) hfo hn
      simp only [lettersR, rdy, hn]
      show List.map _ _ = List.map _ _
      refine List.map_congr_left fun q hq => ?_
      unfold num
      rw [hrr, sj, so.ep, hf]
      rfl
  case kept a =>
    cases hn : neededM fo (Row.kept a).named with
    | none => simp only [lettersR, rdy, hn]; rfl
    | some ys =>
      have hf := subFirst_true ok (i := j) hfo hn
      simp only [lettersR, rdy, hn]
      show List.map _ _ = List.map _ _
      refine List.map_congr_left fun q hq => ?_
      unfold num
      rw [hrr, sj, so.ep, hf]
      rfl
  all_goals rfl
theorem others_mem (ok : EnvOk e) {i : Int} (h1 : 1 ≤ i) (h2 : i ≤ (e.n : Int)) {r : Row} {q : Int} : q ∈ othersM (e.Ss i) r ↔ 1 ≤ q ∧ q ≤ (e.n : Int) ∧ sendsM r i q = true := by
  obtain ⟨so, sj⟩ := ok.so i h1 h2
  unfold othersM
  rw [List.mem_filter, partsM_mem, so.en, sj, and_assoc]
theorem mem_made (ok : EnvOk e) {i : Int} (h1 : 1 ≤ i) (h2 : i ≤ (e.n : Int)) {came : Came} (co : CameOk (e.Ss i) came) (tr : TrueC e i came) {l : Letter} :
    l ∈ madeL (e.Ss i) came ↔ l.k < e.rows.length ∧ rdy (sharesL (e.Ss i) came) (e.row l.k) = true ∧ l.i = i ∧ (1 ≤ l.j ∧ l.j ≤ (e.n : Int) ∧ sendsM (e.row l.k) i l.j = true) ∧ l.x = num e l.k i l.j := by
  obtain ⟨so, sj⟩ := ok.so i h1 h2
  unfold madeL madeUpto
  rw [so.er]
  constructor
  · intro h
    obtain ⟨k, hk, hl⟩ := List.mem_flatMap.mp h
    have hk' := List.mem_range.mp hk
    have hl' : l ∈ lettersR (e.Ss i) k (sharesL (e.Ss i) came) (e.row k) := hl
    rw [letters_true ok h1 h2 co tr hk'] at hl'
    by_cases hr : rdy (sharesL (e.Ss i) came) (e.row k) = true
    · rw [if_pos hr] at hl'
      obtain ⟨q, hq, rfl⟩ := List.mem_map.mp hl'
      exact ⟨hk', hr, rfl, (others_mem ok h1 h2).mp hq, rfl⟩
    · rw [if_neg hr] at hl'
      cases hl'
  · rintro ⟨hk, hr, hi, hq, hx⟩
    refine List.mem_flatMap.mpr ⟨l.k, List.mem_range.mpr hk, ?_⟩
    show l ∈ lettersR (e.Ss i) l.k (sharesL (e.Ss i) came) (e.row l.k)
    rw [letters_true ok h1 h2 co tr hk, if_pos hr]
    refine List.mem_map.mpr ⟨l.j, (others_mem ok h1 h2).mpr hq, ?_⟩
    obtain ⟨k, i', j, x⟩ := l
    simp only at hi hx ⊢
    rw [hi, hx]
abbrev Key3 := Nat × Int × Int
def Letter.key (l : Letter) : Key3 := (l.k, l.i, l.j)
theorem partsM_nd (n : Int) : (partsM n).Nodup := by
  unfold partsM
  have : ∀ m : Nat, ((List.range m).map fun (i : Nat) => (i : Int) + 1).Nodup := fun m => by
    induction m with
    | zero => simp
    | succ m ih =>
      rw [List.range_succ, List.map_append]
      refine List.nodup_append.mpr ⟨ih, by simp, fun a ha b hb => ?_⟩
      obtain ⟨i, hi, rfl⟩ := List.mem_map.mp ha
      have hb' : b = (m : Int) + 1 := by simpa using hb
      have := List.mem_range.mp hi
      omega
  exact this _
theorem nd_map {α β : Type} {f : α → β} : ∀ {l : List α}, l.Nodup → (∀ a ∈ l, ∀ b ∈ l, f a = f b → a = b) → (l.map f).Nodup
  | [], _, _ => by simp
  | a :: r, h, hi => by
    obtain ⟨h1, h2⟩ := List.nodup_cons.mp h
    rw [List.map_cons]
    refine List.nodup_cons.mpr ⟨fun hm => ?_, nd_map h2 fun x hx y hy => hi x (List.mem_cons_of_mem _ hx) y (List.mem_cons_of_mem _ hy)⟩
    obtain ⟨b, hb, hfb⟩ := List.mem_map.mp hm
    have := hi b (List.mem_cons_of_mem _ hb) a (List.mem_cons_self ..) hfb
    exact h1 (by rw [← this]; exact hb)
theorem made_nd (ok : EnvOk e) {i : Int} (h1 : 1 ≤ i) (h2 : i ≤ (e.n : Int)) {came : Came} (co : CameOk (e.Ss i) came) (tr : TrueC e i came) : ((madeL (e.Ss i) came).map Letter.key).Nodup := by
  obtain ⟨so, sj⟩ := ok.so i h1 h2
  unfold madeL
  rw [so.er]
  have : ∀ m, m ≤ e.rows.length → ((madeUpto (e.Ss i) (sharesL (e.Ss i) came) m).map Letter.key).Nodup ∧ ∀ l ∈ madeUpto (e.Ss i) (sharesL (e.Ss i) came) m, l.k < m := fun m => by
    induction m with
    | zero => exact fun _ => ⟨by simp [madeUpto], by simp [madeUpto]⟩
    | succ m ih =>
      intro hm
      obtain ⟨i1, i2⟩ := ih (by omega)
      rw [madeUpto_succ, so.er]
      have hL := letters_true ok h1 h2 co tr (show m < e.rows.length from hm)
      have hL2 : lettersR (e.Ss i) m (sharesL (e.Ss i) came) (e.rows.getD m .next) = lettersR (e.Ss i) m (sharesL (e.Ss i) came) (e.row m) := rfl
      rw [hL2, hL]
      have hk : ∀ l ∈ (if rdy (sharesL (e.Ss i) came) (e.row m) = true then (othersM (e.Ss i) (e.row m)).map fun q => (⟨m, i, q, num e m i q⟩ : Letter) else []), l.k = m := fun l hl => by
        split at hl
        · obtain ⟨q, _, rfl⟩ := List.mem_map.mp hl
          rfl
        · cases hl
      refine ⟨?_, fun l hl => ?_⟩
      · rw [List.map_append]
        refine List.nodup_append.mpr ⟨i1, ?_, fun a ha b hb => ?_⟩
        · split
          · rw [List.map_map]
            refine nd_map ((partsM_nd _).filter _) fun a _ b _ h => ?_
            have := congrArg (fun k : Key3 => k.2.2) h
            exact this
          · simp
        · obtain ⟨la, hla, rfl⟩ := List.mem_map.mp ha
          obtain ⟨lb, hlb, rfl⟩ := List.mem_map.mp hb
          intro hab
          have h3 := i2 la hla
          have h4 := hk lb hlb
          have h5 : la.k = lb.k := congrArg (fun k : Key3 => k.1) hab
          omega
      · rcases List.mem_append.mp hl with hl | hl
        · have := i2 l hl
          omega
        · have := hk l hl
          omega
  exact (this _ (Nat.le_refl _)).1
/-! ### what is there stays -/
theorem needed_mono {fo fo' : List (Option Int)} : ∀ {l : List Nat}, (∀ a ∈ l, ∀ x, fo.getD a none = some x → ∃ y, fo'.getD a none = some y) → (neededM fo l).isSome = true → (neededM fo' l).isSome = true
  | [], _, _ => rfl
  | a :: r, h, hs => by
    unfold neededM at hs ⊢
    cases q1 : fo.getD a none with
    | none => rw [q1] at hs; cases hs
    | some x =>
      cases q2 : neededM fo r with
      | none => rw [q1, q2] at hs; cases hs
      | some zs =>
        obtain ⟨y, hy⟩ := h a (List.mem_cons_self ..) x q1
        have ih := needed_mono (fo := fo) (fo' := fo') (l := r) (fun b hb => h b (List.mem_cons_of_mem _ hb)) (by rw [q2]; rfl)
        rw [hy]
        cases q3 : neededM fo' r with
        | none => rw [q3] at ih; cases ih
        | some ws => rfl
theorem rdy_mono {fo fo' : List (Option Int)} {r : Row} (h : ∀ a ∈ r.named, ∀ x, fo.getD a none = some x → ∃ y, fo'.getD a none = some y) (hr : rdy fo r = true) : rdy fo' r = true := by
  cases r <;> first | exact needed_mono h hr | exact hr
theorem some_of {o : Option Int} (h : o.isSome = true) : ∃ x, o = some x := by
  cases o with
  | none => cases h
  | some x => exact ⟨x, rfl⟩
theorem shareR_mono {S : PS} {cr cr' : List (Int × Int)} {k : Nat} {fo fo' : List (Option Int)} {r : Row} (hn : ∀ a ∈ r.named, ∀ x, fo.getD a none = some x → ∃ y, fo'.getD a none = some y)
    (hg : ∀ a x, cameGet cr a = some x → ∃ y, cameGet cr' a = some y) (hl : (cr.length : Int) = S.n - 1 → cr' = cr) {x : Int} (h : shareR S cr k fo r = some x) : ∃ y, shareR S cr' k fo' r = some y := by
  have nm : ∀ {α : Type} {f : List Int → α} {z : α}, (neededM fo r.named).map f = some z → ∃ ys, neededM fo' r.named = some ys := fun {α f z} h => by
    obtain ⟨ys, hy, _⟩ := Option.map_eq_some_iff.mp h
    have := needed_mono hn (by rw [hy]; rfl)
    cases q : neededM fo' r.named with
    | none => rw [q] at this; cases this
    | some zs => exact ⟨zs, rfl⟩
  have nb : ∀ {f : List Int → Option Int} {z : Int}, (neededM fo r.named).bind f = some z → ∃ ys zs, f ys = some z ∧ neededM fo' r.named = some zs := fun {f z} h => by
    obtain ⟨ys, hy, h2⟩ := Option.bind_eq_some_iff.mp h
    have := needed_mono hn (by rw [hy]; rfl)
    cases q : neededM fo' r.named with
    | none => rw [q] at this; cases this
    | some zs => exact ⟨ys, zs, h2, rfl⟩
  have jn : ∀ {r' : Row} {ys zs : List Int} {z : Int}, joinM S cr k r' ys = some z → ∃ y, joinM S cr' k r' zs = some y := fun {r' ys zs z} h => by
    unfold joinM at h ⊢
    by_cases hc : (cr.length : Int) = S.n - 1
    · rw [hl hc, if_pos hc]
      exact ⟨_, rfl⟩
    · rw [if_neg hc] at h
      cases h
  cases r
  case inp a =>
    unfold shareR at h ⊢
    by_cases ha : a = S.j
    · simp only [if_pos ha]
      exact ⟨_, rfl⟩
    · simp only [if_neg ha] at h ⊢
      exact hg _ _ h
  case const c => exact ⟨c, rfl⟩
  case out a b => cases h
  case next => cases h
  case product a b =>
    obtain ⟨ys, zs, h1, h2⟩ := nb (show (neededM fo (Row.product a b).named).bind _ = some x from h)
    show ∃ y, (neededM fo' (Row.product a b).named).bind _ = some y
    rw [h2]
    exact jn h1
  case kept a =>
    obtain ⟨ys, zs, h1, h2⟩ := nb (show (neededM fo (Row.kept a).named).bind _ = some x from h)
    show ∃ y, (neededM fo' (Row.kept a).named).bind _ = some y
    rw [h2]
    exact jn h1
  case sum a b =>
    obtain ⟨zs, h2⟩ := nm (show (neededM fo (Row.sum a b).named).map _ = some x from h)
    show ∃ y, (neededM fo' (Row.sum a b).named).map _ = some y
    rw [h2]
    exact ⟨_, rfl⟩
  case less a b =>
    obtain ⟨zs, h2⟩ := nm (show (neededM fo (Row.less a b).named).map _ = some x from h)
    show ∃ y, (neededM fo' (Row.less a b).named).map _ = some y
    rw [h2]
    exact ⟨_, rfl⟩
  case times c a =>
    obtain ⟨zs, h2⟩ := nm (show (neededM fo (Row.times c a).named).map _ = some x from h)
    show ∃ y, (neededM fo' (Row.times c a).named).map _ = some y
    rw [h2]
    exact ⟨_, rfl⟩
theorem cameGet_app {c : List (Int × Int)} {d : List (Int × Int)} {a x : Int} (h : cameGet c a = some x) : ∃ y, cameGet (c ++ d) a = some y := by
  refine cameGet_mem ?_
  rw [List.map_append]
  exact List.mem_append.mpr (.inl (List.mem_map.mpr ⟨(a, x), cameGet_some h, rfl⟩))
theorem share_mono {S : PS} (ok : PSok S) {came : Came} (co : CameOk S came) {k0 : Nat} {cr0 : List (Int × Int)} {i0 x0 : Int} (hc : came[k0]? = some cr0) (hn : cameGet cr0 i0 = none) (h1 : 1 ≤ i0) (h2 : i0 ≤ S.n) (h3 : i0 ≠ S.j) :
    ∀ k, k < S.rows.length → ∀ x, (sharesL S came).getD k none = some x → ∃ y, (sharesL S (came.set k0 (cr0 ++ [(i0, x0)]))).getD k none = some y := by
  intro k
  induction k using Nat.strongRecOn with
  | ind k ih =>
    intro hk x hx
    have hr : S.rows[k]? = some S.rows[k] := List.getElem?_eq_getElem hk
    have hrD : S.rows.getD k .next = S.rows[k] := by rw [List.getD_eq_getElem?_getD, hr]; rfl
    unfold sharesL at hx ⊢
    rw [sharesUpto_get (by omega)] at hx ⊢
    unfold shareM at hx ⊢
    refine shareR_mono (fun a ha y hy => ?_) (fun a y hy => ?_) (fun hl => ?_) hx
    · rw [hrD] at ha
      have hal := row_named_lt (ok.rok k _ hr) a ha
      have := ih a hal (by omega) y (by unfold sharesL; rw [sharesUpto_get (by omega)]; rw [sharesUpto_get hal] at hy; exact hy)
      unfold sharesL at this
      rw [sharesUpto_get (by omega)] at this
      rw [sharesUpto_get hal]
      exact this
    · by_cases e : k = k0
      · subst e
        have : (came.set k (cr0 ++ [(i0, x0)])).getD k [] = cr0 ++ [(i0, x0)] := by
          rw [List.getD_eq_getElem?_getD, List.getElem?_set_self (List.getElem?_eq_some_iff.mp hc).1]; rfl
        rw [this]
        have hD : came.getD k [] = cr0 := by rw [List.getD_eq_getElem?_getD, hc]; rfl
        rw [hD] at hy
        exact cameGet_app hy
      · have : (came.set k0 (cr0 ++ [(i0, x0)])).getD k [] = came.getD k [] := by
          rw [List.getD_eq_getElem?_getD, List.getElem?_set_ne (fun z => e z.symm), List.getD_eq_getElem?_getD]
        rw [this]
        exact ⟨y, hy⟩
    · by_cases e : k = k0
      · subst e
        exfalso
        have hD : came.getD k [] = cr0 := by rw [List.getD_eq_getElem?_getD, hc]; rfl
        rw [hD] at hl
        exact cameGet_none hn (all_in ok (cameRow_at co hc) hl h1 h2 h3)
      · rw [List.getD_eq_getElem?_getD, List.getElem?_set_ne (fun z => e z.symm), List.getD_eq_getElem?_getD]
end U

namespace U
variable {e : Env}
/-! ### the state of the letters -/
def TrC (e : Env) (lk : List (Nat × Int)) (j : Int) (came : Came) : Prop := ∀ (k : Nat) (cr : List (Int × Int)), came[k]? = some cr → ∀ x ∈ cr, sendsM (e.row k) x.1 j = true ∧ (x.2 = num e k x.1 j ∨ ((e.row k).isOut = true ∧ (k, x.1) ∈ lk))
theorem TrC.tru {lk : List (Nat × Int)} {j : Int} {came : Came} (h : TrC e lk j came) : TrueC e j came := fun k cr hk x hx => by
  obtain ⟨h1, h2⟩ := h k cr hk x hx
  refine ⟨h1, ?_⟩
  rcases h2 with h2 | h2
  · exact .inr h2
  · exact .inl h2.1
def inC (cm : Int → Came) (k : Nat) (i j : Int) : Prop := i ∈ ((cm j).getD k []).map (·.1)
def MK (e : Env) (cm : Int → Came) (k : Nat) (i j : Int) : Prop := (1 ≤ i ∧ i ≤ (e.n : Int)) ∧ k < e.rows.length ∧ rdy (sharesL (e.Ss i) (cm i)) (e.row k) = true ∧ (1 ≤ j ∧ j ≤ (e.n : Int) ∧ sendsM (e.row k) i j = true)
structure LOk (e : Env) (lk : List (Nat × Int)) (l : Letter) : Prop where
  k : l.k < e.rows.length
  i : 1 ≤ l.i ∧ l.i ≤ (e.n : Int)
  j : 1 ≤ l.j ∧ l.j ≤ (e.n : Int)
  s : sendsM (e.row l.k) l.i l.j = true
  x : 0 ≤ l.x ∧ l.x < e.p
  t : l.x = num e l.k l.i l.j ∨ ((e.row l.k).isOut = true ∧ (l.k, l.i) ∈ lk)
structure PInv (e : Env) (cm : Int → Came) (way : List Letter) (lk : List (Nat × Int)) : Prop where
  co : ∀ j, 1 ≤ j → j ≤ (e.n : Int) → CameOk (e.Ss j) (cm j)
  tr : ∀ j, 1 ≤ j → j ≤ (e.n : Int) → TrC e lk j (cm j)
  wy : ∀ l ∈ way, LOk e lk l
  nd : (way.map Letter.key).Nodup
  hmk : ∀ k i j, MK e cm k i j ↔ ((k, i, j) ∈ way.map Letter.key ∨ ((1 ≤ j ∧ j ≤ (e.n : Int)) ∧ inC cm k i j))
  ex : ∀ l ∈ way, ¬ inC cm l.k l.i l.j
theorem made_MK (ok : EnvOk e) {cm : Int → Came} {i : Int} (h1 : 1 ≤ i) (h2 : i ≤ (e.n : Int)) (co : CameOk (e.Ss i) (cm i)) (tr : TrueC e i (cm i)) {l : Letter} : l ∈ madeL (e.Ss i) (cm i) ↔ MK e cm l.k i l.j ∧ l.i = i ∧ l.x = num e l.k i l.j := by
  rw [mem_made ok h1 h2 co tr]
  unfold MK
  constructor
  · rintro ⟨a, b, c, d, f⟩
    exact ⟨⟨⟨h1, h2⟩, a, b, d⟩, c, f⟩
  · rintro ⟨⟨_, a, b, d⟩, c, f⟩
    exact ⟨a, b, c, d, f⟩
theorem LOk.ofMK (ok : EnvOk e) {cm : Int → Came} {lk : List (Nat × Int)} {l : Letter} (h : MK e cm l.k l.i l.j) (hx : l.x = num e l.k l.i l.j) : LOk e lk l := by
  obtain ⟨a, b, c, d1, d2, d3⟩ := h
  exact ⟨b, a, ⟨d1, d2⟩, d3, by rw [hx]; exact num_bd ok _ _ _, .inl hx⟩
theorem emptyC_getD (S : PS) (k : Nat) : (emptyC S).getD k [] = [] := by
  unfold emptyC
  rw [List.getD_eq_getElem?_getD, List.getElem?_map]
  cases S.rows[k]? <;> rfl
theorem trueC_empty (j : Int) (lk : List (Nat × Int)) (S : PS) : TrC e lk j (emptyC S) := fun k cr hk x hx => by
  have := emptyC_getD S k
  rw [List.getD_eq_getElem?_getD, hk] at this
  have h2 : cr = [] := this
  rw [h2] at hx
  cases hx
def cm0 (e : Env) : Int → Came := fun j => emptyC (e.Ss j)
def way0 (e : Env) : List Letter := (partsM (e.n : Int)).flatMap fun j => madeL (e.Ss j) (cm0 e j)
theorem pinv0 (ok : EnvOk e) : PInv e (cm0 e) (way0 e) [] := by
  have co : ∀ j, 1 ≤ j → j ≤ (e.n : Int) → CameOk (e.Ss j) (cm0 e j) := fun j _ _ => cameOk_empty
  have tr : ∀ j, 1 ≤ j → j ≤ (e.n : Int) → TrC e [] j (cm0 e j) := fun j _ _ => trueC_empty j [] _
  have ni : ∀ k i j, ¬ inC (cm0 e) k i j := fun k i j h => by
    unfold inC cm0 at h
    rw [emptyC_getD] at h
    cases h
  have mem : ∀ l, l ∈ way0 e ↔ MK e (cm0 e) l.k l.i l.j ∧ l.x = num e l.k l.i l.j := fun l => by
    constructor
    · intro h
      obtain ⟨j, hj, hl⟩ := List.mem_flatMap.mp h
      have hj' := partsM_mem.mp hj
      obtain ⟨a, b, c⟩ := (made_MK ok hj'.1 hj'.2 (co j hj'.1 hj'.2) (tr j hj'.1 hj'.2).tru).mp hl
      rw [b]
      exact ⟨a, c⟩
    · rintro ⟨a, c⟩
      refine List.mem_flatMap.mpr ⟨l.i, partsM_mem.mpr a.1, ?_⟩
      exact (made_MK ok a.1.1 a.1.2 (co _ a.1.1 a.1.2) (tr _ a.1.1 a.1.2).tru).mpr ⟨a, rfl, c⟩
  refine ⟨co, tr, fun l hl => ?_, ?_, fun k i j => ?_, fun l _ => ni _ _ _⟩
  · obtain ⟨a, c⟩ := (mem l).mp hl
    exact LOk.ofMK ok a c
  · unfold way0
    have : ∀ js : List Int, js.Nodup → (∀ j ∈ js, 1 ≤ j ∧ j ≤ (e.n : Int)) → ((js.flatMap fun j => madeL (e.Ss j) (cm0 e j)).map Letter.key).Nodup := fun js => by
      induction js with
      | nil => intro _ _; simp
      | cons j r ih =>
        intro hnd hjs
        obtain ⟨n1, n2⟩ := List.nodup_cons.mp hnd
        have hj := hjs j (List.mem_cons_self ..)
        rw [List.flatMap_cons, List.map_append]
        refine List.nodup_append.mpr ⟨made_nd ok hj.1 hj.2 (co j hj.1 hj.2) (tr j hj.1 hj.2).tru, ih n2 fun x hx => hjs x (List.mem_cons_of_mem _ hx), fun a ha b hb => ?_⟩
        obtain ⟨la, hla, rfl⟩ := List.mem_map.mp ha
        obtain ⟨lb, hlb, rfl⟩ := List.mem_map.mp hb
        obtain ⟨j', hj', hlb'⟩ := List.mem_flatMap.mp hlb
        have hjj := hjs j' (List.mem_cons_of_mem _ hj')
        have q1 := ((made_MK ok hj.1 hj.2 (co j hj.1 hj.2) (tr j hj.1 hj.2).tru).mp hla).2.1
        have q2 := ((made_MK ok hjj.1 hjj.2 (co j' hjj.1 hjj.2) (tr j' hjj.1 hjj.2).tru).mp hlb').2.1
        intro hab
        have q3 : la.i = lb.i := congrArg (fun k : Key3 => k.2.1) hab
        rw [q1, q2] at q3
        rw [← q3] at hj'
        exact n1 hj'
    exact this _ (partsM_nd _) fun j hj => partsM_mem.mp hj
  · constructor
    · intro h
      refine .inl (List.mem_map.mpr ⟨⟨k, i, j, num e k i j⟩, (mem _).mpr ⟨h, rfl⟩, rfl⟩)
    · rintro (h | h)
      · obtain ⟨l, hl, hk⟩ := List.mem_map.mp h
        have := ((mem l).mp hl).1
        cases hk
        exact this
      · exact absurd h.2 (ni _ _ _)
/-- a letter is handed -/
def cmPut (cm : Int → Came) (l : Letter) : Int → Came := fun q => if q = l.j then (cm l.j).set l.k ((cm l.j).getD l.k [] ++ [(l.i, l.x)]) else cm q
def wayPut (e : Env) (cm : Int → Came) (way : List Letter) (i : Nat) (l : Letter) : List Letter := way.take i ++ way.drop (i + 1) ++ newL (e.Ss l.j) (cm l.j) (cmPut cm l l.j)
theorem LOk.let (ok : EnvOk e) {lk : List (Nat × Int)} {l : Letter} (h : LOk e lk l) : LetOk (e.Ss l.j) l := by
  obtain ⟨so, sj⟩ := ok.so l.j h.j.1 h.j.2
  refine ⟨by rw [so.er]; exact h.k, h.i.1, by rw [so.en]; exact h.i.2, sj.symm, h.x.1, by rw [so.ep]; exact h.x.2, ?_⟩
  rw [so.er, sj]
  exact h.s
theorem sends_ne {r : Row} {i j : Int} (h : sendsM r i j = true) : i ≠ j := fun e => by
  unfold sendsM at h
  rw [if_pos e] at h
  cases h
theorem notIn_get {c : List (Int × Int)} {i : Int} (h : i ∉ c.map (·.1)) : cameGet c i = none := by
  cases q : cameGet c i with
  | none => rfl
  | some x => exact absurd (List.mem_map.mpr ⟨(i, x), cameGet_some q, rfl⟩) h
theorem pinv_hand (ok : EnvOk e) {cm : Int → Came} {way : List Letter} {lk : List (Nat × Int)} (h : PInv e cm way lk) {i : Nat} {l : Letter} (hl : way[i]? = some l) : PInv e (cmPut cm l) (wayPut e cm way i l) lk ∧ cameGet ((cm l.j).getD l.k []) l.i = none := by
  have hlm := List.mem_of_getElem? hl
  have hL := h.wy l hlm
  obtain ⟨so, sj⟩ := ok.so l.j hL.j.1 hL.j.2
  have hco := h.co l.j hL.j.1 hL.j.2
  have hcn : cameGet ((cm l.j).getD l.k []) l.i = none := notIn_get (h.ex l hlm)
  refine ⟨?_, hcn⟩
  have hck : (cm l.j)[l.k]? = some ((cm l.j).getD l.k []) := by
    have h1 := hco.len
    have h2 := hL.k
    rw [so.er] at h1
    rw [List.getD_eq_getElem?_getD, List.getElem?_eq_getElem (show l.k < (cm l.j).length by omega), Option.getD_some]
  have hne := sends_ne hL.s
  have hput : cmPut cm l l.j = (cm l.j).set l.k ((cm l.j).getD l.k [] ++ [(l.i, l.x)]) := by unfold cmPut; rw [if_pos rfl]
  have hoth : ∀ q, q ≠ l.j → cmPut cm l q = cm q := fun q hq => by unfold cmPut; rw [if_neg hq]
  have co' : ∀ j, 1 ≤ j → j ≤ (e.n : Int) → CameOk (e.Ss j) (cmPut cm l j) := fun j h1 h2 => by
    by_cases q : j = l.j
    · rw [q, hput]
      exact hco.put hck hcn hL.i.1 (by rw [so.en]; exact hL.i.2) (by rw [sj]; exact hne) hL.x.1 (by rw [so.ep]; exact hL.x.2)
    · rw [hoth j q]
      exact h.co j h1 h2
  have tr' : ∀ j, 1 ≤ j → j ≤ (e.n : Int) → TrC e lk j (cmPut cm l j) := fun j h1 h2 => by
    by_cases q : j = l.j
    · rw [q, hput]
      intro k cr hk x hx
      by_cases hkl : k = l.k
      · subst hkl
        rw [List.getElem?_set_self (List.getElem?_eq_some_iff.mp hck).1] at hk
        cases hk
        rcases List.mem_append.mp hx with hx | hx
        · exact h.tr l.j hL.j.1 hL.j.2 _ _ hck x hx
        · rw [List.mem_singleton.mp hx]
          exact ⟨hL.s, hL.t⟩
      · rw [List.getElem?_set_ne (fun z => hkl z.symm)] at hk
        exact h.tr l.j hL.j.1 hL.j.2 k cr hk x hx
    · rw [hoth j q]
      exact h.tr j h1 h2
  have inC' : ∀ k i j, inC (cmPut cm l) k i j ↔ (inC cm k i j ∨ (k, i, j) = l.key) := fun k i j => by
    unfold inC
    by_cases q : j = l.j
    · rw [q, hput]
      by_cases hkl : k = l.k
      · rw [hkl]
        have : ((cm l.j).set l.k ((cm l.j).getD l.k [] ++ [(l.i, l.x)])).getD l.k [] = (cm l.j).getD l.k [] ++ [(l.i, l.x)] := by
          rw [List.getD_eq_getElem?_getD, List.getElem?_set_self (List.getElem?_eq_some_iff.mp hck).1]; rfl
        rw [this, List.map_append, List.mem_append]
        constructor
        · rintro (z | z)
          · exact .inl z
          · have : i = l.i := by simpa using z
            rw [this]
            exact .inr rfl
        · rintro (z | z)
          · exact .inl z
          · have : i = l.i := congrArg (fun k : Key3 => k.2.1) z
            rw [this]
            exact .inr (by simp)
      · have : ((cm l.j).set l.k ((cm l.j).getD l.k [] ++ [(l.i, l.x)])).getD k [] = (cm l.j).getD k [] := by
          rw [List.getD_eq_getElem?_getD, List.getElem?_set_ne (fun z => hkl z.symm), List.getD_eq_getElem?_getD]
        rw [this]
        constructor
        · exact .inl
        · rintro (z | z)
          · exact z
          · exact absurd (congrArg (fun k : Key3 => k.1) z) hkl
    · rw [hoth j q]
      constructor
      · exact .inl
      · rintro (z | z)
        · exact z
        · exact absurd (congrArg (fun k : Key3 => k.2.2) z) q
  have mono : ∀ k i j, MK e cm k i j → MK e (cmPut cm l) k i j := fun k i j ⟨a, b, c, d⟩ => by
    refine ⟨a, b, ?_, d⟩
    by_cases q : i = l.j
    · rw [q, hput]
      rw [q] at c
      refine rdy_mono (fun w hw x hx => ?_) c
      have hwl := row_named_lt (ok.rok k _ (Env.row_lt b)) w hw
      exact share_mono so.ok hco hck hcn hL.i.1 (by rw [so.en]; exact hL.i.2) (by rw [sj]; exact hne) w (by rw [so.er]; omega) x hx
    · rw [hoth i q]
      exact c
  have MKo : ∀ k i j, i ≠ l.j → (MK e (cmPut cm l) k i j ↔ MK e cm k i j) := fun k i j q => by
    unfold MK
    rw [hoth i q]
  have hnew : ∀ m, m ∈ newL (e.Ss l.j) (cm l.j) (cmPut cm l l.j) ↔ (MK e (cmPut cm l) m.k l.j m.j ∧ ¬ MK e cm m.k l.j m.j ∧ m.i = l.j ∧ m.x = num e m.k l.j m.j) := fun m => by
    unfold newL
    rw [List.mem_filter, made_MK ok hL.j.1 hL.j.2 (co' _ hL.j.1 hL.j.2) (tr' _ hL.j.1 hL.j.2).tru, decide_eq_true_eq, made_MK ok hL.j.1 hL.j.2 hco (h.tr _ hL.j.1 hL.j.2).tru]
    constructor
    · rintro ⟨⟨a, b, c⟩, d⟩
      exact ⟨a, fun z => d ⟨z, b, c⟩, b, c⟩
    · rintro ⟨a, d, b, c⟩
      exact ⟨⟨a, b, c⟩, fun z => d z.1⟩
  have hsp : way = way.take i ++ l :: way.drop (i + 1) := by
    rw [← drop_get hl, List.take_append_drop]
  have hnd := h.nd
  rw [hsp, List.map_append, List.map_cons] at hnd
  obtain ⟨nA, nB, nAB⟩ := List.nodup_append.mp hnd
  obtain ⟨nl, nB'⟩ := List.nodup_cons.mp nB
  have hmem : ∀ m, m ∈ way ↔ (m ∈ way.take i ++ way.drop (i + 1) ∨ m = l) := fun m => by
    conv => lhs; rw [hsp]
    rw [List.mem_append, List.mem_cons, List.mem_append]
    constructor
    · rintro (z | z | z)
      · exact .inl (.inl z)
      · exact .inr z
      · exact .inl (.inr z)
    · rintro ((z | z) | z)
      · exact .inl z
      · exact .inr (.inr z)
      · exact .inr (.inl z)
  have hrest : ∀ m ∈ way.take i ++ way.drop (i + 1), m.key ≠ l.key := fun m hm => by
    rcases List.mem_append.mp hm with hm | hm
    · exact nAB _ (List.mem_map.mpr ⟨m, hm, rfl⟩) _ (List.mem_cons_self ..)
    · exact fun z => nl (by rw [← z]; exact List.mem_map.mpr ⟨m, hm, rfl⟩)
  refine ⟨co', tr', fun m hm => ?_, ?_, fun k i' j => ?_, fun m hm => ?_⟩
  · unfold wayPut at hm
    rcases List.mem_append.mp hm with hm | hm
    · exact h.wy m ((hmem m).mpr (.inl hm))
    · obtain ⟨a, _, b, c⟩ := (hnew m).mp hm
      rw [← b] at a c
      exact LOk.ofMK ok a c
  · unfold wayPut
    rw [List.map_append]
    refine List.nodup_append.mpr ⟨?_, ?_, fun a ha b hb => ?_⟩
    · rw [List.map_append]
      exact List.nodup_append.mpr ⟨nA, nB', fun a ha b hb => nAB a ha b (List.mem_cons_of_mem _ hb)⟩
    · have := made_nd ok hL.j.1 hL.j.2 (co' _ hL.j.1 hL.j.2) (tr' _ hL.j.1 hL.j.2).tru
      exact this.sublist ((List.filter_sublist ..).map Letter.key)
    · obtain ⟨la, hla, rfl⟩ := List.mem_map.mp ha
      obtain ⟨lb, hlb, rfl⟩ := List.mem_map.mp hb
      obtain ⟨_, q, q2, _⟩ := (hnew lb).mp hlb
      intro hab
      refine q ?_
      rw [← q2]
      refine (h.hmk _ _ _).mpr (.inl ?_)
      show lb.key ∈ _
      rw [← hab]
      exact List.mem_map.mpr ⟨la, (hmem la).mpr (.inl hla), rfl⟩
  · constructor
    · intro hm
      by_cases hold : MK e cm k i' j
      · rcases (h.hmk k i' j).mp hold with q | q
        · obtain ⟨m, hm1, hm2⟩ := List.mem_map.mp q
          rcases (hmem m).mp hm1 with z | z
          · refine .inl (List.mem_map.mpr ⟨m, ?_, hm2⟩)
            exact List.mem_append.mpr (.inl z)
          · refine .inr ⟨?_, (inC' _ _ _).mpr (.inr ?_)⟩
            · exact ⟨hm.2.2.2.1, hm.2.2.2.2.1⟩
            · rw [← hm2, z]
        · exact .inr ⟨q.1, (inC' _ _ _).mpr (.inl q.2)⟩
      · have hij : i' = l.j := Classical.byContradiction fun z => hold ((MKo k i' j z).mp hm)
        refine .inl (List.mem_map.mpr ⟨⟨k, i', j, num e k i' j⟩, ?_, rfl⟩)
        refine List.mem_append.mpr (.inr ((hnew _).mpr ?_))
        rw [hij] at hm hold
        exact ⟨hm, hold, hij, by simp only [hij]⟩
    · rintro (hm | hm)
      · obtain ⟨m, hm1, hm2⟩ := List.mem_map.mp hm
        cases hm2
        rcases List.mem_append.mp hm1 with z | z
        · exact mono _ _ _ ((h.hmk _ _ _).mpr (.inl (List.mem_map.mpr ⟨m, (hmem m).mpr (.inl z), rfl⟩)))
        · obtain ⟨a, _, b, _⟩ := (hnew m).mp z
          rw [b]
          exact a
      · refine mono _ _ _ ((h.hmk _ _ _).mpr ?_)
        rcases (inC' _ _ _).mp hm.2 with z | z
        · exact .inr ⟨hm.1, z⟩
        · exact .inl (by rw [z]; exact List.mem_map.mpr ⟨l, hlm, rfl⟩)
  · unfold wayPut at hm
    intro hc
    rcases List.mem_append.mp hm with hm | hm
    · rcases (inC' _ _ _).mp hc with z | z
      · exact h.ex m ((hmem m).mpr (.inl hm)) z
      · exact hrest m hm z
    · obtain ⟨_, q, q2, _⟩ := (hnew m).mp hm
      refine q ?_
      rw [← q2]
      rcases (inC' _ _ _).mp hc with z | z
      · have hmk := (hnew m).mp hm
        exact (h.hmk _ _ _).mpr (.inr ⟨⟨hmk.1.2.2.2.1, hmk.1.2.2.2.2.1⟩, z⟩)
      · refine (h.hmk _ _ _).mpr (.inl ?_)
        rw [z]
        exact List.mem_map.mpr ⟨l, hlm, rfl⟩
/-- a lie about a letter of an out row -/
theorem pinv_lie {cm : Int → Came} {way : List Letter} {lk : List (Nat × Int)} (h : PInv e cm way lk) {i : Nat} {l : Letter} (hl : way[i]? = some l) (ho : (e.row l.k).isOut = true) {z : Int} (hz : 0 ≤ z ∧ z < e.p) : PInv e cm (way.set i { l with x := z }) ((l.k, l.i) :: lk) := by
  have hkey : (way.set i { l with x := z }).map Letter.key = way.map Letter.key := map_set_same Letter.key (e' := { l with x := z }) hl rfl
  have hL := h.wy l (List.mem_of_getElem? hl)
  refine ⟨h.co, fun j h1 h2 k cr hk x hx => ?_, fun m hm => ?_, by rw [hkey]; exact h.nd, fun k i j => by rw [hkey]; exact h.hmk k i j, fun m hm => ?_⟩
  · obtain ⟨a, b⟩ := h.tr j h1 h2 k cr hk x hx
    refine ⟨a, ?_⟩
    rcases b with b | b
    · exact .inl b
    · exact .inr ⟨b.1, List.mem_cons_of_mem _ b.2⟩
  · rcases List.mem_or_eq_of_mem_set hm with hm | rfl
    · obtain ⟨a, b, c, d, f, g⟩ := h.wy m hm
      refine ⟨a, b, c, d, f, ?_⟩
      rcases g with g | g
      · exact .inl g
      · exact .inr ⟨g.1, List.mem_cons_of_mem _ g.2⟩
    · exact ⟨hL.k, hL.i, hL.j, hL.s, hz, .inr ⟨ho, List.mem_cons_self ..⟩⟩
  · rcases List.mem_or_eq_of_mem_set hm with hm | rfl
    · exact h.ex m hm
    · exact h.ex l (List.mem_of_getElem? hl)
end U

namespace U
variable {e : Env}
theorem fm_congr {α β : Type} {f g : α → Option β} : ∀ {l : List α}, (∀ x ∈ l, f x = g x) → l.filterMap f = l.filterMap g
  | [], _ => rfl
  | a :: r, h => by
    rw [List.filterMap_cons, List.filterMap_cons, h a (List.mem_cons_self ..), fm_congr fun x hx => h x (List.mem_cons_of_mem _ hx)]
/-! ### when no letter is on the way -/
theorem full_len {S : PS} (ok : PSok S) {cr : List (Int × Int)} (h : CameRow S cr) (all : ∀ i, 1 ≤ i → i ≤ S.n → i ≠ S.j → i ∈ cr.map (·.1)) : (cr.length : Int) = S.n - 1 := by
  have h1 := nodup_len (l' := S.j :: cr.map (·.1)) (partsM_nd S.n) fun i hi => by
    have := partsM_mem.mp hi
    by_cases e : i = S.j
    · rw [e]; exact List.mem_cons_self ..
    · exact List.mem_cons_of_mem _ (all i this.1 this.2 e)
  have h2 := nodup_len (l := S.j :: cr.map (·.1)) (l' := partsM S.n) (List.nodup_cons.mpr ⟨fun hm => by
    obtain ⟨x, hx, hj⟩ := List.mem_map.mp hm
    exact (h.2 x hx).2.2.1 hj, h.1⟩) fun i hi => by
    rcases List.mem_cons.mp hi with rfl | hi
    · exact partsM_mem.mpr ⟨ok.j0, ok.j1⟩
    · obtain ⟨x, hx, rfl⟩ := List.mem_map.mp hi
      exact partsM_mem.mpr ⟨(h.2 x hx).1, (h.2 x hx).2.1⟩
  rw [partsM_len, List.length_cons, List.length_map] at h1 h2
  have := ok.set.n0
  omega
theorem needed_some {fo : List (Option Int)} : ∀ {l : List Nat}, (∀ a ∈ l, ∃ x, fo.getD a none = some x) → ∃ ys, neededM fo l = some ys
  | [], _ => ⟨[], rfl⟩
  | a :: r, h => by
    obtain ⟨x, hx⟩ := h a (List.mem_cons_self ..)
    obtain ⟨ys, hy⟩ := needed_some (l := r) fun b hb => h b (List.mem_cons_of_mem _ hb)
    refine ⟨x :: ys, ?_⟩
    unfold neededM
    rw [hx, hy]
theorem mk_in {cm : Int → Came} {lk : List (Nat × Int)} (h : PInv e cm [] lk) {k : Nat} {i j : Int} (hm : MK e cm k i j) : inC cm k i j := by
  rcases (h.hmk k i j).mp hm with q | q
  · cases q
  · exact q.2
theorem shares_all (ok : EnvOk e) {cm : Int → Came} {lk : List (Nat × Int)} (h : PInv e cm [] lk) : ∀ k, k < e.rows.length → (e.row k).isVal = true → ∀ j, 1 ≤ j → j ≤ (e.n : Int) → (sharesL (e.Ss j) (cm j)).getD k none = some (shv e k j) := by
  intro k
  induction k using Nat.strongRecOn with
  | ind k ih =>
    intro hk hv j h1 h2
    obtain ⟨so, sj⟩ := ok.so j h1 h2
    have hr := Env.row_lt hk
    have hrk := ok.rok k _ hr
    suffices hs : ∃ x, (sharesL (e.Ss j) (cm j)).getD k none = some x by
      obtain ⟨x, hx⟩ := hs
      rw [hx, share_true ok h1 h2 (h.co j h1 h2) (h.tr j h1 h2).tru k hk x hx]
    have sub : ∀ i, 1 ≤ i → i ≤ (e.n : Int) → ∀ a ∈ (e.row k).named, ∃ x, (sharesL (e.Ss i) (cm i)).getD a none = some x := fun i q1 q2 a ha => by
      have hal := row_named_lt hrk a ha
      exact ⟨_, ih a hal (by omega) (ok.wd k _ hr a ha) i q1 q2⟩
    have subj : ∀ a ∈ (e.row k).named, ∃ x, (sharesUpto (e.Ss j) (cm j) k).getD a none = some x := fun a ha => by
      have hal := row_named_lt hrk a ha
      obtain ⟨x, hx⟩ := sub j h1 h2 a ha
      unfold sharesL at hx
      rw [sharesUpto_get (by rw [so.er]; omega)] at hx
      exact ⟨x, by rw [sharesUpto_get hal]; exact hx⟩
    unfold sharesL
    rw [sharesUpto_get (by rw [so.er]; exact hk)]
    unfold shareM
    have hrow : (e.Ss j).rows.getD k .next = e.row k := by rw [so.er]; rfl
    have hck : (cm j)[k]? = some ((cm j).getD k []) := by
      have q1 := (h.co j h1 h2).len
      rw [so.er] at q1
      rw [List.getD_eq_getElem?_getD, List.getElem?_eq_getElem (show k < (cm j).length by omega), Option.getD_some]
    have hcr := cameRow_at (h.co j h1 h2) hck
    rw [hrow]
    have full : (∀ i, 1 ≤ i → i ≤ (e.n : Int) → i ≠ j → inC cm k i j) → (((cm j).getD k []).length : Int) = (e.Ss j).n - 1 := fun hin =>
      full_len so.ok hcr fun i q1 q2 q3 => hin i q1 (by rw [so.en] at q2; exact q2) (by rw [sj] at q3; exact q3)
    have MKs : (e.row k).kn = 4 ∨ (e.row k).kn = 8 → ∀ i, 1 ≤ i → i ≤ (e.n : Int) → i ≠ j → MK e cm k i j := fun hkn i q1 q2 q3 => by
      obtain ⟨ys, hy⟩ := needed_some (sub i q1 q2)
      refine ⟨⟨q1, q2⟩, hk, ?_, h1, h2, ?_⟩
      · generalize hrr : e.row k = r at *
        cases r <;> first | (simp only [rdy]; rw [hy]; rfl; done) | (exfalso; revert hkn; simp only [Row.kn]; decide)
      · generalize hrr : e.row k = r at *
        cases r <;> first | (simp only [sendsM]; rw [if_neg q3]; done) | (exfalso; revert hkn; simp only [Row.kn]; decide)
    obtain ⟨ys, hy⟩ := needed_some subj
    generalize hrr : e.row k = r at *
    cases r
    case inp a =>
      unfold shareR
      by_cases ha : a = (e.Ss j).j
      · simp only [if_pos ha]
        exact ⟨_, rfl⟩
      · simp only [if_neg ha]
        refine cameGet_mem ?_
        have hin : 1 ≤ a ∧ a ≤ (e.n : Int) := hrk
        refine mk_in h ⟨hin, hk, by rw [hrr]; rfl, h1, h2, ?_⟩
        rw [hrr]
        simp only [sendsM]
        rw [if_neg (by rw [sj] at ha; exact ha)]
        rfl
    case const c => exact ⟨c, rfl⟩
    case out a b => cases hv
    case next => cases hv
    case sum a b =>
      show ∃ x, (neededM _ (Row.sum a b).named).map _ = some x
      rw [hy]
      exact ⟨_, rfl⟩
    case less a b =>
      show ∃ x, (neededM _ (Row.less a b).named).map _ = some x
      rw [hy]
      exact ⟨_, rfl⟩
    case times c a =>
      show ∃ x, (neededM _ (Row.times c a).named).map _ = some x
      rw [hy]
      exact ⟨_, rfl⟩
    case product a b =>
      have hf := full fun i q1 q2 q3 => mk_in h (MKs (.inl rfl) i q1 q2 q3)
      show ∃ x, (neededM _ (Row.product a b).named).bind _ = some x
      rw [hy]
      simp only [Option.bind_some]
      unfold joinM
      rw [if_pos hf]
      exact ⟨_, rfl⟩
    case kept a =>
      have hf := full fun i q1 q2 q3 => mk_in h (MKs (.inr rfl) i q1 q2 q3)
      show ∃ x, (neededM _ (Row.kept a).named).bind _ = some x
      rw [hy]
      simp only [Option.bind_some]
      unfold joinM
      rw [if_pos hf]
      exact ⟨_, rfl⟩
/-- an out row at the end: all letters came, and few of them lie -/
theorem out_end (ok : EnvOk e) {cm : Int → Came} {lk : List (Nat × Int)} (h : PInv e cm [] lk) (few : ∀ k, (((lk.filter fun x => decide (x.1 = k)).length : Nat) : Int) ≤ ((e.n : Int) - e.t - 1) / 2) {k a : Nat} {j : Int} (hk : k < e.rows.length) (hr : e.row k = .out a j) :
    (((cm j).getD k []).length : Int) = (e.Ss j).n - 1 ∧ (sharesL (e.Ss j) (cm j)).getD a none = some (shv e a j) ∧
    ((wrongM e.p (e.n : Int) (toldM (e.Ss j) ((cm j).getD k []) (shv e a j)) (canon e.p (e.F a) e.t)).length : Int) ≤ ((e.n : Int) - e.t - 1) / 2 := by
  have hr' := Env.row_lt hk
  rw [hr] at hr'
  have hrk : a < k ∧ 1 ≤ j ∧ j ≤ (e.n : Int) := ok.rok k _ hr'
  have hva := ok.wd k _ hr' a (by simp [Row.named])
  obtain ⟨h1, h2⟩ := hrk.2
  obtain ⟨so, sj⟩ := ok.so j h1 h2
  have sa := fun i q1 q2 => shares_all ok h a (by omega) hva i q1 q2
  have hck : (cm j)[k]? = some ((cm j).getD k []) := by
    have q1 := (h.co j h1 h2).len
    rw [so.er] at q1
    rw [List.getD_eq_getElem?_getD, List.getElem?_eq_getElem (show k < (cm j).length by omega), Option.getD_some]
  have hcr := cameRow_at (h.co j h1 h2) hck
  have hin : ∀ i, 1 ≤ i → i ≤ (e.n : Int) → i ≠ j → inC cm k i j := fun i q1 q2 q3 => by
    refine mk_in h ⟨⟨q1, q2⟩, hk, ?_, h1, h2, ?_⟩
    · rw [hr]
      show (neededM _ [a]).isSome = true
      unfold neededM
      rw [sa i q1 q2]
      rfl
    · rw [hr]
      simp only [sendsM]
      rw [if_neg q3]
      rfl
  refine ⟨full_len so.ok hcr fun i q1 q2 q3 => hin i q1 (by rw [so.en] at q2; exact q2) (by rw [sj] at q3; exact q3), sa j h1 h2, ?_⟩
  have hw : ∀ i ∈ wrongM e.p (e.n : Int) (toldM (e.Ss j) ((cm j).getD k []) (shv e a j)) (canon e.p (e.F a) e.t), (k, i) ∈ lk := fun i hi => by
    obtain ⟨m1, m2⟩ := List.mem_filter.mp hi
    have hi' := partsM_mem.mp m1
    have m3 : ¬ (toldM (e.Ss j) ((cm j).getD k []) (shv e a j)).getD (i - 1).toNat 0 = valueM e.p (canon e.p (e.F a) e.t) i := of_decide_eq_true m2
    rw [canon_val] at m3
    have e1 : (((i - 1).toNat : Nat) : Int) + 1 = i := by omega
    have ht : (toldM (e.Ss j) ((cm j).getD k []) (shv e a j)).getD (i - 1).toNat 0 = if i = (e.Ss j).j then shv e a j else (cameGet ((cm j).getD k []) i).getD 0 := by
      unfold toldM
      rw [so.en, getD_map (by rw [partsM_len]; omega), partsM_getD (by omega), e1]
    rw [ht, sj] at m3
    by_cases hij : i = j
    · rw [if_pos hij, hij] at m3
      exact absurd rfl m3
    · rw [if_neg hij] at m3
      obtain ⟨z, hz⟩ := cameGet_mem (hin i hi'.1 hi'.2 hij)
      rw [hz] at m3
      obtain ⟨_, q⟩ := h.tr j h1 h2 k _ hck (i, z) (cameGet_some hz)
      rcases q with q | q
      · refine absurd ?_ m3
        have q' : z = num e k i j := q
        show z = _
        rw [q']
        unfold num
        rw [hr]
      · exact q.2
  have nd0 : (wrongM e.p (e.n : Int) (toldM (e.Ss j) ((cm j).getD k []) (shv e a j)) (canon e.p (e.F a) e.t)).Nodup := (partsM_nd (e.n : Int)).filter _
  have nd : ((wrongM e.p (e.n : Int) (toldM (e.Ss j) ((cm j).getD k []) (shv e a j)) (canon e.p (e.F a) e.t)).map fun i : Int => (k, i)).Nodup := nd_map nd0 fun x _ y _ hxy => congrArg (·.2) hxy
  have hl := nodup_len (l' := lk.filter fun x => decide (x.1 = k)) nd fun x hx => by
    obtain ⟨i, hi, rfl⟩ := List.mem_map.mp hx
    exact List.mem_filter.mpr ⟨hw i hi, decide_eq_true rfl⟩
  rw [List.length_map] at hl
  have := few k
  omega
def outE (e : Env) (k : Nat) : Option (Nat × Int × Int) := match e.row k with
  | .out a b => some (k, b, vv e a)
  | _ => none
def outsUpto (e : Env) (m : Nat) : List (Nat × Int × Int) := (List.range m).filterMap (outE e)
def outs (e : Env) : List (Nat × Int × Int) := outsUpto e e.rows.length
theorem outE_some {k : Nat} {x : Nat × Int × Int} (h : outE e k = some x) : ∃ a b, e.row k = .out a b ∧ x = (k, b, vv e a) := by
  unfold outE at h
  split at h
  · exact ⟨_, _, by assumption, (Option.some.inj h).symm⟩
  · cases h
theorem outs_mem (ok : EnvOk e) {x : Nat × Int × Int} (h : x ∈ outs e) : x.1 < e.rows.length ∧ (1 ≤ x.2.1 ∧ x.2.1 ≤ (e.n : Int)) ∧ 0 ≤ x.2.2 ∧ x.2.2 < e.p := by
  obtain ⟨k, hk, hx⟩ := List.mem_filterMap.mp h
  have hk' := List.mem_range.mp hk
  obtain ⟨a, b, hr, rfl⟩ := outE_some hx
  have hr' := Env.row_lt hk'
  rw [hr] at hr'
  have hrk : a < k ∧ 1 ≤ b ∧ b ≤ (e.n : Int) := ok.rok k _ hr'
  have hva := ok.wd k _ hr' a (by simp [Row.named])
  obtain ⟨v, hv, hb, _⟩ := value_true ok a (by omega) hva
  refine ⟨hk', hrk.2, ?_⟩
  show 0 ≤ vv e a ∧ vv e a < e.p
  unfold vv
  rw [hv]
  exact hb
theorem outs_pw (e : Env) : (outs e).Pairwise fun x y => x.1 < y.1 := by
  unfold outs
  have : ∀ m, (outsUpto e m).Pairwise (fun x y => x.1 < y.1) ∧ ∀ x ∈ outsUpto e m, x.1 < m := fun m => by
    induction m with
    | zero => exact ⟨List.Pairwise.nil, by simp [outsUpto]⟩
    | succ m ih =>
      have hs : outsUpto e (m + 1) = outsUpto e m ++ (outE e m).toList := by
        unfold outsUpto
        rw [List.range_succ, List.filterMap_append]
        cases h : outE e m <;> simp [h]
      rw [hs]
      cases h : outE e m with
      | none =>
        simp only [Option.toList_none, List.append_nil]
        exact ⟨ih.1, fun x hx => Nat.lt_succ_of_lt (ih.2 x hx)⟩
      | some y =>
        obtain ⟨a, b, _, rfl⟩ := outE_some h
        simp only [Option.toList_some]
        refine ⟨List.pairwise_append.mpr ⟨ih.1, List.pairwise_singleton .., fun x hx y hy => ?_⟩, fun x hx => ?_⟩
        · rw [List.mem_singleton.mp hy]
          exact ih.2 x hx
        · rcases List.mem_append.mp hx with hx | hx
          · exact Nat.lt_succ_of_lt (ih.2 x hx)
          · rw [List.mem_singleton.mp hx]
            exact Nat.lt_succ_self _
  exact (this _).1
/-- what party j reads at the end -/
theorem read_end (ok : EnvOk e) {cm : Int → Came} {lk : List (Nat × Int)} (h : PInv e cm [] lk) (few : ∀ k, (((lk.filter fun x => decide (x.1 = k)).length : Nat) : Int) ≤ ((e.n : Int) - e.t - 1) / 2) {j : Int} (h1 : 1 ≤ j) (h2 : j ≤ (e.n : Int)) :
    readL (e.Ss j) (cm j) = ((outs e).filter fun x => decide (x.2.1 = j)).map fun x => (x.1, some x.2.2) := by
  obtain ⟨so, sj⟩ := ok.so j h1 h2
  unfold readL readUpto outs outsUpto
  rw [so.er, List.filter_filterMap, List.map_filterMap]
  refine fm_congr fun k hk => ?_
  have hk' := List.mem_range.mp hk
  unfold readE outE
  have hrow : (e.Ss j).rows.getD k .next = e.row k := by rw [so.er]; rfl
  rw [hrow]
  have oe := fun (a : Nat) (hr : e.row k = .out a j) => out_end ok h few hk' hr
  generalize hrr : e.row k = r at *
  cases r
  case out a b =>
    simp only [sj]
    by_cases hb : b = j
    · subst hb
      obtain ⟨q1, q2, q3⟩ := oe a rfl
      rw [if_pos rfl, q2]
      simp only [q1, if_true]
      have hr' := Env.row_lt hk'
      rw [hrr] at hr'
      have hva := ok.wd k _ hr' a (by simp [Row.named])
      have hal := row_named_lt (ok.rok k _ hr') a (by simp [Row.named])
      obtain ⟨v, hv, hb, hc⟩ := value_true ok a (by omega) hva
      have hrd := read_one ok.G (e.F a) q3
      have hvv : vv e a = v := by unfold vv; rw [hv]; rfl
      have hF : e.F a 0 % e.p = v := by
        have : e.F a 0 % e.p = v % e.p := hc
        rw [this, Int.emod_eq_of_lt hb.1 hb.2]
      rw [hF] at hrd
      rw [so.ep, so.en, so.et, Int.toNat_natCast, hrd]
      have hf : Option.filter (fun x : Nat × Int × Int => decide (x.2.1 = b)) (some (k, b, v)) = some (k, b, v) := by simp [Option.filter]
      rw [hvv, hf]
      rfl
    · rw [if_neg hb]
      have hf : Option.filter (fun x : Nat × Int × Int => decide (x.2.1 = j)) (some (k, b, vv e a)) = none := by simp [Option.filter, hb]
      rw [hf]
      rfl
  all_goals rfl
theorem read_pre (ok : EnvOk e) {cm : Int → Came} {lk : List (Nat × Int)} (h : PInv e cm [] lk) (few : ∀ k, (((lk.filter fun x => decide (x.1 = k)).length : Nat) : Int) ≤ ((e.n : Int) - e.t - 1) / 2) {j : Int} (h1 : 1 ≤ j) (h2 : j ≤ (e.n : Int)) :
    ∀ (k b : Nat) (x : Int), (e.Ss j).rows[k]? = some (.out b (e.Ss j).j) → (sharesL (e.Ss j) (cm j)).getD b none = some x → (((cm j).getD k []).length : Int) = (e.Ss j).n - 1 → (readingsM (e.Ss j).p (e.Ss j).n (e.Ss j).t.toNat (toldM (e.Ss j) ((cm j).getD k []) x) (((e.Ss j).n - ((e.Ss j).t.toNat : Int) - 1) / 2)).length ≤ 1 := by
  obtain ⟨so, sj⟩ := ok.so j h1 h2
  intro k b x hk hx _
  rw [so.er, sj] at hk
  have hkl := (List.getElem?_eq_some_iff.mp hk).1
  obtain ⟨q1, q2, q3⟩ := out_end ok h few hkl (Env.row_at hk)
  rw [q2] at hx
  have hx' := Option.some.inj hx
  rw [← hx', so.ep, so.en, so.et, Int.toNat_natCast, readings_one ok.G (e.F b) q3]
  exact Nat.le_refl _
theorem shown_end (ok : EnvOk e) : shownL e.p e.rows e.ins = (outs e).map fun x => (x.1, x.2.1, some x.2.2) := by
  unfold shownL outs outsUpto
  rw [List.map_filterMap]
  refine fm_congr fun k hk => ?_
  have hk' := List.mem_range.mp hk
  unfold shownE outE
  have hrow : e.rows.getD k .next = e.row k := rfl
  rw [hrow]
  generalize hrr : e.row k = r at *
  cases r
  case out a b =>
    have hr' := Env.row_lt hk'
    rw [hrr] at hr'
    have hva := ok.wd k _ hr' a (by simp [Row.named])
    have hal := row_named_lt (ok.rok k _ hr') a (by simp [Row.named])
    obtain ⟨v, hv, hb, hc⟩ := value_true ok a (by omega) hva
    have hvv : vv e a = v := by unfold vv; rw [hv]; rfl
    show some (k, b, (valsM e.p e.rows e.ins).getD a none) = some (k, b, some (vv e a))
    rw [hv, hvv]
  all_goals rfl
theorem told_perm (ok : EnvOk e) : ((partsM (e.n : Int)).flatMap fun j => (outs e).filter fun x => decide (x.2.1 = j)).Perm (outs e) := by
  have hnd : (outs e).Nodup := (outs_pw e).imp fun {a b} h z => by rw [z] at h; omega
  refine (List.perm_ext_iff_of_nodup ?_ hnd).mpr fun x => ?_
  · have : ∀ js : List Int, js.Nodup → (js.flatMap fun j => (outs e).filter fun x => decide (x.2.1 = j)).Nodup := fun js => by
      induction js with
      | nil => intro _; simp
      | cons j r ih =>
        intro h
        obtain ⟨n1, n2⟩ := List.nodup_cons.mp h
        rw [List.flatMap_cons]
        refine List.nodup_append.mpr ⟨hnd.filter _, ih n2, fun a ha b hb => ?_⟩
        obtain ⟨j', hj', hb'⟩ := List.mem_flatMap.mp hb
        have q1 : a.2.1 = j := of_decide_eq_true (List.mem_filter.mp ha).2
        have q2 : b.2.1 = j' := of_decide_eq_true (List.mem_filter.mp hb').2
        intro hab
        rw [hab, q2] at q1
        rw [q1] at hj'
        exact n1 hj'
    exact this _ (partsM_nd _)
  · constructor
    · intro h
      obtain ⟨j, _, hx⟩ := List.mem_flatMap.mp h
      exact (List.mem_filter.mp hx).1
    · intro h
      exact List.mem_flatMap.mpr ⟨x.2.1, partsM_mem.mpr (outs_mem ok h).2.1, List.mem_filter.mpr ⟨h, decide_eq_true rfl⟩⟩
end U

namespace U
open PySem PySem.Spec PyProof.Rows L2
/-! ### the number of letters that came -/
def Tot (e : Env) (cm : Int → Came) : Nat := ((partsM (e.n : Int)).map fun j => total (cm j)).sum
theorem sum_upd {f f' : Int → Nat} {j0 : Int} (h0 : f' j0 = f j0 + 1) (h : ∀ j, j ≠ j0 → f' j = f j) : ∀ {js : List Int}, js.Nodup → j0 ∈ js → (js.map f').sum = (js.map f).sum + 1
  | [], _, hm => by cases hm
  | a :: r, nd, hm => by
    obtain ⟨n1, n2⟩ := List.nodup_cons.mp nd
    rw [List.map_cons, List.map_cons, List.sum_cons, List.sum_cons]
    by_cases e : a = j0
    · rw [e, h0]
      have : (r.map f').sum = (r.map f).sum := by
        congr 1
        exact List.map_congr_left fun x hx => h x fun z => n1 (by rw [e, ← z]; exact hx)
      omega
    · have hr : j0 ∈ r := by
        rcases List.mem_cons.mp hm with z | z
        · exact absurd z.symm e
        · exact z
      have := sum_upd h0 h n2 hr
      rw [h a e]
      omega
theorem sum_le {f : Int → Nat} {B : Nat} : ∀ {js : List Int}, (∀ j ∈ js, f j ≤ B) → (js.map f).sum ≤ B * js.length
  | [], _ => by simp
  | a :: r, h => by
    have ih := sum_le (js := r) fun x hx => h x (List.mem_cons_of_mem _ hx)
    have h1 := h a (List.mem_cons_self ..)
    rw [List.map_cons, List.sum_cons, List.length_cons, Nat.mul_add]
    omega
theorem tot_le {e : Env} (ok : EnvOk e) {cm : Int → Came} {way : List Letter} {lk : List (Nat × Int)} (h : PInv e cm way lk) : Tot e cm ≤ 4860 := by
  have := sum_le (f := fun j => total (cm j)) (B := 540) (js := partsM (e.n : Int)) fun j hj => by
    have hj' := partsM_mem.mp hj
    exact total_le (ok.so j hj'.1 hj'.2).1.ok (h.co j hj'.1 hj'.2)
  rw [partsM_len] at this
  have h1 := ok.G.n1
  unfold Tot
  omega
theorem tot_put {e : Env} (ok : EnvOk e) {cm : Int → Came} {way : List Letter} {lk : List (Nat × Int)} (h : PInv e cm way lk) {i : Nat} {l : Letter} (hl : way[i]? = some l) : Tot e (cmPut cm l) = Tot e cm + 1 := by
  have hL := h.wy l (List.mem_of_getElem? hl)
  have hco := h.co l.j hL.j.1 hL.j.2
  have hck : (cm l.j)[l.k]? = some ((cm l.j).getD l.k []) := by
    have q1 := hco.len
    rw [(ok.so l.j hL.j.1 hL.j.2).1.er] at q1
    have q2 := hL.k
    rw [List.getD_eq_getElem?_getD, List.getElem?_eq_getElem (show l.k < (cm l.j).length by omega), Option.getD_some]
  refine sum_upd (j0 := l.j) ?_ (fun j hj => ?_) (partsM_nd _) (partsM_mem.mpr hL.j)
  · unfold cmPut
    rw [if_pos rfl]
    exact total_put _ hck
  · unfold cmPut
    rw [if_neg hj]
/-- letters on the way are few -/
theorem way_le {e : Env} (ok : EnvOk e) (h5 : e.rows.length ≤ 5) {cm : Int → Came} {way : List Letter} {lk : List (Nat × Int)} (h : PInv e cm way lk) : way.length ≤ 10000 := by
  have h1 := nodup_len (l' := (List.range 5).flatMap fun k => (partsM (e.n : Int)).flatMap fun i => (partsM (e.n : Int)).map fun j => (k, i, j)) h.nd fun x hx => by
    obtain ⟨l, hl, rfl⟩ := List.mem_map.mp hx
    have hL := h.wy l hl
    refine List.mem_flatMap.mpr ⟨l.k, List.mem_range.mpr (by have := hL.k; omega), List.mem_flatMap.mpr ⟨l.i, partsM_mem.mpr hL.i, List.mem_map.mpr ⟨l.j, partsM_mem.mpr hL.j, rfl⟩⟩⟩
  rw [List.length_map] at h1
  have hn := ok.G.n1
  have hp : (partsM (e.n : Int)).length = e.n := by rw [partsM_len]; rfl
  have h2 := flatMap_len (fun k => (partsM (e.n : Int)).flatMap fun i => (partsM (e.n : Int)).map fun j => ((k, i, j) : Key3)) 81 (List.range 5) fun k _ => by
    have := flatMap_len (fun i => (partsM (e.n : Int)).map fun j => ((k, i, j) : Key3)) 9 (partsM (e.n : Int)) fun i _ => by rw [List.length_map, hp]; omega
    omega
  rw [List.length_range] at h2
  omega
/-! ### crews and states -/
def conts (e : Env) (cm : Int → Came) : List (PS × Came) := (partsM (e.n : Int)).map fun j => (e.Ss j, cm j)
theorem conts_get {e : Env} {cm : Int → Came} {L : List Mem} (h : L.map Mem.cont = conts e cm) {j : Int} (h1 : 1 ≤ j) (h2 : j ≤ (e.n : Int)) : ∃ m, L[(j - 1).toNat]? = some m ∧ m.S = e.Ss j ∧ m.came = cm j := by
  have hp := partsM_get (n := (e.n : Int)) (i := (j - 1).toNat) (by omega)
  have h3 := map_get (f := fun j => (e.Ss j, cm j)) hp
  have e1 : (((j - 1).toNat : Nat) : Int) + 1 = j := by omega
  rw [e1] at h3
  have h4 : (L.map Mem.cont)[(j - 1).toNat]? = some (e.Ss j, cm j) := by rw [h]; exact h3
  obtain ⟨m, hm, hc⟩ := map_got h4
  exact ⟨m, hm, (congrArg (·.1) hc).symm, (congrArg (·.2) hc).symm⟩
theorem conts_mem {e : Env} {cm : Int → Came} {L : List Mem} (h : L.map Mem.cont = conts e cm) {m : Mem} (hm : m ∈ L) : ∃ j, (1 ≤ j ∧ j ≤ (e.n : Int)) ∧ m.S = e.Ss j ∧ m.came = cm j := by
  have : m.cont ∈ conts e cm := by rw [← h]; exact List.mem_map.mpr ⟨m, hm, rfl⟩
  obtain ⟨j, hj, hc⟩ := List.mem_map.mp this
  exact ⟨j, partsM_mem.mp hj, (congrArg (·.1) hc).symm, (congrArg (·.2) hc).symm⟩
theorem conts_len {e : Env} {cm : Int → Came} {L : List Mem} (h : L.map Mem.cont = conts e cm) : L.length = e.n := by
  have := congrArg List.length h
  unfold conts at this
  rw [List.length_map, List.length_map, partsM_len] at this
  rw [this]
  rfl
theorem conts_put {e : Env} {cm : Int → Came} {L : List Mem} (h : L.map Mem.cont = conts e cm) {l : Letter} (h1 : 1 ≤ l.j) (h2 : l.j ≤ (e.n : Int)) {m : Mem} (hm : L[(l.j - 1).toNat]? = some m) (hS : m.S = e.Ss l.j) (hc : m.came = cm l.j) : (handL L m l).map Mem.cont = conts e (cmPut cm l) := by
  unfold handL
  rw [List.map_set, h]
  have hcm : ({ m with came := handCame m l } : Mem).cont = (e.Ss l.j, cmPut cm l l.j) := by
    unfold Mem.cont handCame cmPut
    rw [if_pos rfl]
    simp only [hS, hc]
  rw [hcm]
  unfold conts
  refine List.ext_getElem (by simp) fun i q1 q2 => ?_
  rw [List.length_map] at q2
  have hpg := partsM_get (n := (e.n : Int)) (i := i) (by rw [partsM_len] at q2; exact q2)
  have hpg' : (partsM (e.n : Int))[i] = (i : Int) + 1 := by
    have := List.getElem?_eq_getElem q2
    rw [hpg] at this
    exact (Option.some.inj this).symm
  rw [List.getElem_set, List.getElem_map, List.getElem_map, hpg']
  by_cases e1 : (l.j - 1).toNat = i
  · rw [if_pos e1]
    have : (i : Int) + 1 = l.j := by omega
    rw [this]
  · rw [if_neg e1]
    unfold cmPut
    rw [if_neg (by omega)]
section
variable {K : PySem.W.Frag} {cP cD : Addr}
/-- the law's own state -/
structure LS (K : PySem.W.Frag) (cP cD : Addr) (e : Env) (b dg x ll : Addr) (v4 v5 v6 : V) (H : Hp) (cm : Int → Came) (way : List Letter) (lk : List (Nat × Int)) (lies : List Int) (N : Nat) : Prop where
  box : Box H b dg
  r4 : Rp K H v4 (setD e.p e.n e.t)
  r5 : Rp K H v5 (progD e.rows)
  r6 : Rp K H v6 (PI e.ins)
  li : H ll = some (.lst (lies.map V.int))
  nb : ll ≠ b
  ng : ll ≠ dg
  ds : ∃ L, DAt K cP cD H x ⟨e.p, e.n, e.t, e.rows, L, way, N⟩ ∧ L.map Mem.cont = conts e cm
  inv : PInv e cm way lk
  few : ∀ k : Nat, (lk.filter fun x => decide (x.1 = k)).length = lies.count (k : Int)
  few2 : ∀ k : Nat, ((lies.count (k : Int) : Nat) : Int) ≤ ((e.n : Int) - e.t - 1) / 2
theorem DAt.lst {H H' : Hp} {x : Addr} {D : DS} {l : Addr} {xs : List V} (h : DAt K cP cD H x D) (hl : H l = some (.lst xs)) (b : But (fun a => a = l) H H') (t : TF H H') : DAt K cP cD H' x D := by
  obtain ⟨dx, vs, vp, vg, c, ww, lg, ps, xl, xp, h1, h2, h3, h4, h5, h6, h7, h8, h9, h10⟩ := h.ex
  have nx : x ≠ l := ne_of h1 hl (by intro e; cases e)
  exact ⟨dx, vs, vp, vg, c, ww, lg, ps, xl, xp, b _ _ h1 nx, h2.tf t, h3.tf t, t.sqT h4, h5.lst hl b t, h6.tf t, t.sqT h7, h8, t.sqT h9, h10⟩
variable {e : Env} {b dg x ll : Addr} {v4 v5 v6 : V} {H H' : Hp} {cm : Int → Came} {way : List Letter} {lk : List (Nat × Int)} {lies : List Int} {N : Nat}
theorem LS.draw (h : LS K cP cD e b dg x ll v4 v5 v6 H cm way lk lies N) (b1 : But (fun a => a = b) H H') (t : TF H H') (hB : Box H' b dg) : LS K cP cD e b dg x ll v4 v5 v6 H' cm way lk lies N := by
  obtain ⟨ds, pos, q1, q2⟩ := h.box
  obtain ⟨L, hD, hc⟩ := h.ds
  exact ⟨hB, h.r4.tf t, h.r5.tf t, h.r6.tf t, b1 _ _ h.li h.nb, h.nb, h.ng, ⟨L, hD.lst q1 b1 t, hc⟩, h.inv, h.few, h.few2⟩
theorem LS.sm (h : LS K cP cD e b dg x ll v4 v5 v6 H cm way lk lies N) (s : Same H H') : LS K cP cD e b dg x ll v4 v5 v6 H' cm way lk lies N := h.draw s.but s.tf (h.box.sm s)
/-- lies.append(k), before the lie itself -/
theorem LS.keep (h : LS K cP cD e b dg x ll v4 v5 v6 H cm way lk lies N) {zs : List V} : But (fun a => a = ll) H (upd H ll (.lst zs)) ∧ TF H (upd H ll (.lst zs)) := ⟨(But.refl _ _).own rfl, TF.upd h.li plain_lst⟩
theorem Box.lst {l : Addr} {zs : List V} (h : Box H b dg) (h1 : l ≠ b) (h2 : l ≠ dg) : Box (upd H l (.lst zs)) b dg := by
  obtain ⟨ds, pos, q1, q2⟩ := h
  exact ⟨ds, pos, by rw [upd_ne h1.symm]; exact q1, by rw [upd_ne h2.symm]; exact q2⟩
theorem Box.ins {x C dx : Addr} {fs : List (Str × V)} (h : Box H b dg) (hx : H x = some (.ins C dx fs)) (b1 : But (fun a => a = x) H H') : Box H' b dg := by
  obtain ⟨ds, pos, q1, q2⟩ := h
  refine ⟨ds, pos, b1 _ _ q1 fun z => ?_, b1 _ _ q2 fun z => ?_⟩
  · rw [z, hx] at q1
    cases q1
  · rw [z, hx] at q2
    cases q2
theorem LS.handOk (ok : EnvOk e) (h5 : e.rows.length ≤ 5) (h : LS K cP cD e b dg x ll v4 v5 v6 H cm way lk lies N) {L : List Mem} (hc : L.map Mem.cont = conts e cm) {i : Nat} {l : Letter} (hl : way[i]? = some l) : ∃ m, L[(l.j - 1).toNat]? = some m ∧ m.S = e.Ss l.j ∧ m.came = cm l.j ∧ HandOk ⟨e.p, e.n, e.t, e.rows, L, way, N⟩ i l m := by
  have hL := h.inv.wy l (List.mem_of_getElem? hl)
  obtain ⟨m, hm, hS, hcm⟩ := conts_get hc hL.j.1 hL.j.2
  have so := (ok.so l.j hL.j.1 hL.j.2).1
  exact ⟨m, hm, hS, hcm, ⟨hl, hm, hL.j.1, by rw [hS]; exact so.ok, by rw [hS, hcm]; exact h.inv.co l.j hL.j.1 hL.j.2, by rw [hS]; exact LOk.let ok hL, by rw [hcm]; exact (pinv_hand ok h.inv hl).2, way_le ok h5 h.inv⟩⟩
theorem LS.psok (ok : EnvOk e) {L : List Mem} (hc : L.map Mem.cont = conts e cm) : ∀ m ∈ L, PSok m.S := fun m hm => by
  obtain ⟨j, hj, hS, _⟩ := conts_mem hc hm
  rw [hS]
  exact (ok.so j hj.1 hj.2).1.ok
end
end U

namespace U
open PySem PySem.Spec PyProof.Rows L2
def triL (x : Nat × Int × Int) : List Int := [(x.1 : Int), x.2.1, x.2.2]
def triD (x : Nat × Int × Int) : PyData := PI (triL x)
theorem code3 (a b c : Int) : TS.code 128 [a, b, c] = a * 16384 + b * 128 + c := by
  have e2 : (128 : Int) ^ 2 = 16384 := by decide
  have e1 : (128 : Int) ^ 1 = 128 := by decide
  have e0 : (128 : Int) ^ 0 = 1 := by decide
  show a * 128 ^ 2 + (b * 128 ^ 1 + (c * 128 ^ 0 + 0)) = _
  rw [e2, e1, e0]
  omega
variable {e : Env}
theorem outs_len (e : Env) : (outs e).length ≤ e.rows.length := by
  have := List.length_filterMap_le (outE e) (List.range e.rows.length)
  rw [List.length_range] at this
  exact this
theorem outs_bd (ok : EnvOk e) (h5 : e.rows.length ≤ 5) {x : Nat × Int × Int} (h : x ∈ outs e) : x.1 < 5 ∧ (1 ≤ x.2.1 ∧ x.2.1 ≤ 6) ∧ 0 ≤ x.2.2 ∧ x.2.2 < 101 := by
  obtain ⟨h1, h2, h3, h4⟩ := outs_mem ok h
  have := ok.G.n1
  have := ok.G.p1
  exact ⟨by omega, ⟨h2.1, by omega⟩, h3, by omega⟩
section
variable {K : PySem.W.Frag} {H : Hp}
theorem perm_rp {α : Type} {f : α → PyData} {ys xs : List V} (hp : ys.Perm xs) : ∀ {T : List α}, RpAll K H xs (T.map f) → ∃ T' : List α, RpAll K H ys (T'.map f) ∧ T'.Perm T := by
  induction hp with
  | nil => exact fun {T} h => ⟨T, h, List.Perm.refl _⟩
  | cons x _ ih =>
    intro T h
    cases T with
    | nil => cases h
    | cons t r =>
      cases h with | cons h1 h2 =>
      obtain ⟨T', a, b⟩ := ih h2
      exact ⟨t :: T', .cons h1 a, b.cons t⟩
  | swap x y l =>
    intro T h
    cases T with
    | nil => cases h
    | cons t r =>
      cases r with
      | nil =>
        cases h with | cons h1 h2 =>
        cases h2
      | cons t2 r =>
        cases h with | cons h1 h2 =>
        cases h2 with | cons h2 h3 =>
        exact ⟨t2 :: t :: r, .cons h2 (.cons h1 h3), List.Perm.swap t t2 r⟩
  | trans _ _ ih1 ih2 =>
    intro T h
    obtain ⟨T2, a2, b2⟩ := ih2 h
    obtain ⟨T1, a1, b1⟩ := ih1 a2
    exact ⟨T1, a1, b1.trans b2⟩
theorem rp_tupI {v : V} {x : Nat × Int × Int} (h : Rp K H v (triD x)) : TupI K H v (triL x) := by
  obtain ⟨a, e, h1⟩ := Rp.pi h
  exact ⟨a, e, h1⟩
theorem sorted_outs (ok : EnvOk e) (h5 : e.rows.length ≤ 5) {ys xs : List V} {T : List (Nat × Int × Int)} (hT : T.Perm (outs e)) (hx : RpAll K H xs (T.map triD)) (hp : ys.Perm xs) (hw : ys.Pairwise fun x y => ∀ n m, TupI K H x n → TupI K H y m → TS.code 128 n ≤ TS.code 128 m) : RpAll K H ys ((outs e).map triD) := by
  obtain ⟨T', hy, hT'⟩ := perm_rp hp hx
  have hT2 := hT'.trans hT
  have pw : T'.Pairwise fun a b => TS.code 128 (triL a) ≤ TS.code 128 (triL b) := by
    rw [List.pairwise_iff_getElem]
    intro i j hi hj hij
    have h1 := hy.get (map_get (List.getElem?_eq_getElem hi))
    have h2 := hy.get (map_get (List.getElem?_eq_getElem hj))
    obtain ⟨u, hu, ru⟩ := h1
    obtain ⟨v, hv, rv⟩ := h2
    have hl := (List.pairwise_iff_getElem.mp hw) i j (List.getElem?_eq_some_iff.mp hu).1 (List.getElem?_eq_some_iff.mp hv).1 hij
    rw [(List.getElem?_eq_some_iff.mp hu).2, (List.getElem?_eq_some_iff.mp hv).2] at hl
    exact hl _ _ (rp_tupI ru) (rp_tupI rv)
  have pw2 : (outs e).Pairwise fun a b => TS.code 128 (triL a) ≤ TS.code 128 (triL b) := (outs_pw e).imp_of_mem fun {a b} ha hb h => by
    have h1 := outs_bd ok h5 ha
    have h2 := outs_bd ok h5 hb
    unfold triL
    rw [code3, code3]
    omega
  have : T' = outs e := hT2.eq_of_pairwise (fun a b ha hb h1 h2 => by
    have q1 := outs_bd ok h5 (hT2.subset ha)
    have q2 := outs_bd ok h5 hb
    unfold triL at h1 h2
    rw [code3, code3] at h1 h2
    obtain ⟨a1, a2, a3⟩ := a
    obtain ⟨b1, b2, b3⟩ := b
    simp only at q1 q2 h1 h2
    have e1 : a1 = b1 := by omega
    have e2 : a2 = b2 := by omega
    have e3 : a3 = b3 := by omega
    rw [e1, e2, e3]) pw pw2
  rw [← this]
  exact hy
theorem triD_bd (ok : EnvOk e) (h5 : e.rows.length ≤ 5) {x : Nat × Int × Int} (h : x ∈ outs e) : TS.Bd 128 (triL x) := by
  obtain ⟨h1, h2, h3, h4⟩ := outs_bd ok h5 h
  intro m hm
  unfold triL at hm
  simp only [List.mem_cons, List.not_mem_nil, or_false] at hm
  rcases hm with rfl | rfl | rfl <;> omega
theorem shapedTs (l : List (Nat × Int × Int)) : SeqAt.shaped (.list (l.map triD)) = true := shaped_of (n := 2) (by
  rw [flatD]
  exact flats_all fun d hd => by
    obtain ⟨q, _, rfl⟩ := List.mem_map.mp hd
    simp only [triD, PI, flatD]
    exact flats_ints 0 _) (by decide)
theorem eqv_self (l : List (Nat × Int × Int)) : PyData.eqv (.list (l.map triD)) (.list (l.map triD)) = true := by
  have hn : noB (.list (l.map triD)) = true := by
    rw [noB]
    exact noBs_all fun d hd => by
      obtain ⟨q, _, rfl⟩ := List.mem_map.mp hd
      simp only [triD, PI, noB]
      exact noBs_ints _
  exact (eqv_iff _ _ hn hn).mpr rfl
end
end U

namespace U
open PySem PySem.Spec PyProof.Rows L2
def nts : List (Nat × Nat) := [(3, 0), (4, 1), (5, 1), (4, 0), (6, 1), (6, 2)]
theorem combo_in : ∀ p ∈ ([7, 11, 101] : List Int), ∀ x ∈ nts, (p, x.1, x.2) ∈ combos := by decide +kernel
section
variable {P : Program} {w : World} {K : PySem.W.Frag} {mg : Str → Option Value} {base : Heap} {cP cD : Addr}
def sp_law (K : PySem.W.Frag) : Sp := fun vs H Q _ => ∃ (a : Addr) (ns : List Int), vs = [.ref a] ∧ SqL K H a (ns.map V.int) ∧ ∀ H', Q (.bl true) H'
theorem law_fn (T : Txt K mg cP cD) {f : Addr} {fd : FuncData} (F : L2.Fun K "law" "law" s_law f fd) : FnOk P w K mg base CX0 12 f fd ["_law_script"] (sp_law K) := by
  refine F.ok sc_law (fun vs H Q E h => ?_) (fun cdv A outer s H vs Q E hr h => ?_)
  · obtain ⟨a, ns, rfl, _⟩ := h
    rfl
  · obtain ⟨a, ns, rfl, hs, q⟩ := h
    have T_c__law_digits := T.c__law_digits (P := P) (w := w) (base := base)
    have T_c__law_pick := T.c__law_pick (P := P) (w := w) (base := base)
    have T_c__law_program := T.c__law_program (P := P) (w := w) (base := base)
    have T_c__law_inputs := T.c__law_inputs (P := P) (w := w) (base := base)
    have T_c__law_coins := T.c__law_coins (P := P) (w := w) (base := base)
    have T_m_Desk := T.m_Desk (P := P) (w := w) (base := base)
    have T_p_Desk_done := T.p_Desk_done (P := P) (w := w) (base := base)
    have T_p_Desk_on_the_way := T.p_Desk_on_the_way (P := P) (w := w) (base := base)
    have T_c__law_draw := T.c__law_draw (P := P) (w := w) (base := base)
    have T_t_Desk_lie := T.t_Desk_lie (P := P) (w := w) (base := base)
    have T_c__law_number := T.c__law_number (P := P) (w := w) (base := base)
    have T_t_Desk_hand := T.t_Desk_hand (P := P) (w := w) (base := base)
    have T_t_Desk_parties := T.t_Desk_parties (P := P) (w := w) (base := base)
    have T_p_Party_read := T.p_Party_read (P := P) (w := w) (base := base)
    have T_p_Party_number := T.p_Party_number (P := P) (w := w) (base := base)
    have T_c__law_shown := T.c__law_shown (P := P) (w := w) (base := base)
    refine ⟨_, (pss_cons (ps_set (i := 1) sc_law.nd rfl (Or.inl rfl) (pe_lst (pa_cons (C8.pe_c T_c__law_digits hr (by decide) (by rfl) (pa_cons (pv 0) (pa_cons pe_int (pa_cons pe_int pa_nil)))) (pa_cons pe_int pa_nil))))
      (pss_cons (ps_asg (C8.pe_c T_c__law_pick hr (by decide) (by rfl) (pa_cons (pv 1) (pa_cons (pe_lst (pa_cons (pe_tup (pa_cons pe_int (pa_cons pe_int pa_nil))) (pa_cons (pe_tup (pa_cons pe_int (pa_cons pe_int pa_nil))) (pa_cons (pe_tup (pa_cons pe_int (pa_cons pe_int pa_nil))) (pa_cons (pe_tup (pa_cons pe_int (pa_cons pe_int pa_nil))) (pa_cons (pe_tup (pa_cons pe_int (pa_cons pe_int pa_nil))) (pa_cons (pe_tup (pa_cons pe_int (pa_cons pe_int pa_nil))) pa_nil))))))) pa_nil))) (pg_tup rfl (pgs_cons (pg_name (i := 2) sc_law.nd rfl (Or.inl rfl)) (pgs_cons (pg_name (i := 3) sc_law.nd rfl (Or.inl rfl)) pgs_nil))))
      (pss_cons (ps_set (i := 4) sc_law.nd rfl (Or.inl rfl) (pe_tup (pa_cons pe_str (pa_cons (C8.pe_c T_c__law_pick hr (by decide) (by rfl) (pa_cons (pv 1) (pa_cons (pe_lst (pa_cons pe_int (pa_cons pe_int (pa_cons pe_int pa_nil)))) pa_nil))) (pa_cons (pv 2) (pa_cons (pv 3) pa_nil))))))
      (pss_cons (ps_set (i := 5) sc_law.nd rfl (Or.inl rfl) (C8.pe_c T_c__law_program hr (by decide) (by rfl) (pa_cons (pv 1) (pa_cons (pv 4) (pa_cons pe_int (pa_cons pe_int pa_nil))))))
      (pss_cons (ps_set (i := 6) sc_law.nd rfl (Or.inl rfl) (C8.pe_c T_c__law_inputs hr (by decide) (by rfl) (pa_cons (pv 1) (pa_cons (pv 4) (pa_cons (pv 5) pa_nil)))))
      (pss_cons (ps_set (i := 7) sc_law.nd rfl (Or.inl rfl) (C8.pe_c T_c__law_coins hr (by decide) (by rfl) (pa_cons (pv 1) (pa_cons (pv 4) (pa_cons (pv 5) pa_nil)))))
      (pss_cons (ps_set (i := 8) sc_law.nd rfl (Or.inl rfl) (C8.pe_mk T_m_Desk hr (by decide) (by rfl) (pa_cons (pv 4) (pa_cons (pv 5) (pa_cons (pv 6) (pa_cons (pv 7) pa_nil))))))
      (pss_cons (ps_set (i := 9) sc_law.nd rfl (Or.inl rfl) (pe_lst pa_nil))
      (pss_cons (ps_while PassesOwn.never (pt_not (pt_val (pe_pr T_p_Desk_done hr (by decide) (pv 8) rfl)))
        (pss_cons (ps_set (i := 10) sc_law.nd rfl (Or.inl rfl) (pe_pr T_p_Desk_on_the_way hr (by decide) (pv 8) rfl))
        (pss_cons (ps_set (i := 11) sc_law.nd rfl (Or.inl rfl) (C8.pe_c T_c__law_draw hr (by decide) (by rfl) (pa_cons (pv 1) (pa_cons (pe_callB (lenS K) (by rfl) T.n_len PySem.boot_len (pa_cons (pv 10) pa_nil)) pa_nil))))
        (pss_cons (ps_set (i := 12) sc_law.nd rfl (Or.inl rfl) (pe_ix (ixT K) (pe_ix (ixT K) (pv 10) (pv 11) (fun _ _ => rfl)) pe_int (fun _ _ => rfl)))
        (pss_cons (ps_if (PW.pt (pw_and (pt_cmpR op_eq (pe_ix (ixT K) (pe_ix (ixT K) (pe_ix (ixT K) (pv 5) pe_int (fun _ _ => rfl)) (pv 12) (fun _ _ => rfl)) pe_int (fun _ _ => rfl)) pe_str (nomark _)) (pw_and (pt_cmpR op_lt (pe_bm PySem.F.plainAttrs_list PySem.F.slot_list_count PySem.F.type_list_count mt_lcount (pv 9) (pa_cons (pv 12) pa_nil)) (pe_op op_fdiv (pe_op op_sub (pe_op op_sub (pv 2) (pv 3)) pe_int) pe_int) (nomark _)) (pw_and1 (pt_cmpR op_gt (C8.pe_c T_c__law_draw hr (by decide) (by rfl) (pa_cons (pv 1) (pa_cons pe_int pa_nil))) pe_int (nomark _))))))
          (pss_cons (ps_expr (pe_bm PySem.F.plainAttrs_list PySem.F.slot_list_append PySem.F.type_list_append mt_append (pv 9) (pa_cons (pv 12) pa_nil)))
          (pss_one (ps_expr (C8.pe_mt T_t_Desk_lie hr (by decide) (pv 8) (pa_cons (pv 11) (pa_cons (C8.pe_c T_c__law_number hr (by decide) (by rfl) (pa_cons (pv 1) (pa_cons (pe_ix (ixT K) (pv 4) pe_int (fun _ _ => rfl)) pa_nil))) pa_nil))))))
          pss_nil)
        (pss_one (ps_expr (C8.pe_mt T_t_Desk_hand hr (by decide) (pv 8) (pa_cons (pv 11) pa_nil)))))))))
      (pss_cons (ps_set (i := 13) sc_law.nd rfl (Or.inl rfl) (pe_lst pa_nil))
      (pss_cons (ps_for PassesOwn.never rfl (pi_tup (C8.pe_mt0 T_t_Desk_parties hr (by decide) (pv 8))) (pg_name (i := 14) sc_law.nd rfl (Or.inr rfl))
        (pss_one (ps_set (i := 13) sc_law.nd rfl (Or.inl rfl) (pe_op op_cat (pv 13) (pe_lc (own := [("_law_k", 12), ("_law_value", 15)]) (g := gTup K 2 (gCons (gName 12) (gCons (gName 15) gNil))) rfl sc_law.nd (pi_tup (pe_pr T_p_Party_read hr (by decide) (pv 14) rfl)) (blkOk_by (N := ["_law_script", "_law_box", "_law_n", "_law_t", "_law_setting", "_law_program_here", "_law_inputs_here", "_law_coins_here", "_law_desk", "_law_lies", "_law_way", "_law_place", "_law_k", "_law_told", "_law_one", "_law_value"]) (sc := defScope s_law) (by decide +kernel)) (fun _ _ _ _ _ => pg_tup rfl (pgs_cons (pg_name (i := 12) sc_law.nd rfl (Or.inl rfl)) (pgs_cons (pg_name (i := 15) sc_law.nd rfl (Or.inl rfl)) pgs_nil))) (fun _ _ _ _ _ => pts_nil) (fun _ _ _ _ _ => (pe_tup (pa_cons (pv 12) (pa_cons (pe_pr T_p_Party_number hr (by decide) (pv 14) rfl) (pa_cons (pv 15) pa_nil))))))))))
      (pss_one (ps_ret (pe_cmpR (op_eqD hr.units) (pe_callB (cr_sortT (d := 3) (B := 128) (by decide)) (by rfl) T.n_sorted (by decide +kernel) (pa_cons (pv 13) pa_nil)) (pe_callTy call_list_of (by rfl) T.n_list (by decide +kernel) (pa_cons (C8.pe_c T_c__law_shown hr (by decide) (by rfl) (pa_cons (pv 4) (pa_cons (pv 5) (pa_cons (pv 6) pa_nil)))) pa_nil)) (nomark _))))))))))))))), ?_⟩
    refine ⟨_, rfl, a, ns, rfl, hs, fun dg ds H1 e1 hdg0 hdg => ⟨by show 2 ≤ sizeLine; decide, fun b hb => ?_⟩⟩
    have hB2 : Box (upd H1 b (.lst [.ref dg, .int 0])) b dg := ⟨ds, 0, upd_same, (Same.new hb) _ _ hdg⟩
    generalize upd H1 b (.lst [.ref dg, .int 0]) = H2 at hB2 ⊢
    have z2 : 2 ≤ sizeLine := by decide
    refine ⟨_, rfl, z2, fun t1 ht1 => ⟨z2, fun t2 ht2 => ⟨z2, fun t3 ht3 => ⟨z2, fun t4 ht4 => ⟨z2, fun t5 ht5 => ⟨z2, fun t6 ht6 => ⟨by show 6 ≤ sizeLine; decide, fun l7 hl7 => ?_⟩⟩⟩⟩⟩⟩⟩
    have s1 := Same.new (o := .tup [V.int 3, .int 0]) ht1
    have s2 := Same.new (o := .tup [V.int 4, .int 1]) ht2
    have s3 := Same.new (o := .tup [V.int 5, .int 1]) ht3
    have s4 := Same.new (o := .tup [V.int 4, .int 0]) ht4
    have s5 := Same.new (o := .tup [V.int 6, .int 1]) ht5
    have s6 := Same.new (o := .tup [V.int 6, .int 2]) ht6
    have s7 := Same.new (o := .lst [V.ref t1, .ref t2, .ref t3, .ref t4, .ref t5, .ref t6]) hl7
    have s17 := (((((s1.trans s2).trans s3).trans s4).trans s5).trans s6).trans s7
    have s27 := ((((s2.trans s3).trans s4).trans s5).trans s6).trans s7
    have s37 := (((s3.trans s4).trans s5).trans s6).trans s7
    have s47 := ((s4.trans s5).trans s6).trans s7
    have s57 := (s5.trans s6).trans s7
    have s67 := s6.trans s7
    have hB7 := hB2.sm s17
    obtain ⟨_, _, hb2, _⟩ := id hB2
    have nl7 : l7 ≠ b := fun z => by
      have := ((((((s1.trans s2).trans s3).trans s4).trans s5).trans s6)) _ _ hb2
      rw [← z, hl7] at this
      cases this
    have at7 : ∀ (i : Nat) (v : V), [V.ref t1, .ref t2, .ref t3, .ref t4, .ref t5, .ref t6][i]? = some v → ∃ tp, v = .ref tp ∧ ∃ y ∈ nts, SqT K (upd (upd (upd (upd (upd (upd (upd H2 t1 (.tup [.int 3, .int 0])) t2 (.tup [.int 4, .int 1])) t3 (.tup [.int 5, .int 1])) t4 (.tup [.int 4, .int 0])) t5 (.tup [.int 6, .int 1])) t6 (.tup [.int 6, .int 2])) l7 (.lst [V.ref t1, .ref t2, .ref t3, .ref t4, .ref t5, .ref t6])) tp [.int ((y.1 : Nat) : Int), .int ((y.2 : Nat) : Int)] := fun i v hv => by
      have hi6 : i < 6 := (List.getElem?_eq_some_iff.mp hv).1
      match i, hi6, hv with
      | 0, _, hv => exact ⟨t1, (Option.some.inj hv).symm, (3, 0), by decide, s27.tf.sqT sqT_new⟩
      | 1, _, hv => exact ⟨t2, (Option.some.inj hv).symm, (4, 1), by decide, s37.tf.sqT sqT_new⟩
      | 2, _, hv => exact ⟨t3, (Option.some.inj hv).symm, (5, 1), by decide, s47.tf.sqT sqT_new⟩
      | 3, _, hv => exact ⟨t4, (Option.some.inj hv).symm, (4, 0), by decide, s57.tf.sqT sqT_new⟩
      | 4, _, hv => exact ⟨t5, (Option.some.inj hv).symm, (6, 1), by decide, s67.tf.sqT sqT_new⟩
      | 5, _, hv => exact ⟨t6, (Option.some.inj hv).symm, (6, 2), by decide, s7.tf.sqT sqT_new⟩
    refine ⟨b, dg, l7, _, rfl, hB7, upd_same, nl7, by show 1 ≤ 6; decide, fun i v H8 hv b8 tf8 hB8 => ?_⟩
    obtain ⟨tp, rfl, y, hy, hT⟩ := at7 i v hv
    obtain ⟨n, t⟩ := y
    refine ⟨tp, _, rfl, tf8.sqT hT, rfl, _, _, rfl, _, _, rfl, rfl, ?_⟩
    clear at7 hT s17 s27 s37 s47 s57 s67 s1 s2 s3 s4 s5 s6 s7 hB7 hv b8 tf8 nl7
    refine ⟨_, rfl, by show 3 ≤ sizeLine; decide, fun l9 hl9 => ?_⟩
    have s9 := Same.new (o := .lst [V.int 7, .int 11, .int 101]) hl9
    obtain ⟨_, _, hb8, _⟩ := id hB8
    have nl9 : l9 ≠ b := fun z => by
      rw [z, hb8] at hl9
      cases hl9
    refine ⟨b, dg, l9, _, rfl, hB8.sm s9, upd_same, nl9, by show 1 ≤ 3; decide, fun i v HA hv bA tA hBA => ?_⟩
    obtain ⟨p, hp, rfl⟩ : ∃ p ∈ ([7, 11, 101] : List Int), v = .int p := by
      have := List.mem_of_getElem? hv
      rcases List.mem_cons.mp this with rfl | this
      · exact ⟨7, by decide, rfl⟩
      · rcases List.mem_cons.mp this with rfl | this
        · exact ⟨11, by decide, rfl⟩
        · exact ⟨101, by decide, List.mem_singleton.mp this⟩
    have G := good_of (combo_in p hp (n, t) hy)
    refine ⟨_, rfl, _, rfl, by show 4 ≤ sizeLine; decide, fun sa hsa => ?_⟩
    have r4 : Rp K (upd HA sa (.tup [.str "setting", .int p, .int ((n : Nat) : Int), .int ((t : Nat) : Int)])) (.ref sa) (setD p n t) := .tup sqT_new (.cons (.str _) (.cons (.int _) (.cons (.int _) (.one (.int _)))))
    have hBB := hBA.sm (Same.new (o := .tup [.str "setting", .int p, .int ((n : Nat) : Int), .int ((t : Nat) : Int)]) hsa)
    generalize upd HA sa (.tup [.str "setting", .int p, .int ((n : Nat) : Int), .int ((t : Nat) : Int)]) = HB at r4 hBB ⊢
    have g0 := G.p0
    have g1 := G.p1
    have g2 := G.n0
    have g3 := G.n1
    have g4 := G.t1
    have set : SetOk p n t := ⟨by omega, by omega, by omega, by omega, by omega, by omega⟩
    clear hBA tA bA hv hl9 s9 nl9 hB8 hb8
    refine ⟨_, rfl, _, rfl, b, dg, p, n, t, _, rfl, hBB, r4, set, fun v5 HC rows bC tC hBC r5 hl1 hl5 rok wd => ?_⟩
    refine ⟨_, rfl, _, rfl, _, rfl, b, dg, p, n, t, _, v5, rows, rfl, hBC, r4.tf tC, by omega, r5, by omega, fun v6 HD ins bD tD hBD r6 hil hib => ?_⟩
    refine ⟨_, rfl, _, rfl, _, rfl, b, dg, p, n, t, _, v5, rows, rfl, hBD, (r4.tf tC).tf tD, set, r5.tf tD, by omega, fun v7 HE cs bE tE hBE r7 hcl hcb => ?_⟩
    have r4E := (r4.tf tC).tf (tD.trans tE)
    have r5E := r5.tf (tD.trans tE)
    have r6E := r6.tf tE
    clear r4 hBB bC tC r5 hBC bD tD hBD bE tE r6
    refine ⟨_, rfl, _, rfl, _, rfl, _, rfl, fun x dx hx hdx hne => ?_⟩
    have eF : Same HE (upd (upd HE dx (.own x)) x (.ins cD dx [])) := (Same.new hdx).mut hx
    refine ⟨x, dx, p, n, t, _, v5, v6, v7, rows, ins, cs, rfl, upd_same, r4E.sm eF, r5E.sm eF, r6E.sm eF, r7.sm eF, ⟨set, by omega, by omega, rok, hil, hib, hcl, hcb⟩, fun HG L0 bG tG hDG hK => ⟨rfl, ?_⟩⟩
    have eG : Same HE HG := eF.but1 bG hx
    have hBG := hBE.sm eG
    have r4G := r4E.sm eG
    have r5G := r5E.sm eG
    have r6G := r6E.sm eG
    clear r4E r5E r6E r7 hBE bG tG eF eG
    let Ss : Int → PS := fun j => (L0[(j - 1).toNat]?.map Mem.S).getD ⟨p, n, t, rows, j, [], []⟩
    let e : Env := ⟨p, n, t, rows, ins, Ss⟩
    have hL0 : L0.length = n := by
      have := congrArg List.length hK.js
      rw [List.length_map, partsM_len] at this
      rw [this]
      rfl
    have hj0 : ∀ (i : Nat) (m : Mem), L0[i]? = some m → m.S.j = (i : Int) + 1 := fun i m hm => by
      have h1 := map_get (f := fun e : Mem => e.S.j) hm
      rw [hK.js, partsM_get (by have := (List.getElem?_eq_some_iff.mp hm).1; omega)] at h1
      exact (Option.some.inj h1).symm
    have ok : EnvOk e := by
      refine ⟨G, fun j h1 h2 => ?_, rok, wd, hib⟩
      have h2' : j ≤ (n : Int) := h2
      have hlt : (j - 1).toNat < L0.length := by omega
      have hg := List.getElem?_eq_getElem hlt
      have hS : Ss j = L0[(j - 1).toNat].S := by
        show (L0[(j - 1).toNat]?.map Mem.S).getD _ = _
        rw [hg]
        rfl
      have hjj := hj0 _ _ hg
      refine ⟨?_, ?_⟩
      · show SOk p n t rows ins (Ss j)
        rw [hS]
        exact hK.ok _ (List.getElem_mem hlt)
      · show (Ss j).j = j
        rw [hS, hjj]
        omega
    have hc0 : L0.map Mem.cont = conts e (cm0 e) := by
      refine List.ext_getElem? fun i => ?_
      by_cases hi : i < n
      · have hlt : i < L0.length := by omega
        have hg := List.getElem?_eq_getElem hlt
        have hp := partsM_get (n := (n : Int)) (i := i) (by omega)
        have h1 := map_get (f := Mem.cont) hg
        have h2 := map_get (f := fun j => (e.Ss j, cm0 e j)) hp
        have h2' : (conts e (cm0 e))[i]? = some (e.Ss ((i : Int) + 1), cm0 e ((i : Int) + 1)) := h2
        rw [h1, h2']
        have hS : e.Ss ((i : Int) + 1) = L0[i].S := by
          show (L0[((i : Int) + 1 - 1).toNat]?.map Mem.S).getD _ = _
          have : ((i : Int) + 1 - 1).toNat = i := by omega
          rw [this, hg]
          rfl
        have hcm := hK.cm _ (List.getElem_mem hlt)
        unfold Mem.cont cm0
        rw [hS, hcm]
      · rw [List.getElem?_eq_none (by rw [List.length_map]; omega), List.getElem?_eq_none (by unfold conts; rw [List.length_map, partsM_len]; show n ≤ _; omega)]
    have hw0 : (firstDS p n t rows L0).way = way0 e := by
      show L0.flatMap (fun z => madeL z.S z.came) = (partsM (n : Int)).flatMap fun j => madeL (e.Ss j) (cm0 e j)
      have h1 : L0.flatMap (fun z => madeL z.S z.came) = (L0.map Mem.cont).flatMap fun z => madeL z.1 z.2 := by rw [List.flatMap_map]; rfl
      rw [h1, hc0]
      unfold conts
      rw [List.flatMap_map]
    have hD0 : DAt K cP cD HG x ⟨p, n, t, rows, L0, way0 e, 0⟩ := by rw [← hw0]; exact hDG
    refine ⟨Nat.zero_le _, fun ll hll => ?_⟩
    have sl := Same.new (o := .lst []) hll
    obtain ⟨_, _, hbG, hdgG⟩ := id hBG
    have LS0 : LS K cP cD e b dg x ll (.ref sa) v5 v6 (upd HG ll (.lst [])) (cm0 e) (way0 e) [] [] 0 := by
      refine ⟨hBG.sm sl, r4G.sm sl, r5G.sm sl, r6G.sm sl, upd_same, (ne_of_none hbG hll).symm, (ne_of_none hdgG hll).symm, ⟨L0, hD0.sm sl, hc0⟩, pinv0 ok, fun k => by simp, fun k => ?_⟩
      have := G.nt
      simp only [List.count_nil]
      show ((0 : Nat) : Int) ≤ ((n : Int) - t - 1) / 2
      omega
    generalize upd HG ll (.lst []) = HH at LS0 ⊢
    clear hD0 hw0 hc0 hDG hBG r4G r5G r6G hbG hdgG sl hll
    have he : e.p = p ∧ e.n = n ∧ e.t = t ∧ e.rows = rows ∧ e.ins = ins := ⟨rfl, rfl, rfl, rfl, rfl⟩
    clear_value e
    clear hj0 hL0 hK Ss
    obtain ⟨rfl, rfl, rfl, rfl, rfl⟩ := he
    refine ⟨fun m σ H' => ∃ (cm : Int → Came) (way : List Letter) (lk : List (Nat × Int)) (lies : List Int) (N : Nat) (y10 y11 y12 y14 y15 : Option V), m = 5000 - Tot e cm ∧ (N ≤ 2 * Tot e cm ∧ lies.length ≤ N) ∧
        σ = [some (.ref a), some (.ref b), some (.int e.n), some (.int e.t), some (.ref sa), some v5, some v6, some v7, some (.ref x), some (.ref ll), y10, y11, y12, none, y14, y15] ∧ LS K cP cD e b dg x ll (.ref sa) v5 v6 H' cm way lk lies N,
      ⟨_, cm0 e, way0 e, [], [], 0, none, none, none, none, none, rfl, ⟨Nat.zero_le _, Nat.le_refl _⟩, rfl, LS0⟩, ?_⟩
    rintro m σ H1 ⟨cm, way, lk, lies, N, y10, y11, y12, y14, y15, rfl, ⟨hN, hLN⟩, rfl, hS⟩
    obtain ⟨L, hD, hc⟩ := id hS.ds
    obtain ⟨dx1, vs1, vp1, vg1, c1, w1, lg1, ps1, xl1, xp1, k1, _⟩ := id hD.ex
    have hTot := tot_le ok hS.inv
    refine ⟨_, rfl, x, dx1, _, rfl, k1, x, _, rfl, hD, _, rfl, ?_⟩
    by_cases hw : way.length = 0
    · -- the end
      rw [show decide (({ p := e.p, n := (e.n : Int), t := (e.t : Int), rows := e.rows, L := L, way := way, N := N } : DS).way.length = 0) = true from decide_eq_true hw]
      have hw0 := List.eq_nil_of_length_eq_zero hw
      subst hw0
      have few : ∀ k, (((lk.filter fun x => decide (x.1 = k)).length : Nat) : Int) ≤ ((e.n : Int) - e.t - 1) / 2 := fun k => by rw [hS.few k]; exact hS.few2 k
      have hL9 : L.length ≤ 9 := by have := conts_len hc; have := ok.G.n1; omega
      have hol := outs_len e
      refine ⟨Nat.zero_le _, fun lt hlt => ?_⟩
      have e2 := Same.new (o := .lst []) hlt
      refine ⟨_, rfl, x, dx1, _, rfl, e2 _ _ k1, by rfl, x, _, rfl, hD.sm e2, hL9, LS.psok ok hc, fun c H3 L3 e3 hc3 hC3 hcont _ => ?_⟩
      have hcont3 : L3.map Mem.cont = conts e cm := by rw [hcont]; exact hc
      have hlt3 := e3 _ _ (show upd H1 lt (.lst []) lt = _ from upd_same)
      have hS3 := (hS.sm e2).sm e3
      have hL3 := conts_len hcont3
      refine ⟨c, rfl, ⟨_, hc3⟩, for_tup (K := K) (a := c) (xs := refs L3)
        (fun i σ H' => ∃ (lt : Addr) (acc : List V) (y14 y15 : Option V), σ = [some (.ref a), some (.ref b), some (.int e.n), some (.int e.t), some (.ref sa), some v5, some v6, some v7, some (.ref x), some (.ref ll), y10, y11, y12, some (.ref lt), y14, y15] ∧ Same H3 H' ∧ H' lt = some (.lst acc) ∧ RpAll K H' acc ((((partsM (e.n : Int)).take i).flatMap fun j => (outs e).filter fun x : Nat × Int × Int => decide (x.2.1 = j)).map triD))
        ⟨lt, [], y14, y15, rfl, Same.refl _, hlt3, .nil⟩ (fun i σ H' _ ⟨_, _, _, _, _, e, _⟩ => e.tf.sqT hc3) ?_ ?_⟩
      · rintro i x1 σ H4 hx1 ⟨lt, acc, y14, y15, rfl, e4, hl4, ra4⟩
        obtain ⟨m, hm, rfl⟩ := map_got hx1
        have him := (List.getElem?_eq_some_iff.mp hm).1
        have hpg := partsM_get (n := (e.n : Int)) (i := i) (by omega)
        have hmc : m.S = e.Ss ((i : Int) + 1) ∧ m.came = cm ((i : Int) + 1) := by
          have h1 := map_get (f := Mem.cont) hm
          have h2 := map_get (f := fun j => (e.Ss j, cm j)) hpg
          have h2' : (conts e cm)[i]? = some (e.Ss ((i : Int) + 1), cm ((i : Int) + 1)) := h2
          rw [hcont3, h2'] at h1
          have h3 := Option.some.inj h1
          exact ⟨(congrArg (·.1) h3).symm, (congrArg (·.2) h3).symm⟩
        have hj1 : (1 : Int) ≤ (i : Int) + 1 := by omega
        have hj2 : (i : Int) + 1 ≤ (e.n : Int) := by omega
        obtain ⟨so, sj⟩ := ok.so _ hj1 hj2
        have hP := (hC3.at_ m (List.mem_of_getElem? hm)).sm e4
        rw [hmc.1, hmc.2] at hP
        obtain ⟨dxm, gm, dm, cmm, cdsm, vom, vwm, vtm, dsm, hins, _⟩ := id hP.ex
        refine ⟨_, rfl, _, rfl, m.a, dxm, _, rfl, hins, m.a, _, m.m, _, rfl, hP, so.ok, hS.inv.co _ hj1 hj2, read_pre ok hS.inv few hj1 hj2, fun r5 H5 e5 rp5 => ?_⟩
        rw [read_end ok hS.inv few hj1 hj2] at rp5
        obtain ⟨c5, xs5, rfl, hc5, hA5⟩ := rp5.tupl
        have hl5' := hA5.len
        rw [List.length_map, List.length_map] at hl5'
        have hfl := List.length_filter_le (fun x : Nat × Int × Int => decide (x.2.1 = (i : Int) + 1)) (outs e)
        refine ⟨c5, rfl, ⟨_, hc5⟩, ?_⟩
        refine lcT (K := K) hc5 (by omega) (fun i' => ((outs e).filter fun x => decide (x.2.1 = (i : Int) + 1))[i']?.map triD) (fun i' y H6 hi' hy e6 Acc Skip ka ks => ?_) fun D H6 acc6 hD6 e6 ha6 ra6 => ?_
        · obtain ⟨dd, hd1, hd2⟩ := hA5.got hy
          obtain ⟨z, hz, rfl⟩ := map_got hd1
          obtain ⟨u, hu, rfl⟩ := map_got hz
          have hu2 : u.2.1 = (i : Int) + 1 := of_decide_eq_true (List.mem_filter.mp (List.mem_of_getElem? hu)).2
          obtain ⟨ty, txs, rfl, hty, hta⟩ := (hd2.sm e6).tupl
          cases hta with | cons g1 g2 =>
          cases g2 with | cons g2 g3 =>
          cases g3
          cases g1
          cases g2
          have hins6 := e6 _ _ (e5 _ _ hins)
          refine ⟨ty, _, rfl, hty, rfl, _, _, rfl, _, _, rfl, rfl, rfl, iteT (B := Skip H6) ?_⟩
          refine ⟨_, rfl, _, rfl, m.a, dxm, _, rfl, hins6, m.a, _, m.m, _, rfl, (hP.sm e5).sm e6, _, rfl, by show 3 ≤ sizeLine; decide, fun tp htp => ?_⟩
          refine ka _ (triD u) _ (by dsimp only; rw [hu]; rfl) (Same.new htp) ?_
          refine .tup sqT_new (.cons (.int _) (.cons ?_ (.one (.int _))))
          rw [sj, hu2]
          exact .int _
        · rw [hl5', fm_map] at ra6
          have e46 := e5.trans e6
          have hl6 := e46 _ _ hl4
          have hal := (ra4.len)
          have hal6 := ra6.len
          rw [List.length_map] at hal hal6
          have hfm := flatMap_len (fun j => (outs e).filter fun x : Nat × Int × Int => decide (x.2.1 = j)) 5 ((partsM (e.n : Int)).take i) fun j _ => by
            have := List.length_filter_le (fun x : Nat × Int × Int => decide (x.2.1 = j)) (outs e)
            omega
          rw [List.length_take] at hfm
          refine ⟨lt, D, acc, acc6, rfl, rfl, hl6, ha6, by rw [hal, hal6]; exact small (by have := ok.G.n1; omega), fun p7 hp7 => ?_⟩
          have e7 := Same.new (o := .lst (acc ++ acc6)) hp7
          refine ⟨p7, acc ++ acc6, _, _, rfl, (e4.trans e46).trans e7, upd_same, ?_⟩
          rw [List.take_add_one, hpg, List.flatMap_append, List.map_append]
          refine ((ra4.sm e46).app ?_).sm e7
          have : (Option.toList (some ((i : Int) + 1))).flatMap (fun j => (outs e).filter fun x : Nat × Int × Int => decide (x.2.1 = j)) = (outs e).filter fun x => decide (x.2.1 = (i : Int) + 1) := by simp
          rw [this]
          exact ra6
      · rintro σ H4 ⟨lt, acc, y14, y15, rfl, e4, hl4, ra4⟩
        have htk : (partsM (e.n : Int)).take e.n = partsM (e.n : Int) := List.take_of_length_le (by rw [partsM_len]; exact Nat.le_refl _)
        rw [List.length_map, hL3, htk] at ra4
        have hperm := told_perm ok
        have hal := ra4.len
        rw [List.length_map, hperm.length_eq] at hal
        have hS4 := hS3.sm e4
        refine ⟨_, rfl, lt, acc, rfl, SqL.of hl4, by omega, fun v hv => ?_, fun ys p5 hp5 hpw hfree => ?_⟩
        · obtain ⟨k, hk⟩ := List.getElem?_of_mem hv
          obtain ⟨dd, hd1, hd2⟩ := ra4.got hk
          obtain ⟨u, hu, rfl⟩ := map_got hd1
          exact ⟨triL u, rp_tupI hd2, rfl, triD_bd ok hl5 (hperm.subset (List.mem_of_getElem? hu))⟩
        · have hys := sorted_outs ok hl5 hperm ra4 hp5 hpw
          have e5 := Same.new (o := .lst ys) hfree
          have hS5 := hS4.sm e5
          refine ⟨_, rfl, _, rfl, _, rfl, e.p, e.n, e.t, _, v5, v6, e.rows, e.ins, rfl, hS5.r4, set, hS5.r5, by omega, rok, wd, hS5.r6, hil, hib, fun r6 H6 e6 rp6 => ?_⟩
          rw [shown_end ok, List.map_map] at rp6
          obtain ⟨c6, xs6, rfl, hc6, hA6⟩ := rp6.tupl
          refine ⟨c6, xs6, rfl, .inr hc6, fun l7 hl7 => ?_⟩
          have e7 := Same.new (o := .lst xs6) hl7
          have hA6' : RpAll K H6 xs6 ((outs e).map triD) := hA6
          refine ⟨.list ((outs e).map triD), .list ((outs e).map triD), .lst (SqL.of (e7 _ _ (e6 _ _ upd_same))) (((hys.sm e5).sm (e6.trans e7))).dp, .lst sqL_new (hA6'.sm e7).dp, shapedTs _, shapedTs _, ?_⟩
          rw [eqv_self]
          exact q _
    · rw [show decide (({ p := e.p, n := (e.n : Int), t := (e.t : Int), rows := e.rows, L := L, way := way, N := N } : DS).way.length = 0) = false from decide_eq_false hw]
      refine ⟨fun σ' H' => ∃ m', m' < 5000 - Tot e cm ∧ ∃ (cm : Int → Came) (way : List Letter) (lk : List (Nat × Int)) (lies : List Int) (N : Nat) (y10 y11 y12 y14 y15 : Option V), m' = 5000 - Tot e cm ∧ (N ≤ 2 * Tot e cm ∧ lies.length ≤ N) ∧
        σ' = [some (.ref a), some (.ref b), some (.int e.n), some (.int e.t), some (.ref sa), some v5, some v6, some v7, some (.ref x), some (.ref ll), y10, y11, y12, none, y14, y15] ∧ LS K cP cD e b dg x ll (.ref sa) v5 v6 H' cm way lk lies N, fun _ _ h => h, ?_⟩
      refine ⟨_, rfl, x, dx1, _, rfl, k1, x, _, rfl, hD, fun wa rwa => ?_⟩
      obtain ⟨wa', wxs, hwa, hWA, hWR⟩ := rwa.tupl
      cases hwa
      have hwl := hWR.len
      rw [List.length_map] at hwl
      have hwl' : wxs.length = way.length := hwl
      refine ⟨_, rfl, _, rfl, wa, wxs, rfl, .inr hWA, b, dg, (wxs.length : Int), rfl, hS.box, by omega, fun z H2 hz0 hz1 b2 t2 hB2 => ?_⟩
      obtain ⟨i, rfl⟩ : ∃ i : Nat, z = (i : Int) := ⟨z.toNat, by omega⟩
      have hil : i < way.length := by omega
      have hl := List.getElem?_eq_getElem hil
      generalize hll : way[i] = l at hl
      have hS2 := hS.draw b2 t2 hB2
      obtain ⟨lv, hlv, rlv⟩ := hWR.get (map_get (f := Letter.data) hl)
      obtain ⟨la, rfl, hLA⟩ := rlv.letterAt
      have hLA2 := t2.sqT hLA
      have hLO := hS.inv.wy l (List.mem_of_getElem? hl)
      refine ⟨_, rfl, _, rfl, _, _, _, _, rfl, rfl, t2.sqT hWA, atI_nat hlv, _, _, 1, _, rfl, rfl, hLA2, at_of (j := 1) rfl rfl, ?_⟩
      dsimp only
      refine cutS (fun σ' H' => ∃ (way' : List Letter) (lk : List (Nat × Int)) (lies : List Int) (N' : Nat) (l : Letter), way'[i]? = some l ∧ (N' ≤ 2 * Tot e cm + 1 ∧ lies.length ≤ N') ∧
        σ' = [some (.ref a), some (.ref b), some (.int e.n), some (.int e.t), some (.ref sa), some v5, some v6, some v7, some (.ref x), some (.ref ll), some (.ref wa), some (.int (i : Int)), some (.int (l.k : Int)), none, y14, y15] ∧ LS K cP cD e b dg x ll (.ref sa) v5 v6 H' cm way' lk lies N') (fun nx hn => ?_) ?_
      · refine ifCut (fun c H' => LS K cP cD e b dg x ll (.ref sa) v5 v6 H' cm way lk lies N ∧ (c = true → (e.row l.k).isOut = true ∧ ((lies.count (l.k : Int) : Nat) : Int) < ((e.n : Int) - e.t - 1) / 2)) (fun Q hq => ?_) (fun H3 hI => ?_) (fun H3 hI => ?_)
        · obtain ⟨pa, pb, pxs, hpa, hPA, hPB, hPR⟩ := hS2.r5.prog
          subst hpa
          have hrr := Env.row_lt hLO.k
          obtain ⟨ra, hra1, hra2⟩ := hPR.rowAt hrr
          refine ⟨_, rfl, _, _, 1, _, rfl, rfl, hPA, at_of (j := 1) rfl rfl, _, rfl, _, _, _, _, rfl, rfl, hPB, atI_nat hra1, _, _, 0, _, rfl, rfl, hra2, at_of (j := 0) rfl rfl, rfl, _, congrArg V.bl (names_eq (e.row l.k).kn 6), ?_⟩
          cases ho : decide ((e.row l.k).kn = 6) with
          | false => exact hq _ _ ⟨hS2, fun h => by cases h⟩
          | true =>
            have hout : (e.row l.k).isOut = true := by
              have ho' := of_decide_eq_true ho
              cases hr5 : e.row l.k <;> rw [hr5] at ho' <;> first | rfl | exact absurd ho' (by simp only [Row.kn]; decide)
            refine ⟨_, rfl, .inl ⟨rfl, _, SqL.of hS2.li⟩, _, rfl, ll, lies, _, rfl, rfl, SqL.of hS2.li, _, rfl, _, rfl, _, _, rfl, rfl, _, _, rfl, rfl, _, _, rfl, rfl, ⟨by decide, by decide⟩, _, _, rfl, rfl, _, rfl, ?_⟩
            refine ite2 (fun hc1 => ?_) (fun hc1 => hq _ _ ⟨hS2, fun h => by cases h⟩)
            have hc1' := of_decide_eq_true hc1
            refine ⟨_, rfl, b, dg, 4, rfl, hS2.box, by decide, fun z H3 hz0 hz1 b3 t3 hB3 => ⟨_, _, rfl, rfl, _, rfl, hq _ _ ⟨hS2.draw b3 t3 hB3, fun _ => ⟨hout, hc1'⟩⟩⟩⟩
        · obtain ⟨hS3, hI2⟩ := hI
          obtain ⟨hout, hcnt⟩ := hI2 rfl
          have hL9 : L.length ≤ 9 := by have := conts_len hc; have := ok.G.n1; omega
          obtain ⟨L3, hD3, hc3⟩ := id hS3.ds
          have hL39 : L3.length ≤ 9 := by have := conts_len hc3; have := ok.G.n1; omega
          obtain ⟨dx3, vs3, vp3, vg3, c3, w3, lg3, ps3, xl3, xp3, q1, _⟩ := id hD3.ex
          refine ⟨_, rfl, .inl ⟨rfl, _, SqL.of hS3.li⟩, _, rfl, ll, _, _, rfl, rfl, hS3.li, by rw [List.length_map]; exact small' (by omega), ?_⟩
          obtain ⟨b4, t4⟩ := hS3.keep (zs := lies.map V.int ++ [.int (l.k : Int)])
          have hB4 := hS3.box.lst (zs := lies.map V.int ++ [.int (l.k : Int)]) hS3.nb hS3.ng
          have hD4 := hD3.lst hS3.li b4 t4
          have hli4 : upd H3 ll (.lst (lies.map V.int ++ [.int (l.k : Int)])) ll = some (.lst ((lies ++ [(l.k : Int)]).map V.int)) := by rw [upd_same, List.map_append]; rfl
          generalize upd H3 ll (.lst (lies.map V.int ++ [.int (l.k : Int)])) = H4 at b4 t4 hB4 hD4 hli4 ⊢
          obtain ⟨dx4, vs4, vp4, vg4, c4, w4, lg4, ps4, xl4, xp4, q4, _⟩ := id hD4.ex
          obtain ⟨sa', hsa', hSA⟩ := (hS3.r4.tf t4).setting
          cases hsa'
          refine ⟨_, rfl, x, dx4, _, rfl, q4, by rfl, _, rfl, _, rfl, _, rfl, _, _, 1, _, rfl, rfl, hSA, at_of (j := 1) rfl rfl, b, dg, e.p, rfl, hB4, by have := ok.G.p0; omega, fun z H5 hz0 hz1 b5 t5 hB5 => ?_⟩
          have hli5 := b5 _ _ hli4 hS3.nb
          obtain ⟨_, _, hb4, _⟩ := id hB4
          have hD5 := hD4.lst hb4 b5 t5
          obtain ⟨dx5, vs5, vp5, vg5, c5, w5, lg5, ps5, xl5, xp5, q5, _⟩ := id hD5.ex
          refine ⟨x, _, i, l, z, rfl, hD5, hl, hz0, hz1, hL39, LS.psok ok hc3, by show N ≤ 100000; omega, way_le ok hl5 hS.inv, fun r H6 L6 b6 t6 hD6 hc6 => ?_⟩
          refine hn _ _ ⟨way.set i { l with x := z }, (l.k, l.i) :: lk, lies ++ [(l.k : Int)], N + 1, { l with x := z }, by rw [List.getElem?_set_self (by omega)], ⟨by omega, by rw [List.length_append]; simp only [List.length_cons, List.length_nil]; omega⟩, rfl, ?_⟩
          have t36 := (t4.trans t5).trans t6
          refine ⟨hB5.ins q5 b6, hS3.r4.tf t36, hS3.r5.tf t36, hS3.r6.tf t36, b6 _ _ hli5 (ne_of hli5 q5 (by intro h; cases h)), hS3.nb, hS3.ng, ⟨L6, hD6, by rw [hc6]; exact hc3⟩, pinv_lie hS.inv hl hout ⟨hz0, hz1⟩, fun k => ?_, fun k => ?_⟩
          · rw [List.filter_cons, List.count_append, List.count_singleton]
            have := hS3.few k
            by_cases hk : l.k = k
            · subst hk
              simp only [decide_true, if_true, List.length_cons, beq_self_eq_true]
              omega
            · have h1 : ¬ ((l.k : Int) = (k : Int)) := fun z => hk (by omega)
              simp [hk, h1]
              omega
          · rw [List.count_append, List.count_singleton]
            have := hS3.few2 k
            by_cases hk : l.k = k
            · subst hk
              simp only [beq_self_eq_true, if_true]
              omega
            · have h1 : ¬ ((l.k : Int) = (k : Int)) := fun z => hk (by omega)
              simp [h1]
              omega
        · exact hn _ _ ⟨way, lk, lies, N, l, hl, ⟨by omega, hLN⟩, rfl, hI.1⟩
      · -- hand
        clear hS2 hLO hLA hLA2 hl hll rlv hWR hWA hS hD hc hN hLN k1
        rintro σ' H3 ⟨way', lk, lies, N', l, hl, ⟨hN, hLN⟩, rfl, hS⟩
        obtain ⟨L, hD, hc⟩ := id hS.ds
        obtain ⟨dx1, vs1, vp1, vg1, c1, w1, lg1, ps1, xl1, xp1, k1, _⟩ := id hD.ex
        obtain ⟨m, hm, hmS, hmc, hOk⟩ := hS.handOk ok hl5 hc hl
        have hL9 : L.length ≤ 9 := by have := conts_len hc; have := ok.G.n1; omega
        have hLO := hS.inv.wy l (List.mem_of_getElem? hl)
        refine ⟨_, rfl, x, dx1, _, rfl, k1, by rfl, _, rfl, x, _, i, l, m, rfl, hD, hOk, hL9, LS.psok ok hc, by show N' ≤ 100000; omega, fun r H4 L4 b4 t4 hD4 hc4 => ?_⟩
        have hput := tot_put ok hS.inv hl
        obtain ⟨hinv, _⟩ := pinv_hand ok hS.inv hl
        have hwp : handWay way' i m l = wayPut e cm way' i l := by
          unfold handWay wayPut handCame cmPut
          rw [if_pos rfl, hmS, hmc]
        have hD4' : DAt K cP cD H4 x ⟨e.p, e.n, e.t, e.rows, L4, wayPut e cm way' i l, N' + 1⟩ := by rw [← hwp]; exact hD4
        refine ⟨5000 - Tot e (cmPut cm l), by omega, cmPut cm l, wayPut e cm way' i l, lk, lies, N' + 1, _, _, _, _, _, rfl, ⟨by omega, by omega⟩, rfl, ?_⟩
        exact ⟨hS.box.ins k1 b4, hS.r4.tf t4, hS.r5.tf t4, hS.r6.tf t4, b4 _ _ hS.li (ne_of hS.li k1 (by intro h; cases h)), hS.nb, hS.ng, ⟨L4, hD4', by rw [hc4]; exact conts_put hc hLO.j.1 hLO.j.2 hm hmS hmc⟩, hinv, hS.few, hS.few2⟩
end
end U

namespace U
open PySem PySem.Spec PyProof.Rows L2
/-! ### what the top has written -/
section
variable {K : PySem.W.Frag} {mg : Str → Option Value} {h : Heap} {cP cD f q : Addr} {od an : Option Addr} {sl : Array (Option Value)} {oc kV dc pm cd ct : Value} {rest : List Value}
theorem with_cls {y : Str} {goal : Prop} {C : Addr} (_ : K.In h) (a : PySem.W.nsIn K mainGlobals y = some (some (.ref C))) (k : PySem.W.nsIn K mainGlobals y = some (some (.ref C)) → goal) : goal := k a
theorem mk_cls {y : Str} {C : Addr} (_ : PySem.W.nsIn K mainGlobals y = some (some (.ref C))) (pg : PySem.W.plainGet K C Str.empty = true) (hd : PySem.W.hasDictIn K C = true) (po : PySem.W.plainOver K C = true) (sa : PySem.W.findIn K (.ref C) "__setattr__" = some (some (.builtin "object.__setattr__"))) : Cls K C := ⟨pg, hd, po, sa⟩
theorem mk_no {y : Str} {C : Addr} {x : Str} (_ : PySem.W.nsIn K mainGlobals y = some (some (.ref C))) (n : PySem.W.findIn K (.ref C) x = some none) : NoAttr K C x := n
theorem mk_ne (aP : PySem.W.nsIn K mainGlobals "Party" = some (some (.ref cP))) (aD : PySem.W.nsIn K mainGlobals "Desk" = some (some (.ref cD))) {v : Option Value} (n : PySem.W.findIn K (.ref cP) "_hand" = some none) (m : PySem.W.findIn K (.ref cD) "_hand" = some (some (.ref f))) : cP ≠ cD := fun e => by
  rw [e, m] at n
  cases n
theorem mk_bt {x : Str} (X : K.In h) (G : h.Ns mainGlobals mg) (z : PySem.W.nsIn K mainGlobals x = some none) : mg x = none := PySem.W.mg_none_of X G z
theorem mk_places (X : K.In h) (G : h.Ns mainGlobals mg) (a : PySem.W.nsIn K mainGlobals "places" = some (some (.ref f))) (l : K.lookup f = some ⟨oc, od, .func (PySem.W.fnOf "places" "places" (defArgs s_places) (defBody s_places) (defScope s_places) .none kV dc pm an cd ct), sl⟩) (c : PySem.W.codeIn K cd "places" = true) (k : PySem.W.keepIn K (.ref f) = true) : DefIn K mg "places" "places" s_places ["setting", "program"] :=
  ⟨f, _, fun_mk (st := s_places) l c k, PySem.W.mg_of X G a, ((fun_mk (st := s_places) l c k).binds (ps := ["setting", "program"]) fun _ _ _ _ _ _ us hl => match us, hl with | [_, _], _ => rfl)⟩
theorem mk_power (X : K.In h) (G : h.Ns mainGlobals mg) (a : PySem.W.nsIn K mainGlobals "power" = some (some (.ref f))) (l : K.lookup f = some ⟨oc, od, .func (PySem.W.fnOf "power" "power" (defArgs s_power) (defBody s_power) (defScope s_power) .none kV dc pm an cd ct), sl⟩) (c : PySem.W.codeIn K cd "power" = true) (k : PySem.W.keepIn K (.ref f) = true) : DefIn K mg "power" "power" s_power ["p", "a", "k"] :=
  ⟨f, _, fun_mk (st := s_power) l c k, PySem.W.mg_of X G a, ((fun_mk (st := s_power) l c k).binds (ps := ["p", "a", "k"]) fun _ _ _ _ _ _ us hl => match us, hl with | [_, _, _], _ => rfl)⟩
theorem mk_inverse (X : K.In h) (G : h.Ns mainGlobals mg) (a : PySem.W.nsIn K mainGlobals "inverse" = some (some (.ref f))) (l : K.lookup f = some ⟨oc, od, .func (PySem.W.fnOf "inverse" "inverse" (defArgs s_inverse) (defBody s_inverse) (defScope s_inverse) .none kV dc pm an cd ct), sl⟩) (c : PySem.W.codeIn K cd "inverse" = true) (k : PySem.W.keepIn K (.ref f) = true) : DefIn K mg "inverse" "inverse" s_inverse ["p", "a"] :=
  ⟨f, _, fun_mk (st := s_inverse) l c k, PySem.W.mg_of X G a, ((fun_mk (st := s_inverse) l c k).binds (ps := ["p", "a"]) fun _ _ _ _ _ _ us hl => match us, hl with | [_, _], _ => rfl)⟩
theorem mk_value_at (X : K.In h) (G : h.Ns mainGlobals mg) (a : PySem.W.nsIn K mainGlobals "value_at" = some (some (.ref f))) (l : K.lookup f = some ⟨oc, od, .func (PySem.W.fnOf "value_at" "value_at" (defArgs s_value_at) (defBody s_value_at) (defScope s_value_at) .none kV dc pm an cd ct), sl⟩) (c : PySem.W.codeIn K cd "value_at" = true) (k : PySem.W.keepIn K (.ref f) = true) : DefIn K mg "value_at" "value_at" s_value_at ["p", "poly", "x"] :=
  ⟨f, _, fun_mk (st := s_value_at) l c k, PySem.W.mg_of X G a, ((fun_mk (st := s_value_at) l c k).binds (ps := ["p", "poly", "x"]) fun _ _ _ _ _ _ us hl => match us, hl with | [_, _, _], _ => rfl)⟩
theorem mk_added (X : K.In h) (G : h.Ns mainGlobals mg) (a : PySem.W.nsIn K mainGlobals "added" = some (some (.ref f))) (l : K.lookup f = some ⟨oc, od, .func (PySem.W.fnOf "added" "added" (defArgs s_added) (defBody s_added) (defScope s_added) .none kV dc pm an cd ct), sl⟩) (c : PySem.W.codeIn K cd "added" = true) (k : PySem.W.keepIn K (.ref f) = true) : DefIn K mg "added" "added" s_added ["p", "one", "other"] :=
  ⟨f, _, fun_mk (st := s_added) l c k, PySem.W.mg_of X G a, ((fun_mk (st := s_added) l c k).binds (ps := ["p", "one", "other"]) fun _ _ _ _ _ _ us hl => match us, hl with | [_, _, _], _ => rfl)⟩
theorem mk_scaled (X : K.In h) (G : h.Ns mainGlobals mg) (a : PySem.W.nsIn K mainGlobals "scaled" = some (some (.ref f))) (l : K.lookup f = some ⟨oc, od, .func (PySem.W.fnOf "scaled" "scaled" (defArgs s_scaled) (defBody s_scaled) (defScope s_scaled) .none kV dc pm an cd ct), sl⟩) (c : PySem.W.codeIn K cd "scaled" = true) (k : PySem.W.keepIn K (.ref f) = true) : DefIn K mg "scaled" "scaled" s_scaled ["p", "c", "poly"] :=
  ⟨f, _, fun_mk (st := s_scaled) l c k, PySem.W.mg_of X G a, ((fun_mk (st := s_scaled) l c k).binds (ps := ["p", "c", "poly"]) fun _ _ _ _ _ _ us hl => match us, hl with | [_, _, _], _ => rfl)⟩
theorem mk_with_root (X : K.In h) (G : h.Ns mainGlobals mg) (a : PySem.W.nsIn K mainGlobals "with_root" = some (some (.ref f))) (l : K.lookup f = some ⟨oc, od, .func (PySem.W.fnOf "with_root" "with_root" (defArgs s_with_root) (defBody s_with_root) (defScope s_with_root) .none kV dc pm an cd ct), sl⟩) (c : PySem.W.codeIn K cd "with_root" = true) (k : PySem.W.keepIn K (.ref f) = true) : DefIn K mg "with_root" "with_root" s_with_root ["p", "poly", "point"] :=
  ⟨f, _, fun_mk (st := s_with_root) l c k, PySem.W.mg_of X G a, ((fun_mk (st := s_with_root) l c k).binds (ps := ["p", "poly", "point"]) fun _ _ _ _ _ _ us hl => match us, hl with | [_, _, _], _ => rfl)⟩
theorem mk_roots_at (X : K.In h) (G : h.Ns mainGlobals mg) (a : PySem.W.nsIn K mainGlobals "roots_at" = some (some (.ref f))) (l : K.lookup f = some ⟨oc, od, .func (PySem.W.fnOf "roots_at" "roots_at" (defArgs s_roots_at) (defBody s_roots_at) (defScope s_roots_at) .none kV dc pm an cd ct), sl⟩) (c : PySem.W.codeIn K cd "roots_at" = true) (k : PySem.W.keepIn K (.ref f) = true) : DefIn K mg "roots_at" "roots_at" s_roots_at ["p", "points"] :=
  ⟨f, _, fun_mk (st := s_roots_at) l c k, PySem.W.mg_of X G a, ((fun_mk (st := s_roots_at) l c k).binds (ps := ["p", "points"]) fun _ _ _ _ _ _ us hl => match us, hl with | [_, _], _ => rfl)⟩
theorem mk_bases (X : K.In h) (G : h.Ns mainGlobals mg) (a : PySem.W.nsIn K mainGlobals "bases" = some (some (.ref f))) (l : K.lookup f = some ⟨oc, od, .func (PySem.W.fnOf "bases" "bases" (defArgs s_bases) (defBody s_bases) (defScope s_bases) .none kV dc pm an cd ct), sl⟩) (c : PySem.W.codeIn K cd "bases" = true) (k : PySem.W.keepIn K (.ref f) = true) : DefIn K mg "bases" "bases" s_bases ["p", "points"] :=
  ⟨f, _, fun_mk (st := s_bases) l c k, PySem.W.mg_of X G a, ((fun_mk (st := s_bases) l c k).binds (ps := ["p", "points"]) fun _ _ _ _ _ _ us hl => match us, hl with | [_, _], _ => rfl)⟩
theorem mk_through (X : K.In h) (G : h.Ns mainGlobals mg) (a : PySem.W.nsIn K mainGlobals "through" = some (some (.ref f))) (l : K.lookup f = some ⟨oc, od, .func (PySem.W.fnOf "through" "through" (defArgs s_through) (defBody s_through) (defScope s_through) .none kV dc pm an cd ct), sl⟩) (c : PySem.W.codeIn K cd "through" = true) (k : PySem.W.keepIn K (.ref f) = true) : DefIn K mg "through" "through" s_through ["p", "points", "values"] :=
  ⟨f, _, fun_mk (st := s_through) l c k, PySem.W.mg_of X G a, ((fun_mk (st := s_through) l c k).binds (ps := ["p", "points", "values"]) fun _ _ _ _ _ _ us hl => match us, hl with | [_, _, _], _ => rfl)⟩
theorem mk_weights (X : K.In h) (G : h.Ns mainGlobals mg) (a : PySem.W.nsIn K mainGlobals "weights" = some (some (.ref f))) (l : K.lookup f = some ⟨oc, od, .func (PySem.W.fnOf "weights" "weights" (defArgs s_weights) (defBody s_weights) (defScope s_weights) .none kV dc pm an cd ct), sl⟩) (c : PySem.W.codeIn K cd "weights" = true) (k : PySem.W.keepIn K (.ref f) = true) : DefIn K mg "weights" "weights" s_weights ["p", "points", "x"] :=
  ⟨f, _, fun_mk (st := s_weights) l c k, PySem.W.mg_of X G a, ((fun_mk (st := s_weights) l c k).binds (ps := ["p", "points", "x"]) fun _ _ _ _ _ _ us hl => match us, hl with | [_, _, _], _ => rfl)⟩
theorem mk_is_integer (X : K.In h) (G : h.Ns mainGlobals mg) (a : PySem.W.nsIn K mainGlobals "is_integer" = some (some (.ref f))) (l : K.lookup f = some ⟨oc, od, .func (PySem.W.fnOf "is_integer" "is_integer" (defArgs s_is_integer) (defBody s_is_integer) (defScope s_is_integer) .none kV dc pm an cd ct), sl⟩) (c : PySem.W.codeIn K cd "is_integer" = true) (k : PySem.W.keepIn K (.ref f) = true) : DefIn K mg "is_integer" "is_integer" s_is_integer ["thing"] :=
  ⟨f, _, fun_mk (st := s_is_integer) l c k, PySem.W.mg_of X G a, ((fun_mk (st := s_is_integer) l c k).binds (ps := ["thing"]) fun _ _ _ _ _ _ us hl => match us, hl with | [_], _ => rfl)⟩
theorem mk_parties (X : K.In h) (G : h.Ns mainGlobals mg) (a : PySem.W.nsIn K mainGlobals "parties" = some (some (.ref f))) (l : K.lookup f = some ⟨oc, od, .func (PySem.W.fnOf "parties" "parties" (defArgs s_parties) (defBody s_parties) (defScope s_parties) .none kV dc pm an cd ct), sl⟩) (c : PySem.W.codeIn K cd "parties" = true) (k : PySem.W.keepIn K (.ref f) = true) : DefIn K mg "parties" "parties" s_parties ["setting"] :=
  ⟨f, _, fun_mk (st := s_parties) l c k, PySem.W.mg_of X G a, ((fun_mk (st := s_parties) l c k).binds (ps := ["setting"]) fun _ _ _ _ _ _ us hl => match us, hl with | [_], _ => rfl)⟩
theorem mk_shares_of (X : K.In h) (G : h.Ns mainGlobals mg) (a : PySem.W.nsIn K mainGlobals "shares_of" = some (some (.ref f))) (l : K.lookup f = some ⟨oc, od, .func (PySem.W.fnOf "shares_of" "shares_of" (defArgs s_shares_of) (defBody s_shares_of) (defScope s_shares_of) .none kV dc pm an cd ct), sl⟩) (c : PySem.W.codeIn K cd "shares_of" = true) (k : PySem.W.keepIn K (.ref f) = true) : DefIn K mg "shares_of" "shares_of" s_shares_of ["setting", "poly"] :=
  ⟨f, _, fun_mk (st := s_shares_of) l c k, PySem.W.mg_of X G a, ((fun_mk (st := s_shares_of) l c k).binds (ps := ["setting", "poly"]) fun _ _ _ _ _ _ us hl => match us, hl with | [_, _], _ => rfl)⟩
theorem mk_shares (X : K.In h) (G : h.Ns mainGlobals mg) (a : PySem.W.nsIn K mainGlobals "shares" = some (some (.ref f))) (l : K.lookup f = some ⟨oc, od, .func (PySem.W.fnOf "shares" "shares" (defArgs s_shares) (defBody s_shares) (defScope s_shares) .none kV dc pm an cd ct), sl⟩) (c : PySem.W.codeIn K cd "shares" = true) (k : PySem.W.keepIn K (.ref f) = true) : DefIn K mg "shares" "shares" s_shares ["setting", "s", "coins"] :=
  ⟨f, _, fun_mk (st := s_shares) l c k, PySem.W.mg_of X G a, ((fun_mk (st := s_shares) l c k).binds (ps := ["setting", "s", "coins"]) fun _ _ _ _ _ _ us hl => match us, hl with | [_, _, _], _ => rfl)⟩
theorem mk_named (X : K.In h) (G : h.Ns mainGlobals mg) (a : PySem.W.nsIn K mainGlobals "named" = some (some (.ref f))) (l : K.lookup f = some ⟨oc, od, .func (PySem.W.fnOf "named" "named" (defArgs s_named) (defBody s_named) (defScope s_named) .none kV dc pm an cd ct), sl⟩) (c : PySem.W.codeIn K cd "named" = true) (k : PySem.W.keepIn K (.ref f) = true) : DefIn K mg "named" "named" s_named ["row"] :=
  ⟨f, _, fun_mk (st := s_named) l c k, PySem.W.mg_of X G a, ((fun_mk (st := s_named) l c k).binds (ps := ["row"]) fun _ _ _ _ _ _ us hl => match us, hl with | [_], _ => rfl)⟩
theorem mk_input_rows (X : K.In h) (G : h.Ns mainGlobals mg) (a : PySem.W.nsIn K mainGlobals "input_rows" = some (some (.ref f))) (l : K.lookup f = some ⟨oc, od, .func (PySem.W.fnOf "input_rows" "input_rows" (defArgs s_input_rows) (defBody s_input_rows) (defScope s_input_rows) .none kV dc pm an cd ct), sl⟩) (c : PySem.W.codeIn K cd "input_rows" = true) (k : PySem.W.keepIn K (.ref f) = true) : DefIn K mg "input_rows" "input_rows" s_input_rows ["program"] :=
  ⟨f, _, fun_mk (st := s_input_rows) l c k, PySem.W.mg_of X G a, ((fun_mk (st := s_input_rows) l c k).binds (ps := ["program"]) fun _ _ _ _ _ _ us hl => match us, hl with | [_], _ => rfl)⟩
theorem mk_sends (X : K.In h) (G : h.Ns mainGlobals mg) (a : PySem.W.nsIn K mainGlobals "sends" = some (some (.ref f))) (l : K.lookup f = some ⟨oc, od, .func (PySem.W.fnOf "sends" "sends" (defArgs s_sends) (defBody s_sends) (defScope s_sends) .none kV dc pm an cd ct), sl⟩) (c : PySem.W.codeIn K cd "sends" = true) (k : PySem.W.keepIn K (.ref f) = true) : DefIn K mg "sends" "sends" s_sends ["setting", "program", "k", "i", "j"] :=
  ⟨f, _, fun_mk (st := s_sends) l c k, PySem.W.mg_of X G a, ((fun_mk (st := s_sends) l c k).binds (ps := ["setting", "program", "k", "i", "j"]) fun _ _ _ _ _ _ us hl => match us, hl with | [_, _, _, _, _], _ => rfl)⟩
theorem mk_own_inputs (X : K.In h) (G : h.Ns mainGlobals mg) (a : PySem.W.nsIn K mainGlobals "own_inputs" = some (some (.ref f))) (l : K.lookup f = some ⟨oc, od, .func (PySem.W.fnOf "own_inputs" "own_inputs" (defArgs s_own_inputs) (defBody s_own_inputs) (defScope s_own_inputs) .none kV dc pm an cd ct), sl⟩) (c : PySem.W.codeIn K cd "own_inputs" = true) (k : PySem.W.keepIn K (.ref f) = true) : DefIn K mg "own_inputs" "own_inputs" s_own_inputs ["program", "inputs", "party"] :=
  ⟨f, _, fun_mk (st := s_own_inputs) l c k, PySem.W.mg_of X G a, ((fun_mk (st := s_own_inputs) l c k).binds (ps := ["program", "inputs", "party"]) fun _ _ _ _ _ _ us hl => match us, hl with | [_, _, _], _ => rfl)⟩
theorem mk_own_places (X : K.In h) (G : h.Ns mainGlobals mg) (a : PySem.W.nsIn K mainGlobals "own_places" = some (some (.ref f))) (l : K.lookup f = some ⟨oc, od, .func (PySem.W.fnOf "own_places" "own_places" (defArgs s_own_places) (defBody s_own_places) (defScope s_own_places) .none kV dc pm an cd ct), sl⟩) (c : PySem.W.codeIn K cd "own_places" = true) (k : PySem.W.keepIn K (.ref f) = true) : DefIn K mg "own_places" "own_places" s_own_places ["row", "some", "party"] :=
  ⟨f, _, fun_mk (st := s_own_places) l c k, PySem.W.mg_of X G a, ((fun_mk (st := s_own_places) l c k).binds (ps := ["row", "some", "party"]) fun _ _ _ _ _ _ us hl => match us, hl with | [_, _, _], _ => rfl)⟩
theorem mk_own_coins (X : K.In h) (G : h.Ns mainGlobals mg) (a : PySem.W.nsIn K mainGlobals "own_coins" = some (some (.ref f))) (l : K.lookup f = some ⟨oc, od, .func (PySem.W.fnOf "own_coins" "own_coins" (defArgs s_own_coins) (defBody s_own_coins) (defScope s_own_coins) .none kV dc pm an cd ct), sl⟩) (c : PySem.W.codeIn K cd "own_coins" = true) (k : PySem.W.keepIn K (.ref f) = true) : DefIn K mg "own_coins" "own_coins" s_own_coins ["setting", "program", "coins", "party"] :=
  ⟨f, _, fun_mk (st := s_own_coins) l c k, PySem.W.mg_of X G a, ((fun_mk (st := s_own_coins) l c k).binds (ps := ["setting", "program", "coins", "party"]) fun _ _ _ _ _ _ us hl => match us, hl with | [_, _, _, _], _ => rfl)⟩
theorem mk_sets_of (X : K.In h) (G : h.Ns mainGlobals mg) (a : PySem.W.nsIn K mainGlobals "sets_of" = some (some (.ref f))) (l : K.lookup f = some ⟨oc, od, .func (PySem.W.fnOf "sets_of" "sets_of" (defArgs s_sets_of) (defBody s_sets_of) (defScope s_sets_of) .none kV dc pm an cd ct), sl⟩) (c : PySem.W.codeIn K cd "sets_of" = true) (k : PySem.W.keepIn K (.ref f) = true) : DefIn K mg "sets_of" "sets_of" s_sets_of ["things", "many"] :=
  ⟨f, _, fun_mk (st := s_sets_of) l c k, PySem.W.mg_of X G a, ((fun_mk (st := s_sets_of) l c k).binds (ps := ["things", "many"]) fun _ _ _ _ _ _ us hl => match us, hl with | [_, _], _ => rfl)⟩
theorem mk_wrong (X : K.In h) (G : h.Ns mainGlobals mg) (a : PySem.W.nsIn K mainGlobals "wrong" = some (some (.ref f))) (l : K.lookup f = some ⟨oc, od, .func (PySem.W.fnOf "wrong" "wrong" (defArgs s_wrong) (defBody s_wrong) (defScope s_wrong) .none kV dc pm an cd ct), sl⟩) (c : PySem.W.codeIn K cd "wrong" = true) (k : PySem.W.keepIn K (.ref f) = true) : DefIn K mg "wrong" "wrong" s_wrong ["setting", "row", "poly"] :=
  ⟨f, _, fun_mk (st := s_wrong) l c k, PySem.W.mg_of X G a, ((fun_mk (st := s_wrong) l c k).binds (ps := ["setting", "row", "poly"]) fun _ _ _ _ _ _ us hl => match us, hl with | [_, _, _], _ => rfl)⟩
theorem mk_readings (X : K.In h) (G : h.Ns mainGlobals mg) (a : PySem.W.nsIn K mainGlobals "readings" = some (some (.ref f))) (l : K.lookup f = some ⟨oc, od, .func (PySem.W.fnOf "readings" "readings" (defArgs s_readings) (defBody s_readings) (defScope s_readings) .none kV dc pm an cd ct), sl⟩) (c : PySem.W.codeIn K cd "readings" = true) (k : PySem.W.keepIn K (.ref f) = true) : DefIn K mg "readings" "readings" s_readings ["setting", "row", "e"] :=
  ⟨f, _, fun_mk (st := s_readings) l c k, PySem.W.mg_of X G a, ((fun_mk (st := s_readings) l c k).binds (ps := ["setting", "row", "e"]) fun _ _ _ _ _ _ us hl => match us, hl with | [_, _, _], _ => rfl)⟩
theorem mk_most_wrong (X : K.In h) (G : h.Ns mainGlobals mg) (a : PySem.W.nsIn K mainGlobals "most_wrong" = some (some (.ref f))) (l : K.lookup f = some ⟨oc, od, .func (PySem.W.fnOf "most_wrong" "most_wrong" (defArgs s_most_wrong) (defBody s_most_wrong) (defScope s_most_wrong) .none kV dc pm an cd ct), sl⟩) (c : PySem.W.codeIn K cd "most_wrong" = true) (k : PySem.W.keepIn K (.ref f) = true) : DefIn K mg "most_wrong" "most_wrong" s_most_wrong ["setting"] :=
  ⟨f, _, fun_mk (st := s_most_wrong) l c k, PySem.W.mg_of X G a, ((fun_mk (st := s_most_wrong) l c k).binds (ps := ["setting"]) fun _ _ _ _ _ _ us hl => match us, hl with | [_], _ => rfl)⟩
theorem mk_read (X : K.In h) (G : h.Ns mainGlobals mg) (a : PySem.W.nsIn K mainGlobals "read" = some (some (.ref f))) (l : K.lookup f = some ⟨oc, od, .func (PySem.W.fnOf "read" "read" (defArgs s_read) (defBody s_read) (defScope s_read) .none kV dc pm an cd ct), sl⟩) (c : PySem.W.codeIn K cd "read" = true) (k : PySem.W.keepIn K (.ref f) = true) : DefIn K mg "read" "read" s_read ["setting", "row"] :=
  ⟨f, _, fun_mk (st := s_read) l c k, PySem.W.mg_of X G a, ((fun_mk (st := s_read) l c k).binds (ps := ["setting", "row"]) fun _ _ _ _ _ _ us hl => match us, hl with | [_, _], _ => rfl)⟩
theorem mk_by_rows (X : K.In h) (G : h.Ns mainGlobals mg) (a : PySem.W.nsIn K mainGlobals "by_rows" = some (some (.ref f))) (l : K.lookup f = some ⟨oc, od, .func (PySem.W.fnOf "by_rows" "by_rows" (defArgs s_by_rows) (defBody s_by_rows) (defScope s_by_rows) .none kV dc pm an cd ct), sl⟩) (c : PySem.W.codeIn K cd "by_rows" = true) (k : PySem.W.keepIn K (.ref f) = true) : DefIn K mg "by_rows" "by_rows" s_by_rows ["setting", "program", "number", "inputs", "coins"] :=
  ⟨f, _, fun_mk (st := s_by_rows) l c k, PySem.W.mg_of X G a, ((fun_mk (st := s_by_rows) l c k).binds (ps := ["setting", "program", "number", "inputs", "coins"]) fun _ _ _ _ _ _ us hl => match us, hl with | [_, _, _, _, _], _ => rfl)⟩
theorem mk_crew_of (X : K.In h) (G : h.Ns mainGlobals mg) (a : PySem.W.nsIn K mainGlobals "crew_of" = some (some (.ref f))) (l : K.lookup f = some ⟨oc, od, .func (PySem.W.fnOf "crew_of" "crew_of" (defArgs s_crew_of) (defBody s_crew_of) (defScope s_crew_of) .none kV dc pm an cd ct), sl⟩) (c : PySem.W.codeIn K cd "crew_of" = true) (k : PySem.W.keepIn K (.ref f) = true) : DefIn K mg "crew_of" "crew_of" s_crew_of ["setting", "program", "inputs", "coins"] :=
  ⟨f, _, fun_mk (st := s_crew_of) l c k, PySem.W.mg_of X G a, ((fun_mk (st := s_crew_of) l c k).binds (ps := ["setting", "program", "inputs", "coins"]) fun _ _ _ _ _ _ us hl => match us, hl with | [_, _, _, _], _ => rfl)⟩
theorem mk_first_letters (X : K.In h) (G : h.Ns mainGlobals mg) (a : PySem.W.nsIn K mainGlobals "first_letters" = some (some (.ref f))) (l : K.lookup f = some ⟨oc, od, .func (PySem.W.fnOf "first_letters" "first_letters" (defArgs s_first_letters) (defBody s_first_letters) (defScope s_first_letters) .none kV dc pm an cd ct), sl⟩) (c : PySem.W.codeIn K cd "first_letters" = true) (k : PySem.W.keepIn K (.ref f) = true) : DefIn K mg "first_letters" "first_letters" s_first_letters ["crew"] :=
  ⟨f, _, fun_mk (st := s_first_letters) l c k, PySem.W.mg_of X G a, ((fun_mk (st := s_first_letters) l c k).binds (ps := ["crew"]) fun _ _ _ _ _ _ us hl => match us, hl with | [_], _ => rfl)⟩
theorem mk__law_cell (X : K.In h) (G : h.Ns mainGlobals mg) (a : PySem.W.nsIn K mainGlobals "_law_cell" = some (some (.ref f))) (l : K.lookup f = some ⟨oc, od, .func (PySem.W.fnOf "_law_cell" "_law_cell" (defArgs s__law_cell) (defBody s__law_cell) (defScope s__law_cell) .none kV dc pm an cd ct), sl⟩) (c : PySem.W.codeIn K cd "_law_cell" = true) (k : PySem.W.keepIn K (.ref f) = true) : DefIn K mg "_law_cell" "_law_cell" s__law_cell ["_law_script", "_law_k"] :=
  ⟨f, _, fun_mk (st := s__law_cell) l c k, PySem.W.mg_of X G a, ((fun_mk (st := s__law_cell) l c k).binds (ps := ["_law_script", "_law_k"]) fun _ _ _ _ _ _ us hl => match us, hl with | [_, _], _ => rfl)⟩
theorem mk__law_digits (X : K.In h) (G : h.Ns mainGlobals mg) (a : PySem.W.nsIn K mainGlobals "_law_digits" = some (some (.ref f))) (l : K.lookup f = some ⟨oc, od, .func (PySem.W.fnOf "_law_digits" "_law_digits" (defArgs s__law_digits) (defBody s__law_digits) (defScope s__law_digits) .none kV dc pm an cd ct), sl⟩) (c : PySem.W.codeIn K cd "_law_digits" = true) (k : PySem.W.keepIn K (.ref f) = true) : DefIn K mg "_law_digits" "_law_digits" s__law_digits ["_law_script", "_law_first", "_law_last"] :=
  ⟨f, _, fun_mk (st := s__law_digits) l c k, PySem.W.mg_of X G a, ((fun_mk (st := s__law_digits) l c k).binds (ps := ["_law_script", "_law_first", "_law_last"]) fun _ _ _ _ _ _ us hl => match us, hl with | [_, _, _], _ => rfl)⟩
theorem mk__law_draw (X : K.In h) (G : h.Ns mainGlobals mg) (a : PySem.W.nsIn K mainGlobals "_law_draw" = some (some (.ref f))) (l : K.lookup f = some ⟨oc, od, .func (PySem.W.fnOf "_law_draw" "_law_draw" (defArgs s__law_draw) (defBody s__law_draw) (defScope s__law_draw) .none kV dc pm an cd ct), sl⟩) (c : PySem.W.codeIn K cd "_law_draw" = true) (k : PySem.W.keepIn K (.ref f) = true) : DefIn K mg "_law_draw" "_law_draw" s__law_draw ["_law_box", "_law_many"] :=
  ⟨f, _, fun_mk (st := s__law_draw) l c k, PySem.W.mg_of X G a, ((fun_mk (st := s__law_draw) l c k).binds (ps := ["_law_box", "_law_many"]) fun _ _ _ _ _ _ us hl => match us, hl with | [_, _], _ => rfl)⟩
theorem mk__law_pick (X : K.In h) (G : h.Ns mainGlobals mg) (a : PySem.W.nsIn K mainGlobals "_law_pick" = some (some (.ref f))) (l : K.lookup f = some ⟨oc, od, .func (PySem.W.fnOf "_law_pick" "_law_pick" (defArgs s__law_pick) (defBody s__law_pick) (defScope s__law_pick) .none kV dc pm an cd ct), sl⟩) (c : PySem.W.codeIn K cd "_law_pick" = true) (k : PySem.W.keepIn K (.ref f) = true) : DefIn K mg "_law_pick" "_law_pick" s__law_pick ["_law_box", "_law_things"] :=
  ⟨f, _, fun_mk (st := s__law_pick) l c k, PySem.W.mg_of X G a, ((fun_mk (st := s__law_pick) l c k).binds (ps := ["_law_box", "_law_things"]) fun _ _ _ _ _ _ us hl => match us, hl with | [_, _], _ => rfl)⟩
theorem mk__law_number (X : K.In h) (G : h.Ns mainGlobals mg) (a : PySem.W.nsIn K mainGlobals "_law_number" = some (some (.ref f))) (l : K.lookup f = some ⟨oc, od, .func (PySem.W.fnOf "_law_number" "_law_number" (defArgs s__law_number) (defBody s__law_number) (defScope s__law_number) .none kV dc pm an cd ct), sl⟩) (c : PySem.W.codeIn K cd "_law_number" = true) (k : PySem.W.keepIn K (.ref f) = true) : DefIn K mg "_law_number" "_law_number" s__law_number ["_law_box", "_law_p"] :=
  ⟨f, _, fun_mk (st := s__law_number) l c k, PySem.W.mg_of X G a, ((fun_mk (st := s__law_number) l c k).binds (ps := ["_law_box", "_law_p"]) fun _ _ _ _ _ _ us hl => match us, hl with | [_, _], _ => rfl)⟩
theorem mk__law_numbers (X : K.In h) (G : h.Ns mainGlobals mg) (a : PySem.W.nsIn K mainGlobals "_law_numbers" = some (some (.ref f))) (l : K.lookup f = some ⟨oc, od, .func (PySem.W.fnOf "_law_numbers" "_law_numbers" (defArgs s__law_numbers) (defBody s__law_numbers) (defScope s__law_numbers) .none kV dc pm an cd ct), sl⟩) (c : PySem.W.codeIn K cd "_law_numbers" = true) (k : PySem.W.keepIn K (.ref f) = true) : DefIn K mg "_law_numbers" "_law_numbers" s__law_numbers ["_law_box", "_law_p", "_law_many"] :=
  ⟨f, _, fun_mk (st := s__law_numbers) l c k, PySem.W.mg_of X G a, ((fun_mk (st := s__law_numbers) l c k).binds (ps := ["_law_box", "_law_p", "_law_many"]) fun _ _ _ _ _ _ us hl => match us, hl with | [_, _, _], _ => rfl)⟩
theorem mk__law_program (X : K.In h) (G : h.Ns mainGlobals mg) (a : PySem.W.nsIn K mainGlobals "_law_program" = some (some (.ref f))) (l : K.lookup f = some ⟨oc, od, .func (PySem.W.fnOf "_law_program" "_law_program" (defArgs s__law_program) (defBody s__law_program) (defScope s__law_program) .none kV dc pm an cd ct), sl⟩) (c : PySem.W.codeIn K cd "_law_program" = true) (k : PySem.W.keepIn K (.ref f) = true) : DefIn K mg "_law_program" "_law_program" s__law_program ["_law_box", "_law_setting", "_law_most", "_law_turns"] :=
  ⟨f, _, fun_mk (st := s__law_program) l c k, PySem.W.mg_of X G a, ((fun_mk (st := s__law_program) l c k).binds (ps := ["_law_box", "_law_setting", "_law_most", "_law_turns"]) fun _ _ _ _ _ _ us hl => match us, hl with | [_, _, _, _], _ => rfl)⟩
theorem mk__law_inputs (X : K.In h) (G : h.Ns mainGlobals mg) (a : PySem.W.nsIn K mainGlobals "_law_inputs" = some (some (.ref f))) (l : K.lookup f = some ⟨oc, od, .func (PySem.W.fnOf "_law_inputs" "_law_inputs" (defArgs s__law_inputs) (defBody s__law_inputs) (defScope s__law_inputs) .none kV dc pm an cd ct), sl⟩) (c : PySem.W.codeIn K cd "_law_inputs" = true) (k : PySem.W.keepIn K (.ref f) = true) : DefIn K mg "_law_inputs" "_law_inputs" s__law_inputs ["_law_box", "_law_setting", "_law_program_here"] :=
  ⟨f, _, fun_mk (st := s__law_inputs) l c k, PySem.W.mg_of X G a, ((fun_mk (st := s__law_inputs) l c k).binds (ps := ["_law_box", "_law_setting", "_law_program_here"]) fun _ _ _ _ _ _ us hl => match us, hl with | [_, _, _], _ => rfl)⟩
theorem mk__law_values (X : K.In h) (G : h.Ns mainGlobals mg) (a : PySem.W.nsIn K mainGlobals "_law_values" = some (some (.ref f))) (l : K.lookup f = some ⟨oc, od, .func (PySem.W.fnOf "_law_values" "_law_values" (defArgs s__law_values) (defBody s__law_values) (defScope s__law_values) .none kV dc pm an cd ct), sl⟩) (c : PySem.W.codeIn K cd "_law_values" = true) (k : PySem.W.keepIn K (.ref f) = true) : DefIn K mg "_law_values" "_law_values" s__law_values ["_law_setting", "_law_program_here", "_law_inputs_here"] :=
  ⟨f, _, fun_mk (st := s__law_values) l c k, PySem.W.mg_of X G a, ((fun_mk (st := s__law_values) l c k).binds (ps := ["_law_setting", "_law_program_here", "_law_inputs_here"]) fun _ _ _ _ _ _ us hl => match us, hl with | [_, _, _], _ => rfl)⟩
theorem mk__law_shown (X : K.In h) (G : h.Ns mainGlobals mg) (a : PySem.W.nsIn K mainGlobals "_law_shown" = some (some (.ref f))) (l : K.lookup f = some ⟨oc, od, .func (PySem.W.fnOf "_law_shown" "_law_shown" (defArgs s__law_shown) (defBody s__law_shown) (defScope s__law_shown) .none kV dc pm an cd ct), sl⟩) (c : PySem.W.codeIn K cd "_law_shown" = true) (k : PySem.W.keepIn K (.ref f) = true) : DefIn K mg "_law_shown" "_law_shown" s__law_shown ["_law_setting", "_law_program_here", "_law_inputs_here"] :=
  ⟨f, _, fun_mk (st := s__law_shown) l c k, PySem.W.mg_of X G a, ((fun_mk (st := s__law_shown) l c k).binds (ps := ["_law_setting", "_law_program_here", "_law_inputs_here"]) fun _ _ _ _ _ _ us hl => match us, hl with | [_, _, _], _ => rfl)⟩
theorem mk__law_coins_of (X : K.In h) (G : h.Ns mainGlobals mg) (a : PySem.W.nsIn K mainGlobals "_law_coins_of" = some (some (.ref f))) (l : K.lookup f = some ⟨oc, od, .func (PySem.W.fnOf "_law_coins_of" "_law_coins_of" (defArgs s__law_coins_of) (defBody s__law_coins_of) (defScope s__law_coins_of) .none kV dc pm an cd ct), sl⟩) (c : PySem.W.codeIn K cd "_law_coins_of" = true) (k : PySem.W.keepIn K (.ref f) = true) : DefIn K mg "_law_coins_of" "_law_coins_of" s__law_coins_of ["_law_setting", "_law_program_here"] :=
  ⟨f, _, fun_mk (st := s__law_coins_of) l c k, PySem.W.mg_of X G a, ((fun_mk (st := s__law_coins_of) l c k).binds (ps := ["_law_setting", "_law_program_here"]) fun _ _ _ _ _ _ us hl => match us, hl with | [_, _], _ => rfl)⟩
theorem mk__law_coins (X : K.In h) (G : h.Ns mainGlobals mg) (a : PySem.W.nsIn K mainGlobals "_law_coins" = some (some (.ref f))) (l : K.lookup f = some ⟨oc, od, .func (PySem.W.fnOf "_law_coins" "_law_coins" (defArgs s__law_coins) (defBody s__law_coins) (defScope s__law_coins) .none kV dc pm an cd ct), sl⟩) (c : PySem.W.codeIn K cd "_law_coins" = true) (k : PySem.W.keepIn K (.ref f) = true) : DefIn K mg "_law_coins" "_law_coins" s__law_coins ["_law_box", "_law_setting", "_law_program_here"] :=
  ⟨f, _, fun_mk (st := s__law_coins) l c k, PySem.W.mg_of X G a, ((fun_mk (st := s__law_coins) l c k).binds (ps := ["_law_box", "_law_setting", "_law_program_here"]) fun _ _ _ _ _ _ us hl => match us, hl with | [_, _, _], _ => rfl)⟩
theorem mk_law (X : K.In h) (G : h.Ns mainGlobals mg) (a : PySem.W.nsIn K mainGlobals "law" = some (some (.ref f))) (l : K.lookup f = some ⟨oc, od, .func (PySem.W.fnOf "law" "law" (defArgs s_law) (defBody s_law) (defScope s_law) .none kV dc pm an cd ct), sl⟩) (c : PySem.W.codeIn K cd "law" = true) (k : PySem.W.keepIn K (.ref f) = true) : DefIn K mg "law" "law" s_law ["_law_script"] :=
  ⟨f, _, fun_mk (st := s_law) l c k, PySem.W.mg_of X G a, ((fun_mk (st := s_law) l c k).binds (ps := ["_law_script"]) fun _ _ _ _ _ _ us hl => match us, hl with | [_], _ => rfl)⟩
theorem mk_shares_sharing (X : K.In h) (G : h.Ns mainGlobals mg) (a : PySem.W.nsIn K mainGlobals "shares_sharing" = some (some (.ref f))) (l : K.lookup f = some ⟨oc, od, .func (PySem.W.fnOf "shares" "shares" (defArgs s_shares) (defBody s_shares) (defScope s_shares) .none kV dc pm an cd ct), sl⟩) (c : PySem.W.codeIn K cd "shares" = true) (k : PySem.W.keepIn K (.ref f) = true) : DefIn K mg "shares_sharing" "shares" s_shares ["setting", "s", "coins"] :=
  ⟨f, _, fun_mk (st := s_shares) l c k, PySem.W.mg_of X G a, ((fun_mk (st := s_shares) l c k).binds (ps := ["setting", "s", "coins"]) fun _ _ _ _ _ _ us hl => match us, hl with | [_, _, _], _ => rfl)⟩
theorem mk_read_reading (X : K.In h) (G : h.Ns mainGlobals mg) (a : PySem.W.nsIn K mainGlobals "read_reading" = some (some (.ref f))) (l : K.lookup f = some ⟨oc, od, .func (PySem.W.fnOf "read" "read" (defArgs s_read) (defBody s_read) (defScope s_read) .none kV dc pm an cd ct), sl⟩) (c : PySem.W.codeIn K cd "read" = true) (k : PySem.W.keepIn K (.ref f) = true) : DefIn K mg "read_reading" "read" s_read ["setting", "row"] :=
  ⟨f, _, fun_mk (st := s_read) l c k, PySem.W.mg_of X G a, ((fun_mk (st := s_read) l c k).binds (ps := ["setting", "row"]) fun _ _ _ _ _ _ us hl => match us, hl with | [_, _], _ => rfl)⟩
theorem mk_Party__all_came (aC : PySem.W.nsIn K mainGlobals "Party" = some (some (.ref cP))) (cl : Cls K cP) (a : PySem.W.findIn K (.ref cP) "_all_came" = some (some (.ref f))) (i : PySem.W.isFn K (.ref f) = true) (l : K.lookup f = some ⟨oc, od, .func (PySem.W.fnOf "_all_came" "Party._all_came" (defArgs s_Party__all_came) (defBody s_Party__all_came) (defScope s_Party__all_came) .none kV dc pm an cd ct), sl⟩) (c : PySem.W.codeIn K cd "Party._all_came" = true) (k : PySem.W.keepIn K (.ref f) = true) : MethIn K cP "_all_came" "Party._all_came" s_Party__all_came ["self", "k"] :=
  ⟨f, _, fun_mk (st := s_Party__all_came) l c k, cl, ⟨a, i, k⟩, ((fun_mk (st := s_Party__all_came) l c k).binds (ps := ["self", "k"]) fun _ _ _ _ _ _ us hl => match us, hl with | [_, _], _ => rfl)⟩
theorem mk_Party__told (aC : PySem.W.nsIn K mainGlobals "Party" = some (some (.ref cP))) (cl : Cls K cP) (a : PySem.W.findIn K (.ref cP) "_told" = some (some (.ref f))) (i : PySem.W.isFn K (.ref f) = true) (l : K.lookup f = some ⟨oc, od, .func (PySem.W.fnOf "_told" "Party._told" (defArgs s_Party__told) (defBody s_Party__told) (defScope s_Party__told) .none kV dc pm an cd ct), sl⟩) (c : PySem.W.codeIn K cd "Party._told" = true) (k : PySem.W.keepIn K (.ref f) = true) : MethIn K cP "_told" "Party._told" s_Party__told ["self", "k", "mine"] :=
  ⟨f, _, fun_mk (st := s_Party__told) l c k, cl, ⟨a, i, k⟩, ((fun_mk (st := s_Party__told) l c k).binds (ps := ["self", "k", "mine"]) fun _ _ _ _ _ _ us hl => match us, hl with | [_, _, _], _ => rfl)⟩
theorem mk_Party__needed (aC : PySem.W.nsIn K mainGlobals "Party" = some (some (.ref cP))) (cl : Cls K cP) (a : PySem.W.findIn K (.ref cP) "_needed" = some (some (.ref f))) (i : PySem.W.isFn K (.ref f) = true) (l : K.lookup f = some ⟨oc, od, .func (PySem.W.fnOf "_needed" "Party._needed" (defArgs s_Party__needed) (defBody s_Party__needed) (defScope s_Party__needed) .none kV dc pm an cd ct), sl⟩) (c : PySem.W.codeIn K cd "Party._needed" = true) (k : PySem.W.keepIn K (.ref f) = true) : MethIn K cP "_needed" "Party._needed" s_Party__needed ["self", "k", "found"] :=
  ⟨f, _, fun_mk (st := s_Party__needed) l c k, cl, ⟨a, i, k⟩, ((fun_mk (st := s_Party__needed) l c k).binds (ps := ["self", "k", "found"]) fun _ _ _ _ _ _ us hl => match us, hl with | [_, _, _], _ => rfl)⟩
theorem mk_Party__poly (aC : PySem.W.nsIn K mainGlobals "Party" = some (some (.ref cP))) (cl : Cls K cP) (a : PySem.W.findIn K (.ref cP) "_poly" = some (some (.ref f))) (i : PySem.W.isFn K (.ref f) = true) (l : K.lookup f = some ⟨oc, od, .func (PySem.W.fnOf "_poly" "Party._poly" (defArgs s_Party__poly) (defBody s_Party__poly) (defScope s_Party__poly) .none kV dc pm an cd ct), sl⟩) (c : PySem.W.codeIn K cd "Party._poly" = true) (k : PySem.W.keepIn K (.ref f) = true) : MethIn K cP "_poly" "Party._poly" s_Party__poly ["self", "k", "some"] :=
  ⟨f, _, fun_mk (st := s_Party__poly) l c k, cl, ⟨a, i, k⟩, ((fun_mk (st := s_Party__poly) l c k).binds (ps := ["self", "k", "some"]) fun _ _ _ _ _ _ us hl => match us, hl with | [_, _, _], _ => rfl)⟩
theorem mk_Party__share (aC : PySem.W.nsIn K mainGlobals "Party" = some (some (.ref cP))) (cl : Cls K cP) (a : PySem.W.findIn K (.ref cP) "_share" = some (some (.ref f))) (i : PySem.W.isFn K (.ref f) = true) (l : K.lookup f = some ⟨oc, od, .func (PySem.W.fnOf "_share" "Party._share" (defArgs s_Party__share) (defBody s_Party__share) (defScope s_Party__share) .none kV dc pm an cd ct), sl⟩) (c : PySem.W.codeIn K cd "Party._share" = true) (k : PySem.W.keepIn K (.ref f) = true) : MethIn K cP "_share" "Party._share" s_Party__share ["self", "k", "found"] :=
  ⟨f, _, fun_mk (st := s_Party__share) l c k, cl, ⟨a, i, k⟩, ((fun_mk (st := s_Party__share) l c k).binds (ps := ["self", "k", "found"]) fun _ _ _ _ _ _ us hl => match us, hl with | [_, _, _], _ => rfl)⟩
theorem mk_Party__reckoned (aC : PySem.W.nsIn K mainGlobals "Party" = some (some (.ref cP))) (cl : Cls K cP) (a : PySem.W.findIn K (.ref cP) "_reckoned" = some (some (.ref f))) (i : PySem.W.isFn K (.ref f) = true) (l : K.lookup f = some ⟨oc, od, .func (PySem.W.fnOf "_reckoned" "Party._reckoned" (defArgs s_Party__reckoned) (defBody s_Party__reckoned) (defScope s_Party__reckoned) .none kV dc pm an cd ct), sl⟩) (c : PySem.W.codeIn K cd "Party._reckoned" = true) (k : PySem.W.keepIn K (.ref f) = true) : MethIn K cP "_reckoned" "Party._reckoned" s_Party__reckoned ["self", "row", "some"] :=
  ⟨f, _, fun_mk (st := s_Party__reckoned) l c k, cl, ⟨a, i, k⟩, ((fun_mk (st := s_Party__reckoned) l c k).binds (ps := ["self", "row", "some"]) fun _ _ _ _ _ _ us hl => match us, hl with | [_, _, _], _ => rfl)⟩
theorem mk_Party__joined (aC : PySem.W.nsIn K mainGlobals "Party" = some (some (.ref cP))) (cl : Cls K cP) (a : PySem.W.findIn K (.ref cP) "_joined" = some (some (.ref f))) (i : PySem.W.isFn K (.ref f) = true) (l : K.lookup f = some ⟨oc, od, .func (PySem.W.fnOf "_joined" "Party._joined" (defArgs s_Party__joined) (defBody s_Party__joined) (defScope s_Party__joined) .none kV dc pm an cd ct), sl⟩) (c : PySem.W.codeIn K cd "Party._joined" = true) (k : PySem.W.keepIn K (.ref f) = true) : MethIn K cP "_joined" "Party._joined" s_Party__joined ["self", "k", "some"] :=
  ⟨f, _, fun_mk (st := s_Party__joined) l c k, cl, ⟨a, i, k⟩, ((fun_mk (st := s_Party__joined) l c k).binds (ps := ["self", "k", "some"]) fun _ _ _ _ _ _ us hl => match us, hl with | [_, _, _], _ => rfl)⟩
theorem mk_Party__letters (aC : PySem.W.nsIn K mainGlobals "Party" = some (some (.ref cP))) (cl : Cls K cP) (a : PySem.W.findIn K (.ref cP) "_letters" = some (some (.ref f))) (i : PySem.W.isFn K (.ref f) = true) (l : K.lookup f = some ⟨oc, od, .func (PySem.W.fnOf "_letters" "Party._letters" (defArgs s_Party__letters) (defBody s_Party__letters) (defScope s_Party__letters) .none kV dc pm an cd ct), sl⟩) (c : PySem.W.codeIn K cd "Party._letters" = true) (k : PySem.W.keepIn K (.ref f) = true) : MethIn K cP "_letters" "Party._letters" s_Party__letters ["self", "k", "found"] :=
  ⟨f, _, fun_mk (st := s_Party__letters) l c k, cl, ⟨a, i, k⟩, ((fun_mk (st := s_Party__letters) l c k).binds (ps := ["self", "k", "found"]) fun _ _ _ _ _ _ us hl => match us, hl with | [_, _, _], _ => rfl)⟩
theorem mk_Party__is_letter (aC : PySem.W.nsIn K mainGlobals "Party" = some (some (.ref cP))) (cl : Cls K cP) (a : PySem.W.findIn K (.ref cP) "_is_letter" = some (some (.ref f))) (i : PySem.W.isFn K (.ref f) = true) (l : K.lookup f = some ⟨oc, od, .func (PySem.W.fnOf "_is_letter" "Party._is_letter" (defArgs s_Party__is_letter) (defBody s_Party__is_letter) (defScope s_Party__is_letter) .none kV dc pm an cd ct), sl⟩) (c : PySem.W.codeIn K cd "Party._is_letter" = true) (k : PySem.W.keepIn K (.ref f) = true) : MethIn K cP "_is_letter" "Party._is_letter" s_Party__is_letter ["self", "letter"] :=
  ⟨f, _, fun_mk (st := s_Party__is_letter) l c k, cl, ⟨a, i, k⟩, ((fun_mk (st := s_Party__is_letter) l c k).binds (ps := ["self", "letter"]) fun _ _ _ _ _ _ us hl => match us, hl with | [_, _], _ => rfl)⟩
theorem mk_Party_take (aC : PySem.W.nsIn K mainGlobals "Party" = some (some (.ref cP))) (cl : Cls K cP) (a : PySem.W.findIn K (.ref cP) "take" = some (some (.ref f))) (i : PySem.W.isFn K (.ref f) = true) (l : K.lookup f = some ⟨oc, od, .func (PySem.W.fnOf "take" "Party.take" (defArgs s_Party_take) (defBody s_Party_take) (defScope s_Party_take) .none kV dc pm an cd ct), sl⟩) (c : PySem.W.codeIn K cd "Party.take" = true) (k : PySem.W.keepIn K (.ref f) = true) : MethIn K cP "take" "Party.take" s_Party_take ["self", "letter"] :=
  ⟨f, _, fun_mk (st := s_Party_take) l c k, cl, ⟨a, i, k⟩, ((fun_mk (st := s_Party_take) l c k).binds (ps := ["self", "letter"]) fun _ _ _ _ _ _ us hl => match us, hl with | [_, _], _ => rfl)⟩
theorem mk_Party_branch (aC : PySem.W.nsIn K mainGlobals "Party" = some (some (.ref cP))) (cl : Cls K cP) (a : PySem.W.findIn K (.ref cP) "branch" = some (some (.ref f))) (i : PySem.W.isFn K (.ref f) = true) (l : K.lookup f = some ⟨oc, od, .func (PySem.W.fnOf "branch" "Party.branch" (defArgs s_Party_branch) (defBody s_Party_branch) (defScope s_Party_branch) .none kV dc pm an cd ct), sl⟩) (c : PySem.W.codeIn K cd "Party.branch" = true) (k : PySem.W.keepIn K (.ref f) = true) : MethIn K cP "branch" "Party.branch" s_Party_branch ["self"] :=
  ⟨f, _, fun_mk (st := s_Party_branch) l c k, cl, ⟨a, i, k⟩, ((fun_mk (st := s_Party_branch) l c k).binds (ps := ["self"]) fun _ _ _ _ _ _ us hl => match us, hl with | [_], _ => rfl)⟩
theorem mk_Desk_parties (aC : PySem.W.nsIn K mainGlobals "Desk" = some (some (.ref cD))) (cl : Cls K cD) (a : PySem.W.findIn K (.ref cD) "parties" = some (some (.ref f))) (i : PySem.W.isFn K (.ref f) = true) (l : K.lookup f = some ⟨oc, od, .func (PySem.W.fnOf "parties" "Desk.parties" (defArgs s_Desk_parties) (defBody s_Desk_parties) (defScope s_Desk_parties) .none kV dc pm an cd ct), sl⟩) (c : PySem.W.codeIn K cd "Desk.parties" = true) (k : PySem.W.keepIn K (.ref f) = true) : MethIn K cD "parties" "Desk.parties" s_Desk_parties ["self"] :=
  ⟨f, _, fun_mk (st := s_Desk_parties) l c k, cl, ⟨a, i, k⟩, ((fun_mk (st := s_Desk_parties) l c k).binds (ps := ["self"]) fun _ _ _ _ _ _ us hl => match us, hl with | [_], _ => rfl)⟩
theorem mk_Desk__letter_at (aC : PySem.W.nsIn K mainGlobals "Desk" = some (some (.ref cD))) (cl : Cls K cD) (a : PySem.W.findIn K (.ref cD) "_letter_at" = some (some (.ref f))) (i : PySem.W.isFn K (.ref f) = true) (l : K.lookup f = some ⟨oc, od, .func (PySem.W.fnOf "_letter_at" "Desk._letter_at" (defArgs s_Desk__letter_at) (defBody s_Desk__letter_at) (defScope s_Desk__letter_at) .none kV dc pm an cd ct), sl⟩) (c : PySem.W.codeIn K cd "Desk._letter_at" = true) (k : PySem.W.keepIn K (.ref f) = true) : MethIn K cD "_letter_at" "Desk._letter_at" s_Desk__letter_at ["self", "place"] :=
  ⟨f, _, fun_mk (st := s_Desk__letter_at) l c k, cl, ⟨a, i, k⟩, ((fun_mk (st := s_Desk__letter_at) l c k).binds (ps := ["self", "place"]) fun _ _ _ _ _ _ us hl => match us, hl with | [_, _], _ => rfl)⟩
theorem mk_Desk__begin (aC : PySem.W.nsIn K mainGlobals "Desk" = some (some (.ref cD))) (cl : Cls K cD) (a : PySem.W.findIn K (.ref cD) "_begin" = some (some (.ref f))) (i : PySem.W.isFn K (.ref f) = true) (l : K.lookup f = some ⟨oc, od, .func (PySem.W.fnOf "_begin" "Desk._begin" (defArgs s_Desk__begin) (defBody s_Desk__begin) (defScope s_Desk__begin) .none kV dc pm an cd ct), sl⟩) (c : PySem.W.codeIn K cd "Desk._begin" = true) (k : PySem.W.keepIn K (.ref f) = true) : MethIn K cD "_begin" "Desk._begin" s_Desk__begin ["self", "deed"] :=
  ⟨f, _, fun_mk (st := s_Desk__begin) l c k, cl, ⟨a, i, k⟩, ((fun_mk (st := s_Desk__begin) l c k).binds (ps := ["self", "deed"]) fun _ _ _ _ _ _ us hl => match us, hl with | [_, _], _ => rfl)⟩
theorem mk_Desk__hand (aC : PySem.W.nsIn K mainGlobals "Desk" = some (some (.ref cD))) (cl : Cls K cD) (a : PySem.W.findIn K (.ref cD) "_hand" = some (some (.ref f))) (i : PySem.W.isFn K (.ref f) = true) (l : K.lookup f = some ⟨oc, od, .func (PySem.W.fnOf "_hand" "Desk._hand" (defArgs s_Desk__hand) (defBody s_Desk__hand) (defScope s_Desk__hand) .none kV dc pm an cd ct), sl⟩) (c : PySem.W.codeIn K cd "Desk._hand" = true) (k : PySem.W.keepIn K (.ref f) = true) : MethIn K cD "_hand" "Desk._hand" s_Desk__hand ["self", "place"] :=
  ⟨f, _, fun_mk (st := s_Desk__hand) l c k, cl, ⟨a, i, k⟩, ((fun_mk (st := s_Desk__hand) l c k).binds (ps := ["self", "place"]) fun _ _ _ _ _ _ us hl => match us, hl with | [_, _], _ => rfl)⟩
theorem mk_Desk_hand (aC : PySem.W.nsIn K mainGlobals "Desk" = some (some (.ref cD))) (cl : Cls K cD) (a : PySem.W.findIn K (.ref cD) "hand" = some (some (.ref f))) (i : PySem.W.isFn K (.ref f) = true) (l : K.lookup f = some ⟨oc, od, .func (PySem.W.fnOf "hand" "Desk.hand" (defArgs s_Desk_hand) (defBody s_Desk_hand) (defScope s_Desk_hand) .none kV dc pm an cd ct), sl⟩) (c : PySem.W.codeIn K cd "Desk.hand" = true) (k : PySem.W.keepIn K (.ref f) = true) : MethIn K cD "hand" "Desk.hand" s_Desk_hand ["self", "place"] :=
  ⟨f, _, fun_mk (st := s_Desk_hand) l c k, cl, ⟨a, i, k⟩, ((fun_mk (st := s_Desk_hand) l c k).binds (ps := ["self", "place"]) fun _ _ _ _ _ _ us hl => match us, hl with | [_, _], _ => rfl)⟩
theorem mk_Desk_lie (aC : PySem.W.nsIn K mainGlobals "Desk" = some (some (.ref cD))) (cl : Cls K cD) (a : PySem.W.findIn K (.ref cD) "lie" = some (some (.ref f))) (i : PySem.W.isFn K (.ref f) = true) (l : K.lookup f = some ⟨oc, od, .func (PySem.W.fnOf "lie" "Desk.lie" (defArgs s_Desk_lie) (defBody s_Desk_lie) (defScope s_Desk_lie) .none kV dc pm an cd ct), sl⟩) (c : PySem.W.codeIn K cd "Desk.lie" = true) (k : PySem.W.keepIn K (.ref f) = true) : MethIn K cD "lie" "Desk.lie" s_Desk_lie ["self", "place", "x"] :=
  ⟨f, _, fun_mk (st := s_Desk_lie) l c k, cl, ⟨a, i, k⟩, ((fun_mk (st := s_Desk_lie) l c k).binds (ps := ["self", "place", "x"]) fun _ _ _ _ _ _ us hl => match us, hl with | [_, _, _], _ => rfl)⟩
theorem mk_Party_number (aC : PySem.W.nsIn K mainGlobals "Party" = some (some (.ref cP))) (cl : Cls K cP) (a : PySem.W.findIn K (.ref cP) "number" = some (some (.ref q))) (g : PySem.W.specialIn K (.ref q) "__get__" = some (some (.builtin "property.__get__"))) (t : PySem.W.takesIn K (.ref q) = some true) (r : PySem.W.recIn K q "property" = some (.ref f :: rest)) (l : K.lookup f = some ⟨oc, od, .func (PySem.W.fnOf "number" "Party.number" (defArgs s_Party_number) (defBody s_Party_number) (defScope s_Party_number) .none kV dc pm an cd ct), sl⟩) (c : PySem.W.codeIn K cd "Party.number" = true) (k : PySem.W.keepIn K (.ref f) = true) : PropIn K cP "number" "Party.number" s_Party_number ["self"] :=
  ⟨q, f, _, fun_mk (st := s_Party_number) l c k, cl, ⟨a, g, t, rest, r⟩, ((fun_mk (st := s_Party_number) l c k).binds (ps := ["self"]) fun _ _ _ _ _ _ us hl => match us, hl with | [_], _ => rfl)⟩
theorem mk_Party_shares (aC : PySem.W.nsIn K mainGlobals "Party" = some (some (.ref cP))) (cl : Cls K cP) (a : PySem.W.findIn K (.ref cP) "shares" = some (some (.ref q))) (g : PySem.W.specialIn K (.ref q) "__get__" = some (some (.builtin "property.__get__"))) (t : PySem.W.takesIn K (.ref q) = some true) (r : PySem.W.recIn K q "property" = some (.ref f :: rest)) (l : K.lookup f = some ⟨oc, od, .func (PySem.W.fnOf "shares" "Party.shares" (defArgs s_Party_shares) (defBody s_Party_shares) (defScope s_Party_shares) .none kV dc pm an cd ct), sl⟩) (c : PySem.W.codeIn K cd "Party.shares" = true) (k : PySem.W.keepIn K (.ref f) = true) : PropIn K cP "shares" "Party.shares" s_Party_shares ["self"] :=
  ⟨q, f, _, fun_mk (st := s_Party_shares) l c k, cl, ⟨a, g, t, rest, r⟩, ((fun_mk (st := s_Party_shares) l c k).binds (ps := ["self"]) fun _ _ _ _ _ _ us hl => match us, hl with | [_], _ => rfl)⟩
theorem mk_Party_made (aC : PySem.W.nsIn K mainGlobals "Party" = some (some (.ref cP))) (cl : Cls K cP) (a : PySem.W.findIn K (.ref cP) "made" = some (some (.ref q))) (g : PySem.W.specialIn K (.ref q) "__get__" = some (some (.builtin "property.__get__"))) (t : PySem.W.takesIn K (.ref q) = some true) (r : PySem.W.recIn K q "property" = some (.ref f :: rest)) (l : K.lookup f = some ⟨oc, od, .func (PySem.W.fnOf "made" "Party.made" (defArgs s_Party_made) (defBody s_Party_made) (defScope s_Party_made) .none kV dc pm an cd ct), sl⟩) (c : PySem.W.codeIn K cd "Party.made" = true) (k : PySem.W.keepIn K (.ref f) = true) : PropIn K cP "made" "Party.made" s_Party_made ["self"] :=
  ⟨q, f, _, fun_mk (st := s_Party_made) l c k, cl, ⟨a, g, t, rest, r⟩, ((fun_mk (st := s_Party_made) l c k).binds (ps := ["self"]) fun _ _ _ _ _ _ us hl => match us, hl with | [_], _ => rfl)⟩
theorem mk_Party_read (aC : PySem.W.nsIn K mainGlobals "Party" = some (some (.ref cP))) (cl : Cls K cP) (a : PySem.W.findIn K (.ref cP) "read" = some (some (.ref q))) (g : PySem.W.specialIn K (.ref q) "__get__" = some (some (.builtin "property.__get__"))) (t : PySem.W.takesIn K (.ref q) = some true) (r : PySem.W.recIn K q "property" = some (.ref f :: rest)) (l : K.lookup f = some ⟨oc, od, .func (PySem.W.fnOf "read" "Party.read" (defArgs s_Party_read) (defBody s_Party_read) (defScope s_Party_read) .none kV dc pm an cd ct), sl⟩) (c : PySem.W.codeIn K cd "Party.read" = true) (k : PySem.W.keepIn K (.ref f) = true) : PropIn K cP "read" "Party.read" s_Party_read ["self"] :=
  ⟨q, f, _, fun_mk (st := s_Party_read) l c k, cl, ⟨a, g, t, rest, r⟩, ((fun_mk (st := s_Party_read) l c k).binds (ps := ["self"]) fun _ _ _ _ _ _ us hl => match us, hl with | [_], _ => rfl)⟩
theorem mk_Desk_on_the_way (aC : PySem.W.nsIn K mainGlobals "Desk" = some (some (.ref cD))) (cl : Cls K cD) (a : PySem.W.findIn K (.ref cD) "on_the_way" = some (some (.ref q))) (g : PySem.W.specialIn K (.ref q) "__get__" = some (some (.builtin "property.__get__"))) (t : PySem.W.takesIn K (.ref q) = some true) (r : PySem.W.recIn K q "property" = some (.ref f :: rest)) (l : K.lookup f = some ⟨oc, od, .func (PySem.W.fnOf "on_the_way" "Desk.on_the_way" (defArgs s_Desk_on_the_way) (defBody s_Desk_on_the_way) (defScope s_Desk_on_the_way) .none kV dc pm an cd ct), sl⟩) (c : PySem.W.codeIn K cd "Desk.on_the_way" = true) (k : PySem.W.keepIn K (.ref f) = true) : PropIn K cD "on_the_way" "Desk.on_the_way" s_Desk_on_the_way ["self"] :=
  ⟨q, f, _, fun_mk (st := s_Desk_on_the_way) l c k, cl, ⟨a, g, t, rest, r⟩, ((fun_mk (st := s_Desk_on_the_way) l c k).binds (ps := ["self"]) fun _ _ _ _ _ _ us hl => match us, hl with | [_], _ => rfl)⟩
theorem mk_Desk_done (aC : PySem.W.nsIn K mainGlobals "Desk" = some (some (.ref cD))) (cl : Cls K cD) (a : PySem.W.findIn K (.ref cD) "done" = some (some (.ref q))) (g : PySem.W.specialIn K (.ref q) "__get__" = some (some (.builtin "property.__get__"))) (t : PySem.W.takesIn K (.ref q) = some true) (r : PySem.W.recIn K q "property" = some (.ref f :: rest)) (l : K.lookup f = some ⟨oc, od, .func (PySem.W.fnOf "done" "Desk.done" (defArgs s_Desk_done) (defBody s_Desk_done) (defScope s_Desk_done) .none kV dc pm an cd ct), sl⟩) (c : PySem.W.codeIn K cd "Desk.done" = true) (k : PySem.W.keepIn K (.ref f) = true) : PropIn K cD "done" "Desk.done" s_Desk_done ["self"] :=
  ⟨q, f, _, fun_mk (st := s_Desk_done) l c k, cl, ⟨a, g, t, rest, r⟩, ((fun_mk (st := s_Desk_done) l c k).binds (ps := ["self"]) fun _ _ _ _ _ _ us hl => match us, hl with | [_], _ => rfl)⟩
theorem mk_i_Party (X : K.In h) (G : h.Ns mainGlobals mg) (aC : PySem.W.nsIn K mainGlobals "Party" = some (some (.ref cP))) (mk : PySem.W.makesIn K cP = true) (kc : PySem.W.keepIn K (.ref cP) = true) (a : PySem.W.findIn K (.ref cP) "__init__" = some (some (.ref f))) (i : PySem.W.isFn K (.ref f) = true) (l : K.lookup f = some ⟨oc, od, .func (PySem.W.fnOf "__init__" "Party.__init__" (defArgs s_Party___init__) (defBody s_Party___init__) (defScope s_Party___init__) .none kV dc pm an cd ct), sl⟩) (c : PySem.W.codeIn K cd "Party.__init__" = true) (k : PySem.W.keepIn K (.ref f) = true) : InitIn K mg "Party" cP "Party.__init__" s_Party___init__ ["self", "setting", "program", "number", "inputs", "coins"] :=
  ⟨f, _, fun_mk (st := s_Party___init__) l c k, ⟨mk, a, i, kc⟩, PySem.W.mg_of X G aC, ((fun_mk (st := s_Party___init__) l c k).binds (ps := ["self", "setting", "program", "number", "inputs", "coins"]) fun _ _ _ _ _ _ us hl => match us, hl with | [_, _, _, _, _, _], _ => rfl)⟩
theorem mk_i_Desk (X : K.In h) (G : h.Ns mainGlobals mg) (aC : PySem.W.nsIn K mainGlobals "Desk" = some (some (.ref cD))) (mk : PySem.W.makesIn K cD = true) (kc : PySem.W.keepIn K (.ref cD) = true) (a : PySem.W.findIn K (.ref cD) "__init__" = some (some (.ref f))) (i : PySem.W.isFn K (.ref f) = true) (l : K.lookup f = some ⟨oc, od, .func (PySem.W.fnOf "__init__" "Desk.__init__" (defArgs s_Desk___init__) (defBody s_Desk___init__) (defScope s_Desk___init__) .none kV dc pm an cd ct), sl⟩) (c : PySem.W.codeIn K cd "Desk.__init__" = true) (k : PySem.W.keepIn K (.ref f) = true) : InitIn K mg "Desk" cD "Desk.__init__" s_Desk___init__ ["self", "setting", "program", "inputs", "coins"] :=
  ⟨f, _, fun_mk (st := s_Desk___init__) l c k, ⟨mk, a, i, kc⟩, PySem.W.mg_of X G aC, ((fun_mk (st := s_Desk___init__) l c k).binds (ps := ["self", "setting", "program", "inputs", "coins"]) fun _ _ _ _ _ _ us hl => match us, hl with | [_, _, _, _, _], _ => rfl)⟩
end
theorem law_end {l : PySem.W.OpenLaw} {w : World} {K : PySem.W.Frag} {h : Heap} {mg : Str → Option Value} {fa f cP cD : Addr} {od an : Option Addr} {sl : Array (Option Value)} {oc kV dc pm cd ct : Value} (X : K.In h) (G : h.Ns mainGlobals mg) (hfa : mg "law" = some (.ref fa)) (T : Txt K mg cP cD)
    (a : PySem.W.nsIn K mainGlobals "law" = some (some (.ref f))) (l1 : K.lookup f = some ⟨oc, od, .func (PySem.W.fnOf "law" "law" (defArgs s_law) (defBody s_law) (defScope s_law) .none kV dc pm an cd ct), sl⟩) (c : PySem.W.codeIn K cd "law" = true) (k : PySem.W.keepIn K (.ref f) = true) :
    ∃ fd : FuncData, (∀ (s : Shared) (v : Value), BindsTo s fd ⟨[v], []⟩ [("_law_script", v)]) ∧ ∀ base : Heap, K.In base → base.Ns mainGlobals mg → FnOk l.prog w K mg base CX0 12 fa fd ["_law_script"] (sp_law K) := by
  have e := hfa.symm.trans (PySem.W.mg_of X G a)
  cases e
  exact ⟨PySem.W.fnOf "law" "law" (defArgs s_law) (defBody s_law) (defScope s_law) .none kV dc pm an cd ct, fun s v => .of_eq rfl, fun base _ _ => law_fn T (fun_mk (st := s_law) l1 c k)⟩
theorem walk {l : PySem.W.OpenLaw} {q : Program} {loose : List Str} {XP : (Str → Option Value) → Heap → Prop} {YP : World → Heap → Prop} {d : DefRec} {K : Params → PySem.W.Frag} (hn : l.most = some 63) (hdf : d.params.defaults = [])
    (hY : ∀ (w : World) (h : Heap), YP w h → (K w.params).In h)
    (F : ∀ (w : World) (mg : Str → Option Value) (fa : Addr) (h : Heap), (K w.params).In h → h.Ns mainGlobals mg → mg d.name = some (.ref fa) →
      ∃ fd : FuncData, (∀ (s : Shared) (u : Value), BindsTo s fd ⟨[u], []⟩ [("_law_script", u)]) ∧ ∀ base : Heap, (K w.params).In base → base.Ns mainGlobals mg → FnOk l.prog w (K w.params) mg base CX0 12 fa fd ["_law_script"] (sp_law (K w.params))) :
    PySem.W.WalkO q loose XP YP l.row.toRowW d [] (fun f vs => PySem.call f vs) :=
  L2.walk_ofB (n := 63) (k := 12) (x := "_law_script") (CX := fun _ => CX0) (sp := fun w => sp_law (K w.params)) hn (by decide) hdf ⟨rfl, by decide, by decide⟩ hY F (fun _ _ a ns _ _ _ hS => ⟨a, ns, rfl, hS, fun _ => rfl⟩) fun _ _ _ _ _ z => z
end U

theorem U.step {A goal : Prop} (x : A) (k : A → goal) : goal := k x
open PySem PySem.W PyProof.Rows in
set_option maxRecDepth 100000 in
set_option maxHeartbeats 0 in
theorem PySem.Challenge.cw_untold_k40_whole_lies_of_outputs_holds : PySem.Challenge.rw_untold_k40_whole_lies_of_outputs.Holds := by
  w_on; o_law; k_head; (case hw => w_witness2)
  k_fill
  refine U.walk (l := PySem.Challenge.rw_untold_k40_whole_lies_of_outputs) rfl rfl (fun w h Y => PySem.W.kIn_of Y) ?F
  case F =>
    intro w mg fa h KX G hmg
    refine' U.with_cls (y := "Party") KX ?aP fun aP => ?rP
    (case aP => k_is)
    refine' U.step (U.mk_cls aP ?g1 ?d1 ?o1 ?s1) fun clP => ?r1
    (case g1 => k_is)
    (case d1 => k_is)
    (case o1 => k_is)
    (case s1 => k_is)
    refine' U.step (U.mk_no (x := "_own") aP ?n2) fun aP_own => ?r2
    (case n2 => k_is)
    refine' U.step (U.mk_no (x := "_given") aP ?n3) fun aP_given => ?r3
    (case n3 => k_is)
    refine' U.step (U.mk_no (x := "_drawn") aP ?n4) fun aP_drawn => ?r4
    (case n4 => k_is)
    refine' U.step (U.mk_no (x := "_weighed") aP ?n5) fun aP_weighed => ?r5
    (case n5 => k_is)
    refine' U.step (U.mk_no (x := "_took") aP ?n6) fun aP_took => ?r6
    (case n6 => k_is)
    refine' U.step (U.mk_no (x := "_came") aP ?n7) fun aP_came => ?r7
    (case n7 => k_is)
    refine' U.step (U.mk_i_Party KX G aP ?m8 ?kc8 ?a8 ?i8 ?l8 ?c8 ?k8) fun i_Party => ?r8
    (case m8 => k_is)
    (case kc8 => k_is)
    (case a8 => k_is)
    (case i8 => k_is)
    (case l8 => k_is)
    (case c8 => k_is)
    (case k8 => k_is)
    refine' U.with_cls (y := "Desk") KX ?aD fun aD => ?rD
    (case aD => k_is)
    refine' U.step (U.mk_cls aD ?g9 ?d9 ?o9 ?s9) fun clD => ?r9
    (case g9 => k_is)
    (case d9 => k_is)
    (case o9 => k_is)
    (case s9 => k_is)
    refine' U.step (U.mk_no (x := "_setting") aD ?n10) fun aD_setting => ?r10
    (case n10 => k_is)
    refine' U.step (U.mk_no (x := "_program") aD ?n11) fun aD_program => ?r11
    (case n11 => k_is)
    refine' U.step (U.mk_no (x := "_given") aD ?n12) fun aD_given => ?r12
    (case n12 => k_is)
    refine' U.step (U.mk_no (x := "_crew") aD ?n13) fun aD_crew => ?r13
    (case n13 => k_is)
    refine' U.step (U.mk_no (x := "_way") aD ?n14) fun aD_way => ?r14
    (case n14 => k_is)
    refine' U.step (U.mk_no (x := "_log") aD ?n15) fun aD_log => ?r15
    (case n15 => k_is)
    refine' U.step (U.mk_no (x := "_past") aD ?n16) fun aD_past => ?r16
    (case n16 => k_is)
    refine' U.step (U.mk_i_Desk KX G aD ?m17 ?kc17 ?a17 ?i17 ?l17 ?c17 ?k17) fun i_Desk => ?r17
    (case m17 => k_is)
    (case kc17 => k_is)
    (case a17 => k_is)
    (case i17 => k_is)
    (case l17 => k_is)
    (case c17 => k_is)
    (case k17 => k_is)
    refine' U.step (U.mk_ne (v := none) aP aD ?n18 ?m18) fun ne => ?r18
    (case n18 => k_is)
    (case m18 => k_is)
    refine' U.step (U.mk_bt (x := "len") KX G ?z19) fun n_len => ?r19
    (case z19 => k_is)
    refine' U.step (U.mk_bt (x := "int") KX G ?z20) fun n_int => ?r20
    (case z20 => k_is)
    refine' U.step (U.mk_bt (x := "bool") KX G ?z21) fun n_bool => ?r21
    (case z21 => k_is)
    refine' U.step (U.mk_bt (x := "tuple") KX G ?z22) fun n_tuple => ?r22
    (case z22 => k_is)
    refine' U.step (U.mk_bt (x := "range") KX G ?z23) fun n_range => ?r23
    (case z23 => k_is)
    refine' U.step (U.mk_bt (x := "sum") KX G ?z24) fun n_sum => ?r24
    (case z24 => k_is)
    refine' U.step (U.mk_bt (x := "sorted") KX G ?z25) fun n_sorted => ?r25
    (case z25 => k_is)
    refine' U.step (U.mk_bt (x := "list") KX G ?z26) fun n_list => ?r26
    (case z26 => k_is)
    refine' U.step (U.mk_bt (x := "dict") KX G ?z27) fun n_dict => ?r27
    (case z27 => k_is)
    refine' U.step (U.mk_bt (x := "isinstance") KX G ?z28) fun n_isinstance => ?r28
    (case z28 => k_is)
    refine' U.step (U.mk_bt (x := "reversed") KX G ?z29) fun n_reversed => ?r29
    (case z29 => k_is)
    refine' U.step (U.mk_places KX G ?a30 ?l30 ?c30 ?k30) fun d_places => ?r30
    (case a30 => k_is)
    (case l30 => k_is)
    (case c30 => k_is)
    (case k30 => k_is)
    refine' U.step (U.mk_power KX G ?a31 ?l31 ?c31 ?k31) fun d_power => ?r31
    (case a31 => k_is)
    (case l31 => k_is)
    (case c31 => k_is)
    (case k31 => k_is)
    refine' U.step (U.mk_inverse KX G ?a32 ?l32 ?c32 ?k32) fun d_inverse => ?r32
    (case a32 => k_is)
    (case l32 => k_is)
    (case c32 => k_is)
    (case k32 => k_is)
    refine' U.step (U.mk_value_at KX G ?a33 ?l33 ?c33 ?k33) fun d_value_at => ?r33
    (case a33 => k_is)
    (case l33 => k_is)
    (case c33 => k_is)
    (case k33 => k_is)
    refine' U.step (U.mk_added KX G ?a34 ?l34 ?c34 ?k34) fun d_added => ?r34
    (case a34 => k_is)
    (case l34 => k_is)
    (case c34 => k_is)
    (case k34 => k_is)
    refine' U.step (U.mk_scaled KX G ?a35 ?l35 ?c35 ?k35) fun d_scaled => ?r35
    (case a35 => k_is)
    (case l35 => k_is)
    (case c35 => k_is)
    (case k35 => k_is)
    refine' U.step (U.mk_with_root KX G ?a36 ?l36 ?c36 ?k36) fun d_with_root => ?r36
    (case a36 => k_is)
    (case l36 => k_is)
    (case c36 => k_is)
    (case k36 => k_is)
    refine' U.step (U.mk_roots_at KX G ?a37 ?l37 ?c37 ?k37) fun d_roots_at => ?r37
    (case a37 => k_is)
    (case l37 => k_is)
    (case c37 => k_is)
    (case k37 => k_is)
    refine' U.step (U.mk_bases KX G ?a38 ?l38 ?c38 ?k38) fun d_bases => ?r38
    (case a38 => k_is)
    (case l38 => k_is)
    (case c38 => k_is)
    (case k38 => k_is)
    refine' U.step (U.mk_through KX G ?a39 ?l39 ?c39 ?k39) fun d_through => ?r39
    (case a39 => k_is)
    (case l39 => k_is)
    (case c39 => k_is)
    (case k39 => k_is)
    refine' U.step (U.mk_weights KX G ?a40 ?l40 ?c40 ?k40) fun d_weights => ?r40
    (case a40 => k_is)
    (case l40 => k_is)
    (case c40 => k_is)
    (case k40 => k_is)
    refine' U.step (U.mk_is_integer KX G ?a41 ?l41 ?c41 ?k41) fun d_is_integer => ?r41
    (case a41 => k_is)
    (case l41 => k_is)
    (case c41 => k_is)
    (case k41 => k_is)
    refine' U.step (U.mk_parties KX G ?a42 ?l42 ?c42 ?k42) fun d_parties => ?r42
    (case a42 => k_is)
    (case l42 => k_is)
    (case c42 => k_is)
    (case k42 => k_is)
    refine' U.step (U.mk_shares_of KX G ?a43 ?l43 ?c43 ?k43) fun d_shares_of => ?r43
    (case a43 => k_is)
    (case l43 => k_is)
    (case c43 => k_is)
    (case k43 => k_is)
    refine' U.step (U.mk_shares KX G ?a44 ?l44 ?c44 ?k44) fun d_shares => ?r44
    (case a44 => k_is)
    (case l44 => k_is)
    (case c44 => k_is)
    (case k44 => k_is)
    refine' U.step (U.mk_named KX G ?a45 ?l45 ?c45 ?k45) fun d_named => ?r45
    (case a45 => k_is)
    (case l45 => k_is)
    (case c45 => k_is)
    (case k45 => k_is)
    refine' U.step (U.mk_input_rows KX G ?a46 ?l46 ?c46 ?k46) fun d_input_rows => ?r46
    (case a46 => k_is)
    (case l46 => k_is)
    (case c46 => k_is)
    (case k46 => k_is)
    refine' U.step (U.mk_sends KX G ?a47 ?l47 ?c47 ?k47) fun d_sends => ?r47
    (case a47 => k_is)
    (case l47 => k_is)
    (case c47 => k_is)
    (case k47 => k_is)
    refine' U.step (U.mk_own_inputs KX G ?a48 ?l48 ?c48 ?k48) fun d_own_inputs => ?r48
    (case a48 => k_is)
    (case l48 => k_is)
    (case c48 => k_is)
    (case k48 => k_is)
    refine' U.step (U.mk_own_places KX G ?a49 ?l49 ?c49 ?k49) fun d_own_places => ?r49
    (case a49 => k_is)
    (case l49 => k_is)
    (case c49 => k_is)
    (case k49 => k_is)
    refine' U.step (U.mk_own_coins KX G ?a50 ?l50 ?c50 ?k50) fun d_own_coins => ?r50
    (case a50 => k_is)
    (case l50 => k_is)
    (case c50 => k_is)
    (case k50 => k_is)
    refine' U.step (U.mk_sets_of KX G ?a51 ?l51 ?c51 ?k51) fun d_sets_of => ?r51
    (case a51 => k_is)
    (case l51 => k_is)
    (case c51 => k_is)
    (case k51 => k_is)
    refine' U.step (U.mk_wrong KX G ?a52 ?l52 ?c52 ?k52) fun d_wrong => ?r52
    (case a52 => k_is)
    (case l52 => k_is)
    (case c52 => k_is)
    (case k52 => k_is)
    refine' U.step (U.mk_readings KX G ?a53 ?l53 ?c53 ?k53) fun d_readings => ?r53
    (case a53 => k_is)
    (case l53 => k_is)
    (case c53 => k_is)
    (case k53 => k_is)
    refine' U.step (U.mk_most_wrong KX G ?a54 ?l54 ?c54 ?k54) fun d_most_wrong => ?r54
    (case a54 => k_is)
    (case l54 => k_is)
    (case c54 => k_is)
    (case k54 => k_is)
    refine' U.step (U.mk_read KX G ?a55 ?l55 ?c55 ?k55) fun d_read => ?r55
    (case a55 => k_is)
    (case l55 => k_is)
    (case c55 => k_is)
    (case k55 => k_is)
    refine' U.step (U.mk_by_rows KX G ?a56 ?l56 ?c56 ?k56) fun d_by_rows => ?r56
    (case a56 => k_is)
    (case l56 => k_is)
    (case c56 => k_is)
    (case k56 => k_is)
    refine' U.step (U.mk_crew_of KX G ?a57 ?l57 ?c57 ?k57) fun d_crew_of => ?r57
    (case a57 => k_is)
    (case l57 => k_is)
    (case c57 => k_is)
    (case k57 => k_is)
    refine' U.step (U.mk_first_letters KX G ?a58 ?l58 ?c58 ?k58) fun d_first_letters => ?r58
    (case a58 => k_is)
    (case l58 => k_is)
    (case c58 => k_is)
    (case k58 => k_is)
    refine' U.step (U.mk__law_cell KX G ?a59 ?l59 ?c59 ?k59) fun d__law_cell => ?r59
    (case a59 => k_is)
    (case l59 => k_is)
    (case c59 => k_is)
    (case k59 => k_is)
    refine' U.step (U.mk__law_digits KX G ?a60 ?l60 ?c60 ?k60) fun d__law_digits => ?r60
    (case a60 => k_is)
    (case l60 => k_is)
    (case c60 => k_is)
    (case k60 => k_is)
    refine' U.step (U.mk__law_draw KX G ?a61 ?l61 ?c61 ?k61) fun d__law_draw => ?r61
    (case a61 => k_is)
    (case l61 => k_is)
    (case c61 => k_is)
    (case k61 => k_is)
    refine' U.step (U.mk__law_pick KX G ?a62 ?l62 ?c62 ?k62) fun d__law_pick => ?r62
    (case a62 => k_is)
    (case l62 => k_is)
    (case c62 => k_is)
    (case k62 => k_is)
    refine' U.step (U.mk__law_number KX G ?a63 ?l63 ?c63 ?k63) fun d__law_number => ?r63
    (case a63 => k_is)
    (case l63 => k_is)
    (case c63 => k_is)
    (case k63 => k_is)
    refine' U.step (U.mk__law_numbers KX G ?a64 ?l64 ?c64 ?k64) fun d__law_numbers => ?r64
    (case a64 => k_is)
    (case l64 => k_is)
    (case c64 => k_is)
    (case k64 => k_is)
    refine' U.step (U.mk__law_program KX G ?a65 ?l65 ?c65 ?k65) fun d__law_program => ?r65
    (case a65 => k_is)
    (case l65 => k_is)
    (case c65 => k_is)
    (case k65 => k_is)
    refine' U.step (U.mk__law_inputs KX G ?a66 ?l66 ?c66 ?k66) fun d__law_inputs => ?r66
    (case a66 => k_is)
    (case l66 => k_is)
    (case c66 => k_is)
    (case k66 => k_is)
    refine' U.step (U.mk__law_values KX G ?a67 ?l67 ?c67 ?k67) fun d__law_values => ?r67
    (case a67 => k_is)
    (case l67 => k_is)
    (case c67 => k_is)
    (case k67 => k_is)
    refine' U.step (U.mk__law_shown KX G ?a68 ?l68 ?c68 ?k68) fun d__law_shown => ?r68
    (case a68 => k_is)
    (case l68 => k_is)
    (case c68 => k_is)
    (case k68 => k_is)
    refine' U.step (U.mk__law_coins_of KX G ?a69 ?l69 ?c69 ?k69) fun d__law_coins_of => ?r69
    (case a69 => k_is)
    (case l69 => k_is)
    (case c69 => k_is)
    (case k69 => k_is)
    refine' U.step (U.mk__law_coins KX G ?a70 ?l70 ?c70 ?k70) fun d__law_coins => ?r70
    (case a70 => k_is)
    (case l70 => k_is)
    (case c70 => k_is)
    (case k70 => k_is)
    refine' U.step (U.mk_law KX G ?a71 ?l71 ?c71 ?k71) fun d_law => ?r71
    (case a71 => k_is)
    (case l71 => k_is)
    (case c71 => k_is)
    (case k71 => k_is)
    refine' U.step (U.mk_shares_sharing KX G ?a72 ?l72 ?c72 ?k72) fun d_shares_sharing => ?r72
    (case a72 => k_is)
    (case l72 => k_is)
    (case c72 => k_is)
    (case k72 => k_is)
    refine' U.step (U.mk_read_reading KX G ?a73 ?l73 ?c73 ?k73) fun d_read_reading => ?r73
    (case a73 => k_is)
    (case l73 => k_is)
    (case c73 => k_is)
    (case k73 => k_is)
    refine' U.step (U.mk_Party__all_came aP clP ?a74 ?i74 ?l74 ?c74 ?k74) fun e_Party__all_came => ?r74
    (case a74 => k_is)
    (case i74 => k_is)
    (case l74 => k_is)
    (case c74 => k_is)
    (case k74 => k_is)
    refine' U.step (U.mk_Party__told aP clP ?a75 ?i75 ?l75 ?c75 ?k75) fun e_Party__told => ?r75
    (case a75 => k_is)
    (case i75 => k_is)
    (case l75 => k_is)
    (case c75 => k_is)
    (case k75 => k_is)
    refine' U.step (U.mk_Party__needed aP clP ?a76 ?i76 ?l76 ?c76 ?k76) fun e_Party__needed => ?r76
    (case a76 => k_is)
    (case i76 => k_is)
    (case l76 => k_is)
    (case c76 => k_is)
    (case k76 => k_is)
    refine' U.step (U.mk_Party__poly aP clP ?a77 ?i77 ?l77 ?c77 ?k77) fun e_Party__poly => ?r77
    (case a77 => k_is)
    (case i77 => k_is)
    (case l77 => k_is)
    (case c77 => k_is)
    (case k77 => k_is)
    refine' U.step (U.mk_Party__share aP clP ?a78 ?i78 ?l78 ?c78 ?k78) fun e_Party__share => ?r78
    (case a78 => k_is)
    (case i78 => k_is)
    (case l78 => k_is)
    (case c78 => k_is)
    (case k78 => k_is)
    refine' U.step (U.mk_Party__reckoned aP clP ?a79 ?i79 ?l79 ?c79 ?k79) fun e_Party__reckoned => ?r79
    (case a79 => k_is)
    (case i79 => k_is)
    (case l79 => k_is)
    (case c79 => k_is)
    (case k79 => k_is)
    refine' U.step (U.mk_Party__joined aP clP ?a80 ?i80 ?l80 ?c80 ?k80) fun e_Party__joined => ?r80
    (case a80 => k_is)
    (case i80 => k_is)
    (case l80 => k_is)
    (case c80 => k_is)
    (case k80 => k_is)
    refine' U.step (U.mk_Party__letters aP clP ?a81 ?i81 ?l81 ?c81 ?k81) fun e_Party__letters => ?r81
    (case a81 => k_is)
    (case i81 => k_is)
    (case l81 => k_is)
    (case c81 => k_is)
    (case k81 => k_is)
    refine' U.step (U.mk_Party__is_letter aP clP ?a82 ?i82 ?l82 ?c82 ?k82) fun e_Party__is_letter => ?r82
    (case a82 => k_is)
    (case i82 => k_is)
    (case l82 => k_is)
    (case c82 => k_is)
    (case k82 => k_is)
    refine' U.step (U.mk_Party_take aP clP ?a83 ?i83 ?l83 ?c83 ?k83) fun e_Party_take => ?r83
    (case a83 => k_is)
    (case i83 => k_is)
    (case l83 => k_is)
    (case c83 => k_is)
    (case k83 => k_is)
    refine' U.step (U.mk_Party_branch aP clP ?a84 ?i84 ?l84 ?c84 ?k84) fun e_Party_branch => ?r84
    (case a84 => k_is)
    (case i84 => k_is)
    (case l84 => k_is)
    (case c84 => k_is)
    (case k84 => k_is)
    refine' U.step (U.mk_Desk_parties aD clD ?a85 ?i85 ?l85 ?c85 ?k85) fun e_Desk_parties => ?r85
    (case a85 => k_is)
    (case i85 => k_is)
    (case l85 => k_is)
    (case c85 => k_is)
    (case k85 => k_is)
    refine' U.step (U.mk_Desk__letter_at aD clD ?a86 ?i86 ?l86 ?c86 ?k86) fun e_Desk__letter_at => ?r86
    (case a86 => k_is)
    (case i86 => k_is)
    (case l86 => k_is)
    (case c86 => k_is)
    (case k86 => k_is)
    refine' U.step (U.mk_Desk__begin aD clD ?a87 ?i87 ?l87 ?c87 ?k87) fun e_Desk__begin => ?r87
    (case a87 => k_is)
    (case i87 => k_is)
    (case l87 => k_is)
    (case c87 => k_is)
    (case k87 => k_is)
    refine' U.step (U.mk_Desk__hand aD clD ?a88 ?i88 ?l88 ?c88 ?k88) fun e_Desk__hand => ?r88
    (case a88 => k_is)
    (case i88 => k_is)
    (case l88 => k_is)
    (case c88 => k_is)
    (case k88 => k_is)
    refine' U.step (U.mk_Desk_hand aD clD ?a89 ?i89 ?l89 ?c89 ?k89) fun e_Desk_hand => ?r89
    (case a89 => k_is)
    (case i89 => k_is)
    (case l89 => k_is)
    (case c89 => k_is)
    (case k89 => k_is)
    refine' U.step (U.mk_Desk_lie aD clD ?a90 ?i90 ?l90 ?c90 ?k90) fun e_Desk_lie => ?r90
    (case a90 => k_is)
    (case i90 => k_is)
    (case l90 => k_is)
    (case c90 => k_is)
    (case k90 => k_is)
    refine' U.step (U.mk_Party_number aP clP ?a91 ?g91 ?t91 ?e91 ?l91 ?c91 ?k91) fun q_Party_number => ?r91
    (case a91 => k_is)
    (case g91 => k_is)
    (case t91 => k_is)
    (case e91 => k_is)
    (case l91 => k_is)
    (case c91 => k_is)
    (case k91 => k_is)
    refine' U.step (U.mk_Party_shares aP clP ?a92 ?g92 ?t92 ?e92 ?l92 ?c92 ?k92) fun q_Party_shares => ?r92
    (case a92 => k_is)
    (case g92 => k_is)
    (case t92 => k_is)
    (case e92 => k_is)
    (case l92 => k_is)
    (case c92 => k_is)
    (case k92 => k_is)
    refine' U.step (U.mk_Party_made aP clP ?a93 ?g93 ?t93 ?e93 ?l93 ?c93 ?k93) fun q_Party_made => ?r93
    (case a93 => k_is)
    (case g93 => k_is)
    (case t93 => k_is)
    (case e93 => k_is)
    (case l93 => k_is)
    (case c93 => k_is)
    (case k93 => k_is)
    refine' U.step (U.mk_Party_read aP clP ?a94 ?g94 ?t94 ?e94 ?l94 ?c94 ?k94) fun q_Party_read => ?r94
    (case a94 => k_is)
    (case g94 => k_is)
    (case t94 => k_is)
    (case e94 => k_is)
    (case l94 => k_is)
    (case c94 => k_is)
    (case k94 => k_is)
    refine' U.step (U.mk_Desk_on_the_way aD clD ?a95 ?g95 ?t95 ?e95 ?l95 ?c95 ?k95) fun q_Desk_on_the_way => ?r95
    (case a95 => k_is)
    (case g95 => k_is)
    (case t95 => k_is)
    (case e95 => k_is)
    (case l95 => k_is)
    (case c95 => k_is)
    (case k95 => k_is)
    refine' U.step (U.mk_Desk_done aD clD ?a96 ?g96 ?t96 ?e96 ?l96 ?c96 ?k96) fun q_Desk_done => ?r96
    (case a96 => k_is)
    (case g96 => k_is)
    (case t96 => k_is)
    (case e96 => k_is)
    (case l96 => k_is)
    (case c96 => k_is)
    (case k96 => k_is)
    refine' U.law_end KX G hmg ⟨ne, clP, aP_own, aP_given, aP_drawn, aP_weighed, aP_took, aP_came, i_Party, clD, aD_setting, aD_program, aD_given, aD_crew, aD_way, aD_log, aD_past, i_Desk, n_len, n_int, n_bool, n_tuple, n_range, n_sum, n_sorted, n_list, n_dict, n_isinstance, n_reversed, d_places, d_power, d_inverse, d_value_at, d_added, d_scaled, d_with_root, d_roots_at, d_bases, d_through, d_weights, d_is_integer, d_parties, d_shares_of, d_shares, d_named, d_input_rows, d_sends, d_own_inputs, d_own_places, d_own_coins, d_sets_of, d_wrong, d_readings, d_most_wrong, d_read, d_by_rows, d_crew_of, d_first_letters, d__law_cell, d__law_digits, d__law_draw, d__law_pick, d__law_number, d__law_numbers, d__law_program, d__law_inputs, d__law_values, d__law_shown, d__law_coins_of, d__law_coins, d_law, d_shares_sharing, d_read_reading, e_Party__all_came, e_Party__told, e_Party__needed, e_Party__poly, e_Party__share, e_Party__reckoned, e_Party__joined, e_Party__letters, e_Party__is_letter, e_Party_take, e_Party_branch, e_Desk_parties, e_Desk__letter_at, e_Desk__begin, e_Desk__hand, e_Desk_hand, e_Desk_lie, q_Party_number, q_Party_shares, q_Party_made, q_Party_read, q_Desk_on_the_way, q_Desk_done⟩ ?aZ ?lZ ?cZ ?kZ
    (case aZ => k_is)
    (case lZ => k_is)
    (case cZ => k_is)
    (case kZ => k_is)

