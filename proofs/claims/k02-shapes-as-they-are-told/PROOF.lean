import PyProof.Rows.All
import Wide.All
import OpenK.AllK
import Wide.FinOn
import HandS.ForMost
import HandS.ForExc
import HandS.TupAny
import HandS.TupMul
import HandS.IsInst
import HandS.Wide
import HandS.CallLocal
import HandS.Style
import HandS.Conv
import HandS.Strs
import HandS.DictComp
import HandS.Deep
import HandS.Defaults
import KE.LtData
import KE.DataFind
import KE.DataCmp
import HandS.OwnEq
import KE.GoesMore
import KE.GoesEnum
import PyProof.Draws
import PyProof.EnumMake
import HandS.Dict
import HandS.MakeKw
import HandS.MakeKwOnly
import HandS.Ends
import HandS.HeadEnd
import KE.DataEq
import PyProof.ReprLen
import PyProof.StrLawsRepr
import HandS.List
import HandS.SlotsOwn
import PyProof.InstNe
import HandS.FStr
import HandS.HeadHook2
import PySem.Challenge.RW_linkloom_k02_shapes_as_they_are_told
import PyProof.StrLaws
import HandS.Head0
import HandS.Head1
import HandS.Head2
import HandS.HeadHook1
set_option Elab.async false
set_option linter.all false
set_option maxRecDepth 100000
set_option maxHeartbeats 4000000
/-! tuples whose object is known to have no dict of its own -/
namespace LL
open PySem PySem.Spec PyProof.Rows L2
def TupR (K : PySem.W.Frag) (G : Hp) (a : Addr) (xs : List V) : Prop :=
  (∃ o : Obj, G a = some (.frz o (.tup xs)) ∧ o.dict = none) ∨
    ∃ (o : Obj) (its : Array Value) (n : Nat), K.lookup a = some o ∧ o.cls = .type "tuple" ∧ o.dict = none ∧ o.data = .seq its n ∧ its.size ≤ sizeLine ∧ Vals xs its.toList
theorem TupR.sqt {K : PySem.W.Frag} {G : Hp} {a : Addr} {xs : List V} (h : TupR K G a xs) : SqT K G a xs := by
  rcases h with ⟨o, h, _⟩ | ⟨o, its, n, h1, h2, _, h3, h4, h5⟩
  · exact .inl (.inr ⟨o, h⟩)
  · exact .inr ⟨o, its, n, h1, h2, h3, h4, h5⟩
theorem TupR.new {K : PySem.W.Frag} {G : Hp} {a : Addr} {xs : List V} {o : Obj} (h : o.dict = none) : TupR K (upd G a (.frz o (.tup xs))) a xs := .inl ⟨o, upd_same, h⟩
/-- what holds of a new tuple -/
def NewT (xs : List V) (H : Hp) (Q : VK) : Prop := ∀ (p : Addr) (o : Obj), H p = none → o.dict = none → Q (.ref p) (upd H p (.frz o (.tup xs)))
section
variable {X : Cx} {pins : List (Addr × Obj)} {σ : List (Option V)} {H : Hp} {s : Shared} {Q : VK}
theorem newT_fin {xs : List V} {its : List Value} {n : Nat} {h' : Heap} {t' : Nat} (I : Inv X pins σ H s) (r : Vals xs its) (hz : xs.length ≤ sizeLine) (k : ∀ b u, s.heap.get? b = some u → h'.get? b = some u)
    {p : Addr} (hp : s.heap.objs.size ≤ p) (e : h'.get? p = some { cls := .type "tuple", data := .seq its.toArray n }) (q : NewT xs H Q) : EP X pins σ Q (.ref p) { s with heap := h', toks := t' } :=
  ⟨.ref p, _, I.laid (t' := t') (o := .frz { cls := .type "tuple", data := .seq its.toArray n } (.tup xs)) k hp ⟨e, hz, its, r, ⟨_, e, rfl, n, rfl⟩⟩, rfl, q p _ (I.hok.fresh hp) rfl⟩
theorem TupR.isObj {a : Addr} {xs : List V} (I : Inv X pins σ H s) (h : TupR X.K H a xs) : s.TypeIs (.ref a) "tuple" ∧ ∀ b, Value.ref a = .ref b → ∃ ob, s.heap.get? b = some ob ∧ ob.dict = none := by
  obtain ⟨its, r, p, hz⟩ := I.tuple h.sqt
  refine ⟨p.typeIs, fun b e => ?_⟩
  cases e
  rcases h with ⟨o, h, hd⟩ | ⟨o, its, n, h1, h2, hd, _⟩
  · exact ⟨o, (I.hok a _ h).1, hd⟩
  · exact ⟨o, I.kIn a o h1, hd⟩
end
section
variable {X : Cx} {es : List Expr} {t : TA} {pos : Pos}
theorem pe_tupF {x1} (h : PA X es t) : PE X (.Tuple es x1 pos) (fun σ H Q => t σ H fun xs H1 => xs.length ≤ sizeLine ∧ NewT xs H1 Q) := by
  refine ⟨fun pins s σ H Q I hq => ?_⟩
  refine wpAny_Tuple_spliced (thn (h.run pos pins s σ H _ I hq) fun us s1 ⟨xs, H1, I1, r, z, q⟩ => ⟨by rw [← r.length]; exact z, ?_⟩)
  exact newT_fin (n := 0) I1 r z (fun b u e => Heap.get?_push_of_some _ e) (Nat.le_refl _) (Heap.get?_push_size _ rfl) q
def rSlF (K : PySem.W.Frag) : V → Option Int → Option Int → Hp → VK → Prop := fun x lo hi H Q => ∃ a xs, x = .ref a ∧ SqT K H a xs ∧
  (HT.sIx xs.length 0 lo = 0 ∧ HT.sIx xs.length xs.length hi = xs.length → Q (.ref a) H) ∧ (¬ (HT.sIx xs.length 0 lo = 0 ∧ HT.sIx xs.length xs.length hi = xs.length) → NewT (cutV xs lo hi) H Q)
theorem sl_tupF : SlR X (rSlF X.K) := by
  intro pins s σ H x v vl vu lo hi sl Q I rx hs pl pu h
  obtain ⟨a, xs, rfl, hx, q1, q⟩ := h
  by_cases hw : HT.sIx xs.length 0 lo = 0 ∧ HT.sIx xs.length xs.length hi = xs.length
  · exact sl_tupA pins s σ H _ v vl vu lo hi sl Q I rx hs pl pu ⟨a, xs, rfl, hx, q1, fun z => absurd hw z⟩
  · cases rx
    obtain ⟨its, r, ht, hz⟩ := I.tuple hx
    have hlen : its.toArray.size = xs.length := by rw [List.size_toArray]; exact r.length.symm
    refine ⟨"tuple", _, PyProof.Rows.slot_tuple_getitem.lookup, ht.typeIs, ?_⟩
    refine HT.getItem_tuple_cut ht hs pl pu (by rw [hlen]; exact hw) ?_ (by rw [hlen]; exact hz)
    rw [hlen]
    exact newT_fin (t' := s.toks) I ((r.drop (HT.sIx xs.length 0 lo)).take (HT.sIx xs.length xs.length hi - HT.sIx xs.length 0 lo)) (Nat.le_trans (cutV_length xs lo hi) hz) (fun b ob q => Heap.get?_push_of_some _ q) (Nat.le_refl _) (Heap.get?_push_size _ rfl) (q hw)
def rCatF (K : PySem.W.Frag) : R2 := fun x y H Q => ∃ a b xs ys, x = .ref a ∧ y = .ref b ∧ SqT K H a xs ∧ SqT K H b ys ∧ xs.length + ys.length ≤ sizeLine ∧
  (xs = [] → Q (.ref b) H) ∧ (xs ≠ [] → ys = [] → Q (.ref a) H) ∧ (xs ≠ [] → ys ≠ [] → NewT (xs ++ ys) H Q)
theorem op_catF : OpR X (binaryOp .Add) (rCatF X.K) := by
  intro pins s σ H x y v u Q I rx ry h
  obtain ⟨a, b, xs, ys, rfl, rfl, ha, hb, hz, q0, q1, q2⟩ := h
  by_cases hx : xs = []
  · exact op_catA pins s σ H _ _ v u Q I rx ry ⟨a, b, xs, ys, rfl, rfl, ha, hb, hz, q0, q1, fun z => absurd hx z⟩
  · cases rx
    cases ry
    obtain ⟨its, r1, p1, _⟩ := I.tuple ha
    obtain ⟨its2, r2, p2, _⟩ := I.tuple hb
    refine HT.cat_tup p1 p2 (fun z => hx (r1.nil_iff.mp z)) (fun z => ⟨.ref a, H, I, rfl, q1 hx (r2.nil_iff.mp z)⟩) (fun z => ?_) (by rw [← r1.length, ← r2.length]; exact hz)
    exact newT_fin (t' := s.toks) I (r1.append r2) (by rw [List.length_append]; exact hz) (fun b ob q => Heap.get?_push_of_some _ q) (Nat.le_refl _) (Heap.get?_push_size _ rfl) (q2 hx fun w => z (r2.nil_iff.mpr w))
theorem call_tupleF : CallR X (.type "tuple") (fun xs H Q => ∃ p ys, xs = [.ref p] ∧ ((SqL X.K H p ys ∧ NewT ys H Q) ∨ (SqT X.K H p ys ∧ Q (.ref p) H))) := by
  intro pins s σ H xs us Q I r h
  obtain ⟨p, ys, rfl, h⟩ := h
  obtain ⟨u, rfl, rx⟩ := vals1 r
  cases rx
  rcases h with ⟨hq, q⟩ | ⟨hq, q⟩
  · obtain ⟨its, r', pl, hz⟩ := I.list hq
    have hlen := r'.length
    refine call_tuple_list pl.isList (fun h' kp => ?_) (by simp only [List.size_toArray] <;> omega)
    have I1 : Inv X pins σ H { s with heap := h' } := I.kept (t' := s.toks) kp
    exact newT_fin (t' := s.toks) I1 r' hz (fun b ob q => Heap.get?_push_of_some _ q) (Nat.le_refl _) (Heap.get?_push_size _ rfl) q
  · obtain ⟨its, r', pl, hz⟩ := I.tuple hq
    exact call_tuple_same pl ⟨.ref p, H, I, rfl, q⟩
def rRepF (K : PySem.W.Frag) : R2 := fun x y H Q => ∃ l k xs, x = .ref l ∧ y = .int k ∧ SqT K H l xs ∧ xs ≠ [] ∧ 2 ≤ k ∧ k ≤ 1000 ∧ xs.length ≤ 1000 ∧ NewT (List.replicate k.toNat xs).flatten H Q
theorem op_repF : OpR X (binaryOp .Mult) (rRepF X.K) := by
  intro pins s σ H x y v u Q I rx ry h
  obtain ⟨l, k, xs, rfl, rfl, hT, hne, h1, h2, hz, q⟩ := h
  cases rx
  obtain ⟨t, rfl⟩ := ry
  obtain ⟨its, r, ⟨⟨cls, dd, data, sl⟩, ho, hc, n, hd⟩, hs⟩ := I.tuple hT
  simp only at hc hd
  subst hc hd
  have hle : its.length = xs.length := r.length.symm
  have hn : its ≠ [] := fun e => hne (by
    rw [e] at hle
    exact List.eq_nil_of_length_eq_zero hle.symm)
  have hi : its.toArray.isEmpty = false := by
    cases its with
    | nil => exact absurd rfl hn
    | cons a b => rfl
  have hsz0 : its.toArray.size = xs.length := by rw [List.size_toArray, hle]
  have hm : ((its.toArray.size : Nat) : Int) * k ≤ 1000000 := by
    rw [hsz0]
    have a1 : ((xs.length : Nat) : Int) * k ≤ 1000 * k := Int.mul_le_mul_of_nonneg_right (by omega) (by omega)
    omega
  have flen : (List.replicate k.toNat its).flatten.length ≤ sizeLine := by
    rw [PyProof.Rows.lm_len_rep_flat, hle, sizeLine_eq]
    have a1 : k.toNat * xs.length ≤ 1000 * 1000 := Nat.mul_le_mul (by omega) hz
    omega
  have c0 : (decide (k < -(2 ^ 63)) || decide (k ≥ 2 ^ 63)) = false := by
    rw [decide_eq_false (by omega), decide_eq_false (by omega)] <;> rfl
  have c1 : (its.toArray.isEmpty || k == 1) = false := by
    rw [hi, Bool.false_or]
    exact beq_eq_false_iff_ne.mpr (by omega)
  have c2 : (decide (k ≤ 0) || its.toArray.isEmpty) = false := by
    rw [hi, Bool.or_false]
    exact decide_eq_false (by omega)
  have c4 : Builtin.Tuple.tupleTooMany (((its.toArray.size : Nat) : Int) * k) = false := by
    unfold Builtin.Tuple.tupleTooMany
    rw [sizeLine_eq]
    exact decide_eq_false (by omega)
  refine wpAny_binaryOp_repeat_ref (T := "tuple") (U := "int") (by decide) ⟨_, ho, rfl⟩ (fun s' => typeIs_int s' k t) noFill_tuple_mul F.fills_int_mul F.slot_int_rmul repeat_tuple F.slot_int_index.lookup
    (call_meets F.slot_int_rmul (typeIs_int s k t) F.entry_int_rmul (F.args_int_rmul_2 _ _) (int_rmul_tuple k t l its.toArray n dd sl)
      ⟨ho, rfl, ⟨_, ho, rfl⟩, call_meets F.slot_tuple_mul ⟨_, ho, rfl⟩ F.entry_tuple_mul (F.args_tuple_mul_2 _ _) (tuple_mulW l its.toArray n dd sl k t c0 c1 c2 (by omega) c4 (by rw [size_rep, List.size_toArray]; exact flen)) ⟨ho, ?_⟩⟩)
  rw [size_rep]
  exact newT_fin (n := 0) I (r.rep k.toNat) (by rw [PyProof.Rows.lm_len_rep_flat, sizeLine_eq]; have a1 : k.toNat * xs.length ≤ 1000 * 1000 := Nat.mul_le_mul (by omega) hz; omega) (fun b ob q => Heap.get?_push_of_some _ q) (Nat.le_refl _) (Heap.get?_push_size _ rfl) q
end
end LL

set_option Elab.async false
set_option linter.all false
set_option maxRecDepth 100000
set_option maxHeartbeats 4000000
/-! values as plain data, and what an expression is worth over them -/
namespace LL
open PySem PySem.Spec PyProof.Rows L2
abbrev SSt := List (Option V)

inductive D where
  | non | bl (b : Bool) | int (i : Int) | str (s : Str) | tup (xs : List D) | lst (xs : List D)
  | dct (ks vs : List D) | scr (xs : List D) | obj (c : Str) (ns : List Str) (vs : List D) | cell (n : Nat) | fn (f : Str)
deriving Inhabited

abbrev Cs := List (List D)
structure Wd where
  ρ : List Addr
  G : Hp
  me : Option (Addr × Addr)

mutual
inductive Rep (K : PySem.W.Frag) (mg : Str → Option Value) (W : Wd) : V → D → Prop
  | non : Rep K mg W .non .non
  | bl (b : Bool) : Rep K mg W (.bl b) (.bl b)
  | int (i : Int) : Rep K mg W (.int i) (.int i)
  | str (x : Str) : Rep K mg W (.str x) (.str x)
  | tup {a : Addr} {xs : List V} {ds : List D} : TupR K W.G a xs → RepL K mg W xs ds → Rep K mg W (.ref a) (.tup ds)
  | lst {a : Addr} {xs : List V} {ds : List D} : W.G a = some (.lst xs) → RepL K mg W xs ds → Rep K mg W (.ref a) (.lst ds)
  | scr {a : Addr} {xs : List V} {ds : List D} : SqL K W.G a xs → RepL K mg W xs ds → Rep K mg W (.ref a) (.scr ds)
  | dct {a : Addr} {kvs : List (Key × V)} {ks vs : List D} : W.G a = some (.dK kvs) → RepL K mg W (kvs.map fun p => kV p.1) ks → RepL K mg W (kvs.map (·.2)) vs → Rep K mg W (.ref a) (.dct ks vs)
  | obj {a C dx : Addr} {fs : List (Str × V)} {c : Str} {ns : List Str} {vs : List D} : mg c = some (.ref C) → W.G a = some (.ins C dx fs) → ns = fs.map (·.1) → RepL K mg W (fs.map (·.2)) vs → Rep K mg W (.ref a) (.obj c ns vs)
  | cell {a : Addr} {n : Nat} : W.ρ[n]? = some a → Rep K mg W (.ref a) (.cell n)
  | fn {a : Addr} {f : Str} : mg f = some (.ref a) → Rep K mg W (.ref a) (.fn f)
inductive RepL (K : PySem.W.Frag) (mg : Str → Option Value) (W : Wd) : List V → List D → Prop
  | nil : RepL K mg W [] []
  | cons {v : V} {vs : List V} {d : D} {ds : List D} : Rep K mg W v d → RepL K mg W vs ds → RepL K mg W (v :: vs) (d :: ds)
end

section
variable {K : PySem.W.Frag} {mg : Str → Option Value}

theorem RepL.length {W : Wd} : ∀ {vs : List V} {ds : List D}, RepL K mg W vs ds → vs.length = ds.length
  | _, _, .nil => rfl
  | _, _, .cons _ t => by simp [RepL.length t]
theorem RepL.get {W : Wd} : ∀ {vs : List V} {ds : List D} {i : Nat} {d : D}, RepL K mg W vs ds → ds[i]? = some d → ∃ v, vs[i]? = some v ∧ Rep K mg W v d
  | _, _, _, _, .nil, e => by simp at e
  | _, _, 0, _, .cons r _, e => by simp at e; subst e; exact ⟨_, rfl, r⟩
  | _, _, i + 1, d, .cons _ t, e => by
    obtain ⟨v, h1, h2⟩ := RepL.get (i := i) t (by simpa using e)
    exact ⟨v, by simpa using h1, h2⟩
theorem RepL.at {W : Wd} : ∀ {vs : List V} {ds : List D} {i : Nat} {v : V}, RepL K mg W vs ds → vs[i]? = some v → ∃ d, ds[i]? = some d ∧ Rep K mg W v d
  | _, _, _, _, .nil, e => by simp at e
  | _, _, 0, _, .cons r _, e => by simp at e; subst e; exact ⟨_, rfl, r⟩
  | _, _, i + 1, d, .cons _ t, e => by
    obtain ⟨v, h1, h2⟩ := RepL.at (i := i) t (by simpa using e)
    exact ⟨v, by simpa using h1, h2⟩
theorem RepL.append {W : Wd} : ∀ {vs us : List V} {ds es : List D}, RepL K mg W vs ds → RepL K mg W us es → RepL K mg W (vs ++ us) (ds ++ es)
  | _, _, _, _, .nil, s => s
  | _, _, _, _, .cons r t, s => .cons r (RepL.append t s)
theorem RepL.take {W : Wd} : ∀ {vs : List V} {ds : List D} (n : Nat), RepL K mg W vs ds → RepL K mg W (vs.take n) (ds.take n)
  | _, _, 0, _ => .nil
  | _, _, _ + 1, .nil => .nil
  | _, _, n + 1, .cons r t => .cons r (RepL.take n t)
theorem RepL.drop {W : Wd} : ∀ {vs : List V} {ds : List D} (n : Nat), RepL K mg W vs ds → RepL K mg W (vs.drop n) (ds.drop n)
  | _, _, 0, r => r
  | _, _, _ + 1, .nil => .nil
  | _, _, n + 1, .cons _ t => RepL.drop n t
theorem RepL.set {W : Wd} {v : V} {d : D} (r : Rep K mg W v d) : ∀ {vs : List V} {ds : List D} (n : Nat), RepL K mg W vs ds → RepL K mg W (vs.set n v) (ds.set n d)
  | _, _, _, .nil => .nil
  | _, _, 0, .cons _ t => .cons r t
  | _, _, n + 1, .cons q t => .cons q (RepL.set r n t)
theorem RepL.rep {W : Wd} {v : V} {d : D} (r : Rep K mg W v d) : ∀ n : Nat, RepL K mg W (List.replicate n v) (List.replicate n d)
  | 0 => .nil
  | n + 1 => .cons r (RepL.rep r n)
theorem RepL.isEmpty {W : Wd} {vs : List V} {ds : List D} (r : RepL K mg W vs ds) : vs.isEmpty = ds.isEmpty := by cases r <;> rfl
theorem RepL.one {W : Wd} {v : V} {d : D} (r : Rep K mg W v d) : RepL K mg W [v] [d] := .cons r .nil

/-- what is known stays known -/
def Ext (G G' : Hp) : Prop := ∀ a o, G a = some o → G' a = some o
theorem Ext.refl (G : Hp) : Ext G G := fun _ _ h => h
theorem Ext.trans {A B C : Hp} (h : Ext A B) (g : Ext B C) : Ext A C := fun a o e => g a o (h a o e)
theorem Ext.sqt {G G' : Hp} (e : Ext G G') {a : Addr} {xs : List V} (h : SqT K G a xs) : SqT K G' a xs := by
  rcases h with (h | ⟨o, h⟩) | h
  · exact .inl (.inl (e _ _ h))
  · exact .inl (.inr ⟨o, e _ _ h⟩)
  · exact .inr h
theorem Ext.sql {G G' : Hp} (e : Ext G G') {a : Addr} {xs : List V} (h : SqL K G a xs) : SqL K G' a xs := by
  rcases h with (h | ⟨o, h⟩) | h
  · exact .inl (.inl (e _ _ h))
  · exact .inl (.inr ⟨o, e _ _ h⟩)
  · exact .inr h

theorem Ext.tupr {G G' : Hp} (e : Ext G G') {a : Addr} {xs : List V} (h : TupR K G a xs) : TupR K G' a xs := by
  rcases h with ⟨o, h, d⟩ | h
  · exact .inl ⟨o, e _ _ h, d⟩
  · exact .inr h
mutual
theorem Rep.mono {W W' : Wd} (hp : ∃ l, W'.ρ = W.ρ ++ l) (e : Ext W.G W'.G) : ∀ {v : V} {d : D}, Rep K mg W v d → Rep K mg W' v d
  | _, _, .non => .non
  | _, _, .bl b => .bl b
  | _, _, .int i => .int i
  | _, _, .str x => .str x
  | _, _, .tup h r => .tup (e.tupr h) (RepL.mono hp e r)
  | _, _, .lst h r => .lst (e _ _ h) (RepL.mono hp e r)
  | _, _, .scr h r => .scr (e.sql h) (RepL.mono hp e r)
  | _, _, .dct h r q => .dct (e _ _ h) (RepL.mono hp e r) (RepL.mono hp e q)
  | _, _, .obj m h n r => .obj m (e _ _ h) n (RepL.mono hp e r)
  | _, _, .cell h => .cell (by
      obtain ⟨l, hl⟩ := hp
      rw [hl, List.getElem?_append_left (by
        have := List.getElem?_eq_some_iff.mp h
        exact this.1)]
      exact h)
  | _, _, .fn h => .fn h
theorem RepL.mono {W W' : Wd} (hp : ∃ l, W'.ρ = W.ρ ++ l) (e : Ext W.G W'.G) : ∀ {vs : List V} {ds : List D}, RepL K mg W vs ds → RepL K mg W' vs ds
  | _, _, .nil => .nil
  | _, _, .cons r t => .cons (Rep.mono hp e r) (RepL.mono hp e t)
end

/-- the cells as they stand -/
inductive CellsOk (K : PySem.W.Frag) (mg : Str → Option Value) (W : Wd) (H : Hp) : List Addr → Cs → Prop
  | nil : CellsOk K mg W H [] []
  | cons {a : Addr} {l : List Addr} {ds : List D} {cs : Cs} {vs : List V} : W.G a = none → H a = some (.lst vs) → RepL K mg W vs ds → CellsOk K mg W H l cs → CellsOk K mg W H (a :: l) (ds :: cs)
theorem CellsOk.get {W : Wd} {H : Hp} : ∀ {l : List Addr} {cs : Cs} {n : Nat} {a : Addr}, CellsOk K mg W H l cs → l[n]? = some a → ∃ ds vs, cs[n]? = some ds ∧ W.G a = none ∧ H a = some (.lst vs) ∧ RepL K mg W vs ds
  | _, _, _, _, .nil, e => by simp at e
  | _, _, 0, _, .cons h1 h2 h3 _, e => by simp at e; subst e; exact ⟨_, _, rfl, h1, h2, h3⟩
  | _, _, n + 1, _, .cons _ _ _ t, e => by
    obtain ⟨ds, vs, q⟩ := CellsOk.get (n := n) t (by simpa using e)
    exact ⟨ds, vs, by simpa using q.1, q.2⟩
theorem CellsOk.mem {W : Wd} {H : Hp} {l : List Addr} {cs : Cs} {a : Addr} (h : CellsOk K mg W H l cs) (hm : a ∈ l) : W.G a = none ∧ ∃ vs, H a = some (.lst vs) := by
  obtain ⟨n, e⟩ := List.mem_iff_getElem?.mp hm
  obtain ⟨ds, vs, _, h1, h2, _⟩ := h.get e
  exact ⟨h1, vs, h2⟩
theorem CellsOk.imp {W W' : Wd} {H H' : Hp} (hr : ∀ {vs : List V} {ds : List D}, RepL K mg W vs ds → RepL K mg W' vs ds) : ∀ {l : List Addr} {cs : Cs}, (∀ a ∈ l, W.G a = none → W'.G a = none) → (∀ a ∈ l, ∀ o, H a = some o → H' a = some o) → CellsOk K mg W H l cs → CellsOk K mg W' H' l cs
  | _, _, _, _, .nil => .nil
  | _, _, hg, hh, .cons h1 h2 h3 t => .cons (hg _ (by simp) h1) (hh _ (by simp) _ h2) (hr h3) (CellsOk.imp hr (fun a m => hg a (List.mem_cons_of_mem _ m)) (fun a m => hh a (List.mem_cons_of_mem _ m)) t)
theorem CellsOk.length {W : Wd} {H : Hp} : ∀ {l : List Addr} {cs : Cs}, CellsOk K mg W H l cs → l.length = cs.length
  | _, _, .nil => rfl
  | _, _, .cons _ _ _ t => by simp [CellsOk.length t]
theorem CellsOk.append {W : Wd} {H : Hp} : ∀ {l l' : List Addr} {cs cs' : Cs}, CellsOk K mg W H l cs → CellsOk K mg W H l' cs' → CellsOk K mg W H (l ++ l') (cs ++ cs')
  | _, _, _, _, .nil, h => h
  | _, _, _, _, .cons h1 h2 h3 t, h => .cons h1 h2 h3 (CellsOk.append t h)

structure Ok (K : PySem.W.Frag) (mg : Str → Option Value) (W : Wd) (H : Hp) (cs : Cs) : Prop where
  ex : Ext W.G H
  nd : W.ρ.Nodup
  cl : CellsOk K mg W H W.ρ cs
theorem Ok.noG {W : Wd} {H : Hp} {cs : Cs} (ok : Ok K mg W H cs) {a : Addr} (h : a ∈ W.ρ) : W.G a = none := (ok.cl.mem h).1
theorem Ok.notin {W : Wd} {H : Hp} {cs : Cs} (ok : Ok K mg W H cs) {a : Addr} {o : HO} (h : W.G a = some o) : a ∉ W.ρ := fun m => by
  rw [ok.noG m] at h; cases h
theorem Ok.fresh {W : Wd} {H : Hp} {cs : Cs} (ok : Ok K mg W H cs) {a : Addr} (h : H a = none) : W.G a = none ∧ a ∉ W.ρ := by
  refine ⟨?_, fun m => ?_⟩
  · cases e : W.G a with
    | none => rfl
    | some o => rw [ok.ex a o e] at h; cases h
  · obtain ⟨_, vs, e⟩ := ok.cl.mem m
    rw [e] at h; cases h

structure Le (W : Wd) (H : Hp) (W' : Wd) (H' : Hp) : Prop where
  pre : ∃ l, W'.ρ = W.ρ ++ l
  ex : Ext W.G W'.G
  keep : ∀ a o, H a = some o → a ∉ W.ρ → H' a = some o
  new : ∀ a, H a ≠ none → W.G a = none → a ∉ W.ρ → W'.G a = none ∧ a ∉ W'.ρ
  me : W'.me = W.me
theorem Le.refl (W : Wd) (H : Hp) : Le W H W H := ⟨⟨[], by simp⟩, Ext.refl _, fun _ _ h _ => h, fun _ _ h1 h2 => ⟨h1, h2⟩, rfl⟩
theorem Le.trans {W W1 W2 : Wd} {H H1 H2 : Hp} {cs1 : Cs} (ok1 : Ok K mg W1 H1 cs1) (a : Le W H W1 H1) (b : Le W1 H1 W2 H2) : Le W H W2 H2 := by
  have notin : ∀ x o, H x = some o → x ∉ W.ρ → x ∉ W1.ρ := fun x o e hx => by
    cases g : W.G x with
    | none => exact (a.new x (by rw [e]; simp) g hx).2
    | some u => exact ok1.notin (a.ex x u g)
  refine ⟨?_, a.ex.trans b.ex, fun x o e hx => b.keep x o (a.keep x o e hx) (notin x o e hx), fun x hne g hx => ?_, b.me.trans a.me⟩
  · obtain ⟨l, e⟩ := a.pre
    obtain ⟨l', e'⟩ := b.pre
    exact ⟨l ++ l', by rw [e', e, List.append_assoc]⟩
  · obtain ⟨o, e⟩ := Option.ne_none_iff_exists'.mp hne
    have q := a.new x hne g hx
    exact b.new x (by rw [a.keep x o e hx]; simp) q.1 q.2
theorem Rep.le {W W' : Wd} {H H' : Hp} (l : Le W H W' H') {v : V} {d : D} (r : Rep K mg W v d) : Rep K mg W' v d := r.mono l.pre l.ex
theorem RepL.le {W W' : Wd} {H H' : Hp} (l : Le W H W' H') {v : List V} {d : List D} (r : RepL K mg W v d) : RepL K mg W' v d := r.mono l.pre l.ex

/-- a new object, known from now on -/
theorem Ok.lay {W : Wd} {H : Hp} {cs : Cs} (ok : Ok K mg W H cs) {p : Addr} (o : HO) (h : H p = none) : Ok K mg ⟨W.ρ, upd W.G p o, W.me⟩ (upd H p o) cs ∧ Le W H ⟨W.ρ, upd W.G p o, W.me⟩ (upd H p o) := by
  obtain ⟨g, n⟩ := ok.fresh h
  have ex : Ext W.G (upd W.G p o) := fun a u e => by rw [upd_ne (ne_of_none e g)]; exact e
  have exH : Ext H (upd H p o) := fun a u e => by rw [upd_ne (ne_of_none e h)]; exact e
  refine ⟨⟨fun a u e => ?_, ok.nd, ?_⟩, ⟨⟨[], by simp⟩, ex, fun a u e _ => exH a u e, fun a hne hg hr => ⟨?_, hr⟩, rfl⟩⟩
  · have e : upd W.G p o a = some u := e
    by_cases q : a = p
    · subst q; rw [upd_same] at e ⊢; exact e
    · rw [upd_ne q] at e ⊢; exact ok.ex a u e
  · refine CellsOk.imp (fun r => r.mono ⟨[], by simp⟩ ex) (fun a m hg => ?_) (fun a m u e => exH a u e) ok.cl
    have : a ≠ p := fun q => n (q ▸ m)
    show upd W.G p o a = none
    rw [upd_ne this]; exact hg
  · have : a ≠ p := fun q => by subst q; exact hne h
    show upd W.G p o a = none
    rw [upd_ne this]; exact hg
theorem Ok.newT {W : Wd} {H : Hp} {cs : Cs} {Q : VK} {xs : List V} {ds : List D} (ok : Ok K mg W H cs) (r : RepL K mg W xs ds) (q : ∀ (v : V) (W' : Wd) (H' : Hp), Ok K mg W' H' cs → Le W H W' H' → Rep K mg W' v (.tup ds) → Q v H') : NewT xs H Q := fun p o hp ho => by
  obtain ⟨ok2, l2⟩ := ok.lay (.frz o (.tup xs)) hp
  exact q _ _ _ ok2 l2 (.tup (TupR.new ho) (r.le l2))
/-- an object that came since is known from now on (it stood apart) -/
theorem Ok.freeze {W0 W : Wd} {H0 H : Hp} {cs : Cs} (ok : Ok K mg W H cs) (l : Le W0 H0 W H) {p : Addr} {o : HO} (h : H p = some o) (g : W.G p = none) (n : p ∉ W.ρ) (h0 : H0 p = none) :
    Ok K mg ⟨W.ρ, upd W.G p o, W.me⟩ H cs ∧ Le W0 H0 ⟨W.ρ, upd W.G p o, W.me⟩ H ∧ Ext W.G (upd W.G p o) := by
  have ex : Ext W.G (upd W.G p o) := fun a u e => by rw [upd_ne (ne_of_none e g)]; exact e
  refine ⟨⟨fun a u e => ?_, ok.nd, ?_⟩, ⟨l.pre, l.ex.trans ex, l.keep, fun a hne hg hr => ?_, l.me⟩, ex⟩
  · have e : upd W.G p o a = some u := e
    by_cases q : a = p
    · subst q; rw [upd_same] at e; cases e; exact h
    · rw [upd_ne q] at e; exact ok.ex a u e
  · refine CellsOk.imp (fun r => r.mono ⟨[], by simp⟩ ex) (fun a m hg => ?_) (fun a m u e => e) ok.cl
    have : a ≠ p := fun q => n (q ▸ m)
    show upd W.G p o a = none
    rw [upd_ne this]; exact hg
  · have q := l.new a hne hg hr
    have : a ≠ p := fun z => by subst z; exact hne h0
    refine ⟨?_, q.2⟩
    show upd W.G p o a = none
    rw [upd_ne this]; exact q.1
/-- an object that stands apart is changed -/
theorem Ok.change {W0 W : Wd} {H0 H : Hp} {cs : Cs} (ok : Ok K mg W H cs) (l : Le W0 H0 W H) {p : Addr} (o : HO) (g : W.G p = none) (n : p ∉ W.ρ) (h0 : H0 p = none) :
    Ok K mg W (upd H p o) cs ∧ Le W0 H0 W (upd H p o) := by
  refine ⟨⟨fun a u e => ?_, ok.nd, ?_⟩, ⟨l.pre, l.ex, fun a u e hr => ?_, l.new, l.me⟩⟩
  · rw [upd_ne (ne_of_none e g)]; exact ok.ex a u e
  · refine CellsOk.imp (fun r => r) (fun a m hg => hg) (fun a m u e => ?_) ok.cl
    have : a ≠ p := fun q => n (q ▸ m)
    rw [upd_ne this]; exact e
  · have : a ≠ p := fun z => by subst z; rw [h0] at e; cases e
    rw [upd_ne this]; exact l.keep a u e hr
/-- a new object that stands apart -/
theorem Ok.apart {W : Wd} {H : Hp} {cs : Cs} (ok : Ok K mg W H cs) {p : Addr} (o : HO) (h : H p = none) : Ok K mg W (upd H p o) cs ∧ Le W H W (upd H p o) := by
  obtain ⟨g, n⟩ := ok.fresh h
  exact ok.change (Le.refl W H) o g n h
/-- a new cell -/
theorem Ok.cellNew {W : Wd} {H : Hp} {cs : Cs} (ok : Ok K mg W H cs) {p : Addr} {vs : List V} {ds : List D} (r : RepL K mg W vs ds) (h : H p = none) :
    Ok K mg ⟨W.ρ ++ [p], W.G, W.me⟩ (upd H p (.lst vs)) (cs ++ [ds]) ∧ Le W H ⟨W.ρ ++ [p], W.G, W.me⟩ (upd H p (.lst vs)) := by
  obtain ⟨g, n⟩ := ok.fresh h
  have exH : Ext H (upd H p (.lst vs)) := fun a u e => by rw [upd_ne (ne_of_none e h)]; exact e
  refine ⟨⟨fun a u e => exH a u (ok.ex a u e), ?_, ?_⟩, ⟨⟨[p], rfl⟩, Ext.refl _, fun a u e _ => exH a u e, fun a hne hg hr => ⟨hg, ?_⟩, rfl⟩⟩
  · refine List.nodup_append.mpr ⟨ok.nd, by simp, fun a ha b hb => ?_⟩
    simp at hb; subst hb
    exact fun q => n (q ▸ ha)
  · have hm : ∀ {vs : List V} {ds : List D}, RepL K mg W vs ds → RepL K mg ⟨W.ρ ++ [p], W.G, W.me⟩ vs ds := fun r => RepL.mono (W := W) (W' := ⟨W.ρ ++ [p], W.G, W.me⟩) ⟨[p], rfl⟩ (Ext.refl _) r
    exact CellsOk.append (CellsOk.imp (W := W) (W' := ⟨W.ρ ++ [p], W.G, W.me⟩) (H := H) hm (fun a m hg => hg) (fun a m u e => exH a u e) ok.cl) (.cons g upd_same (hm r) .nil)
  · intro m
    rcases List.mem_append.mp m with m | m
    · exact hr m
    · simp at m; subst m; exact hne h
theorem CellsOk.put {W : Wd} {H : Hp} {p : Addr} {vs : List V} {ds : List D} (r : RepL K mg W vs ds) : ∀ {l : List Addr} {cs : Cs} {n : Nat}, l.Nodup → l[n]? = some p → CellsOk K mg W H l cs → CellsOk K mg W (upd H p (.lst vs)) l (cs.set n ds)
  | _, _, _, _, e, .nil => by simp at e
  | b :: l, _ :: cs, 0, nd, e, .cons h1 h2 h3 t => by
    have e : b = p := by simpa using e
    subst e
    refine .cons h1 upd_same r (CellsOk.imp (fun r => r) (fun a m hg => hg) (fun a m u e => ?_) t)
    have : a ≠ b := fun q => (List.nodup_cons.mp nd).1 (q ▸ m)
    rw [upd_ne this]; exact e
  | b :: l, _ :: cs, n + 1, nd, e, .cons h1 h2 h3 t => by
    have e' : l[n]? = some p := by simpa using e
    refine .cons h1 ?_ h3 (CellsOk.put r (n := n) (List.nodup_cons.mp nd).2 e' t)
    have : b ≠ p := fun q => (List.nodup_cons.mp nd).1 (q ▸ (List.mem_of_getElem? e'))
    rw [upd_ne this]; exact h2
/-- a cell is changed -/
theorem Ok.cellPut {W : Wd} {H : Hp} {cs : Cs} (ok : Ok K mg W H cs) {p : Addr} {n : Nat} {vs : List V} {ds : List D} (hp : W.ρ[n]? = some p) (r : RepL K mg W vs ds) :
    Ok K mg W (upd H p (.lst vs)) (cs.set n ds) ∧ Le W H W (upd H p (.lst vs)) := by
  have m : p ∈ W.ρ := List.mem_of_getElem? hp
  refine ⟨⟨fun a u e => ?_, ok.nd, CellsOk.put r ok.nd hp ok.cl⟩, ⟨⟨[], by simp⟩, Ext.refl _, fun a u e hr => ?_, fun a hne hg hr => ⟨hg, hr⟩, rfl⟩⟩
  · rw [upd_ne (ne_of_none e (ok.noG m))]; exact ok.ex a u e
  · have : a ≠ p := fun q => hr (q ▸ m)
    rw [upd_ne this]; exact e

/-! ### slots -/
inductive Sl where
  | un | val (d : D) | own (xs : List D) | odct (ks vs : List D) | self (c : Str) (ns : List Str) (vs : List D)
deriving Inhabited
def SlOk (K : PySem.W.Frag) (mg : Str → Option Value) (W : Wd) (H0 H : Hp) (o : Option (Option V)) : Sl → Prop
  | .un => True
  | .val d => ∃ v, o = some (some v) ∧ Rep K mg W v d
  | .own xs => ∃ p vs, o = some (some (.ref p)) ∧ H p = some (.lst vs) ∧ RepL K mg W vs xs ∧ W.G p = none ∧ p ∉ W.ρ ∧ H0 p = none
  | .odct ks us => ∃ p kvs, o = some (some (.ref p)) ∧ H p = some (.dK kvs) ∧ (RepL K mg W (kvs.map fun p => kV p.1) ks ∧ RepL K mg W (kvs.map (·.2)) us ∧ (kvs.map (·.1)).Nodup) ∧ W.G p = none ∧ p ∉ W.ρ ∧ H0 p = none
  | .self c ns vs => ∃ p C dx fs, o = some (some (.ref p)) ∧ mg c = some (.ref C) ∧ H p = some (.ins C dx fs) ∧ ns = fs.map (·.1) ∧ RepL K mg W (fs.map (·.2)) vs ∧ W.G p = none ∧ p ∉ W.ρ ∧ H0 p = none ∧ W.me = some (p, dx)
def Sl.owns : Sl → Bool
  | .own _ => true
  | .odct _ _ => true
  | .self _ _ _ => true
  | _ => false
structure Slots (K : PySem.W.Frag) (mg : Str → Option Value) (W : Wd) (H0 H : Hp) (σ : SSt) (S : List Sl) : Prop where
  len : σ.length = S.length
  get : ∀ (i : Nat) (s : Sl), S[i]? = some s → SlOk K mg W H0 H σ[i]? s
  sep : ∀ (i j : Nat) (s t : Sl) (p : Addr), i ≠ j → S[i]? = some s → S[j]? = some t → s.owns = true → t.owns = true → σ[i]? = some (some (.ref p)) → σ[j]? ≠ some (some (.ref p))
theorem SlOk.mono {W W' : Wd} {H0 H H' : Hp} {o : Option (Option V)} (l : Le W H W' H') : ∀ {s : Sl}, SlOk K mg W H0 H o s → SlOk K mg W' H0 H' o s
  | .un, _ => True.intro
  | .val d, ⟨v, e, r⟩ => ⟨v, e, r.le l⟩
  | .own xs, ⟨p, vs, e, h, r, g, n, h0⟩ => by
    have q := l.new p (by rw [h]; simp) g n
    exact ⟨p, vs, e, l.keep p _ h n, r.le l, q.1, q.2, h0⟩
  | .odct ks us, ⟨p, kvs, e, h, ⟨r1, r2, nd⟩, g, n, h0⟩ => by
    have q := l.new p (by rw [h]; simp) g n
    exact ⟨p, kvs, e, l.keep p _ h n, ⟨r1.le l, r2.le l, nd⟩, q.1, q.2, h0⟩
  | .self c ns vs, ⟨p, C, dx, fs, e, m, h, hn, r, g, n, h0, hm⟩ => by
    have q := l.new p (by rw [h]; simp) g n
    exact ⟨p, C, dx, fs, e, m, l.keep p _ h n, hn, r.le l, q.1, q.2, h0, l.me.trans hm⟩
theorem Slots.mono {W W' : Wd} {H0 H H' : Hp} {σ : SSt} {S : List Sl} (sl : Slots K mg W H0 H σ S) (l : Le W H W' H') : Slots K mg W' H0 H' σ S :=
  ⟨sl.len, fun i s e => (sl.get i s e).mono l, sl.sep⟩
theorem Slots.val {W : Wd} {H0 H : Hp} {σ : SSt} {S : List Sl} (sl : Slots K mg W H0 H σ S) {i : Nat} {d : D} (e : S[i]? = some (.val d)) : ∃ v, σ[i]? = some (some v) ∧ Rep K mg W v d := sl.get i _ e
theorem Slots.setVal {W : Wd} {H0 H : Hp} {σ : SSt} {S : List Sl} (sl : Slots K mg W H0 H σ S) {i : Nat} {v : V} {d : D} (r : Rep K mg W v d) : Slots K mg W H0 H (σ.set i (some v)) (S.set i (.val d)) := by
  refine ⟨by simp [sl.len], fun j s e => ?_, fun j k s t p ne e1 e2 o1 o2 q => ?_⟩
  · by_cases h : i = j
    · subst h
      by_cases hl : i < S.length
      · rw [List.getElem?_set_self hl] at e
        cases e
        exact ⟨v, List.getElem?_set_self (by rw [sl.len]; exact hl), r⟩
      · rw [List.getElem?_eq_none (by simp; omega)] at e; cases e
    · rw [List.getElem?_set_ne h] at e ⊢
      exact sl.get j s e
  · have h1 : i ≠ j := fun z => by
      subst z
      by_cases hl : i < S.length
      · rw [List.getElem?_set_self hl] at e1; cases e1; cases o1
      · rw [List.getElem?_eq_none (by simp; omega)] at e1; cases e1
    have h2 : i ≠ k := fun z => by
      subst z
      by_cases hl : i < S.length
      · rw [List.getElem?_set_self hl] at e2; cases e2; cases o2
      · rw [List.getElem?_eq_none (by simp; omega)] at e2; cases e2
    rw [List.getElem?_set_ne h1] at e1 q
    rw [List.getElem?_set_ne h2] at e2 ⊢
    exact sl.sep j k s t p ne e1 e2 o1 o2 q
/-- a slot takes an object that stands apart and is held by no other slot -/
theorem Slots.setOwn {W : Wd} {H0 H : Hp} {σ : SSt} {S : List Sl} (sl : Slots K mg W H0 H σ S) {i : Nat} {p : Addr} {s : Sl} (ok : SlOk K mg W H0 H (some (some (.ref p))) s)
    (ap : ∀ j t, j ≠ i → S[j]? = some t → t.owns = true → σ[j]? ≠ some (some (.ref p))) : Slots K mg W H0 H (σ.set i (some (.ref p))) (S.set i s) := by
  refine ⟨by simp [sl.len], fun j t e => ?_, fun j k t u q ne e1 e2 o1 o2 z => ?_⟩
  · by_cases h : i = j
    · subst h
      by_cases hl : i < S.length
      · rw [List.getElem?_set_self hl] at e
        cases e
        rw [List.getElem?_set_self (by rw [sl.len]; exact hl)]
        exact ok
      · rw [List.getElem?_eq_none (by simp; omega)] at e; cases e
    · rw [List.getElem?_set_ne h] at e ⊢
      exact sl.get j t e
  · by_cases h1 : i = j
    · subst h1
      have hl : i < S.length := by
        by_cases hl : i < S.length
        · exact hl
        · rw [List.getElem?_eq_none (by simp; omega)] at e1; cases e1
      rw [List.getElem?_set_self (by rw [sl.len]; exact hl)] at z
      cases z
      rw [List.getElem?_set_ne ne] at e2 ⊢
      exact ap k u (Ne.symm ne) e2 o2
    · rw [List.getElem?_set_ne h1] at e1 z
      by_cases h2 : i = k
      · subst h2
        have hl : i < S.length := by
          by_cases hl : i < S.length
          · exact hl
          · rw [List.getElem?_eq_none (by simp; omega)] at e2; cases e2
        rw [List.getElem?_set_self (by rw [sl.len]; exact hl)]
        intro y
        cases y
        exact ap j t ne e1 o1 z
      · rw [List.getElem?_set_ne h2] at e2 ⊢
        exact sl.sep j k t u q ne e1 e2 o1 o2 z
end
end LL

set_option Elab.async false
set_option linter.all false
set_option maxRecDepth 100000
set_option maxHeartbeats 4000000
/-! readings of expressions as functions of plain data -/
namespace LL
open PySem PySem.Spec PyProof.Rows L2

inductive Res (α : Type) where
  | ok (a : α) (cs : Cs) | exc (c : Str) (ns : List Str) (vs : List D) (cs : Cs) | bad
def Res.bind {α β : Type} (r : Res α) (k : α → Cs → Res β) : Res β := match r with
  | .ok a cs => k a cs
  | .exc c ns vs cs => .exc c ns vs cs
  | .bad => .bad
@[simp] theorem Res.bind_ok {α β : Type} (a : α) (cs : Cs) (k : α → Cs → Res β) : (Res.ok a cs).bind k = k a cs := rfl
@[simp] theorem Res.bind_bad {α β : Type} (k : α → Cs → Res β) : (Res.bad).bind k = .bad := rfl
@[simp] theorem Res.bind_exc {α β : Type} (c : Str) (ns : List Str) (vs : List D) (cs : Cs) (k : α → Cs → Res β) : (Res.exc c ns vs cs).bind k = .exc c ns vs cs := rfl
def Res.opt {α : Type} (o : Option α) (cs : Cs) : Res α := match o with
  | some a => .ok a cs
  | none => .bad
@[simp] theorem Res.opt_some {α : Type} (a : α) (cs : Cs) : Res.opt (some a) cs = .ok a cs := rfl

/-- what a result promises: r holds of its value, in whatever world comes -/
def RO {α β : Type} (K : PySem.W.Frag) (mg : Str → Option Value) (E : XK) (R : Wd → β → α → Prop) (W : Wd) (H : Hp) (r : Res α) (Q : β → Hp → Prop) : Prop :=
  match r with
  | .ok d cs' => ∀ (v : β) (W' : Wd) (H' : Hp), Ok K mg W' H' cs' → Le W H W' H' → R W' v d → Q v H'
  | .exc c ns vs cs' => ∀ (W' : Wd) (H' : Hp) (C a : Addr) (fs : List (Str × V)), Ok K mg W' H' cs' → Le W H W' H' → mg c = some (.ref C) → H' a = some (.xd fs) → ns = fs.map (·.1) → RepL K mg W' (fs.map (·.2)) vs → E (.ref C) (some a) H'
  | .bad => False

section
variable {K : PySem.W.Frag} {mg : Str → Option Value} {E : XK} {α β γ δ : Type} {R : Wd → β → α → Prop} {R' : Wd → δ → γ → Prop} {W W1 : Wd} {H H1 : Hp} {cs cs1 : Cs}
theorem RO.le {r : Res α} {Q : β → Hp → Prop} (h : RO K mg E R W H r Q) (ok : Ok K mg W1 H1 cs1) (l : Le W H W1 H1) : RO K mg E R W1 H1 r Q := by
  cases r with
  | ok d cs' => exact fun v W' H' o l' r => h v W' H' o (l.trans ok l') r
  | exc c ns vs cs' => exact fun W' H' C a fs o l' => h W' H' C a fs o (l.trans ok l')
  | bad => exact h
theorem RO.imp {r : Res α} {Q Q' : β → Hp → Prop} (h : RO K mg E R W H r Q) (q : ∀ v H, Q v H → Q' v H) : RO K mg E R W H r Q' := by
  cases r with
  | ok d cs' => exact fun v W' H' o l' r => q _ _ (h v W' H' o l' r)
  | exc c ns vs cs' => exact h
  | bad => exact h
theorem RO.seq {r : Res α} {k : α → Cs → Res γ} {Q : δ → Hp → Prop} (h : RO K mg E R' W H (r.bind k) Q) :
    RO K mg E R W H r (fun _ H1 => ∃ (W1 : Wd) (cs1 : Cs), Ok K mg W1 H1 cs1 ∧ Le W H W1 H1 ∧ ∃ d, r = .ok d cs1 ∧ RO K mg E R' W1 H1 (k d cs1) Q) := by
  cases r with
  | ok d cs' => exact fun v W' H' o l r => ⟨W', cs', o, l, d, rfl, h.le o l⟩
  | exc c ns vs cs' => exact h
  | bad => exact h
/-- the same, the value kept -/
theorem RO.seqv {r : Res α} {k : α → Cs → Res γ} {Q : δ → Hp → Prop} (h : RO K mg E R' W H (r.bind k) Q) :
    RO K mg E R W H r (fun v H1 => ∃ (W1 : Wd) (cs1 : Cs) (d : α), Ok K mg W1 H1 cs1 ∧ Le W H W1 H1 ∧ R W1 v d ∧ RO K mg E R' W1 H1 (k d cs1) Q) := by
  cases r with
  | ok d cs' => exact fun v W' H' o l r => ⟨W', cs', d, o, l, r, h.le o l⟩
  | exc c ns vs cs' => exact h
  | bad => exact h
theorem RO.opt {o : Option α} {Q : β → Hp → Prop} (h : RO K mg E R W H (Res.opt o cs) Q) : ∃ d, o = some d ∧ ∀ (v : β) (W' : Wd) (H' : Hp), Ok K mg W' H' cs → Le W H W' H' → R W' v d → Q v H' := by
  cases o with
  | some d => exact ⟨d, rfl, h⟩
  | none => exact h.elim
theorem RO.ok_ {d : α} {Q : β → Hp → Prop} (ok : Ok K mg W H cs) (h : RO K mg E R W H (.ok d cs) Q) {v : β} (r : R W v d) : Q v H := h v W H ok (Le.refl W H) r
end

abbrev Sem := List Sl → Cs → Res D
abbrev Sems := List Sl → Cs → Res (List D)
def den (K : PySem.W.Frag) (mg : Str → Option Value) (E : XK) (f : Sem) : TE := fun σ H Q => ∃ W S cs H0, Ok K mg W H cs ∧ Slots K mg W H0 H σ S ∧ RO K mg E (Rep K mg) W H (f S cs) Q
def denA (K : PySem.W.Frag) (mg : Str → Option Value) (E : XK) (f : Sems) : TA := fun σ H Q => ∃ W S cs H0, Ok K mg W H cs ∧ Slots K mg W H0 H σ S ∧ RO K mg E (RepL K mg) W H (f S cs) Q
def RepB (_ : Wd) (b : Bool) (d : Bool) : Prop := b = d
def asB (r : Res D) : Res Bool := r.bind fun d cs => match d with
  | .bl b => .ok b cs
  | _ => .bad
@[simp] theorem asB_ok (b : Bool) (cs : Cs) : asB (.ok (.bl b) cs) = .ok b cs := rfl
def denT (K : PySem.W.Frag) (mg : Str → Option Value) (E : XK) (f : Sem) : TT := fun σ H Q => ∃ W S cs H0, Ok K mg W H cs ∧ Slots K mg W H0 H σ S ∧ RO K mg E RepB W H (asB (f S cs)) Q
abbrev DE (X : Cx) (E : XK) (e : Expr) (f : Sem) : Prop := PE X e (den X.K X.mg E f)
abbrev DA (X : Cx) (E : XK) (es : List Expr) (f : Sems) : Prop := PA X es (denA X.K X.mg E f)
abbrev DT (X : Cx) (E : XK) (e : Expr) (f : Sem) : Prop := PT X e (denT X.K X.mg E f)

theorem _root_.L2.PE.imp {X : Cx} {e : Expr} {t t' : TE} (h : PE X e t) (i : ∀ σ H Q, t' σ H Q → t σ H Q) : PE X e t' := ⟨fun pins s σ H Q I q => h.run pins s σ H Q I (i σ H Q q)⟩
theorem _root_.L2.PA.imp {X : Cx} {e : List Expr} {t t' : TA} (h : PA X e t) (i : ∀ σ H Q, t' σ H Q → t σ H Q) : PA X e t' := ⟨fun pos pins s σ H Q I q => h.run pos pins s σ H Q I (i σ H Q q)⟩
theorem _root_.L2.PT.imp {X : Cx} {e : Expr} {t t' : TT} (h : PT X e t) (i : ∀ σ H Q, t' σ H Q → t σ H Q) : PT X e t' := ⟨fun pins s σ H Q I q => h.run pins s σ H Q I (i σ H Q q)⟩
theorem _root_.L2.PW.imp {X : Cx} {e : Expr} {t t' : TT} (h : PW X e t) (i : ∀ σ H Q, t' σ H Q → t σ H Q) : PW X e t' := ⟨fun w pins s σ H Q I q => h.run w pins s σ H Q I (i σ H Q q)⟩
theorem _root_.L2.PS.imp {X : Cx} {e : Stmt} {t t' : TS} (h : PS X e t) (i : ∀ D σ H, t' D σ H → t D σ H) : PS X e t' := ⟨fun pins s σ H D I q => h.run pins s σ H D I (i D σ H q)⟩
theorem _root_.L2.PSs.imp {X : Cx} {e : List Stmt} {t t' : TS} (h : PSs X e t) (i : ∀ D σ H, t' D σ H → t D σ H) : PSs X e t' := ⟨fun pins s σ H D I q => h.run pins s σ H D I (i D σ H q)⟩

/-! ### one after another -/
section
variable {K : PySem.W.Frag} {mg : Str → Option Value} {E : XK} {W : Wd} {H H0 : Hp} {cs : Cs} {σ : SSt} {S : List Sl} {γ δ : Type} {R' : Wd → δ → γ → Prop}
/-- behind a first expression -/
theorem den.then {f : Sem} {k : D → Cs → Res γ} {Q : δ → Hp → Prop} (ok : Ok K mg W H cs) (sl : Slots K mg W H0 H σ S) (h : RO K mg E R' W H ((f S cs).bind k) Q) :
    den K mg E f σ H (fun v H1 => ∃ (W1 : Wd) (cs1 : Cs) (d : D), Ok K mg W1 H1 cs1 ∧ Slots K mg W1 H0 H1 σ S ∧ Le W H W1 H1 ∧ Rep K mg W1 v d ∧ RO K mg E R' W1 H1 (k d cs1) Q) :=
  ⟨W, S, cs, H0, ok, sl, (RO.seqv h).imp fun v H1 ⟨W1, cs1, d, ok1, le1, r1, q⟩ => ⟨W1, cs1, d, ok1, sl.mono le1, le1, r1, q⟩⟩
theorem denA.then {f : Sems} {k : List D → Cs → Res γ} {Q : δ → Hp → Prop} (ok : Ok K mg W H cs) (sl : Slots K mg W H0 H σ S) (h : RO K mg E R' W H ((f S cs).bind k) Q) :
    denA K mg E f σ H (fun v H1 => ∃ (W1 : Wd) (cs1 : Cs) (d : List D), Ok K mg W1 H1 cs1 ∧ Slots K mg W1 H0 H1 σ S ∧ Le W H W1 H1 ∧ RepL K mg W1 v d ∧ RO K mg E R' W1 H1 (k d cs1) Q) :=
  ⟨W, S, cs, H0, ok, sl, (RO.seqv h).imp fun v H1 ⟨W1, cs1, d, ok1, le1, r1, q⟩ => ⟨W1, cs1, d, ok1, sl.mono le1, le1, r1, q⟩⟩
theorem denT.then {f : Sem} {k : Bool → Cs → Res γ} {Q : δ → Hp → Prop} (ok : Ok K mg W H cs) (sl : Slots K mg W H0 H σ S) (h : RO K mg E R' W H ((asB (f S cs)).bind k) Q) :
    denT K mg E f σ H (fun b H1 => ∃ (W1 : Wd) (cs1 : Cs), Ok K mg W1 H1 cs1 ∧ Slots K mg W1 H0 H1 σ S ∧ Le W H W1 H1 ∧ RO K mg E R' W1 H1 (k b cs1) Q) :=
  ⟨W, S, cs, H0, ok, sl, (RO.seqv (R := RepB) h).imp fun v H1 ⟨W1, cs1, d, ok1, le1, r1, q⟩ => ⟨W1, cs1, ok1, sl.mono le1, le1, by cases r1; exact q⟩⟩
end

section
variable {X : Cx} {E : XK} {e a b c : Expr} {f g h : Sem} {pos : Pos}

/-! ### names and constants -/
def eVar (i : Nat) : Sem := fun S cs => match S[i]? with
  | some (.val d) => .ok d cs
  | _ => .bad
def eC (d : D) : Sem := fun _ cs => .ok d cs
theorem de_of (i : Nat) (h : PE X e (tVar i)) : DE X E e (eVar i) := h.imp fun σ H Q ⟨W, S, cs, H0, ok, sl, q⟩ => by
  unfold eVar at q
  cases hs : S[i]? with
  | none => rw [hs] at q; exact q.elim
  | some s =>
    rw [hs] at q
    cases s with
    | val d =>
      obtain ⟨v, e, r⟩ := sl.val hs
      exact ⟨v, e, q v W H ok (Le.refl W H) r⟩
    | _ => exact q.elim
theorem de_c {v : V} {d : D} (h : PE X e (tC v)) (r : ∀ W, Rep X.K X.mg W v d) : DE X E e (eC d) := h.imp fun σ H Q ⟨W, S, cs, H0, ok, sl, q⟩ => q v W H ok (Le.refl W H) (r W)
theorem de_int {i : Int} {j} : DE X E (.Constant (.int i) j pos) (eC (.int i)) := de_c pe_int fun W => .int i
theorem de_str {i : Str} {j} : DE X E (.Constant (.str i) j pos) (eC (.str i)) := de_c pe_str fun W => .str i
theorem de_bl {i : Bool} {j} : DE X E (.Constant (.bool i) j pos) (eC (.bl i)) := de_c pe_bl fun W => .bl i
theorem de_non {j} : DE X E (.Constant .none j pos) (eC .non) := de_c pe_non fun W => .non
theorem de_gint {x : Str} {i : Int} (hg : Gl X x) (hm : ∃ t, X.mg x = some (.int i t)) (hd : (x == ("__debug__" : Str)) = false := by decide) : DE X E (.Name x pos) (eC (.int i)) :=
  de_c (pe_glob (v := .int i) hg hm.choose_spec ⟨_, rfl⟩ hd) fun W => .int i
theorem de_gstr {x : Str} {i : Str} (hg : Gl X x) (hm : ∃ t, X.mg x = some (.str i t)) (hd : (x == ("__debug__" : Str)) = false := by decide) : DE X E (.Name x pos) (eC (.str i)) :=
  de_c (pe_glob (v := .str i) hg hm.choose_spec ⟨_, rfl⟩ hd) fun W => .str i
theorem de_gfn {x : Str} {i : Addr} (hg : Gl X x) (hm : X.mg x = some (.ref i)) (hd : (x == ("__debug__" : Str)) = false := by decide) : DE X E (.Name x pos) (eC (.fn x)) :=
  de_c (pe_glob (v := .ref i) hg hm rfl hd) fun W => .fn hm

/-! ### two operands -/
def eBin (op : Cs → D → D → Option D) (f g : Sem) : Sem := fun S cs => (f S cs).bind fun x cs => (g S cs).bind fun y cs => Res.opt (op cs x y) cs
def rD (K : PySem.W.Frag) (mg : Str → Option Value) (op : Cs → D → D → Option D) : R2 := fun x y H Q => ∃ W cs dx dy d, Ok K mg W H cs ∧ Rep K mg W x dx ∧ Rep K mg W y dy ∧ op cs dx dy = some d ∧
  ∀ (v : V) (W' : Wd) (H' : Hp), Ok K mg W' H' cs → Le W H W' H' → Rep K mg W' v d → Q v H'
theorem den.op {op : Cs → D → D → Option D} {σ : SSt} {H : Hp} {Q : VK} (q : den X.K X.mg E (eBin op f g) σ H Q) : tOp (rD X.K X.mg op) (den X.K X.mg E f) (den X.K X.mg E g) σ H Q := by
  obtain ⟨W, S, cs, H0, ok, sl, q⟩ := q
  obtain ⟨W', S', cs', H0', ok', sl', q'⟩ := den.then ok sl q
  refine ⟨W', S', cs', H0', ok', sl', q'.imp fun v H1 ⟨W1, cs1, d, ok1, sl1, l1, r1, q1⟩ => ?_⟩
  obtain ⟨W2, S2, cs2, H2, ok2, sl2, q2⟩ := den.then ok1 sl1 q1
  refine ⟨W2, S2, cs2, H2, ok2, sl2, q2.imp fun u H3 ⟨W3, cs3, d3, ok3, sl3, l3, r3, q3⟩ => ?_⟩
  obtain ⟨z, e, q4⟩ := q3.opt
  exact ⟨W3, cs3, d, d3, z, ok3, r1.le l3, r3, e, q4⟩
theorem de_bin {op : Operator} {fop : Cs → D → D → Option D} (ho : OpR X (binaryOp op) (rD X.K X.mg fop)) (ha : DE X E a f) (hb : DE X E b g) : DE X E (.BinOp a op b pos) (eBin fop f g) :=
  (pe_op ho ha hb).imp fun σ H Q q => den.op q
theorem de_cmp {op : CmpOp} {fop : Cs → D → D → Option D} (ho : OpR X (compareOp op) (rD X.K X.mg fop)) (ha : DE X E a f) (hb : DE X E b g) (hm : behindInMarks op b = false) : DE X E (.Compare a [op] [b] pos) (eBin fop f g) :=
  (pe_cmpR ho ha hb hm).imp fun σ H Q q => den.op q
theorem den.toT {f : Sem} {σ : SSt} {H : Hp} {Q : Bool → Hp → Prop} (q : denT X.K X.mg E f σ H Q) : den X.K X.mg E f σ H (fun x H' => ∃ k, x = .bl k ∧ Q k H') := by
  obtain ⟨W, S, cs, H0, ok, sl, q⟩ := q
  refine ⟨W, S, cs, H0, ok, sl, (RO.seqv (R := Rep X.K X.mg) q).imp ?_⟩
  intro v H1 ⟨W1, cs1, d, ok1, l1, r1, q1⟩
  cases r1 with
  | bl k => exact ⟨k, rfl, RO.ok_ ok1 q1 rfl⟩
  | _ => exact q1.elim
/-- an expression as a test: any whose test is its value's truth -/
theorem dt_val (h : DE X E e f) (he : ∀ whole, isTrue e X.env whole = (do let v ← whole; standAt e.pos; holding [v] (truthy v)) := by intro _; rfl) : DT X E e f :=
  (pt_val h he).imp fun σ H Q q => den.toT q
theorem dt_cmp {op : CmpOp} {fop : Cs → D → D → Option D} (ho : OpR X (compareOp op) (rD X.K X.mg fop)) (ha : DE X E a f) (hb : DE X E b g) (hm : behindInMarks op b = false) : DT X E (.Compare a [op] [b] pos) (eBin fop f g) :=
  (pt_cmpR ho ha hb hm).imp fun σ H Q q => den.op (den.toT q)
/-- truth of numbers, texts, sequences, dicts -/
def truD : D → Option Bool
  | .non => some false
  | .bl b => some b
  | .int i => some (i != 0)
  | .str x => if x.length ≤ 1000000 then some (x.length != 0) else none
  | .tup xs => some (!xs.isEmpty)
  | .lst xs => some (!xs.isEmpty)
  | .scr xs => some (!xs.isEmpty)
  | .dct ks _ => some (!ks.isEmpty)
  | _ => none
def eTru (f : Sem) : Sem := fun S cs => (f S cs).bind fun d cs => Res.opt ((truD d).map .bl) cs
theorem truV_of {K : PySem.W.Frag} {mg : Str → Option Value} {W : Wd} {H : Hp} (ex : Ext W.G H) {x : V} {d : D} {b : Bool} (r : Rep K mg W x d) (e : truD d = some b) : TruV K x H b := by
  cases r with
  | non => cases e; rfl
  | bl k => cases e; rfl
  | int i => cases e; rfl
  | str x =>
    have e : (if x.length ≤ 1000000 then some (x.length != 0) else none) = some b := e
    split at e
    · cases e
      refine ⟨Nat.le_trans (by assumption) (by decide), ?_⟩
      rw [Bool.eq_iff_iff]
      simp
    · cases e
  | tup h r => cases e; exact .inr (.inl ⟨_, ex.sqt h.sqt, by rw [r.isEmpty]⟩)
  | lst h r => cases e; exact .inl ⟨_, .inl (.inl (ex _ _ h)), by rw [r.isEmpty]⟩
  | scr h r => cases e; exact .inl ⟨_, ex.sql h, by rw [r.isEmpty]⟩
  | @dct a kvs ks vs h r1 r2 =>
    cases e
    refine .inr (.inr ⟨_, ex _ _ h, ?_⟩)
    rw [← r1.isEmpty]
    cases kvs <;> rfl
  | obj _ _ _ _ => cases e
  | cell _ => cases e
  | fn _ => cases e
theorem dt_tru (ha : DE X E a f) (he : ∀ whole, isTrue a X.env whole = (do let v ← whole; standAt a.pos; holding [v] (truthy v)) := by intro _; rfl) : DT X E a (eTru f) :=
  (pt_truth ha he).imp fun σ H Q ⟨W, S, cs, H0, ok, sl, q⟩ => by
    unfold eTru asB at q
    refine ⟨W, S, cs, H0, ok, sl, ?_⟩
    cases hf : f S cs with
    | ok d cs' =>
      rw [hf] at q
      intro v W' H' ok' l r
      have q : RO X.K X.mg E RepB W H ((Res.opt ((truD d).map D.bl) cs').bind fun d cs => match d with | .bl b => .ok b cs | _ => .bad) Q := q
      cases ht : truD d with
      | none => rw [ht] at q; exact q.elim
      | some b =>
        rw [ht] at q
        exact ⟨b, truV_of ok'.ex r ht, q b W' H' ok' l rfl⟩
    | exc c ns vs cs' => rw [hf] at q; exact q
    | bad => rw [hf] at q; exact q

/-! ### and, or, not, x if t else y -/
def eAnd (f g : Sem) : Sem := fun S cs => (asB (f S cs)).bind fun b cs => if b then g S cs else .ok (.bl false) cs
def eOr (f g : Sem) : Sem := fun S cs => (asB (f S cs)).bind fun b cs => if b then .ok (.bl true) cs else g S cs
def eNot (f : Sem) : Sem := fun S cs => (asB (f S cs)).bind fun b cs => .ok (.bl (!b)) cs
def eIf (t f g : Sem) : Sem := fun S cs => (asB (t S cs)).bind fun b cs => if b then f S cs else g S cs
theorem asB_bind {r : Res D} {k : Bool → Cs → Res D} : asB ((asB r).bind k) = (asB r).bind fun b cs => asB (k b cs) := by
  cases r with
  | ok d cs => cases d <;> rfl
  | exc c ns vs cs => rfl
  | bad => rfl
theorem den.asB {σ : SSt} {H H0 : Hp} {W : Wd} {S : List Sl} {cs : Cs} {γ δ : Type} {R' : Wd → δ → γ → Prop} {k : Bool → Cs → Res γ} {Q : δ → Hp → Prop} (ok : Ok X.K X.mg W H cs) (sl : Slots X.K X.mg W H0 H σ S) (h : RO X.K X.mg E R' W H ((asB (f S cs)).bind k) Q) :
    den X.K X.mg E f σ H (fun x H1 => ∃ b, x = .bl b ∧ ∃ (W1 : Wd) (cs1 : Cs), Ok X.K X.mg W1 H1 cs1 ∧ Slots X.K X.mg W1 H0 H1 σ S ∧ Le W H W1 H1 ∧ RO X.K X.mg E R' W1 H1 (k b cs1) Q) :=
  den.toT (denT.then ok sl h)
theorem de_and {rest : List Expr} (ha : DE X E a f) (hb : DE X E (.BoolOp .And (b :: rest) pos) g) : DE X E (.BoolOp .And (a :: b :: rest) pos) (eAnd f g) :=
  (pe_and ha hb).imp fun σ H Q ⟨W, S, cs, H0, ok, sl, q⟩ => by
    obtain ⟨W', S', cs', H0', ok', sl', q'⟩ := den.asB ok sl q
    refine ⟨W', S', cs', H0', ok', sl', q'.imp fun x H1 ⟨b, e, W1, cs1, ok1, sl1, l1, q1⟩ => ⟨b, e, ?_⟩⟩
    cases b with
    | true => exact ⟨W1, S, cs1, H0, ok1, sl1, q1⟩
    | false => exact RO.ok_ ok1 q1 (.bl false)
theorem de_or {rest : List Expr} (ha : DE X E a f) (hb : DE X E (.BoolOp .Or (b :: rest) pos) g) : DE X E (.BoolOp .Or (a :: b :: rest) pos) (eOr f g) :=
  (pe_or ha hb).imp fun σ H Q ⟨W, S, cs, H0, ok, sl, q⟩ => by
    obtain ⟨W', S', cs', H0', ok', sl', q'⟩ := den.asB ok sl q
    refine ⟨W', S', cs', H0', ok', sl', q'.imp fun x H1 ⟨b, e, W1, cs1, ok1, sl1, l1, q1⟩ => ⟨b, e, ?_⟩⟩
    cases b with
    | true => exact RO.ok_ ok1 q1 (.bl true)
    | false => exact ⟨W1, S, cs1, H0, ok1, sl1, q1⟩
theorem de_one {op} (h : DE X E a f) : DE X E (.BoolOp op [a] pos) f := pe_one h
theorem de_not (ha : DE X E a f) : DE X E (.UnaryOp .Not a pos) (eNot f) :=
  (pe_not ha).imp fun σ H Q ⟨W, S, cs, H0, ok, sl, q⟩ => by
    obtain ⟨W', S', cs', H0', ok', sl', q'⟩ := den.asB ok sl q
    exact ⟨W', S', cs', H0', ok', sl', q'.imp fun x H1 ⟨b, e, W1, cs1, ok1, sl1, l1, q1⟩ => ⟨b, e, RO.ok_ ok1 q1 (.bl _)⟩⟩
theorem dt_not (ha : DT X E a f) : DT X E (.UnaryOp .Not a pos) (eNot f) :=
  (pt_not ha).imp fun σ H Q ⟨W, S, cs, H0, ok, sl, q⟩ => by
    unfold eNot at q
    rw [asB_bind] at q
    obtain ⟨W', S', cs', H0', ok', sl', q'⟩ := denT.then ok sl q
    exact ⟨W', S', cs', H0', ok', sl', q'.imp fun b H1 ⟨W1, cs1, ok1, sl1, l1, q1⟩ => RO.ok_ ok1 q1 rfl⟩
abbrev DW (X : Cx) (E : XK) (e : Expr) (f : Sem) : Prop := PW X e (denT X.K X.mg E f)
theorem DW.pt (h : DW X E e f) : DT X E e f := PW.pt h
theorem dw_and1 (ha : DT X E a f) : DW X E (.BoolOp .And [a] pos) f := pw_and1 ha
theorem dw_or1 (ha : DT X E a f) : DW X E (.BoolOp .Or [a] pos) f := pw_or1 ha
theorem dw_and {rest : List Expr} (ha : DT X E a f) (hb : DW X E (.BoolOp .And (b :: rest) pos) g) : DW X E (.BoolOp .And (a :: b :: rest) pos) (eAnd f g) :=
  (pw_and ha hb).imp fun σ H Q ⟨W, S, cs, H0, ok, sl, q⟩ => by
    unfold eAnd at q
    rw [asB_bind] at q
    obtain ⟨W', S', cs', H0', ok', sl', q'⟩ := denT.then ok sl q
    refine ⟨W', S', cs', H0', ok', sl', q'.imp fun b H1 ⟨W1, cs1, ok1, sl1, l1, q1⟩ => ?_⟩
    cases b with
    | true => exact ⟨W1, S, cs1, H0, ok1, sl1, q1⟩
    | false => exact RO.ok_ ok1 q1 rfl
theorem dw_or {rest : List Expr} (ha : DT X E a f) (hb : DW X E (.BoolOp .Or (b :: rest) pos) g) : DW X E (.BoolOp .Or (a :: b :: rest) pos) (eOr f g) :=
  (pw_or ha hb).imp fun σ H Q ⟨W, S, cs, H0, ok, sl, q⟩ => by
    unfold eOr at q
    rw [asB_bind] at q
    obtain ⟨W', S', cs', H0', ok', sl', q'⟩ := denT.then ok sl q
    refine ⟨W', S', cs', H0', ok', sl', q'.imp fun b H1 ⟨W1, cs1, ok1, sl1, l1, q1⟩ => ?_⟩
    cases b with
    | true => exact RO.ok_ ok1 q1 rfl
    | false => exact ⟨W1, S, cs1, H0, ok1, sl1, q1⟩
theorem de_ife {t : Sem} (hc : DT X E c t) (ha : DE X E a f) (hb : DE X E b g) : DE X E (.IfExp c a b pos) (eIf t f g) :=
  (pe_ifExp hc ha hb).imp fun σ H Q ⟨W, S, cs, H0, ok, sl, q⟩ => by
    obtain ⟨W', S', cs', H0', ok', sl', q'⟩ := denT.then ok sl q
    refine ⟨W', S', cs', H0', ok', sl', q'.imp fun b H1 ⟨W1, cs1, ok1, sl1, l1, q1⟩ => ?_⟩
    cases b with
    | true => exact ⟨W1, S, cs1, H0, ok1, sl1, q1⟩
    | false => exact ⟨W1, S, cs1, H0, ok1, sl1, q1⟩
/-- a chain of two comparisons -/
def eChain (op op' : Cs → D → D → Option D) (f g h : Sem) : Sem := fun S cs => (f S cs).bind fun x cs => (g S cs).bind fun y cs => (asB (Res.opt (op cs x y) cs)).bind fun b cs => if b then (h S cs).bind fun z cs => Res.opt (op' cs y z) cs else .ok (.bl false) cs
theorem den.chain {op op' : Cs → D → D → Option D} {σ : SSt} {H : Hp} {Q : VK} (q : den X.K X.mg E (eChain op op' f g h) σ H Q) : tChain (rD X.K X.mg op) (rD X.K X.mg op') (den X.K X.mg E f) (den X.K X.mg E g) (den X.K X.mg E h) σ H Q := by
  obtain ⟨W, S, cs, H0, ok, sl, q⟩ := q
  obtain ⟨W', S', cs', H0', ok', sl', q'⟩ := den.then ok sl q
  refine ⟨W', S', cs', H0', ok', sl', q'.imp fun x H1 ⟨W1, cs1, d, ok1, sl1, l1, r1, q1⟩ => ?_⟩
  obtain ⟨W2, S2, cs2, H2, ok2, sl2, q2⟩ := den.then ok1 sl1 q1
  refine ⟨W2, S2, cs2, H2, ok2, sl2, q2.imp fun y H3 ⟨W3, cs3, d3, ok3, sl3, l3, r3, q3⟩ => ?_⟩
  cases ho : op cs3 d d3 with
  | none => rw [ho] at q3; exact q3.elim
  | some z =>
    rw [ho] at q3
    cases z with
    | bl b =>
      refine ⟨W3, cs3, d, d3, .bl b, ok3, r1.le l3, r3, ho, fun v W4 H4 ok4 l4 r4 => ?_⟩
      cases r4
      refine ⟨b, rfl, ?_⟩
      have q4 := RO.le (W1 := W4) (H1 := H4) (show RO X.K X.mg E (Rep X.K X.mg) W3 H3 (if b = true then (h S cs3).bind fun z cs => Res.opt (op' cs d3 z) cs else .ok (.bl false) cs3) Q from q3) ok4 l4
      cases b with
      | false => exact RO.ok_ ok4 q4 (.bl false)
      | true =>
        obtain ⟨W5, S5, cs5, H5, ok5, sl5, q5⟩ := den.then ok4 (sl3.mono l4) q4
        refine ⟨W5, S5, cs5, H5, ok5, sl5, q5.imp fun u H6 ⟨W6, cs6, d6, ok6, sl6, l6, r6, q6⟩ => ?_⟩
        obtain ⟨z, e, q7⟩ := q6.opt
        exact ⟨W6, cs6, d3, d6, z, ok6, (r3.le l4).le l6, r6, e, q7⟩
    | _ => exact q3.elim
theorem de_chain {op op' : CmpOp} {fop fop' : Cs → D → D → Option D} (ho : OpR X (compareOp op) (rD X.K X.mg fop)) (ho' : OpR X (compareOp op') (rD X.K X.mg fop')) (ha : DE X E a f) (hb : DE X E b g) (hc : DE X E c h)
    (hm : lastMarks [op, op'] [b, c] = false := by with_unfolding_all rfl) : DE X E (.Compare a [op, op'] [b, c] pos) (eChain fop fop' f g h) := (pe_chain ho ho' ha hb hc hm).imp fun σ H Q q => den.chain q
theorem dt_chain {op op' : CmpOp} {fop fop' : Cs → D → D → Option D} (ho : OpR X (compareOp op) (rD X.K X.mg fop)) (ho' : OpR X (compareOp op') (rD X.K X.mg fop')) (ha : DE X E a f) (hb : DE X E b g) (hc : DE X E c h)
    (hm : lastMarks [op, op'] [b, c] = false := by with_unfolding_all rfl) : DT X E (.Compare a [op, op'] [b, c] pos) (eChain fop fop' f g h) := (pt_chain ho ho' ha hb hc hm).imp fun σ H Q q => den.chain (den.toT q)

/-! ### argument lists, displays -/
def eNil : Sems := fun _ cs => .ok [] cs
def eCons (f : Sem) (g : Sems) : Sems := fun S cs => (f S cs).bind fun x cs => (g S cs).bind fun xs cs => .ok (x :: xs) cs
theorem da_nil : DA X E [] eNil := pa_nil.imp fun σ H Q ⟨W, S, cs, H0, ok, sl, q⟩ => RO.ok_ ok q .nil
theorem da_cons {es : List Expr} {g : Sems} (ha : DE X E e f) (hr : DA X E es g) (hs : starEach (e :: es) X.env = (false, eval e X.env) :: starEach es X.env := by rfl) : DA X E (e :: es) (eCons f g) :=
  (pa_cons ha hr hs).imp fun σ H Q ⟨W, S, cs, H0, ok, sl, q⟩ => by
    obtain ⟨W', S', cs', H0', ok', sl', q'⟩ := den.then ok sl q
    refine ⟨W', S', cs', H0', ok', sl', q'.imp fun x H1 ⟨W1, cs1, d, ok1, sl1, l1, r1, q1⟩ => ?_⟩
    obtain ⟨W2, S2, cs2, H2, ok2, sl2, q2⟩ := denA.then ok1 sl1 q1
    exact ⟨W2, S2, cs2, H2, ok2, sl2, q2.imp fun y H3 ⟨W3, cs3, d3, ok3, sl3, l3, r3, q3⟩ => RO.ok_ ok3 q3 (.cons (r1.le l3) r3)⟩
def eTup (g : Sems) : Sem := fun S cs => (g S cs).bind fun xs cs => if xs.length ≤ 1000000 then .ok (.tup xs) cs else .bad
theorem line_of {n : Nat} (h : n ≤ 1000000) : n ≤ sizeLine := Nat.le_trans h (by decide)
theorem line_lt {n : Nat} (h : n < 1000000) : n < sizeLine := Nat.lt_of_lt_of_le h (by decide)
theorem de_tup {es : List Expr} {g : Sems} {x1} (h : DA X E es g) : DE X E (.Tuple es x1 pos) (eTup g) := (pe_tupF h).imp fun σ H Q ⟨W, S, cs, H0, ok, sl, q⟩ => by
  obtain ⟨W', S', cs', H0', ok', sl', q'⟩ := denA.then ok sl q
  refine ⟨W', S', cs', H0', ok', sl', q'.imp fun xs H1 ⟨W1, cs1, d, ok1, sl1, l1, r1, q1⟩ => ?_⟩
  split at q1
  · exact ⟨by rw [r1.length]; exact line_of (by assumption), ok1.newT r1 q1⟩
  · exact q1.elim
end
end LL

set_option Elab.async false
set_option linter.all false
set_option maxRecDepth 100000
set_option maxHeartbeats 4000000
/-! operators, items, slices, built-ins over plain data -/
namespace LL
open PySem PySem.Spec PyProof.Rows L2

mutual
def toP : D → PyData
  | .non => .none
  | .bl b => .bool b
  | .int i => .int i
  | .str s => .str s
  | .tup xs => .tuple (toPs xs)
  | .lst xs => .list (toPs xs)
  | .scr xs => .list (toPs xs)
  | .dct _ _ => .dict []
  | .obj _ _ _ => .dict []
  | .cell _ => .dict []
  | .fn _ => .dict []
def toPs : List D → List PyData
  | [] => []
  | x :: xs => toP x :: toPs xs
end
mutual
/-- made of None, truths, numbers, texts, tuples, lists, of no more than so many within one another -/
def plainD : Nat → D → Bool
  | _, .non => true
  | _, .bl _ => true
  | _, .int _ => true
  | _, .str x => PyData.strOk x
  | n + 1, .tup xs => plainDs n xs
  | n + 1, .lst xs => plainDs n xs
  | n + 1, .scr xs => plainDs n xs
  | _, _ => false
def plainDs : Nat → List D → Bool
  | _, [] => true
  | n, x :: xs => plainD n x && plainDs n xs
end
mutual
theorem plain_canLay : ∀ (n : Nat) (d : D), plainD n d = true → (toP d).canLay0 = true ∧ (toP d).depth ≤ n
  | n, .non, _ => ⟨rfl, by simp [toP, PyData.depth]⟩
  | n, .bl _, _ => ⟨rfl, by simp [toP, PyData.depth]⟩
  | n, .int _, _ => ⟨rfl, by simp [toP, PyData.depth]⟩
  | n, .str x, h => ⟨by simpa [toP, PyData.canLay0, plainD] using h, by simp [toP, PyData.depth]⟩
  | 0, .tup xs, h => by simp [plainD] at h
  | 0, .lst xs, h => by simp [plainD] at h
  | 0, .scr xs, h => by simp [plainD] at h
  | n + 1, .tup xs, h => by
    have q := plain_canLays n xs (by simpa [plainD] using h)
    exact ⟨by simpa [toP, PyData.canLay0] using q.1, by simp only [toP, PyData.depth]; omega⟩
  | n + 1, .lst xs, h => by
    have q := plain_canLays n xs (by simpa [plainD] using h)
    exact ⟨by simpa [toP, PyData.canLay0] using q.1, by simp only [toP, PyData.depth]; omega⟩
  | n + 1, .scr xs, h => by
    have q := plain_canLays n xs (by simpa [plainD] using h)
    exact ⟨by simpa [toP, PyData.canLay0] using q.1, by simp only [toP, PyData.depth]; omega⟩
  | n, .dct _ _, h => by simp [plainD] at h
  | n, .obj _ _ _, h => by simp [plainD] at h
  | n, .cell _, h => by simp [plainD] at h
  | n, .fn _, h => by simp [plainD] at h
theorem plain_canLays : ∀ (n : Nat) (ds : List D), plainDs n ds = true → PyData.canLayAll0 (toPs ds) = true ∧ PyData.depthAll (toPs ds) ≤ n
  | n, [], _ => ⟨rfl, by simp [toPs, PyData.depthAll]⟩
  | n, x :: xs, h => by
    rw [plainDs, Bool.and_eq_true] at h
    have a := plain_canLay n x h.1
    have b := plain_canLays n xs h.2
    exact ⟨by simp [toPs, PyData.canLayAll0, a.1, b.1], by simp only [toPs, PyData.depthAll]; omega⟩
end
theorem plain_shaped {d : D} (h : plainD 20 d = true) : SeqAt.shaped (toP d) = true := by
  have q := plain_canLay 20 d h
  unfold SeqAt.shaped
  rw [q.1, decide_eq_true (by omega : (toP d).depth ≤ 64)]
  rfl
section
variable {K : PySem.W.Frag} {mg : Str → Option Value} {W : Wd} {H : Hp}
mutual
theorem Rep.dp (ex : Ext W.G H) : ∀ {n : Nat} {v : V} {d : D}, Rep K mg W v d → plainD n d = true → Dp K H v (toP d)
  | _, _, _, .non, _ => .non
  | _, _, _, .bl b, _ => .bl b
  | _, _, _, .int i, _ => .int i
  | _, _, _, .str x, _ => .str x
  | n + 1, _, _, .tup h r, p => by rw [toP]; exact .tup (ex.sqt h.sqt) (RepL.dp ex (n := n) r (by simpa [plainD] using p))
  | n + 1, _, _, .lst h r, p => by rw [toP]; exact .lst (.inl (.inl (ex _ _ h))) (RepL.dp ex (n := n) r (by simpa [plainD] using p))
  | n + 1, _, _, .scr h r, p => by rw [toP]; exact .lst (ex.sql h) (RepL.dp ex (n := n) r (by simpa [plainD] using p))
  | 0, _, _, .tup h r, p => by simp [plainD] at p
  | 0, _, _, .lst h r, p => by simp [plainD] at p
  | 0, _, _, .scr h r, p => by simp [plainD] at p
  | n, _, _, .dct _ _ _, p => by simp [plainD] at p
  | n, _, _, .obj _ _ _ _, p => by simp [plainD] at p
  | n, _, _, .cell _, p => by simp [plainD] at p
  | n, _, _, .fn _, p => by simp [plainD] at p
theorem RepL.dp (ex : Ext W.G H) : ∀ {n : Nat} {vs : List V} {ds : List D}, RepL K mg W vs ds → plainDs n ds = true → DpAll K H vs (toPs ds)
  | _, _, _, .nil, _ => .nil
  | n, _, _, .cons (d := d) (ds := ds) r t, p => by
    rw [plainDs, Bool.and_eq_true] at p
    rw [toPs]
    exact .cons (Rep.dp ex (n := n) r p.1) (RepL.dp ex (n := n) t p.2)
end
end

/-! ### comparisons -/
def eqD (_ : Cs) (x y : D) : Option D := if plainD 20 x && plainD 20 y then some (.bl (PyData.eqv (toP x) (toP y))) else none
def neD (_ : Cs) (x y : D) : Option D := if plainD 20 x && plainD 20 y then some (.bl (!PyData.eqv (toP x) (toP y))) else none
def noneD : D → Bool
  | .non => true
  | _ => false
def isD (_ : Cs) (x y : D) : Option D := match y with
  | .non => some (.bl (noneD x))
  | _ => none
def isNotD (_ : Cs) (x y : D) : Option D := match y with
  | .non => some (.bl (!noneD x))
  | _ => none
def ordD (f : PyData → PyData → Bool) (g : Int → Int → Bool) (_ : Cs) (x y : D) : Option D := match x, y with
  | .int i, .int j => some (.bl (g i j))
  | x, y => if plainD 20 x && plainD 20 y && PySem.W.alike (toP x) (toP y) && !noneD x then some (.bl (f (toP x) (toP y))) else none
abbrev ltD := ordD (fun x y => PySem.W.dataLt x y) (fun i j => decide (i < j))
abbrev gtD := ordD (fun x y => PySem.W.dataLt y x) (fun i j => decide (j < i))
abbrev leD := ordD (fun x y => !PySem.W.dataLt y x) (fun i j => decide (i ≤ j))
abbrev geD := ordD (fun x y => !PySem.W.dataLt x y) (fun i j => decide (j ≤ i))
section
variable {X : Cx} {k : Nat}
theorem units_of (hr : Room k X.A) : X.A.units + 65 < cLine := by have := hr.un; omega
theorem op_eqX (hr : Room k X.A) : OpR X (compareOp .Eq) (rD X.K X.mg eqD) := by
  intro pins s σ H x y v u Q I rx ry ⟨W, cs, dx, dy, d, ok, hx, hy, e, q⟩
  unfold eqD at e
  split at e
  · rename_i hp
    rw [Bool.and_eq_true] at hp
    cases e
    exact op_eqD (by have := units_of hr; omega) pins s σ H x y v u Q I rx ry ⟨_, _, hx.dp ok.ex hp.1, hy.dp ok.ex hp.2, plain_shaped hp.1, plain_shaped hp.2, q _ W H ok (Le.refl W H) (.bl _)⟩
  · cases e
theorem op_neX (hr : Room k X.A) : OpR X (compareOp .NotEq) (rD X.K X.mg neD) := by
  intro pins s σ H x y v u Q I rx ry ⟨W, cs, dx, dy, d, ok, hx, hy, e, q⟩
  unfold neD at e
  split at e
  · rename_i hp
    rw [Bool.and_eq_true] at hp
    cases e
    exact op_neD (by have := units_of hr; omega) pins s σ H x y v u Q I rx ry ⟨_, _, hx.dp ok.ex hp.1, hy.dp ok.ex hp.2, plain_shaped hp.1, plain_shaped hp.2, q _ W H ok (Le.refl W H) (.bl _)⟩
  · cases e
theorem noneD_of {K : PySem.W.Frag} {mg : Str → Option Value} {W : Wd} {v : V} {d : D} (r : Rep K mg W v d) : decide (v = .non) = noneD d := by
  cases r <;> simp [noneD]
theorem op_isX : OpR X (compareOp .Is) (rD X.K X.mg isD) := by
  intro pins s σ H x y v u Q I rx ry ⟨W, cs, dx, dy, d, ok, hx, hy, e, q⟩
  cases hy with
  | non =>
    cases e
    exact op_isN pins s σ H x .non v u Q I rx ry ⟨rfl, by rw [noneD_of hx]; exact q _ W H ok (Le.refl W H) (.bl _)⟩
  | _ => cases e
theorem op_isNotX : OpR X (compareOp .IsNot) (rD X.K X.mg isNotD) := by
  intro pins s σ H x y v u Q I rx ry ⟨W, cs, dx, dy, d, ok, hx, hy, e, q⟩
  cases hy with
  | non =>
    cases e
    exact op_notN pins s σ H x .non v u Q I rx ry ⟨rfl, by rw [noneD_of hx]; exact q _ W H ok (Le.refl W H) (.bl _)⟩
  | _ => cases e
theorem toP_none : ∀ {x : D} {n : Nat}, plainD n x = true → noneD x = false → toP x ≠ .none
  | .non, _, _, h => by simp [noneD] at h
  | .bl _, _, _, _ => by simp [toP]
  | .int _, _, _, _ => by simp [toP]
  | .str _, _, _, _ => by simp [toP]
  | .tup _, _, _, _ => by simp [toP]
  | .lst _, _, _, _ => by simp [toP]
  | .scr _, _, _, _ => by simp [toP]
  | .dct _ _, _, _, _ => by simp [toP]
  | .obj _ _ _, _, _, _ => by simp [toP]
  | .cell _, _, _, _ => by simp [toP]
  | .fn _, _, _, _ => by simp [toP]
theorem op_ord {op : CmpOp} {f : PyData → PyData → Bool} {g : Int → Int → Bool} (hr : Room k X.A)
    (hi : OpR X (compareOp op) (rI0 fun i j => .bl (g i j)))
    (hd : ∀ (s : Shared) (E : Value → Shared → Prop) (Q : Value → Shared → Prop) (a b : Value) (da db : PyData) (as bs : List Addr), Reads s.heap a da as → Reads s.heap b db bs → PySem.W.alike da db = true → da ≠ .none → X.A.units + min da.depth db.depth < cLine → Q (.bool (f da db)) s → wpAny (model X.prog X.w) X.A (compareOp op a b) Q E s) :
    OpR X (compareOp op) (rD X.K X.mg (ordD f g)) := by
  intro pins s σ H x y v u Q I rx ry ⟨W, cs, dx, dy, d, ok, hx, hy, e, q⟩
  have gen : (if plainD 20 dx && plainD 20 dy && PySem.W.alike (toP dx) (toP dy) && !noneD dx then some (D.bl (f (toP dx) (toP dy))) else none) = some d → wpAny (model X.prog X.w) X.A (compareOp op v u) (EP X pins σ Q) X.xe s := fun e => by
    split at e
    · rename_i hp
      rw [Bool.and_eq_true, Bool.and_eq_true, Bool.and_eq_true] at hp
      obtain ⟨⟨⟨p1, p2⟩, p3⟩, p4⟩ := hp
      cases e
      obtain ⟨as, r1⟩ := Dp.reads I _ x v (hx.dp ok.ex p1) rx
      obtain ⟨bs, r2⟩ := Dp.reads I _ y u (hy.dp ok.ex p2) ry
      have q1 := (plain_canLay 20 dx p1).2
      refine hd s _ _ v u _ _ as bs r1 r2 p3 (toP_none p1 (by simpa using p4)) ?_ ⟨.bl _, H, I, rfl, q _ W H ok (Le.refl W H) (.bl _)⟩
      have := units_of hr
      have := Nat.min_le_left (toP dx).depth (toP dy).depth
      omega
    · cases e
  cases hx with
  | int i =>
    cases hy with
    | int j =>
      cases e
      exact hi pins s σ H _ _ v u Q I rx ry ⟨i, j, rfl, rfl, q _ W H ok (Le.refl W H) (.bl _)⟩
    | _ => exact gen e
  | _ => exact gen e
theorem op_ltX (hr : Room k X.A) : OpR X (compareOp .Lt) (rD X.K X.mg ltD) := op_ord hr op_lt fun s E Q a b da db as bs ra rb h hn hu hq => PySem.W.lt_data ra rb h hn hu hq
theorem op_gtX (hr : Room k X.A) : OpR X (compareOp .Gt) (rD X.K X.mg gtD) := op_ord hr op_gt fun s E Q a b da db as bs ra rb h hn hu hq => PySem.W.gt_data ra rb h hn hu hq
theorem op_leX (hr : Room k X.A) : OpR X (compareOp .LtE) (rD X.K X.mg leD) := op_ord hr op_le fun s E Q a b da db as bs ra rb h hn hu hq => PySem.W.le_data ra rb h hn hu hq
theorem op_geX (hr : Room k X.A) : OpR X (compareOp .GtE) (rD X.K X.mg geD) := op_ord hr op_ge fun s E Q a b da db as bs ra rb h hn hu hq => PySem.W.ge_data ra rb h hn hu hq
end

/-! ### in, not in -/
def flatD : D → Bool
  | .non => true
  | .bl _ => true
  | .int _ => true
  | .str _ => true
  | _ => false
def keyEq : D → D → Bool
  | .int a, .int b => a == b
  | .str a, .str b => a == b
  | _, _ => false
def keyD : D → Bool
  | .int _ => true
  | .str _ => true
  | _ => false
def dgetD : List D → List D → D → Option D
  | k :: ks, v :: vs, x => if keyEq k x then some v else dgetD ks vs x
  | _, _, _ => none
def inSeq (x : D) (ys : List D) : Option Bool := if flatD x && ys.all flatD then some (ys.any fun y => PyData.eqv (toP y) (toP x)) else none
/-- one sign within a text -/
def inTxt (c : Str) (z : Str) : Option Bool := match c.cps.toList with
  | [n] => some (z.cps.toList.contains n)
  | _ => none
def inB (x y : D) : Option Bool := match y with
  | .tup ys => inSeq x ys
  | .lst ys => inSeq x ys
  | .scr ys => inSeq x ys
  | .str z => (match x with
    | .str c => inTxt c z
    | _ => none)
  | .dct ks vs => if keyD x then some (dgetD ks vs x).isSome else none
  | _ => none
def inD (_ : Cs) (x y : D) : Option D := (inB x y).map .bl
def notInD (_ : Cs) (x y : D) : Option D := (inB x y).map fun b => .bl (!b)
section
variable {K : PySem.W.Frag} {mg : Str → Option Value} {W : Wd}
theorem flat_of {v : V} {d : D} (r : Rep K mg W v d) (h : flatD d = true) : flatV v = true := by cases r <;> first | rfl | cases h
theorem flats_of : ∀ {vs : List V} {ds : List D}, RepL K mg W vs ds → ds.all flatD = true → vs.all flatV = true
  | _, _, .nil, _ => rfl
  | _, _, .cons r t, h => by
    rw [List.all_cons, Bool.and_eq_true] at h ⊢
    exact ⟨flat_of r h.1, flats_of t h.2⟩
theorem eqV_of {x y : V} {dx dy : D} (rx : Rep K mg W x dx) (ry : Rep K mg W y dy) (hx : flatD dx = true) (hy : flatD dy = true) : eqV x y = PyData.eqv (toP dx) (toP dy) := by
  cases rx <;> first
    | (simp [flatD] at hx; done)
    | (cases ry <;> first
      | (simp [flatD] at hy; done)
      | (simp [eqV, toP, PyData.eqv]; done))
theorem inV_of {x : V} {dx : D} (rx : Rep K mg W x dx) (hx : flatD dx = true) : ∀ {vs : List V} {ds : List D}, RepL K mg W vs ds → ds.all flatD = true → (vs.any fun y => eqV y x) = ds.any fun y => PyData.eqv (toP y) (toP dx)
  | _, _, .nil, _ => rfl
  | _, _, .cons r t, h => by
    rw [List.all_cons, Bool.and_eq_true] at h
    rw [List.any_cons, List.any_cons, eqV_of r rx h.1 hx, inV_of rx hx t h.2]
/-- a key as the hand layer has it -/
theorem key_of {v : V} {d : D} (r : Rep K mg W v d) (h : keyD d = true) : ∃ k : Key, v = kV k := by
  cases r with
  | int i => exact ⟨.inl i, rfl⟩
  | str x => exact ⟨.inr x, rfl⟩
  | _ => cases h
theorem keyEq_of {k k' : Key} {d d' : D} (r : Rep K mg W (kV k) d) (r' : Rep K mg W (kV k') d') : keyEq d d' = decide (k = k') := by
  cases k <;> cases k' <;> cases r <;> cases r' <;> (rw [Bool.eq_iff_iff]; simp [keyEq])
theorem dget_of {k : Key} {x : D} (r : Rep K mg W (kV k) x) : ∀ {kvs : List (Key × V)} {ks vs : List D}, RepL K mg W (kvs.map fun p => kV p.1) ks → RepL K mg W (kvs.map (·.2)) vs →
    (∀ d, dgetD ks vs x = some d → ∃ v, valV kvs k = some v ∧ Rep K mg W v d) ∧ (dgetD ks vs x = none → valV kvs k = none)
  | [], _, _, .nil, .nil => ⟨fun d h => by simp [dgetD] at h, fun _ => rfl⟩
  | p :: kvs, _, _, .cons (d := dk) r1 t1, .cons (d := dv) r2 t2 => by
    have ih := dget_of r t1 t2
    have e := keyEq_of r1 r
    by_cases h : p.1 = k
    · rw [decide_eq_true h] at e
      refine ⟨fun d hd => ?_, fun hd => ?_⟩
      · simp only [dgetD, e, if_true, Option.some.injEq] at hd
        subst hd
        exact ⟨_, valV_pos h, r2⟩
      · simp [dgetD, e] at hd
    · rw [decide_eq_false h] at e
      rw [valV_neg h]
      simp only [dgetD, e]
      exact ih
end
section
variable {X : Cx} {k : Nat}
theorem in_any {op : CmpOp} {neg : Bool} (hr : Room k X.A)
    (h1 : OpR X (compareOp op) (rIn X.K neg))
    (h2 : OpR X (compareOp op) (fun x y H Q => ∃ (c : Nat) (z : Str), x = .str ⟨#[c]⟩ ∧ y = .str z ∧ Q (.bl (if neg then !decide (c ∈ z.cps.toList) else decide (c ∈ z.cps.toList))) H))
    (h3 : ∀ (pins : List (Addr × Obj)) (s : Shared) (σ : SSt) (H : Hp) (a : Addr) (y : V) (u : Value) (r : Option V) (Q : VK), Inv X pins σ H s → RelV y u → DGet H a y r → Q (.bl (if neg then !r.isSome else r.isSome)) H → wpAny (model X.prog X.w) X.A (compareOp op u (.ref a)) (EP X pins σ Q) X.xe s) :
    OpR X (compareOp op) (rD X.K X.mg fun _ x y => (inB x y).map fun b => .bl (if neg then !b else b)) := by
  intro pins s σ H x y v u Q I rx ry ⟨W, cs, dx, dy, d, ok, hx, hy, e, q⟩
  have e : (inB dx dy).map (fun b => D.bl (if neg then !b else b)) = some d := e
  have fin : ∀ {b : Bool}, inB dx dy = some b → Q (.bl (if neg then !b else b)) H := fun {b} hb => by
    rw [hb] at e
    cases e
    exact q _ W H ok (Le.refl W H) (.bl _)
  have hsome : ∃ b, inB dx dy = some b := by
    cases hb : inB dx dy with
    | none => rw [hb] at e; cases e
    | some b => exact ⟨b, rfl⟩
  obtain ⟨b, hb⟩ := hsome
  have seq : ∀ {p : Addr} {xs : List V} {ds : List D}, RepL X.K X.mg W xs ds → (SqL X.K H p xs ∨ SqT X.K H p xs) → inSeq dx ds = some b → y = .ref p → wpAny (model X.prog X.w) X.A (compareOp op v u) (EP X pins σ Q) X.xe s := fun {p xs ds} r hs hi ey => by
    unfold inSeq at hi
    split at hi
    · rename_i hp
      rw [Bool.and_eq_true] at hp
      cases hi
      have f := fin hb
      subst ey
      exact h1 pins s σ H x _ v u Q I rx ry ⟨p, xs, rfl, hs, flat_of hx hp.1, flats_of r hp.2, by unfold inV; rw [inV_of hx hp.1 r hp.2]; exact f⟩
    · cases hi
  cases hy with
  | tup h r => exact seq r (.inr (ok.ex.sqt h.sqt)) hb rfl
  | lst h r => exact seq r (.inl (.inl (.inl (ok.ex _ _ h)))) hb rfl
  | scr h r => exact seq r (.inl (ok.ex.sql h)) hb rfl
  | str z =>
    cases hx with
    | str c =>
      have hb' : inTxt c z = some b := hb
      unfold inTxt at hb'
      split at hb'
      · rename_i n hn
        cases hb'
        have f := fin hb
        have ec : c = ⟨#[n]⟩ := by
          cases c with
          | mk a => simp only [Str.mk.injEq]; exact Array.toList_inj.mp hn
        subst ec
        refine h2 pins s σ H _ _ v u Q I rx ry ⟨n, z, rfl, rfl, ?_⟩
        have e2 : decide (n ∈ z.cps.toList) = z.cps.toList.contains n := by rw [Bool.eq_iff_iff]; simp
        rw [e2]
        exact f
      · cases hb'
    | _ => cases hb
  | @dct a kvs ks vs h r1 r2 =>
    have hb' : (if keyD dx then some (dgetD ks vs dx).isSome else none) = some b := hb
    split at hb'
    · rename_i hk
      cases hb'
      have f := fin hb
      obtain ⟨k, rfl⟩ := key_of hx hk
      have dg := dget_of hx r1 r2
      cases ry
      refine h3 pins s σ H a _ v _ Q I rx (DGet.k (ok.ex _ _ h)) ?_
      have ei : (valV kvs k).isSome = (dgetD ks vs dx).isSome := by
        cases hd : dgetD ks vs dx with
        | none => rw [dg.2 hd]; rfl
        | some d => obtain ⟨w, e1, _⟩ := dg.1 d hd; rw [e1]; rfl
      rw [ei]
      exact f
    · cases hb'
  | _ => cases hb
theorem op_inX (hr : Room k X.A) : OpR X (compareOp .In) (rD X.K X.mg inD) :=
  in_any (neg := false) hr op_in_seq op_in_sign fun pins s σ H a y u r Q I ry g q => d_in (by have := hr.un; omega) I g ry fun s3 I3 => ⟨.bl r.isSome, H, I3, rfl, q⟩
theorem op_notInX (hr : Room k X.A) : OpR X (compareOp .NotIn) (rD X.K X.mg notInD) :=
  in_any (neg := true) hr op_notIn_seq op_notIn_sign fun pins s σ H a y u r Q I ry g q => d_notIn (by have := hr.un; omega) I g ry fun s3 I3 => ⟨.bl (!r.isSome), H, I3, rfl, q⟩
end
end LL

set_option Elab.async false
set_option linter.all false
set_option maxRecDepth 100000
set_option maxHeartbeats 4000000
/-! arithmetic, items, slices, built-ins over plain data -/
namespace LL
open PySem PySem.Spec PyProof.Rows L2

/-! ### t * 1 -/
theorem tuple_mul1 (l : Addr) (items : Array Value) (n : Nat) (dd : Option Addr) (sl : Array (Option Value)) (u : Tok) :
    Meets (Builtin.«tuple.__mul__» ⟨[.ref l, .int 1 u], []⟩) (fun _ R s => s.heap.get? l = some { cls := .type "tuple", dict := dd, data := .seq items n, slots := sl } ∧
      R (.ok (.ret (Value.ref l))) s) :=
  .of_wp fun prog w A R s h => by
    obtain ⟨hp, g, d, tk, os⟩ := s
    obtain ⟨hl, h⟩ := h
    have f1 := AutoSeq1.idx_int
    have c0 : (decide ((1 : Int) < -(2 ^ 63)) || decide ((1 : Int) ≥ 2 ^ 63)) = false := by decide
    have c1 : (items.isEmpty || (1 : Int) == 1) = true := by simp
    wp_walk using wpAny_loadPart' hl
    repeat (first
      | (refine wpAny_ite_false (decide_eq_false (by rw [c0]; exact Bool.false_ne_true)) ?_; wp_walk using wpAny_loadPart' hl)
      | (refine wpAny_ite_true (decide_eq_true c1) ?_; wp_walk using wpAny_loadPart' hl))
    exact ⟨_, rfl, h⟩
section
variable {X : Cx}
theorem op_repT1 : OpR X (binaryOp .Mult) (fun x y H Q => ∃ l xs, x = .ref l ∧ y = .int 1 ∧ SqT X.K H l xs ∧ Q (.ref l) H) := by
  intro pins s σ H x y v u Q I rx ry h
  obtain ⟨l, xs, rfl, rfl, hT, q⟩ := h
  cases rx
  obtain ⟨t, rfl⟩ := ry
  obtain ⟨its, r, ⟨⟨cls, dd, data, sl⟩, ho, hc, n, hd⟩, hs⟩ := I.tuple hT
  simp only at hc hd
  subst hc hd
  exact wpAny_binaryOp_repeat_ref (T := "tuple") (U := "int") (by decide) ⟨_, ho, rfl⟩ (fun s' => typeIs_int s' 1 t) noFill_tuple_mul F.fills_int_mul F.slot_int_rmul repeat_tuple F.slot_int_index.lookup
    (call_meets F.slot_int_rmul (typeIs_int s 1 t) F.entry_int_rmul (F.args_int_rmul_2 _ _) (int_rmul_tuple 1 t l its.toArray n dd sl)
      ⟨ho, rfl, ⟨_, ho, rfl⟩, call_meets F.slot_tuple_mul ⟨_, ho, rfl⟩ F.entry_tuple_mul (F.args_tuple_mul_2 _ _) (tuple_mul1 l its.toArray n dd sl t) ⟨ho, ⟨.ref l, H, I, rfl, q⟩⟩⟩)

/-! ### arithmetic -/
def mulIntOk (i j : Int) : Bool := (decide (-18446744073709551616 < i) && decide (i < 18446744073709551616)) || (decide (-18446744073709551616 < j) && decide (j < 18446744073709551616))
def addD (_ : Cs) (x y : D) : Option D := match x, y with
  | .int i, .int j => some (.int (i + j))
  | .str a, .str b => if a.length + b.length ≤ 1000000 then some (.str (a ++ b)) else none
  | .tup a, .tup b => if a.length + b.length ≤ 1000000 then some (.tup (a ++ b)) else none
  | .lst a, .lst b => if a.length + b.length ≤ 1000000 then some (.lst (a ++ b)) else none
  | _, _ => none
def subD (_ : Cs) (x y : D) : Option D := match x, y with
  | .int i, .int j => some (.int (i - j))
  | _, _ => none
def repD (xs : List D) (k : Int) : List D := (List.replicate k.toNat xs).flatten
def mulD (_ : Cs) (x y : D) : Option D := match x, y with
  | .int i, .int j => if mulIntOk i j then some (.int (i * j)) else none
  | .tup a, .int k => if k = 1 then some (.tup a) else if 2 ≤ k ∧ k ≤ 1000 ∧ a.length ≤ 1000 ∧ a.isEmpty = false then some (.tup (repD a k)) else none
  | .lst a, .int k => if 0 ≤ k ∧ k ≤ 1000 ∧ a.length ≤ 1000 then some (.lst (repD a k)) else none
  | _, _ => none
def fdivD (_ : Cs) (x y : D) : Option D := match x, y with
  | .int i, .int j => if 0 < j ∧ j.natAbs.log2 < 9000 then some (.int (i / j)) else none
  | _, _ => none
def modD (_ : Cs) (x y : D) : Option D := match x, y with
  | .int i, .int j => if 0 < j then some (.int (i % j)) else none
  | _, _ => none
def powD (_ : Cs) (x y : D) : Option D := match x, y with
  | .int i, .int j => if 0 ≤ j ∧ j ≤ 1000000 ∧ i.natAbs < 18446744073709551616 then some (.int (i ^ j.toNat)) else none
  | _, _ => none
theorem mulIntOk_of {i j : Int} (h : mulIntOk i j = true) : CMul i j := by
  unfold mulIntOk at h
  rw [Bool.or_eq_true, Bool.and_eq_true, Bool.and_eq_true, decide_eq_true_eq, decide_eq_true_eq, decide_eq_true_eq, decide_eq_true_eq] at h
  exact h
theorem RepL.rept {K : PySem.W.Frag} {mg : Str → Option Value} {W : Wd} {vs : List V} {ds : List D} (r : RepL K mg W vs ds) : ∀ n : Nat, RepL K mg W (List.replicate n vs).flatten (List.replicate n ds).flatten
  | 0 => .nil
  | n + 1 => by
    rw [List.replicate_succ, List.replicate_succ, List.flatten_cons, List.flatten_cons]
    exact r.append (RepL.rept r n)
theorem op_addX : OpR X (binaryOp .Add) (rD X.K X.mg addD) := by
  intro pins s σ H x y v u Q I rx ry ⟨W, cs, dx, dy, d, ok, hx, hy, e, q⟩
  cases hx with
  | int i => cases hy with
    | int j => cases e; exact op_add pins s σ H _ _ v u Q I rx ry ⟨i, j, rfl, rfl, q _ W H ok (Le.refl W H) (.int _)⟩
    | _ => cases e
  | str a => cases hy with
    | str b =>
      have e : (if a.length + b.length ≤ 1000000 then some (D.str (a ++ b)) else none) = some d := e
      split at e
      · cases e; exact op_add_str pins s σ H _ _ v u Q I rx ry ⟨a, b, rfl, rfl, line_of (by assumption), q _ W H ok (Le.refl W H) (.str _)⟩
      · cases e
    | _ => cases e
  | @tup a xs da ha ra => cases hy with
    | @tup b ys db hb rb =>
      have e : (if da.length + db.length ≤ 1000000 then some (D.tup (da ++ db)) else none) = some d := e
      split at e
      · rename_i hl
        cases e
        refine op_catF pins s σ H _ _ v u Q I rx ry ⟨a, b, xs, ys, rfl, rfl, ok.ex.sqt ha.sqt, ok.ex.sqt hb.sqt, by rw [ra.length, rb.length]; exact line_of hl, fun z => ?_, fun z1 z2 => ?_, fun z1 z2 => ?_⟩
        · subst z
          cases ra
          exact q _ W H ok (Le.refl W H) (.tup hb rb)
        · subst z2
          cases rb
          rw [List.append_nil] at q
          exact q _ W H ok (Le.refl W H) (.tup ha ra)
        · exact ok.newT (ra.append rb) q
      · cases e
    | _ => cases e
  | @lst a xs da ha ra => cases hy with
    | @lst b ys db hb rb =>
      have e : (if da.length + db.length ≤ 1000000 then some (D.lst (da ++ db)) else none) = some d := e
      split at e
      · rename_i hl
        cases e
        refine op_cat pins s σ H _ _ v u Q I rx ry ⟨a, b, xs, ys, rfl, rfl, ok.ex _ _ ha, ok.ex _ _ hb, by rw [ra.length, rb.length]; exact line_of hl, fun p hp => ?_⟩
        obtain ⟨ok2, l2⟩ := ok.lay (.lst (xs ++ ys)) hp
        exact q _ _ _ ok2 l2 (.lst upd_same ((ra.le l2).append (rb.le l2)))
      · cases e
    | _ => cases e
  | _ => cases hy <;> cases e
theorem op_subX : OpR X (binaryOp .Sub) (rD X.K X.mg subD) := by
  intro pins s σ H x y v u Q I rx ry ⟨W, cs, dx, dy, d, ok, hx, hy, e, q⟩
  cases hx with
  | int i => cases hy with
    | int j => cases e; exact op_sub pins s σ H _ _ v u Q I rx ry ⟨i, j, rfl, rfl, q _ W H ok (Le.refl W H) (.int _)⟩
    | _ => cases e
  | _ => cases hy <;> cases e
theorem op_mulX : OpR X (binaryOp .Mult) (rD X.K X.mg mulD) := by
  intro pins s σ H x y v u Q I rx ry ⟨W, cs, dx, dy, d, ok, hx, hy, e, q⟩
  cases hx with
  | int i => cases hy with
    | int j =>
      have e : (if mulIntOk i j then some (D.int (i * j)) else none) = some d := e
      split at e
      · rename_i hm
        cases e; exact op_mul pins s σ H _ _ v u Q I rx ry ⟨i, j, rfl, rfl, mulIntOk_of hm, q _ W H ok (Le.refl W H) (.int _)⟩
      · cases e
    | _ => cases e
  | @tup a xs da ha ra => cases hy with
    | int k =>
      have e : (if k = 1 then some (D.tup da) else if 2 ≤ k ∧ k ≤ 1000 ∧ da.length ≤ 1000 ∧ da.isEmpty = false then some (.tup (repD da k)) else none) = some d := e
      split at e
      · rename_i hk
        subst hk
        cases e
        exact op_repT1 pins s σ H _ _ v u Q I rx ry ⟨a, xs, rfl, rfl, ok.ex.sqt ha.sqt, q _ W H ok (Le.refl W H) (.tup ha ra)⟩
      · split at e
        · rename_i hk
          obtain ⟨h1, h2, h3, h4⟩ := hk
          cases e
          refine op_repF pins s σ H _ _ v u Q I rx ry ⟨a, k, xs, rfl, rfl, ok.ex.sqt ha.sqt, fun z => ?_, h1, h2, by rw [ra.length]; exact h3, ok.newT (ra.rept _) q⟩
          subst z
          cases ra
          cases h4
        · cases e
    | _ => cases e
  | @lst a xs da ha ra => cases hy with
    | int k =>
      have e : (if 0 ≤ k ∧ k ≤ 1000 ∧ da.length ≤ 1000 then some (D.lst (repD da k)) else none) = some d := e
      split at e
      · rename_i hk
        obtain ⟨h1, h2, h3⟩ := hk
        cases e
        have hz : xs.length * k.toNat ≤ sizeLine := by
          rw [ra.length]
          have a1 : da.length * k.toNat ≤ 1000 * 1000 := Nat.mul_le_mul h3 (by omega)
          exact line_of a1
        refine op_rep pins s σ H _ _ v u Q I rx ry ⟨a, k, xs, rfl, rfl, ok.ex _ _ ha, by omega, by omega, hz, fun p hp => ?_⟩
        obtain ⟨ok2, l2⟩ := ok.lay (.lst (List.replicate k.toNat xs).flatten) hp
        exact q _ _ _ ok2 l2 (.lst upd_same ((ra.le l2).rept _))
      · cases e
    | _ => cases e
  | _ => cases hy <;> cases e
theorem op_fdivX : OpR X (binaryOp .FloorDiv) (rD X.K X.mg fdivD) := by
  intro pins s σ H x y v u Q I rx ry ⟨W, cs, dx, dy, d, ok, hx, hy, e, q⟩
  cases hx with
  | int i => cases hy with
    | int j =>
      have e : (if 0 < j ∧ j.natAbs.log2 < 9000 then some (D.int (i / j)) else none) = some d := e
      split at e
      · rename_i hm
        cases e; exact op_fdivW pins s σ H _ _ v u Q I rx ry ⟨i, j, rfl, rfl, hm, q _ W H ok (Le.refl W H) (.int _)⟩
      · cases e
    | _ => cases e
  | _ => cases hy <;> cases e
theorem op_modX : OpR X (binaryOp .Mod) (rD X.K X.mg modD) := by
  intro pins s σ H x y v u Q I rx ry ⟨W, cs, dx, dy, d, ok, hx, hy, e, q⟩
  cases hx with
  | int i => cases hy with
    | int j =>
      have e : (if 0 < j then some (D.int (i % j)) else none) = some d := e
      split at e
      · rename_i hm
        cases e; exact op_mod pins s σ H _ _ v u Q I rx ry ⟨i, j, rfl, rfl, hm, q _ W H ok (Le.refl W H) (.int _)⟩
      · cases e
    | _ => cases e
  | _ => cases hy <;> cases e
theorem op_powX : OpR X (binaryOp .Pow) (rD X.K X.mg powD) := by
  intro pins s σ H x y v u Q I rx ry ⟨W, cs, dx, dy, d, ok, hx, hy, e, q⟩
  cases hx with
  | int i => cases hy with
    | int j =>
      have e : (if 0 ≤ j ∧ j ≤ 1000000 ∧ i.natAbs < 18446744073709551616 then some (D.int (i ^ j.toNat)) else none) = some d := e
      split at e
      · rename_i hm
        cases e; exact op_pow pins s σ H _ _ v u Q I rx ry ⟨i, j, rfl, rfl, hm, q _ W H ok (Le.refl W H) (.int _)⟩
      · cases e
    | _ => cases e
  | _ => cases hy <;> cases e
end

/-! ### items -/
def ixD (cs : Cs) (x y : D) : Option D := match x, y with
  | .tup xs, .int i => atI xs i
  | .lst xs, .int i => atI xs i
  | .scr xs, .int i => atI xs i
  | .cell n, .int i => (cs[n]?).bind fun xs => atI xs i
  | .str z, .int i => if z.length ≤ 1000000 then (atI z.cps.toList i).map fun c => .str ⟨#[c]⟩ else none
  | .dct ks vs, k => if keyD k then dgetD ks vs k else none
  | _, _ => none
def rIxR (K : PySem.W.Frag) (mg : Str → Option Value) : R2 := rD K mg ixD
theorem RepL.atI {K : PySem.W.Frag} {mg : Str → Option Value} {W : Wd} {vs : List V} {ds : List D} (r : RepL K mg W vs ds) {i : Int} {d : D} (h : L2.atI ds i = some d) : ∃ v, L2.atI vs i = some v ∧ Rep K mg W v d := by
  unfold L2.atI at h ⊢
  rw [r.length]
  cases hj : ixN ds.length i with
  | none => rw [hj] at h; cases h
  | some j =>
    rw [hj] at h
    exact r.get h
section
variable {X : Cx} {k : Nat}
theorem ix_dict (hr : Room k X.A) : IxR X (fun x y H Q => ∃ a v, x = .ref a ∧ DGet H a y (some v) ∧ Q v H) := by
  intro value slice pins s σ H x y v u Q I rx ry h hs
  obtain ⟨a, w, rfl, g, q⟩ := h
  cases rx
  exact tail_any (dict_typeIs I g) PySem.F.slot_dict_getitem.lookup (d_getItem (by have := hr.un; omega) I g ry fun w' s3 I3 rw' => ⟨w, H, I3, rw', q⟩) hs
theorem ix_X (hr : Room k X.A) : IxR X (rIxR X.K X.mg) := by
  intro value slice pins s σ H x y v u Q I rx ry ⟨W, cs, dx, dy, d, ok, hx, hy, e, q⟩ hs
  have fin : ∀ {w : V}, Rep X.K X.mg W w d → Q w H := fun {w} r => q w W H ok (Le.refl W H) r
  cases hx with
  | @tup a xs da ha ra => cases hy with
    | int i =>
      obtain ⟨w, ew, rw'⟩ := ra.atI (show L2.atI da i = some d from e)
      exact ix_tup value slice pins s σ H _ _ v u Q I rx ry ⟨a, xs, i, w, rfl, rfl, ok.ex.sqt ha.sqt, ew, fin rw'⟩ hs
    | _ => cases e
  | @lst a xs da ha ra => cases hy with
    | int i =>
      obtain ⟨w, ew, rw'⟩ := ra.atI (show L2.atI da i = some d from e)
      exact ix_list value slice pins s σ H _ _ v u Q I rx ry ⟨a, xs, i, w, rfl, rfl, .inl (.inl (ok.ex _ _ ha)), ew, fin rw'⟩ hs
    | _ => cases e
  | @scr a xs da ha ra => cases hy with
    | int i =>
      obtain ⟨w, ew, rw'⟩ := ra.atI (show L2.atI da i = some d from e)
      exact ix_list value slice pins s σ H _ _ v u Q I rx ry ⟨a, xs, i, w, rfl, rfl, ok.ex.sql ha, ew, fin rw'⟩ hs
    | _ => cases e
  | @cell a n ha => cases hy with
    | int i =>
      obtain ⟨ds, vs, h1, h2, h3, h4⟩ := ok.cl.get ha
      have e : ((cs[n]?).bind fun xs => L2.atI xs i) = some d := e
      rw [h1] at e
      obtain ⟨w, ew, rw'⟩ := h4.atI (show L2.atI ds i = some d from e)
      exact ix_list value slice pins s σ H _ _ v u Q I rx ry ⟨a, vs, i, w, rfl, rfl, .inl (.inl h3), ew, fin rw'⟩ hs
    | _ => cases e
  | str z => cases hy with
    | int i =>
      have e : (if z.length ≤ 1000000 then (L2.atI z.cps.toList i).map fun c => D.str ⟨#[c]⟩ else none) = some d := e
      split at e
      · rename_i hz
        cases hc : L2.atI z.cps.toList i with
        | none => rw [hc] at e; cases e
        | some c =>
          rw [hc] at e
          cases e
          exact ix_str value slice pins s σ H _ _ v u Q I rx ry ⟨z, i, c, rfl, rfl, line_of hz, hc, fin (.str _)⟩ hs
      · cases e
    | _ => cases e
  | @dct a kvs ks vs h r1 r2 =>
    have e : (if keyD dy then dgetD ks vs dy else none) = some d := by cases hy <;> exact e
    split at e
    · rename_i hk
      obtain ⟨k, rfl⟩ := key_of hy hk
      obtain ⟨w, e1, rw'⟩ := (dget_of hy r1 r2).1 d e
      refine ix_dict hr value slice pins s σ H _ _ v u Q I rx ry ⟨a, w, rfl, ?_, fin rw'⟩ hs
      rw [← e1]
      exact DGet.k (ok.ex _ _ h)
    · cases e
  | _ => cases hy <;> cases e
variable {E : XK} {e a b : Expr} {f g : Sem} {pos : Pos}
theorem de_ix (hr : Room k X.A) (ha : DE X E a f) (hb : DE X E b g) (hs : PlainIx b := by intro _ _; rfl) : DE X E (.Subscript a b pos) (eBin ixD f g) := (pe_ix (ix_X hr) ha hb hs).imp fun σ H Q q => den.op q
end

/-! ### slices -/
abbrev Semo := List Sl → Cs → Res (Option Int)
def RepI (_ : Wd) (o o' : Option Int) : Prop := o = o'
def denO (K : PySem.W.Frag) (mg : Str → Option Value) (E : XK) (f : Semo) : TO := fun σ H Q => ∃ W S cs H0, Ok K mg W H cs ∧ Slots K mg W H0 H σ S ∧ RO K mg E RepI W H (f S cs) Q
abbrev DO (X : Cx) (E : XK) (e : Option Expr) (f : Semo) : Prop := PO X e (denO X.K X.mg E f)
theorem _root_.L2.PO.imp {X : Cx} {e : Option Expr} {t t' : TO} (h : PO X e t) (i : ∀ σ H Q, t' σ H Q → t σ H Q) : PO X e t' := ⟨fun pins s σ H Q I q => h.run pins s σ H Q I (i σ H Q q)⟩
def oNone : Semo := fun _ cs => .ok none cs
def oSome (f : Sem) : Semo := fun S cs => (f S cs).bind fun d cs => match d with
  | .int i => .ok (some i) cs
  | _ => .bad
def cutD (xs : List D) (lo hi : Option Int) : List D := (xs.drop (HT.sIx xs.length 0 lo)).take (HT.sIx xs.length xs.length hi - HT.sIx xs.length 0 lo)
def slD (x : D) (lo hi : Option Int) : Option D := match x with
  | .tup xs => some (.tup (cutD xs lo hi))
  | .lst xs => some (.lst (cutD xs lo hi))
  | .scr xs => some (.lst (cutD xs lo hi))
  | .str z => if z.length ≤ 1000000 then some (.str (cutS z lo hi)) else none
  | _ => none
def eSl (f : Sem) (lo hi : Semo) : Sem := fun S cs => (f S cs).bind fun x cs => (lo S cs).bind fun l cs => (hi S cs).bind fun h cs => Res.opt (slD x l h) cs
section
variable {X : Cx} {k : Nat} {E : XK} {e a b : Expr} {f g : Sem} {pos p2 : Pos} {lo hi : Option Expr} {fl fh : Semo}
theorem do_none : DO X E none oNone := po_none.imp fun σ H Q ⟨W, S, cs, H0, ok, sl, q⟩ => RO.ok_ (R := RepI) ok q rfl
theorem do_some (h : DE X E e f) : DO X E (some e) (oSome f) := (po_some h).imp fun σ H Q ⟨W, S, cs, H0, ok, sl, q⟩ => by
  obtain ⟨W', S', cs', H0', ok', sl', q'⟩ := den.then ok sl q
  refine ⟨W', S', cs', H0', ok', sl', q'.imp fun x H1 ⟨W1, cs1, d, ok1, sl1, l1, r1, q1⟩ => ?_⟩
  cases r1 with
  | int i => exact ⟨i, rfl, RO.ok_ (R := RepI) ok1 q1 rfl⟩
  | _ => exact q1.elim
theorem RepL.cut {K : PySem.W.Frag} {mg : Str → Option Value} {W : Wd} {vs : List V} {ds : List D} (r : RepL K mg W vs ds) (lo hi : Option Int) : RepL K mg W (cutV vs lo hi) (cutD ds lo hi) := by
  unfold cutV cutD
  rw [r.length]
  exact (r.drop _).take _
def rSl (K : PySem.W.Frag) (mg : Str → Option Value) : V → Option Int → Option Int → Hp → VK → Prop := fun x lo hi H Q => ∃ W cs dx d, Ok K mg W H cs ∧ Rep K mg W x dx ∧ slD dx lo hi = some d ∧
  ∀ (v : V) (W' : Wd) (H' : Hp), Ok K mg W' H' cs → Le W H W' H' → Rep K mg W' v d → Q v H'
theorem whole_cut (xs : List D) (lo hi : Option Int) (h : HT.sIx xs.length 0 lo = 0 ∧ HT.sIx xs.length xs.length hi = xs.length) : cutD xs lo hi = xs := by
  unfold cutD
  rw [h.1, h.2]
  simp
theorem sl_X : SlR X (rSl X.K X.mg) := by
  intro pins s σ H x v vl vu lo hi sl Q I rx hs pl pu ⟨W, cs, dx, d, ok, hx, e, q⟩
  cases hx with
  | @tup a xs da ha ra =>
    cases e
    refine sl_tupF pins s σ H _ v vl vu lo hi sl Q I rx hs pl pu ⟨a, xs, rfl, ok.ex.sqt ha.sqt, fun hw => ?_, fun hw => ok.newT (ra.cut lo hi) q⟩
    rw [ra.length] at hw
    exact q _ W H ok (Le.refl W H) (.tup ha (by rw [whole_cut da lo hi hw]; exact ra))
  | @lst a xs da ha ra =>
    cases e
    refine sl_list pins s σ H _ v vl vu lo hi sl Q I rx hs pl pu ⟨a, xs, rfl, .inl (.inl (ok.ex _ _ ha)), fun p hp => ?_⟩
    obtain ⟨ok2, l2⟩ := ok.lay (.lst (cutV xs lo hi)) hp
    exact q _ _ _ ok2 l2 (.lst upd_same ((ra.le l2).cut lo hi))
  | @scr a xs da ha ra =>
    cases e
    refine sl_list pins s σ H _ v vl vu lo hi sl Q I rx hs pl pu ⟨a, xs, rfl, ok.ex.sql ha, fun p hp => ?_⟩
    obtain ⟨ok2, l2⟩ := ok.lay (.lst (cutV xs lo hi)) hp
    exact q _ _ _ ok2 l2 (.lst upd_same ((ra.le l2).cut lo hi))
  | str z =>
    have e : (if z.length ≤ 1000000 then some (D.str (cutS z lo hi)) else none) = some d := e
    split at e
    · rename_i hz
      cases e
      exact sl_str pins s σ H _ v vl vu lo hi sl Q I rx hs pl pu ⟨z, rfl, line_of hz, q _ W H ok (Le.refl W H) (.str _)⟩
    · cases e
  | _ => cases e
theorem de_sl (he : DE X E e f) (hl : DO X E lo fl) (hh : DO X E hi fh) : DE X E (.Subscript e (.Slice lo hi none p2) pos) (eSl f fl fh) := (pe_slice sl_X he hl hh).imp fun σ H Q ⟨W, S, cs, H0, ok, sl, q⟩ => by
  obtain ⟨W', S', cs', H0', ok', sl', q'⟩ := den.then ok sl q
  refine ⟨W', S', cs', H0', ok', sl', q'.imp fun x H1 ⟨W1, cs1, d, ok1, sl1, l1, r1, q1⟩ => ?_⟩
  refine ⟨W1, S, cs1, H0, ok1, sl1, (RO.seqv (R := RepI) q1).imp fun o H2 ⟨W2, cs2, o', ok2, l2, e2, q2⟩ => ?_⟩
  refine ⟨W2, S, cs2, H0, ok2, sl1.mono l2, (RO.seqv (R := RepI) q2).imp fun o2 H3 ⟨W3, cs3, o3, ok3, l3, e3, q3⟩ => ?_⟩
  cases e2
  cases e3
  obtain ⟨z, e4, q4⟩ := q3.opt
  exact ⟨W3, cs3, d, z, ok3, (r1.le l2).le l3, e4, q4⟩
end
end LL

set_option Elab.async false
set_option linter.all false
set_option maxRecDepth 100000
set_option maxHeartbeats 4000000
/-! built-ins, fields, displays of lists over plain data -/
namespace LL
open PySem PySem.Spec PyProof.Rows L2

/-! ### calls of built-ins -/
def eCall (op : Cs → List D → Option D) (g : Sems) : Sem := fun S cs => (g S cs).bind fun ds cs => Res.opt (op cs ds) cs
def rB (K : PySem.W.Frag) (mg : Str → Option Value) (op : Cs → List D → Option D) : List V → Hp → VK → Prop := fun xs H Q => ∃ W cs ds d, Ok K mg W H cs ∧ RepL K mg W xs ds ∧ op cs ds = some d ∧
  ∀ (v : V) (W' : Wd) (H' : Hp), Ok K mg W' H' cs → Le W H W' H' → Rep K mg W' v d → Q v H'
section
variable {X : Cx} {k : Nat} {E : XK} {e a b o : Expr} {es : List Expr} {f g : Sem} {gs : Sems} {pos p apos : Pos} {x : Str} {id T : String} {op : Cs → List D → Option D}
theorem denA.call {σ : SSt} {H : Hp} {Q : VK} (q : den X.K X.mg E (eCall op gs) σ H Q) : tCB (rB X.K X.mg op) (denA X.K X.mg E gs) σ H Q := by
  obtain ⟨W, S, cs, H0, ok, sl, q⟩ := q
  obtain ⟨W', S', cs', H0', ok', sl', q'⟩ := denA.then ok sl q
  refine ⟨W', S', cs', H0', ok', sl', q'.imp fun v H1 ⟨W1, cs1, d, ok1, sl1, l1, r1, q1⟩ => ?_⟩
  obtain ⟨z, e, q4⟩ := q1.opt
  exact ⟨W1, cs1, d, z, ok1, r1, e, q4⟩
theorem de_callB (hc : CallR X (.builtin id) (rB X.K X.mg op)) (hg : Gl X x) (hm : X.mg x = none) (hv : bootBuiltins x = some (.builtin id)) (ha : DA X E (e :: es) gs) (hn : x ≠ "__name__" := by decide) (hdb : (x == ("__debug__" : Str)) = false := by decide)
    (he : starEach (e :: es) X.env = (false, eval e X.env) :: starEach es X.env := by rfl) (hpl : (backTo pos (starEach es X.env)).any (·.1) = false := by rfl) : DE X E (.Call (.Name x p) (e :: es) [] pos) (eCall op gs) :=
  (pe_callB hc hg hm hv ha hn hdb he hpl).imp fun σ H Q q => denA.call q
theorem de_callTy (hc : CallR X (.type T) (rB X.K X.mg op)) (hg : Gl X x) (hm : X.mg x = none) (hv : bootBuiltins x = some (.type T)) (ha : DA X E (e :: es) gs) (hn : x ≠ "__name__" := by decide) (hdb : (x == ("__debug__" : Str)) = false := by decide)
    (he : starEach (e :: es) X.env = (false, eval e X.env) :: starEach es X.env := by rfl) (hpl : (backTo pos (starEach es X.env)).any (·.1) = false := by rfl) : DE X E (.Call (.Name x p) (e :: es) [] pos) (eCall op gs) :=
  (pe_callTy hc hg hm hv ha hn hdb he hpl).imp fun σ H Q q => denA.call q

theorem RepL.one_inv {K : PySem.W.Frag} {mg : Str → Option Value} {W : Wd} {vs : List V} {d : D} (r : RepL K mg W vs [d]) : ∃ v, vs = [v] ∧ Rep K mg W v d := by
  cases r with
  | cons r t => cases t; exact ⟨_, rfl, r⟩
theorem RepL.two_inv {K : PySem.W.Frag} {mg : Str → Option Value} {W : Wd} {vs : List V} {d e : D} (r : RepL K mg W vs [d, e]) : ∃ v u, vs = [v, u] ∧ Rep K mg W v d ∧ Rep K mg W u e := by
  cases r with
  | cons r t => obtain ⟨u, rfl, q⟩ := t.one_inv; exact ⟨_, u, rfl, r, q⟩

def lenD (cs : Cs) (ds : List D) : Option D := match ds with
  | [.tup xs] => some (.int xs.length)
  | [.lst xs] => some (.int xs.length)
  | [.scr xs] => some (.int xs.length)
  | [.str z] => if z.length ≤ 1000000 then some (.int z.length) else none
  | [.cell n] => (cs[n]?).map fun xs => .int xs.length
  | [.dct ks _] => some (.int ks.length)
  | _ => none
theorem cr_lenX : CallR X (.builtin "len") (rB X.K X.mg lenD) := by
  intro pins s σ H xs us Q I r ⟨W, cs, ds, d, ok, rl, e, q⟩
  have fin : ∀ {n : Int}, d = .int n → Q (.int n) H := fun {n} h => q _ W H ok (Le.refl W H) (by rw [h]; exact .int n)
  cases ds with
  | nil => cases e
  | cons d1 t =>
    cases t with
    | cons _ _ => cases d1 <;> cases e
    | nil =>
      obtain ⟨v, rfl, rv⟩ := rl.one_inv
      cases rv with
      | @tup a xs da ha ra => cases e; exact call_len pins s σ H _ us Q I r ⟨.ref a, xs.length, rfl, .inr ⟨xs, ok.ex.sqt ha.sqt, rfl⟩, by rw [ra.length]; exact fin rfl⟩
      | @lst a xs da ha ra => cases e; exact call_len pins s σ H _ us Q I r ⟨.ref a, xs.length, rfl, .inl ⟨xs, .inl (.inl (ok.ex _ _ ha)), rfl⟩, by rw [ra.length]; exact fin rfl⟩
      | @scr a xs da ha ra => cases e; exact call_len pins s σ H _ us Q I r ⟨.ref a, xs.length, rfl, .inl ⟨xs, ok.ex.sql ha, rfl⟩, by rw [ra.length]; exact fin rfl⟩
      | str z =>
        have e : (if z.length ≤ 1000000 then some (D.int z.length) else none) = some d := e
        split at e
        · rename_i hz
          cases e
          exact call_len pins s σ H _ us Q I r ⟨.str z, z.length, rfl, ⟨line_of hz, rfl⟩, fin rfl⟩
        · cases e
      | @cell a n ha =>
        obtain ⟨dx, vs, h1, h2, h3, h4⟩ := ok.cl.get ha
        have e : ((cs[n]?).map fun xs => D.int xs.length) = some d := e
        rw [h1] at e
        cases e
        exact call_len pins s σ H _ us Q I r ⟨.ref a, vs.length, rfl, .inl ⟨vs, .inl (.inl h3), rfl⟩, by rw [h4.length]; exact fin rfl⟩
      | @dct a kvs ks vs h r1 r2 =>
        cases e
        have hl := r1.length
        rw [List.length_map] at hl
        exact call_lenD pins s σ H _ us Q I r ⟨a, kvs, rfl, ok.ex _ _ h, by rw [hl]; exact fin rfl⟩
      | _ => cases e

def boolsD : List D → Option (List Bool)
  | [] => some []
  | .bl b :: r => (boolsD r).map (b :: ·)
  | _ => none
def intsD : List D → Option (List Int)
  | [] => some []
  | .int b :: r => (intsD r).map (b :: ·)
  | _ => none
theorem boolsD_of {K : PySem.W.Frag} {mg : Str → Option Value} {W : Wd} : ∀ {vs : List V} {ds : List D} {bs : List Bool}, RepL K mg W vs ds → boolsD ds = some bs → vs = bs.map V.bl
  | _, _, _, .nil, e => by cases e; rfl
  | _, _, _, .cons (d := d) (ds := ds) r t, e => by
    cases r with
    | bl b =>
      have e : (boolsD ds).map (b :: ·) = some _ := e
      cases hb : boolsD ds with
      | none => rw [hb] at e; cases e
      | some l => rw [hb] at e; cases e; rw [boolsD_of t hb]; rfl
    | _ => cases e
theorem intsD_of {K : PySem.W.Frag} {mg : Str → Option Value} {W : Wd} : ∀ {vs : List V} {ds : List D} {bs : List Int}, RepL K mg W vs ds → intsD ds = some bs → vs = bs.map V.int
  | _, _, _, .nil, e => by cases e; rfl
  | _, _, _, .cons (d := d) (ds := ds) r t, e => by
    cases r with
    | int b =>
      have e : (intsD ds).map (b :: ·) = some _ := e
      cases hb : intsD ds with
      | none => rw [hb] at e; cases e
      | some l => rw [hb] at e; cases e; rw [intsD_of t hb]; rfl
    | _ => cases e
def allD (_ : Cs) (ds : List D) : Option D := match ds with
  | [.lst xs] => (boolsD xs).map fun bs => .bl (bs.all fun b => b)
  | _ => none
def anyD (_ : Cs) (ds : List D) : Option D := match ds with
  | [.lst xs] => (boolsD xs).map fun bs => .bl (bs.any fun b => b)
  | _ => none
def sumD (_ : Cs) (ds : List D) : Option D := match ds with
  | [.lst xs] => (intsD xs).map fun bs => .int bs.sum
  | _ => none
theorem lst_only {K : PySem.W.Frag} {mg : Str → Option Value} {W : Wd} {H : Hp} {op : List D → Option D} {xs : List V} {ds : List D} {d : D} (ex : Ext W.G H) (rl : RepL K mg W xs ds) (e : op ds = some d)
    (h : ∀ ds, op ds = some d → ∃ ys, ds = [.lst ys]) : ∃ a vs ys, xs = [.ref a] ∧ ds = [.lst ys] ∧ SqL K H a vs ∧ RepL K mg W vs ys := by
  obtain ⟨ys, rfl⟩ := h ds e
  obtain ⟨v, rfl, rv⟩ := rl.one_inv
  cases rv with
  | @lst a vs _ ha ra => exact ⟨a, vs, ys, rfl, rfl, .inl (.inl (ex _ _ ha)), ra⟩
theorem cr_allX (hc : X.calm = true) : CallR X (.builtin "all") (rB X.K X.mg allD) := by
  intro pins s σ H xs us Q I r ⟨W, cs, ds, d, ok, rl, e, q⟩
  obtain ⟨a, vs, ys, rfl, rfl, hs, rv⟩ := lst_only (op := allD cs) ok.ex rl e fun ds h => by
    unfold allD at h; split at h
    · exact ⟨_, rfl⟩
    · cases h
  have e : (boolsD ys).map (fun bs => D.bl (bs.all fun b => b)) = some d := e
  cases hb : boolsD ys with
  | none => rw [hb] at e; cases e
  | some bs =>
    rw [hb] at e
    cases e
    exact cr_all hc pins s σ H _ us Q I r ⟨a, bs, rfl, by rw [← boolsD_of rv hb]; exact hs, q _ W H ok (Le.refl W H) (.bl _)⟩
theorem cr_anyX (hc : X.calm = true) : CallR X (.builtin "any") (rB X.K X.mg anyD) := by
  intro pins s σ H xs us Q I r ⟨W, cs, ds, d, ok, rl, e, q⟩
  obtain ⟨a, vs, ys, rfl, rfl, hs, rv⟩ := lst_only (op := anyD cs) ok.ex rl e fun ds h => by
    unfold anyD at h; split at h
    · exact ⟨_, rfl⟩
    · cases h
  have e : (boolsD ys).map (fun bs => D.bl (bs.any fun b => b)) = some d := e
  cases hb : boolsD ys with
  | none => rw [hb] at e; cases e
  | some bs =>
    rw [hb] at e
    cases e
    exact cr_any hc pins s σ H _ us Q I r ⟨a, bs, rfl, by rw [← boolsD_of rv hb]; exact hs, q _ W H ok (Le.refl W H) (.bl _)⟩
theorem cr_sumX (hc : X.calm = true) : CallR X (.builtin "sum") (rB X.K X.mg sumD) := by
  intro pins s σ H xs us Q I r ⟨W, cs, ds, d, ok, rl, e, q⟩
  obtain ⟨a, vs, ys, rfl, rfl, hs, rv⟩ := lst_only (op := sumD cs) ok.ex rl e fun ds h => by
    unfold sumD at h; split at h
    · exact ⟨_, rfl⟩
    · cases h
  have e : (intsD ys).map (fun bs => D.int bs.sum) = some d := e
  cases hb : intsD ys with
  | none => rw [hb] at e; cases e
  | some bs =>
    rw [hb] at e
    cases e
    exact cr_sum hc pins s σ H _ us Q I r ⟨a, bs, rfl, by rw [← intsD_of rv hb]; exact hs, q _ W H ok (Le.refl W H) (.int _)⟩
def min2D (_ : Cs) (ds : List D) : Option D := match ds with
  | [.int i, .int j] => some (.int (if j < i then j else i))
  | _ => none
def max2D (_ : Cs) (ds : List D) : Option D := match ds with
  | [.int i, .int j] => some (.int (if j > i then j else i))
  | _ => none
theorem two_ints {K : PySem.W.Frag} {mg : Str → Option Value} {W : Wd} {xs : List V} {i j : Int} (rl : RepL K mg W xs [.int i, .int j]) : xs = [.int i, .int j] := by
  obtain ⟨v, u, rfl, r1, r2⟩ := rl.two_inv
  cases r1; cases r2; rfl
theorem cr_min2X (hc : X.calm = true) : CallR X (.builtin "min") (rB X.K X.mg min2D) := by
  intro pins s σ H xs us Q I r ⟨W, cs, ds, d, ok, rl, e, q⟩
  unfold min2D at e
  split at e
  · cases e
    obtain rfl := two_ints rl
    exact call_min2 hc pins s σ H _ us Q I r ⟨_, _, rfl, q _ W H ok (Le.refl W H) (.int _)⟩
  · cases e
theorem cr_max2X (hc : X.calm = true) : CallR X (.builtin "max") (rB X.K X.mg max2D) := by
  intro pins s σ H xs us Q I r ⟨W, cs, ds, d, ok, rl, e, q⟩
  unfold max2D at e
  split at e
  · cases e
    obtain rfl := two_ints rl
    exact call_max2 hc pins s σ H _ us Q I r ⟨_, _, rfl, q _ W H ok (Le.refl W H) (.int _)⟩
  · cases e
def intD (_ : Cs) (ds : List D) : Option D := match ds with
  | [.int i] => some (.int i)
  | [.bl b] => some (.int (if b then 1 else 0))
  | _ => none
theorem cr_intX : CallR X (.type "int") (rB X.K X.mg intD) := by
  intro pins s σ H xs us Q I r ⟨W, cs, ds, d, ok, rl, e, q⟩
  unfold intD at e
  split at e
  · cases e
    obtain ⟨v, rfl, rv⟩ := rl.one_inv
    cases rv
    exact call_int1 pins s σ H _ us Q I r (.inl ⟨_, rfl, q _ W H ok (Le.refl W H) (.int _)⟩)
  · cases e
    obtain ⟨v, rfl, rv⟩ := rl.one_inv
    cases rv
    exact call_int1 pins s σ H _ us Q I r (.inr ⟨_, rfl, q _ W H ok (Le.refl W H) (.int _)⟩)
  · cases e
def tupleD (_ : Cs) (ds : List D) : Option D := match ds with
  | [.lst xs] => some (.tup xs)
  | [.scr xs] => some (.tup xs)
  | [.tup xs] => some (.tup xs)
  | _ => none
theorem cr_tupleX : CallR X (.type "tuple") (rB X.K X.mg tupleD) := by
  intro pins s σ H xs us Q I r ⟨W, cs, ds, d, ok, rl, e, q⟩
  have seq : ∀ {a : Addr} {vs : List V} {ys : List D}, SqL X.K H a vs → RepL X.K X.mg W vs ys → d = .tup ys → xs = [.ref a] → wpAny (model X.prog X.w) X.A (call (.type "tuple") us) (EP X pins σ Q) X.xe s := fun {a vs ys} hs ra hd hx => by
    subst hx hd
    exact call_tupleF pins s σ H _ us Q I r ⟨a, vs, rfl, .inl ⟨hs, ok.newT ra q⟩⟩
  unfold tupleD at e
  split at e
  · cases e
    obtain ⟨v, rfl, rv⟩ := rl.one_inv
    cases rv with
    | lst ha ra => exact seq (.inl (.inl (ok.ex _ _ ha))) ra rfl rfl
  · cases e
    obtain ⟨v, rfl, rv⟩ := rl.one_inv
    cases rv with
    | scr ha ra => exact seq (ok.ex.sql ha) ra rfl rfl
  · cases e
    obtain ⟨v, rfl, rv⟩ := rl.one_inv
    cases rv with
    | @tup a vs _ ha ra => exact call_tupleF pins s σ H _ us Q I r ⟨a, vs, rfl, .inr ⟨ok.ex.sqt ha.sqt, q _ W H ok (Le.refl W H) (.tup ha ra)⟩⟩
  · cases e
def listD (_ : Cs) (ds : List D) : Option D := match ds with
  | [.lst xs] => some (.lst xs)
  | [.scr xs] => some (.lst xs)
  | [.tup xs] => some (.lst xs)
  | _ => none
theorem cr_listX : CallR X (.type "list") (rB X.K X.mg listD) := by
  intro pins s σ H xs us Q I r ⟨W, cs, ds, d, ok, rl, e, q⟩
  have seq : ∀ {a : Addr} {vs : List V} {ys : List D}, (SqL X.K H a vs ∨ SqT X.K H a vs) → RepL X.K X.mg W vs ys → d = .lst ys → xs = [.ref a] → wpAny (model X.prog X.w) X.A (call (.type "list") us) (EP X pins σ Q) X.xe s := fun {a vs ys} hs ra hd hx => by
    subst hx hd
    refine call_list_of pins s σ H _ us Q I r ⟨a, vs, rfl, hs, fun p hp => ?_⟩
    obtain ⟨ok2, l2⟩ := ok.lay (.lst vs) hp
    exact q _ _ _ ok2 l2 (.lst upd_same (ra.le l2))
  unfold listD at e
  split at e
  · cases e
    obtain ⟨v, rfl, rv⟩ := rl.one_inv
    cases rv with
    | lst ha ra => exact seq (.inl (.inl (.inl (ok.ex _ _ ha)))) ra rfl rfl
  · cases e
    obtain ⟨v, rfl, rv⟩ := rl.one_inv
    cases rv with
    | scr ha ra => exact seq (.inl (ok.ex.sql ha)) ra rfl rfl
  · cases e
    obtain ⟨v, rfl, rv⟩ := rl.one_inv
    cases rv with
    | tup ha ra => exact seq (.inr (ok.ex.sqt ha.sqt)) ra rfl rfl
  · cases e

/-! ### isinstance(x, T), T a built-in type -/
def tyName : D → Option String
  | .non => some "NoneType"
  | .bl _ => some "bool"
  | .int _ => some "int"
  | .str _ => some "str"
  | .tup _ => some "tuple"
  | .lst _ => some "list"
  | .scr _ => some "list"
  | .cell _ => some "list"
  | .dct _ _ => some "dict"
  | _ => none
def isiB (a b : String) : Bool := a == b || (a == "bool" && b == "int")
def isiD (T : String) (d : D) : Option D := if (["NoneType", "bool", "int", "str", "tuple", "list", "dict"] : List String).contains T then (tyName d).map fun t => .bl (isiB t T) else none
theorem isiB_kit : ∀ a ∈ (["NoneType", "bool", "int", "str", "tuple", "list", "dict"] : List String), ∀ b ∈ (["NoneType", "bool", "int", "str", "tuple", "list", "dict"] : List String), kitB a b = some (isiB a b) := by decide +kernel
theorem tyName_mem {d : D} {t : String} (h : tyName d = some t) : t ∈ (["NoneType", "bool", "int", "str", "tuple", "list", "dict"] : List String) := by
  cases d <;> cases h <;> simp
theorem tyX_of {cs : Cs} {W : Wd} {H : Hp} (ok : Ok X.K X.mg W H cs) {v : V} {d : D} {t : String} (r : Rep X.K X.mg W v d) (h : tyName d = some t) : TyX X.K H v (.type t) := by
  have sql : ∀ {a : Addr} {xs : List V}, SqL X.K H a xs → TyX X.K H (.ref a) (.type "list") := fun {a xs} hs => by
    rcases hs with (e | ⟨o, e⟩) | ⟨o, its, n, e, c, _⟩
    · exact .base (.lst e)
    · exact .base (.frz e)
    · exact .kList e c
  cases r with
  | non => cases h; exact .base .non
  | bl b => cases h; exact .base (.bl b)
  | int i => cases h; exact .base (.int i)
  | str x => cases h; exact .base (.str x)
  | tup ha _ =>
    cases h
    rcases ok.ex.sqt ha.sqt with (e | ⟨o, e⟩) | ⟨o, its, n, e, c, _⟩
    · exact .base (.tup e)
    · exact .fTuple e
    · exact .kTuple e c
  | lst ha _ => cases h; exact .base (.lst (ok.ex _ _ ha))
  | scr ha _ => cases h; exact sql (ok.ex.sql ha)
  | dct ha _ _ => cases h; exact .base (.dK (ok.ex _ _ ha))
  | cell ha =>
    cases h
    obtain ⟨dx, vs, h1, h2, h3, h4⟩ := ok.cl.get ha
    exact .base (.lst h3)
  | _ => cases h
def eIsi (T : String) (f : Sem) : Sem := fun S cs => (f S cs).bind fun d cs => Res.opt (isiD T d) cs
theorem de_isi {tx : Str} {p1 p2 : Pos} (hg : Gl X "isinstance") (hm : X.mg "isinstance" = none) (he : DE X E e f) (hg2 : Gl X tx) (hm2 : X.mg tx = none) (hv2 : bootBuiltins tx = some (.type T)) (hn : tx ≠ "__name__" := by decide) (hd : (tx == ("__debug__" : Str)) = false := by decide)
    (hs : starEach [e, .Name tx p2] X.env = (false, eval e X.env) :: starEach [.Name tx p2] X.env := by rfl) :
    DE X E (.Call (.Name "isinstance" p1) [e, .Name tx p2] [] pos) (eIsi T f) :=
  (pe_callB call_isi hg hm (by decide +kernel) (pa_cons he (pa_cons (pe_bltn (v := .ty T) hg2 hm2 hv2 rfl hn hd) pa_nil) hs) (he := hs)).imp fun σ H Q ⟨W, S, cs, H0, ok, sl, q⟩ => by
    obtain ⟨W', S', cs', H0', ok', sl', q'⟩ := den.then ok sl q
    refine ⟨W', S', cs', H0', ok', sl', q'.imp fun v H1 ⟨W1, cs1, d, ok1, sl1, l1, r1, q1⟩ => ?_⟩
    obtain ⟨z, e, q4⟩ := q1.opt
    unfold isiD at e
    split at e
    · rename_i hT
      cases ht : tyName d with
      | none => rw [ht] at e; cases e
      | some t =>
        rw [ht] at e
        cases e
        exact ⟨v, .ty T, .type t, .type T, isiB t T, rfl, .ty T, tyX_of ok1 r1 ht, kit_ty (isiB_kit t (tyName_mem ht) T (by simpa using hT)), q4 _ W1 H1 ok1 (Le.refl W1 H1) (.bl _)⟩
    · cases e

/-! ### fields -/
def fieldD (c fld : Str) : D → Option D
  | .obj c' ns vs => if c' = c then (ns.zip vs).lookup fld else none
  | _ => none
def eFld (c fld : Str) (f : Sem) : Sem := fun S cs => (f S cs).bind fun d cs => Res.opt (fieldD c fld d) cs
theorem RepL.lookup {K : PySem.W.Frag} {mg : Str → Option Value} {W : Wd} {fld : Str} {d : D} : ∀ {fs : List (Str × V)} {vs : List D}, RepL K mg W (fs.map (·.2)) vs → ((fs.map (·.1)).zip vs).lookup fld = some d → ∃ v, fs.lookup fld = some v ∧ Rep K mg W v d
  | [], _, .nil, h => by simp at h
  | (n, v) :: fs, _, .cons (d := d1) (ds := ds) r t, h => by
    have h : (if (fld == n) = true then some d1 else ((fs.map (·.1)).zip ds).lookup fld) = some d := by
      have h : ((n, d1) :: ((fs.map (·.1)).zip ds)).lookup fld = some d := h
      rw [List.lookup_cons] at h
      cases hb : fld == n <;> simp [hb] at h ⊢ <;> exact h
    rw [List.lookup_cons]
    cases hb : fld == n with
    | true =>
      rw [hb, if_pos rfl] at h
      cases h
      exact ⟨v, rfl, r⟩
    | false =>
      rw [hb, if_neg Bool.false_ne_true] at h
      exact RepL.lookup t h
/-- what is known of a class -/
structure ClsF (K : PySem.W.Frag) (mg : Str → Option Value) (c : Str) : Prop where
  cl : ∀ C, mg c = some (.ref C) → Cls K C
theorem de_fld {c fld : Str} (hC : ∀ C, X.mg c = some (.ref C) → Cls X.K C ∧ NoAttr X.K C fld) (he : DE X E e f) (hb : attributeBase e fld X.env (eval e X.env) = eval e X.env := by rfl) : DE X E (.Attribute e fld pos) (eFld c fld f) :=
  (pe_fld he hb).imp fun σ H Q ⟨W, S, cs, H0, ok, sl, q⟩ => by
    obtain ⟨W', S', cs', H0', ok', sl', q'⟩ := den.then ok sl q
    refine ⟨W', S', cs', H0', ok', sl', q'.imp fun v H1 ⟨W1, cs1, d, ok1, sl1, l1, r1, q1⟩ => ?_⟩
    obtain ⟨z, e, q4⟩ := q1.opt
    cases r1 with
    | @obj a C dx fs c' ns vs hm hG hn rv =>
      have e : (if c' = c then (ns.zip vs).lookup fld else none) = some z := e
      split at e
      · rename_i hc
        subst hc hn
        obtain ⟨w, e1, rw'⟩ := rv.lookup (by assumption)
        obtain ⟨h1, h2⟩ := hC C hm
        exact ⟨a, C, dx, fs, w, rfl, ok1.ex _ _ hG, h1, h2, e1, q4 _ W1 H1 ok1 (Le.refl W1 H1) rw'⟩
      · cases e
    | _ => cases e

/-! ### methods of built-in types -/
def rM (K : PySem.W.Frag) (mg : Str → Option Value) (op : Cs → D → List D → Option D) : V → List V → Hp → VK → Prop := fun x xs H Q => ∃ W cs dx ds d, Ok K mg W H cs ∧ Rep K mg W x dx ∧ RepL K mg W xs ds ∧ op cs dx ds = some d ∧
  ∀ (v : V) (W' : Wd) (H' : Hp), Ok K mg W' H' cs → Le W H W' H' → Rep K mg W' v d → Q v H'
/-- its type is known, it has no dict of its own -/
def MtTy (K : PySem.W.Frag) (T : String) (x : V) (H : Hp) : Prop := match x with
  | .str _ => T = "str"
  | .ref p => (T = "list" ∧ ∃ xs, SqL K H p xs) ∨ (T = "tuple" ∧ ∃ xs, TupR K H p xs) ∨ (T = "dict" ∧ ∃ kvs, H p = some (.dK kvs))
  | _ => False
theorem MtTy.is {pins : List (Addr × Obj)} {σ : SSt} {H : Hp} {s : Shared} {T : String} {x : V} {v : Value} (I : Inv X pins σ H s) (r : RelV x v) (ty : MtTy X.K T x H) :
    s.TypeIs v T ∧ ∀ a, v = .ref a → ∃ ob, s.heap.get? a = some ob ∧ ob.dict = none := by
  cases x with
  | str z => exact tyV_is I r (show tyV X.K T (.str z) H from ty)
  | ref p =>
    rcases ty with ⟨rfl, h⟩ | ⟨rfl, xs, h⟩ | ⟨rfl, kvs, h⟩
    · exact tyV_is I r (.inl ⟨rfl, h⟩)
    · cases r
      exact TupR.isObj I h
    · exact tyV_is I r (.inr (.inr (.inl ⟨rfl, .inl ⟨kvs, h⟩⟩)))
  | _ => exact False.elim ty
def mtOk (T : String) (d : D) : Bool := (T == "str" || T == "tuple" || T == "list" || T == "dict") && tyName d == some T
theorem MtTy.of {cs : Cs} {W : Wd} {H : Hp} (ok : Ok X.K X.mg W H cs) {v : V} {d : D} {T : String} (r : Rep X.K X.mg W v d) (h : mtOk T d = true) : MtTy X.K T v H := by
  unfold mtOk at h
  rw [Bool.and_eq_true, beq_iff_eq] at h
  obtain ⟨hT, h⟩ := h
  cases r with
  | str x => cases h; rfl
  | tup ha _ => cases h; exact .inr (.inl ⟨rfl, _, ok.ex.tupr ha⟩)
  | lst ha _ => cases h; exact .inl ⟨rfl, _, .inl (.inl (ok.ex _ _ ha))⟩
  | scr ha _ => cases h; exact .inl ⟨rfl, _, ok.ex.sql ha⟩
  | dct ha _ _ => cases h; exact .inr (.inr ⟨rfl, _, ok.ex _ _ ha⟩)
  | cell ha =>
    cases h
    obtain ⟨dx, vs, h1, h2, h3, h4⟩ := ok.cl.get ha
    exact .inl ⟨rfl, _, .inl (.inl h3)⟩
  | non => cases h; cases hT
  | bl _ => cases h; cases hT
  | int _ => cases h; cases hT
  | obj _ _ _ _ => cases h
  | fn _ => cases h
theorem pe_bmX {r : V → List V → Hp → VK → Prop} {to : TE} {t : TA} {name : Str} {cpos : Pos} (pa : PlainAttrs T) (slot : Slot T name id) (hty : typeOf (.builtin id) = pure (.type "method_descriptor")) (hm : MtR X id r) (ho : PE X o to) (ha : PA X (e :: es) t)
    (hbase : attributeBase o name X.env (eval o X.env) = eval o X.env := by rfl)
    (hfew : ((backTo cpos (starEach (e :: es) X.env)).all (fun x => !x.1) && (backToKw cpos (keywordEach [] X.env)).all (fun x => x.1.isSome)
      && decide ((e :: es).length + ([] : List Keyword).length + (if ([] : List Keyword).isEmpty then 0 else 1) < 30)) = true := by rfl)
    (hline : (apos.endLine == cpos.line) = true := by rfl) (hs : starEach (e :: es) X.env = (false, eval e X.env) :: starEach es X.env := by rfl) (hplain : (backTo cpos (starEach es X.env)).any (·.1) = false := by rfl) :
    PE X (.Call (.Attribute o name apos) (e :: es) [] cpos) (fun σ H Q => to σ H fun x H1 => MtTy X.K T x H1 ∧ t σ H1 fun xs H2 => r x xs H2 Q) := by
  refine ⟨fun pins s σ H Q I h => ?_⟩
  refine wpAny_Call_method_late hbase hfew hline rfl (thn (ho.run pins s σ H _ I h) fun v s1 ⟨x, H1, I1, r1, ty, q1⟩ => ?_)
  obtain ⟨h1, h2⟩ := MtTy.is I1 r1 ty
  refine ⟨T, id, pa, slot, hty, h1, h2, ?_⟩
  have hA := ha.run cpos pins s1 σ H1 _ I1 q1
  rw [hs] at hA ⊢
  refine Calls.callWith_builtin (by show (false || (backTo cpos (starEach es X.env)).any (·.1)) = false; rw [hplain] <;> rfl) (Calls.evalArgs_plain ?_)
  exact thn hA fun us s2 ⟨vs, H2, I2, r2, q2⟩ => hm pins s2 σ H2 x vs v us Q I2 r1 r2 q2
def eMt (T : String) (op : Cs → D → List D → Option D) (f : Sem) (g : Sems) : Sem := fun S cs => (f S cs).bind fun d cs => if mtOk T d then (g S cs).bind fun ds cs => Res.opt (op cs d ds) cs else .bad
theorem de_mt {op : Cs → D → List D → Option D} {name : Str} {cpos : Pos} (pa : PlainAttrs T) (slot : Slot T name id) (hty : typeOf (.builtin id) = pure (.type "method_descriptor")) (hm : MtR X id (rM X.K X.mg op)) (ho : DE X E o f) (ha : DA X E (e :: es) gs)
    (hbase : attributeBase o name X.env (eval o X.env) = eval o X.env := by rfl)
    (hfew : ((backTo cpos (starEach (e :: es) X.env)).all (fun x => !x.1) && (backToKw cpos (keywordEach [] X.env)).all (fun x => x.1.isSome)
      && decide ((e :: es).length + ([] : List Keyword).length + (if ([] : List Keyword).isEmpty then 0 else 1) < 30)) = true := by rfl)
    (hline : (apos.endLine == cpos.line) = true := by rfl) (hs : starEach (e :: es) X.env = (false, eval e X.env) :: starEach es X.env := by rfl) (hplain : (backTo cpos (starEach es X.env)).any (·.1) = false := by rfl) :
    DE X E (.Call (.Attribute o name apos) (e :: es) [] cpos) (eMt T op f gs) :=
  (pe_bmX pa slot hty hm ho ha hbase hfew hline hs hplain).imp fun σ H Q ⟨W, S, cs, H0, ok, sl, q⟩ => by
    obtain ⟨W', S', cs', H0', ok', sl', q'⟩ := den.then ok sl q
    refine ⟨W', S', cs', H0', ok', sl', q'.imp fun v H1 ⟨W1, cs1, d, ok1, sl1, l1, r1, q1⟩ => ?_⟩
    split at q1
    · rename_i hk
      refine ⟨MtTy.of ok1 r1 hk, ?_⟩
      obtain ⟨W2, S2, cs2, H2, ok2, sl2, q2⟩ := denA.then ok1 sl1 q1
      refine ⟨W2, S2, cs2, H2, ok2, sl2, q2.imp fun xs H3 ⟨W3, cs3, ds, ok3, sl3, l3, r3, q3⟩ => ?_⟩
      obtain ⟨z, e, q4⟩ := q3.opt
      exact ⟨W3, cs3, d, ds, z, ok3, r1.le l3, r3, e, q4⟩
    · exact q1.elim
/-- t.count(x) -/
def countD (_ : Cs) (d : D) (ds : List D) : Option D := match d, ds with
  | .tup xs, [x] => if plainDs 20 xs && plainD 20 x then some (.int ((xs.countP fun y => PyData.eqv (toP y) (toP x) : Nat) : Int)) else none
  | _, _ => none
theorem countP_toPs (x : PyData) : ∀ xs : List D, (toPs xs).countP (fun y => PyData.eqv y x) = xs.countP fun y => PyData.eqv (toP y) x
  | [] => rfl
  | y :: xs => by rw [toPs, List.countP_cons, List.countP_cons, countP_toPs x xs]
theorem mt_countX (hr : Room k X.A) : MtR X "tuple.count" (rM X.K X.mg countD) := by
  intro pins s σ H x xs v us Q I rx rxs ⟨W, cs, dx, ds, d, ok, hx, hxs, e, q⟩
  unfold countD at e
  split at e
  · split at e
    · rename_i ys y hp
      rw [Bool.and_eq_true] at hp
      cases e
      obtain ⟨w, rfl, hw⟩ := hxs.one_inv
      obtain ⟨u, rfl, ru⟩ := Vals.one rxs
      cases hx with
      | @tup a vs _ ha ra =>
        cases rx
        obtain ⟨its, rv, p, hz⟩ := I.tuple (ok.ex.sqt ha.sqt)
        obtain ⟨as, h4⟩ := Dp.readsAll I _ vs its (ra.dp ok.ex hp.1) rv
        obtain ⟨bs, h5⟩ := Dp.reads I _ w u (hw.dp ok.ex hp.2) ru
        have c1 := plain_canLays 20 ys hp.1
        have c2 := plain_canLay 20 y hp.2
        have hu : X.A.units + 1 + min (PyData.depthAll (toPs ys)) (toP y).depth < cLine := by
          have := hr.un
          have := Nat.min_le_left (PyData.depthAll (toPs ys)) (toP y).depth
          omega
        refine SeqAt.count_tuple_data p (xs := toPs ys) (d := toP y) (show ReadsAll s.heap its.toArray.toList _ as from h4) h5 (PyData.plainAll_of_canLay0 _ c1.1) (PyData.plain_of_canLay0 _ c2.1) hu ?_
        rw [countP_toPs]
        exact ⟨.int _, H, I.tok _, ⟨_, rfl⟩, q _ W H ok (Le.refl W H) (.int _)⟩
    · cases e
  · cases e
end
end LL

set_option Elab.async false
set_option linter.all false
set_option maxRecDepth 100000
set_option maxHeartbeats 4000000
/-! targets, what is walked, comprehensions over plain data -/
namespace LL
open PySem PySem.Spec PyProof.Rows L2

/-! ### targets -/
abbrev Tg := D → List Sl → Option (List Sl)
def denG (K : PySem.W.Frag) (mg : Str → Option Value) (g : Tg) (ix : List Nat) : TG := fun v σ H Q => ∃ (W : Wd) (S : List Sl) (cs : Cs) (H0 : Hp) (d : D) (S' : List Sl), Ok K mg W H cs ∧ Slots K mg W H0 H σ S ∧ Rep K mg W v d ∧ g d S = some S' ∧
  ∀ σ' : SSt, Slots K mg W H0 H σ' S' → (∀ j, j ∉ ix → σ'[j]? = σ[j]?) → σ'.length = σ.length → Q σ' H
abbrev DG (X : Cx) (e : Expr) (g : Tg) (ix : List Nat) : Prop := PG X e (denG X.K X.mg g ix)
abbrev Tgs := List D → List Sl → Option (List Sl)
def denGs (K : PySem.W.Frag) (mg : Str → Option Value) (g : Tgs) (ix : List Nat) : TGs := fun vs σ H Q => ∃ (W : Wd) (S : List Sl) (cs : Cs) (H0 : Hp) (ds : List D) (S' : List Sl), Ok K mg W H cs ∧ Slots K mg W H0 H σ S ∧ RepL K mg W vs ds ∧ g ds S = some S' ∧
  ∀ σ' : SSt, Slots K mg W H0 H σ' S' → (∀ j, j ∉ ix → σ'[j]? = σ[j]?) → σ'.length = σ.length → Q σ' H
abbrev DGs (X : Cx) (es : List Expr) (g : Tgs) (ix : List Nat) : Prop := PGs X es (denGs X.K X.mg g ix)
theorem _root_.L2.PG.imp {X : Cx} {e : Expr} {t t' : TG} (h : PG X e t) (i : ∀ v σ H Q, t' v σ H Q → t v σ H Q) : PG X e t' := ⟨fun pins s σ H v u Q I r q => h.run pins s σ H v u Q I r (i v σ H Q q)⟩
theorem _root_.L2.PGs.imp {X : Cx} {e : List Expr} {t t' : TGs} (h : PGs X e t) (i : ∀ v σ H Q, t' v σ H Q → t v σ H Q) : PGs X e t' := ⟨fun pins s σ H v u Q I r q => h.run pins s σ H v u Q I r (i v σ H Q q)⟩
def gN (i : Nat) : Tg := fun d S => some (S.set i (.val d))
def gT (g : Tgs) : Tg := fun d S => match d with
  | .tup ds => g ds S
  | _ => none
def gs0 : Tgs := fun ds S => match ds with
  | [] => some S
  | _ => none
def gsC (g : Tg) (gs : Tgs) : Tgs := fun ds S => match ds with
  | d :: ds => (g d S).bind fun S1 => gs ds S1
  | [] => none
section
variable {X : Cx} {e : Expr} {es : List Expr} {g : Tg} {gs : Tgs} {ix ix' : List Nat} {pos : Pos} {x : Str} {k n : Nat}
theorem dg_of {i : Nat} (h : PG X e (gName i)) : DG X e (gN i) [i] := h.imp fun v σ H Q ⟨W, S, cs, H0, d, S', ok, sl, r, e, q⟩ => by
  cases e
  refine q _ (sl.setVal r) (fun j hj => ?_) (by simp)
  rw [List.getElem?_set_ne (fun e => hj (by simp [e]))]
theorem dgs_nil : DGs X [] gs0 [] := pgs_nil.imp fun v σ H Q ⟨W, S, cs, H0, ds, S', ok, sl, r, e, q⟩ => by
  unfold gs0 at e
  split at e
  · cases e
    cases r
    exact ⟨rfl, q σ sl (fun j _ => rfl) rfl⟩
  · cases e
theorem dgs_cons (h1 : DG X e g ix) (h2 : DGs X es gs ix') (hs : (assignEach (e :: es) X.env).map (·.2) = assign e X.env :: (assignEach es X.env).map (·.2) := by rfl) : DGs X (e :: es) (gsC g gs) (ix ++ ix') :=
  (pgs_cons h1 h2 hs).imp fun v σ H Q ⟨W, S, cs, H0, ds, S', ok, sl, r, e, q⟩ => by
    cases r with
    | nil => cases e
    | @cons v vs d ds r t =>
        have e : (g d S).bind (fun S1 => gs ds S1) = some S' := e
        cases hg : g d S with
        | none => rw [hg] at e; cases e
        | some S1 =>
          rw [hg] at e
          refine ⟨_, _, rfl, W, S, cs, H0, d, S1, ok, sl, r, hg, fun σ1 sl1 j1 n1 => ?_⟩
          refine ⟨W, S1, cs, H0, ds, S', ok, sl1, t, e, fun σ2 sl2 j2 n2 => q σ2 sl2 (fun j hj => ?_) (n2.trans n1)⟩
          rw [List.mem_append, not_or] at hj
          rw [j2 j hj.2, j1 j hj.1]
/-- how many names a written row of targets has -/
theorem dg_tup (hc : X.calm = true) (h : DGs X es gs ix) (hl : ∀ ds S S', gs ds S = some S' → ds.length = n) (hn : (assignEach es X.env).length = n := by rfl) (hst : (assignEach es X.env).findIdx? (·.1) = none := by rfl) :
    DG X (.Tuple es k pos) (gT gs) ix := (pg_tup hc h hn hst).imp fun v σ H Q ⟨W, S, cs, H0, d, S', ok, sl, r, e, q⟩ => by
  cases r with
  | @tup a xs ds ha ra =>
    have e : gs ds S = some S' := e
    exact ⟨a, xs, rfl, ok.ex.sqt ha.sqt, by rw [ra.length]; exact hl _ _ _ e, W, S, cs, H0, ds, S', ok, sl, ra, e, q⟩
  | _ => cases e
theorem gs0_len : ∀ ds S S', gs0 ds S = some S' → ds.length = 0 := fun ds S S' h => by
  unfold gs0 at h; split at h
  · rfl
  · cases h
theorem gsC_len (hl : ∀ ds S S', gs ds S = some S' → ds.length = n) : ∀ ds S S', gsC g gs ds S = some S' → ds.length = n + 1 := fun ds S S' h => by
  unfold gsC at h; split at h
  · rename_i d ds
    cases hg : g d S with
    | none => rw [hg] at h; cases h
    | some S1 => rw [hg] at h; rw [List.length_cons, hl _ _ _ h]
  · cases h
end

/-! ### what is walked -/
abbrev Its := List Sl → Cs → Res (List D)
def ItOk (K : PySem.W.Frag) (mg : Str → Option Value) (W1 : Wd) (J : It) (ds : List D) : Prop :=
  ∀ (i : Nat) (W2 : Wd) (H2 : Hp) (cs2 : Cs), Ok K mg W2 H2 cs2 → (∃ l, W2.ρ = W1.ρ ++ l) → Ext W1.G W2.G →
    (∀ d, ds[i]? = some d → J.go i H2 ∧ ∀ x H3, J.yld i H2 x H3 → ∃ W3, Ok K mg W3 H3 cs2 ∧ Le W2 H2 W3 H3 ∧ Rep K mg W3 x d) ∧ (i = ds.length → J.stop i H2)
def denI (K : PySem.W.Frag) (mg : Str → Option Value) (E : XK) (f : Its) : TI := fun σ H R => ∃ W S cs H0, Ok K mg W H cs ∧ Slots K mg W H0 H σ S ∧ RO K mg E (ItOk K mg) W H (f S cs) R
abbrev DI (X : Cx) (E : XK) (tg e : Expr) (f : Its) : Prop := PI X tg e (denI X.K X.mg E f)
theorem _root_.L2.PI.imp {X : Cx} {tg e : Expr} {t t' : TI} (h : PI X tg e t) (i : ∀ σ H Q, t' σ H Q → t σ H Q) : PI X tg e t' := ⟨fun pins s σ H R I q => h.run pins s σ H R I (i σ H R q)⟩
def seqD : D → Option (List D)
  | .tup xs => some xs
  | .lst xs => some xs
  | .scr xs => some xs
  | _ => none
def iL (f : Sem) : Its := fun S cs => (f S cs).bind fun d cs => match d with
  | .lst xs => .ok xs cs
  | .scr xs => .ok xs cs
  | _ => .bad
def iT (f : Sem) : Its := fun S cs => (f S cs).bind fun d cs => match d with
  | .tup xs => .ok xs cs
  | _ => .bad
def iS (f : Sem) : Its := fun S cs => (f S cs).bind fun d cs => match d with
  | .str z => .ok (z.cps.toList.map fun c => .str ⟨#[c]⟩) cs
  | _ => .bad
def rngD (lo : Int) (n : Nat) : List D := (List.range n).map fun i => .int (lo + (i : Nat))
def iR1 (g : Sems) : Its := fun S cs => (g S cs).bind fun ds cs => match ds with
  | [.int j] => if -4611686018427387904 ≤ j ∧ j < 4611686018427387904 then .ok (rngD 0 j.toNat) cs else .bad
  | _ => .bad
def iR2 (g : Sems) : Its := fun S cs => (g S cs).bind fun ds cs => match ds with
  | [.int i, .int j] => if (-4611686018427387904 ≤ i ∧ i < 4611686018427387904) ∧ -4611686018427387904 ≤ j ∧ j < 4611686018427387904 then .ok (rngD i (j - i).toNat) cs else .bad
  | _ => .bad
def enumFrom (n : Nat) : List D → List D
  | [] => []
  | d :: ds => .tup [.int (n : Nat), d] :: enumFrom (n + 1) ds
theorem rngD_get {lo : Int} {n i : Nat} : (rngD lo n)[i]? = if i < n then some (.int (lo + (i : Nat))) else none := by
  unfold rngD
  rw [List.getElem?_map]
  by_cases h : i < n
  · rw [List.getElem?_range h, if_pos h]; rfl
  · rw [List.getElem?_eq_none (by simp; omega), if_neg h]; rfl
section
variable {K : PySem.W.Frag} {mg : Str → Option Value} {W : Wd}
theorem itOk_list {a : Addr} {xs : List V} {ds : List D} (h : SqL K W.G a xs) (r : RepL K mg W xs ds) (inj : ∀ (H : Hp) (ys : List V), Ext W.G H → SqL K H a ys → ys = xs ∨ True) : ItOk K mg W (Itl K a) ds := fun i W2 H2 cs2 ok l ex => by
  have hs : SqL K H2 a xs := ok.ex.sql (ex.sql h)
  have r2 := RepL.mono l ex r
  refine ⟨fun d e => ?_, fun e => ?_⟩
  · obtain ⟨v, hv, rv⟩ := r2.get e
    refine ⟨⟨xs, v, hs, hv⟩, fun x H3 ⟨e1, e2⟩ => ?_⟩
    subst e1
    have := e2 xs hs
    rw [hv] at this
    cases this
    exact ⟨W2, ok, Le.refl W2 _, rv⟩
  · refine ⟨xs, hs, ?_⟩
    rw [r.length, e]
    exact Nat.le_refl _
theorem itOk_tup {a : Addr} {xs : List V} {ds : List D} (h : SqT K W.G a xs) (r : RepL K mg W xs ds) : ItOk K mg W (Itt K a) ds := fun i W2 H2 cs2 ok l ex => by
  have hs : SqT K H2 a xs := ok.ex.sqt (ex.sqt h)
  have r2 := RepL.mono l ex r
  refine ⟨fun d e => ?_, fun e => ?_⟩
  · obtain ⟨v, hv, rv⟩ := r2.get e
    refine ⟨⟨xs, v, hs, hv⟩, fun x H3 ⟨e1, e2⟩ => ?_⟩
    subst e1
    have := e2 xs hs
    rw [hv] at this
    cases this
    exact ⟨W2, ok, Le.refl W2 _, rv⟩
  · refine ⟨xs, hs, ?_⟩
    rw [r.length, e]
    exact Nat.le_refl _
theorem itOk_rng {lo : Int} {n : Nat} : ItOk K mg W (Itr lo n) (rngD lo n) := fun i W2 H2 cs2 ok l ex => by
  rw [rngD_get]
  refine ⟨fun d e => ?_, fun e => ?_⟩
  · split at e
    · rename_i hi
      cases e
      refine ⟨hi, fun x H3 ⟨e1, e2⟩ => ?_⟩
      subst e1 e2
      exact ⟨W2, ok, Le.refl W2 _, .int _⟩
    · cases e
  · have e : i = n := by rw [e]; simp [rngD]
    exact Nat.le_of_eq e.symm
theorem itOk_str {z : Str} : ItOk K mg W (L2.Its z) (z.cps.toList.map fun c => .str ⟨#[c]⟩) := fun i W2 H2 cs2 ok l ex => by
  rw [List.getElem?_map, Array.getElem?_toList]
  refine ⟨fun d e => ?_, fun e => ?_⟩
  · cases hc : z.cps[i]? with
    | none => rw [hc] at e; cases e
    | some c =>
      rw [hc] at e
      cases e
      refine ⟨(Array.getElem?_eq_some_iff.mp hc).1, fun x H3 ⟨e1, c', e2, e3⟩ => ?_⟩
      subst e1 e3
      rw [hc] at e2
      cases e2
      exact ⟨W2, ok, Le.refl W2 _, .str _⟩
  · have e : i = z.cps.size := by rw [e]; simp
    exact Nat.le_of_eq e.symm
theorem enumFrom_get : ∀ {ds : List D} {n i : Nat}, (enumFrom n ds)[i]? = (ds[i]?).map fun d => .tup [.int ((n + i : Nat) : Int), d]
  | [], n, i => by simp [enumFrom]
  | d :: ds, n, 0 => by simp [enumFrom]
  | d :: ds, n, i + 1 => by
    have := enumFrom_get (ds := ds) (n := n + 1) (i := i)
    simp only [enumFrom, List.getElem?_cons_succ]
    rw [this]
    have e : n + 1 + i = n + (i + 1) := by omega
    rw [e]
end
section
variable {X : Cx} {E : XK} {tg e a b : Expr} {f : Sem} {gs : Sems} {pos p : Pos}
theorem di_list (he : DE X E e f) : DI X E tg e (iL f) := (pi_list he).imp fun σ H R ⟨W, S, cs, H0, ok, sl, q⟩ => by
  obtain ⟨W', S', cs', H0', ok', sl', q'⟩ := den.then ok sl q
  refine ⟨W', S', cs', H0', ok', sl', q'.imp fun v H1 ⟨W1, cs1, d, ok1, sl1, l1, r1, q1⟩ => ?_⟩
  cases r1 with
  | @lst a xs ds ha ra => exact ⟨a, rfl, ⟨xs, .inl (.inl (ok1.ex _ _ ha))⟩, RO.ok_ (R := ItOk X.K X.mg) ok1 q1 (itOk_list (.inl (.inl ha)) ra fun _ _ _ _ => .inr trivial)⟩
  | @scr a xs ds ha ra => exact ⟨a, rfl, ⟨xs, ok1.ex.sql ha⟩, RO.ok_ (R := ItOk X.K X.mg) ok1 q1 (itOk_list ha ra fun _ _ _ _ => .inr trivial)⟩
  | _ => exact q1.elim
theorem di_tup (he : DE X E e f) : DI X E tg e (iT f) := (pi_tup he).imp fun σ H R ⟨W, S, cs, H0, ok, sl, q⟩ => by
  obtain ⟨W', S', cs', H0', ok', sl', q'⟩ := den.then ok sl q
  refine ⟨W', S', cs', H0', ok', sl', q'.imp fun v H1 ⟨W1, cs1, d, ok1, sl1, l1, r1, q1⟩ => ?_⟩
  cases r1 with
  | @tup a xs ds ha ra => exact ⟨a, rfl, ⟨xs, ok1.ex.sqt ha.sqt⟩, RO.ok_ (R := ItOk X.K X.mg) ok1 q1 (itOk_tup ha.sqt ra)⟩
  | _ => exact q1.elim
theorem di_str (he : DE X E e f) : DI X E tg e (iS f) := (pi_str he).imp fun σ H R ⟨W, S, cs, H0, ok, sl, q⟩ => by
  obtain ⟨W', S', cs', H0', ok', sl', q'⟩ := den.then ok sl q
  refine ⟨W', S', cs', H0', ok', sl', q'.imp fun v H1 ⟨W1, cs1, d, ok1, sl1, l1, r1, q1⟩ => ?_⟩
  cases r1 with
  | str z => exact ⟨z, rfl, RO.ok_ (R := ItOk X.K X.mg) ok1 q1 itOk_str⟩
  | _ => exact q1.elim
theorem di_rng1 (hg : Gl X "range") (hm : X.mg "range" = none) (ha : DA X E [a] gs) (hs : starEach [a] X.env = [(false, eval a X.env)] := by rfl) : DI X E tg (.Call (.Name "range" p) [a] [] pos) (iR1 gs) := (pi_range1 hg hm ha hs).imp fun σ H R ⟨W, S, cs, H0, ok, sl, q⟩ => by
  obtain ⟨W', S', cs', H0', ok', sl', q'⟩ := denA.then ok sl q
  refine ⟨W', S', cs', H0', ok', sl', q'.imp fun v H1 ⟨W1, cs1, ds, ok1, sl1, l1, r1, q1⟩ => ?_⟩
  split at q1
  · split at q1
    · rename_i j hj
      obtain ⟨w, rfl, rw'⟩ := r1.one_inv
      cases rw'
      exact ⟨j, rfl, by omega, by omega, RO.ok_ (R := ItOk X.K X.mg) ok1 q1 itOk_rng⟩
    · exact q1.elim
  · exact q1.elim
theorem di_rng2 (hg : Gl X "range") (hm : X.mg "range" = none) (ha : DA X E [a, b] gs) (hs : starEach [a, b] X.env = [(false, eval a X.env), (false, eval b X.env)] := by rfl) (hs2 : starEach [b] X.env = [(false, eval b X.env)] := by rfl) : DI X E tg (.Call (.Name "range" p) [a, b] [] pos) (iR2 gs) := (pi_range2 hg hm ha hs hs2).imp fun σ H R ⟨W, S, cs, H0, ok, sl, q⟩ => by
  obtain ⟨W', S', cs', H0', ok', sl', q'⟩ := denA.then ok sl q
  refine ⟨W', S', cs', H0', ok', sl', q'.imp fun v H1 ⟨W1, cs1, ds, ok1, sl1, l1, r1, q1⟩ => ?_⟩
  split at q1
  · split at q1
    · rename_i i j hj
      have := two_ints r1
      subst this
      exact ⟨i, j, rfl, ⟨by omega, by omega, by omega, by omega⟩, RO.ok_ (R := ItOk X.K X.mg) ok1 q1 itOk_rng⟩
    · exact q1.elim
  · exact q1.elim
end
end LL

set_option Elab.async false
set_option linter.all false
set_option maxRecDepth 100000
set_option maxHeartbeats 4000000
/-! enumerate over lists and tuples -/
namespace LL
open PySem PySem.Spec PyProof.Rows L2
open Sem (wp)
open AutoSeq1 (wpAny_loadPart')
theorem meets_enumerate_newB1 {v : Value} {o : Obj} {H : Heap → Prop} (B : Begins v o H) :
    Meets (Builtin.«enumerate.__new__» ⟨[.type "enumerate", v], []⟩) (fun _ R s => H s.heap ∧
      R (.ok (.ret (.ref (s.heap.push o).objs.size))) { s with heap := (s.heap.push o).push { cls := .type "enumerate", data := .fields #[.none, .bool false, .ref s.heap.objs.size, rawInt 0, .none, .none] } }) :=
  .of_wp fun prog w A R s h => by
    obtain ⟨hp, g, d, tk, os⟩ := s; obtain ⟨h1, h⟩ := h
    have hsub := sub_enumerate
    have q1 : ∀ {A' : Around} {E : Value → Shared → Prop} {Q : Value → Shared → Prop}, Q (.ref hp.objs.size) ⟨hp.push o, g, d, tk, os⟩ → wpAny (model prog w) A' (pyIter v) Q E ⟨hp, g, d, tk, os⟩ :=
      fun q => B.iter prog w _ _ ⟨hp, g, d, tk, os⟩ _ h1 q
    wp_walk using q1
    refine wpAny_stack_any fun st => wpAny_pure ?_
    split
    · rename_i c _ _ _ _ _
      cases (c == Value.type "enumerate")
      · wp_walk using q1
        exact ⟨_, rfl, h⟩
      · wp_walk using q1
        exact ⟨_, rfl, h⟩
    · wp_walk using q1
      exact ⟨_, rfl, h⟩
theorem enum_begins1 {prog : Program} {w : World} {A : Around} {E : Value → Shared → Prop} {s : Shared} {v : Value} {o : Obj} {H : Heap → Prop} {Q : Value → Shared → Prop} (B : Begins v o H) (h1 : H s.heap)
    (h : ∀ h', IsEnum h' (s.heap.objs.size + 1) s.heap.objs.size 0 .none → h'.get? s.heap.objs.size = some o → h'.objs.size = s.heap.objs.size + 2 →
      (∀ b o, s.heap.get? b = some o → h'.get? b = some o) → Q (.ref (s.heap.objs.size + 1)) { s with heap := h' }) :
    wpAny (model prog w) A (call (.type "enumerate") [v]) Q E s := by
  refine callType_new PySem.F.called_enumerate (by decide) (PySem.F.typeCall_enumerate_1 _) (PySem.F.newCall_enumerate_1 _) (fun obj => PySem.F.args_object_init_2 obj _) PySem.F.entry_enumerate_new
    (meets_enumerate_newB1 B) ⟨h1, ?_⟩
  have hz : (s.heap.push o).objs.size = s.heap.objs.size + 1 := Heap.size_push ..
  show _ ∧ _
  rw [hz]
  have he : IsEnum ((s.heap.push o).push { cls := .type "enumerate", data := .fields #[.none, .bool false, .ref s.heap.objs.size, rawInt 0, .none, .none] }) (s.heap.objs.size + 1) s.heap.objs.size 0 .none := by
    have := Heap.get?_push_size (s.heap.push o) (o := { cls := .type "enumerate", data := .fields #[.none, .bool false, .ref s.heap.objs.size, rawInt 0, .none, .none] }) rfl
    rw [hz] at this; exact this
  refine ⟨⟨_, he, rfl⟩, h _ he (Heap.get?_push_of_some _ (Heap.get?_push_size _ B.free)) (by rw [Heap.size_push, hz]) fun b o x => Heap.get?_push_of_some _ (Heap.get?_push_of_some _ x)⟩

/-- a list or a tuple -/
def SqX (K : PySem.W.Frag) (t : Bool) (H : Hp) (a : Addr) (xs : List V) : Prop := if t then SqT K H a xs else SqL K H a xs
/-- its iterator -/
def IterX (t : Bool) (h : Heap) (it a : Addr) (i : Nat) : Prop := if t then h.IsTupleIter it a i else h.IsListIter it a i
def IteX (K : PySem.W.Frag) (t : Bool) (a : Addr) : It :=
  ⟨fun i H => ∃ (xs : List V) (x : V), SqX K t H a xs ∧ xs[i]? = some x,
   fun i H v H' => ∃ T x o, v = .ref T ∧ H T = none ∧ o.dict = none ∧ H' = upd H T (.frz o (.tup [.int (i : Nat), x])) ∧ ∀ xs, SqX K t H a xs → xs[i]? = some x,
   fun i H => ∃ xs : List V, SqX K t H a xs ∧ xs.length = i⟩
theorem IterX.at {t : Bool} {h h' : Heap} {it a : Addr} {i : Nat} (x : IterX t h it a i) (k : ∀ o, h.get? it = some o → h'.get? it = some o) : IterX t h' it a i := by
  cases t with
  | true => obtain ⟨o, e, r⟩ := (x : h.IsTupleIter it a i); exact (show h'.IsTupleIter it a i from ⟨o, k o e, r⟩)
  | false => obtain ⟨o, e, r⟩ := (x : h.IsListIter it a i); exact (show h'.IsListIter it a i from ⟨o, k o e, r⟩)
theorem IterX.obj {t : Bool} {h : Heap} {it a : Addr} {i : Nat} (x : IterX t h it a i) : ∃ o, h.get? it = some o ∧ (∀ v, o.data ≠ .cell v) ∧ (o.cls = .type "tuple_iterator" ∨ o.cls = .type "list_iterator") := by
  cases t with
  | true => obtain ⟨o, e, c, d⟩ := (x : h.IsTupleIter it a i); exact ⟨o, e, (fun v z => by rw [d] at z; cases z), .inl c⟩
  | false => obtain ⟨o, e, c, d⟩ := (x : h.IsListIter it a i); exact ⟨o, e, (fun v z => by rw [d] at z; cases z), .inr c⟩
/-- the sequence as it stands, and what its iterator draws -/
theorem sqx_read {X : Cx} {pins : List (Addr × Obj)} {σ : SSt} {H : Hp} {s : Shared} {t : Bool} {a : Addr} {xs : List V} (I : Inv X pins σ H s) (h : SqX X.K t H a xs) :
    ∃ its : List Value, Vals xs its ∧ xs.length ≤ sizeLine ∧ (∃ o, s.heap.get? a = some o ∧ (o.cls = .type "tuple" ∨ o.cls = .type "list")) ∧ (if t then s.heap.IsTuple a its.toArray else s.heap.IsList a its.toArray) := by
  cases t with
  | true =>
    obtain ⟨its, r, p, hz⟩ := I.tuple (show SqT X.K H a xs from h)
    obtain ⟨o, e, c, rest⟩ := id p
    exact ⟨its, r, hz, ⟨o, e, .inl c⟩, p⟩
  | false =>
    obtain ⟨its, r, p, hz⟩ := I.list (show SqL X.K H a xs from h)
    obtain ⟨o, n, e, c, rest⟩ := id p
    exact ⟨its, r, hz, ⟨o, e, .inr c⟩, p.isList⟩
def DrawSt (t : Bool) (it a : Addr) (items : Array Value) (i : Nat) (h : Heap) : Prop := if t then h.IsTupleIter it a i ∧ h.IsTuple a items else h.IsListIter it a i ∧ h.IsList a items
theorem drawX {prog : Program} {w : World} {A : Around} (hh : A.handled = none) (t : Bool) (it a : Addr) (hne : a ≠ it) (items : Array Value) :
    Draws prog w A it [it, a] items.size (fun i v => items[i]? = some v) (DrawSt t it a items) := by
  cases t with
  | true => exact Draws.tuple hh it a hne items
  | false => exact Draws.list hh it a hne items
theorem turn_enumX {P : Program} {w : World} {K : PySem.W.Frag} {elts : List Expr} {kk : Nat} {tpos : Pos} (t : Bool) (a e it : Addr) :
    Turn P w K (.Tuple elts kk tpos) (IteX K t a) [e, it] e (fun i h => (∃ old, IsEnum h e it ((i : Nat) : Int) old) ∧ IterX t h it a i ∧ e ≠ it) where
  mem := by simp
  obj := fun i h st b hb => by
    obtain ⟨⟨old, he⟩, hi, _⟩ := st
    have e' : b = e ∨ b = it := by simpa using hb
    rcases e' with z | z
    · rw [z]; exact ⟨_, he, fun v q => nomatch q⟩
    · rw [z]; obtain ⟨o, ho, hd, _⟩ := hi.obj; exact ⟨o, ho, hd⟩
  keep := fun i h h' st k => let ⟨⟨old, he⟩, hi, hne⟩ := st; ⟨⟨old, k e (by simp) _ he⟩, hi.at fun o q => k it (by simp) o q, hne⟩
  item := by
    intro X hP hw hK hc i pins s σ H E I hf st hg
    subst hP hw hK
    obtain ⟨⟨old, he⟩, hit, hne⟩ := st
    obtain ⟨xs, x, hq, hx⟩ := hg
    obtain ⟨its, rv, hz, ⟨oa, hoa, hca⟩, p⟩ := sqx_read I hq
    obtain ⟨u, hu, ru⟩ := rv.get hx
    obtain ⟨oi, hoi, hdi, hci⟩ := hit.obj
    have hel : e < s.heap.objs.size := Heap.lt_size he
    have hil : it < s.heap.objs.size := Heap.lt_size hoi
    have hai : a ≠ it := fun z => by
      subst z
      rw [hoa] at hoi
      cases hoi
      rcases hca with c | c <;> rcases hci with d | d <;> rw [c] at d <;> exact absurd d (by decide +kernel)
    have hea : e ≠ a := fun z => by
      subst z
      rw [he] at hoa
      cases hoa
      rcases hca with c | c
      · exact absurd (show Value.type "enumerate" = Value.type "tuple" from c) (by decide +kernel)
      · exact absurd (show Value.type "enumerate" = Value.type "list" from c) (by decide +kernel)
    have hst : DrawSt t it a its.toArray i s.heap := by
      cases t with
      | true => exact ⟨hit, p⟩
      | false => exact ⟨hit, p⟩
    refine wpAny_pyNext_enum_itemD (drawX (show X.A.in1.handled = none from I.ok.hd hc) t it a hai its.toArray) he hst (List.getElem?_eq_some_iff.mp (by simpa using hu)).1 hne (by simp [hne, hea]) fun x' h' tk hP ho hst' hT hsz hk => ?_
    have ex : x' = u := by
      rw [show its.toArray[i]? = some u by simpa using hu] at hP
      exact (Option.some.inj hP).symm
    subst ex
    refine ⟨_, rfl, wpAny_letOwnedTupleGo_enum (s := { s with heap := h', toks := tk + 1 }) ho fun h'' he' sb => ?_⟩
    have hT2 : h''.get? s.heap.objs.size = some { cls := .type "tuple", data := .seq #[.int i tk, x'] } := (sb.2 _ (Nat.ne_of_gt hel)).trans hT
    have new : ObjOk X.prog X.w (upd H s.heap.objs.size (.frz { cls := .type "tuple", data := .seq #[.int i tk, x'] } (.tup [.int (i : Nat), x]))) h'' s.heap.objs.size (.frz { cls := .type "tuple", data := .seq #[.int i tk, x'] } (.tup [.int (i : Nat), x])) :=
      ⟨hT2, by show 2 ≤ sizeLine; decide, [.int i tk, x'], .cons ⟨_, rfl⟩ (.cons ru .nil), ⟨_, hT2, rfl, _, rfl⟩⟩
    have I1 : Inv X pins σ (upd H s.heap.objs.size (.frz { cls := .type "tuple", data := .seq #[.int i tk, x'] } (.tup [.int (i : Nat), x]))) { s with heap := h'', toks := tk + 1 } :=
      I.turnedNew (ch := [e, it]) (fun b ob hb q => (sb.2 b (fun z => hb (by simp [z]))).trans (hk b ob (fun z => hb (by simp [z])) (fun z => hb (by simp [z])) q)) hf (Nat.le_refl _) new
    have inj : ∀ ys, SqX X.K t H a ys → ys[i]? = some x := fun ys hy => by
      cases t with
      | true => rw [I.tuple_inj (show SqT X.K H a ys from hy) (show SqT X.K H a xs from hq)]; exact hx
      | false => rw [I.list_inj (show SqL X.K H a ys from hy) (show SqL X.K H a xs from hq)]; exact hx
    have hit' : IterX t h' it a (i + 1) := by
      cases t with
      | true => exact hst'.1
      | false => exact hst'.1
    refine ⟨.ref s.heap.objs.size, _, I1, rfl, ⟨_, x, _, rfl, I.hok.fresh (Nat.le_refl _), rfl, rfl, inj⟩, ⟨⟨x', ?_⟩, hit'.at fun o q => (sb.2 it (Ne.symm hne)).trans q, hne⟩, fun b hb => ?_⟩
    · have e1 : ((i + 1 : Nat) : Int) = (i : Int) + 1 := by omega
      rw [e1]; exact he'
    · have hb' : b < s.heap.objs.size := by
        have e' : b = e ∨ b = it := by simpa using hb
        rcases e' with z | z
        · rw [z]; exact hel
        · rw [z]; exact hil
      rw [upd_ne (Nat.ne_of_lt hb')]
      exact (hf b hb).1
  done := by
    intro X hP hw hK hc i pins s σ H E I hf st hg
    subst hP hw hK
    obtain ⟨⟨old, he⟩, hit, hne⟩ := st
    obtain ⟨xs, hq, hx⟩ := hg
    subst hx
    obtain ⟨its, rv, hz, ⟨oa, hoa, hca⟩, p⟩ := sqx_read I hq
    obtain ⟨oi, hoi, hdi, hci⟩ := hit.obj
    obtain ⟨f0, f1, f2, f3, f4, f5⟩ := hf it (by simp)
    have hai : a ≠ it := fun z => by
      subst z
      rw [hoa] at hoi
      cases hoi
      rcases hca with c | c <;> rcases hci with d | d <;> rw [c] at d <;> exact absurd d (by decide +kernel)
    have hl : xs.length = its.toArray.size := by rw [List.size_toArray]; exact rv.length
    rw [hl] at he hit
    have hst : DrawSt t it a its.toArray its.toArray.size s.heap := by
      cases t with
      | true => exact ⟨hit, p⟩
      | false => exact ⟨hit, p⟩
    exact wpAny_pyNext_enum_endD (drawX (show X.A.in1.handled = none from I.ok.hd hc) t it a hai its.toArray) he hst fun h' eb => ⟨rfl, I.turned (t' := s.toks) (fun b o hb q => eb b o hb q) f0 f1 f3 f4 f5⟩
  self := fun A i s Q E st h => let ⟨⟨_, he⟩, _⟩ := st; wpAny_pyIter_enum he h
def iterObj (t : Bool) (a : Addr) : Obj := if t then { cls := .type "tuple_iterator", data := .fields #[.ref a, .int 0 0] } else { cls := .type "list_iterator", data := .fields #[.ref a, .int 0 0] }
theorem iterObj_at {t : Bool} {h : Heap} {it a : Addr} (e : h.get? it = some (iterObj t a)) : IterX t h it a 0 := by
  cases t with
  | true => exact (show h.IsTupleIter it a 0 from ⟨_, e, rfl, rfl⟩)
  | false => exact (show h.IsListIter it a 0 from ⟨_, e, rfl, rfl⟩)
theorem beginsX (t : Bool) (a : Addr) (items : Array Value) : Begins (.ref a) (iterObj t a) (fun h => if t then h.IsTuple a items else h.IsList a items) := by
  cases t with
  | true => exact begins_tuple a items
  | false => exact begins_list a items
theorem pi_enumX {X : Cx} {e : Expr} {ta : TA} {p pos tpos : Pos} {elts : List Expr} {kk : Nat} (hg : Gl X "enumerate") (hm : X.mg "enumerate" = none) (ha : PA X [e] ta) (hs : starEach [e] X.env = [(false, eval e X.env)] := by rfl) :
    PI X (.Tuple elts kk tpos) (.Call (.Name "enumerate" p) [e] [] pos) (fun σ H R => ta σ H fun vs H1 => ∃ t a xs, vs = [.ref a] ∧ SqX X.K t H1 a xs ∧ R (IteX X.K t a) H1) := by
  refine ⟨fun pins s σ H R I h => ?_⟩
  refine Call_ (ld_blt I hg hm boot_enumerate (PyProof.Rows.callWith_type1 (thn (ha.run pos pins s σ H _ I h) fun us s1 ⟨vs, H1, I1, r1, q1⟩ => ?_) hs rfl))
  obtain ⟨t, a, xs, ex, hq, q⟩ := q1
  subst ex
  cases r1 with
  | cons r rr =>
    cases rr
    cases r
    obtain ⟨its, rv, hz, _, p⟩ := sqx_read I1 hq
    refine enum_begins1 (beginsX t a its.toArray) p fun h' he hit hsz hk => wpAny_pyIter_enum he ?_
    have I2 : Inv X pins σ H1 { s1 with heap := h' } := I1.kept (t' := s1.toks) hk
    refine ⟨s1.heap.objs.size + 1, [s1.heap.objs.size + 1, s1.heap.objs.size], _, _, H1, rfl, I2, turn_enumX t a (s1.heap.objs.size + 1) s1.heap.objs.size, ⟨⟨.none, he⟩, iterObj_at hit, Nat.succ_ne_self _⟩, fun b hb => ?_, q⟩
    have e' : b = s1.heap.objs.size + 1 ∨ b = s1.heap.objs.size := by simpa using hb
    have hle : s1.heap.objs.size ≤ b := by
      rcases e' with z | z
      · rw [z]; exact Nat.le_add_right _ _
      · rw [z]; exact Nat.le_refl _
    exact I1.fpOk hle (I1.hok.fresh hle)
def iE (g : Sems) : Its := fun S cs => (g S cs).bind fun ds cs => match ds with
  | [d] => Res.opt ((seqD d).map (enumFrom 0)) cs
  | _ => .bad
theorem itOk_enum {K : PySem.W.Frag} {mg : Str → Option Value} {W : Wd} {t : Bool} {a : Addr} {xs : List V} {ds : List D} (h : SqX K t W.G a xs) (r : RepL K mg W xs ds) : ItOk K mg W (IteX K t a) (enumFrom 0 ds) := fun i W2 H2 cs2 ok l ex => by
  have hs : SqX K t H2 a xs := by
    cases t with
    | true => exact ok.ex.sqt (ex.sqt h)
    | false => exact ok.ex.sql (ex.sql h)
  have r2 := RepL.mono l ex r
  rw [enumFrom_get]
  refine ⟨fun d e => ?_, fun e => ?_⟩
  · cases hd : ds[i]? with
    | none => rw [hd] at e; cases e
    | some d1 =>
      rw [hd] at e
      cases e
      obtain ⟨v, hv, rv⟩ := r2.get hd
      refine ⟨⟨xs, v, hs, hv⟩, fun x H3 ⟨T, y, o, e1, hT, ho, e2, e3⟩ => ?_⟩
      subst e1 e2
      have := e3 xs hs
      rw [hv] at this
      cases this
      obtain ⟨ok3, l3⟩ := ok.lay (.frz o (.tup [.int (i : Nat), v])) hT
      refine ⟨_, ok3, l3, .tup (TupR.new ho) ?_⟩
      rw [Nat.zero_add]
      exact .cons (.int _) (.cons (rv.le l3) .nil)
  · have hl : ∀ (ds : List D) (n : Nat), (enumFrom n ds).length = ds.length := fun ds => by
      induction ds with
      | nil => intro n; rfl
      | cons d ds ih => intro n; simp [enumFrom, ih]
    rw [hl] at e
    exact ⟨xs, hs, by rw [r.length]; exact e.symm⟩
theorem di_enum {X : Cx} {E : XK} {e : Expr} {gs : Sems} {p pos tpos : Pos} {elts : List Expr} {kk : Nat} (hg : Gl X "enumerate") (hm : X.mg "enumerate" = none) (ha : DA X E [e] gs) (hs : starEach [e] X.env = [(false, eval e X.env)] := by rfl) :
    DI X E (.Tuple elts kk tpos) (.Call (.Name "enumerate" p) [e] [] pos) (iE gs) := (pi_enumX hg hm ha hs).imp fun σ H R ⟨W, S, cs, H0, ok, sl, q⟩ => by
  obtain ⟨W', S', cs', H0', ok', sl', q'⟩ := denA.then ok sl q
  refine ⟨W', S', cs', H0', ok', sl', q'.imp fun v H1 ⟨W1, cs1, ds, ok1, sl1, l1, r1, q1⟩ => ?_⟩
  split at q1
  · obtain ⟨w, rfl, rw'⟩ := r1.one_inv
    cases rw' with
    | @tup a xs ds ha ra => exact ⟨true, a, xs, rfl, ok1.ex.sqt ha.sqt, RO.ok_ (R := ItOk X.K X.mg) ok1 q1 (itOk_enum (t := true) ha.sqt ra)⟩
    | @lst a xs ds ha ra => exact ⟨false, a, xs, rfl, .inl (.inl (ok1.ex _ _ ha)), RO.ok_ (R := ItOk X.K X.mg) ok1 q1 (itOk_enum (t := false) (.inl (.inl ha)) ra)⟩
    | @scr a xs ds ha ra => exact ⟨false, a, xs, rfl, ok1.ex.sql ha, RO.ok_ (R := ItOk X.K X.mg) ok1 q1 (itOk_enum (t := false) ha ra)⟩
    | _ => exact q1.elim
  · exact q1.elim
end LL

set_option Elab.async false
set_option linter.all false
set_option maxRecDepth 100000
set_option maxHeartbeats 4000000
/-! comprehensions over plain data -/
namespace LL
open PySem PySem.Spec PyProof.Rows L2

def wipeS (S : List Sl) : List Nat → List Sl
  | [] => S
  | v :: vs => (wipeS S vs).set v .un
section
variable {K : PySem.W.Frag} {mg : Str → Option Value}
theorem Slots.setUn {W : Wd} {H0 H : Hp} {σ : SSt} {S : List Sl} (sl : Slots K mg W H0 H σ S) {i : Nat} : Slots K mg W H0 H (σ.set i none) (S.set i .un) := by
  refine ⟨by simp [sl.len], fun j s e => ?_, fun j k s t p ne e1 e2 o1 o2 q => ?_⟩
  · by_cases h : i = j
    · subst h
      by_cases hl : i < S.length
      · rw [List.getElem?_set_self hl] at e
        cases e
        trivial
      · rw [List.getElem?_eq_none (by simp; omega)] at e; cases e
    · rw [List.getElem?_set_ne h] at e ⊢
      exact sl.get j s e
  · have h1 : i ≠ j := fun z => by
      subst z
      by_cases hl : i < S.length
      · rw [List.getElem?_set_self hl] at e1; cases e1; cases o1
      · rw [List.getElem?_eq_none (by simp; omega)] at e1; cases e1
    have h2 : i ≠ k := fun z => by
      subst z
      by_cases hl : i < S.length
      · rw [List.getElem?_set_self hl] at e2; cases e2; cases o2
      · rw [List.getElem?_eq_none (by simp; omega)] at e2; cases e2
    rw [List.getElem?_set_ne h1] at e1 q
    rw [List.getElem?_set_ne h2] at e2 ⊢
    exact sl.sep j k s t p ne e1 e2 o1 o2 q
theorem Slots.wipe {W : Wd} {H0 H : Hp} {σ : SSt} {S : List Sl} (sl : Slots K mg W H0 H σ S) : ∀ vs : List Nat, Slots K mg W H0 H (L2.wipe σ vs) (wipeS S vs)
  | [] => sl
  | v :: vs => (Slots.wipe sl vs).setUn
theorem wipe_get (σ : SSt) : ∀ (vs : List Nat) (j : Nat), (L2.wipe σ vs)[j]? = if j ∈ vs then (if j < σ.length then some none else none) else σ[j]?
  | [], j => by simp [L2.wipe]
  | v :: vs, j => by
    unfold L2.wipe
    by_cases h : v = j
    · subst h
      simp only [List.mem_cons, true_or, if_true]
      by_cases hl : v < σ.length
      · rw [List.getElem?_set_self (by rw [L2.wipe_length]; exact hl), if_pos hl]
      · rw [List.getElem?_eq_none (by rw [List.length_set, L2.wipe_length]; omega), if_neg hl]
    · rw [List.getElem?_set_ne h, wipe_get σ vs j]
      have : (j ∈ v :: vs) ↔ j ∈ vs := by simp [List.mem_cons, Ne.symm h]
      by_cases hm : j ∈ vs
      · rw [if_pos hm, if_pos (this.mpr hm)]
      · rw [if_neg hm, if_neg (fun z => hm (this.mp z))]
theorem wipe_same {σ σ2 : SSt} {vs ix : List Nat} (hix : ∀ j ∈ ix, j ∈ vs) (hj : ∀ j, j ∉ ix → σ2[j]? = (L2.wipe σ vs)[j]?) (hl : σ2.length = (L2.wipe σ vs).length) : L2.wipe σ2 vs = L2.wipe σ vs := by
  apply List.ext_getElem?
  intro j
  rw [L2.wipe_length] at hl
  rw [wipe_get, wipe_get, hl]
  by_cases hm : j ∈ vs
  · rw [if_pos hm, if_pos hm]
  · rw [if_neg hm, if_neg hm, hj j (fun z => hm (hix j z)), wipe_get, if_neg hm]
end
def noX {α : Type} (r : Res α) : Res α := match r with
  | .ok a cs => .ok a cs
  | _ => .bad
@[simp] theorem noX_ok {α : Type} (a : α) (cs : Cs) : noX (.ok a cs) = .ok a cs := rfl
section
variable {K : PySem.W.Frag} {mg : Str → Option Value} {E : XK} {α β γ δ : Type} {R : Wd → β → α → Prop} {W : Wd} {H : Hp}
/-- one after another, where nothing may be raised -/
theorem noX_seq {r : Res α} {k : α → Cs → Res γ} {P : γ → Cs → Prop} (h : ∃ c cs, noX (r.bind k) = .ok c cs ∧ P c cs) : ∃ a cs, r = .ok a cs ∧ ∃ c cs', noX (k a cs) = .ok c cs' ∧ P c cs' := by
  obtain ⟨c, cs, e, p⟩ := h
  cases r with
  | ok a cs1 => exact ⟨a, cs1, rfl, c, cs, e, p⟩
  | exc _ _ _ _ => cases e
  | bad => cases e
theorem RO.of_eq {r : Res α} {a : α} {cs : Cs} {Q : β → Hp → Prop} (e : r = .ok a cs) (h : ∀ (v : β) (W' : Wd) (H' : Hp), Ok K mg W' H' cs → Le W H W' H' → R W' v a → Q v H') : RO K mg E R W H r Q := by
  subst e
  exact h
end
/-- the turns of a list comprehension -/
def lcLoop (g : Tg) (c f : Sem) (S : List Sl) : List D → Cs → Res (List D)
  | [], cs => .ok [] cs
  | d :: ds, cs => (Res.opt (g d S) cs).bind fun S2 cs => (asB (c S2 cs)).bind fun b cs => if b then (f S2 cs).bind fun y cs => (lcLoop g c f S ds cs).bind fun ys cs => .ok (y :: ys) cs else lcLoop g c f S ds cs
def eLc (its : Its) (g : Tg) (c f : Sem) (vs : List Nat) : Sem := fun S cs => (its S cs).bind fun ds cs => if ds.length ≤ 1000000 then (noX (lcLoop g c f (wipeS S vs) ds cs)).bind fun ys cs => .ok (.lst ys) cs else .bad
abbrev DTs (X : Cx) (E : XK) (es : List Expr) (f : Sem) : Prop := PTs X es (denT X.K X.mg E f)
theorem dts_nil {X : Cx} {E : XK} : DTs X E [] (eC (.bl true)) := ⟨fun pins s σ H Q I ⟨W, S, cs, H0, ok, sl, q⟩ => pts_nil.run pins s σ H Q I (RO.ok_ (R := RepB) (d := true) ok q rfl)⟩
theorem dts_one {X : Cx} {E : XK} {c : Expr} {f : Sem} (h : DT X E c f) : DTs X E [c] f := pts_one h
section
variable {X : Cx} {E : XK} {elt tg iter : Expr} {ifs : List Expr} {scope : Scope} {own : List (Str × Nat)} {pos : Pos} {its : Its} {g : Tg} {ix : List Nat} {c f : Sem}
theorem lc_den {σ : SSt} {H : Hp} {Q : VK} (hix : ∀ j ∈ ix, j ∈ own.map (·.2)) (q : den X.K X.mg E (eLc its g c f (own.map (·.2))) σ H Q) :
    tLc (denI X.K X.mg E its) (denG X.K X.mg g ix) (denT X.K X.mg E0 c) (den X.K X.mg E0 f) (own.map (·.2)) σ H Q := by
  obtain ⟨W, S, cs, H0, ok, sl, q⟩ := q
  refine ⟨W, S, cs, H0, ok, sl, (RO.seqv (R := ItOk X.K X.mg) q).imp fun J H1 ⟨W1, cs1, ds, ok1, l1, hJ, q1⟩ => ?_⟩
  split at q1
  case isFalse => exact q1.elim
  case isTrue hlen =>
  intro D hD
  have sl1 := sl.mono l1
  -- what is wanted behind the turns
  let Fin : List LL.D → List LL.D → Cs → Prop := fun acc ys cs' => ∀ (v : V) (W' : Wd) (H' : Hp), Ok X.K X.mg W' H' cs' → Le W1 H1 W' H' → Rep X.K X.mg W' v (.lst (acc ++ ys)) → Q v H'
  have q2 : ∃ ys cs', noX (lcLoop g c f (wipeS S (own.map (·.2))) ds cs1) = .ok ys cs' ∧ Fin [] ys cs' := by
    cases e : noX (lcLoop g c f (wipeS S (own.map (·.2))) ds cs1) with
    | ok ys cs' => rw [e] at q1; exact ⟨ys, cs', rfl, q1⟩
    | exc _ _ _ _ => rw [e] at q1; unfold noX at e; split at e <;> cases e
    | bad => rw [e] at q1; exact q1.elim
  refine ⟨fun i m H2 => ∃ (W2 : Wd) (cs2 : Cs) (acc : List V) (accD : List LL.D), Ok X.K X.mg W2 H2 cs2 ∧ Le W1 H1 W2 H2 ∧ H2 D = some (.lst acc) ∧ RepL X.K X.mg W2 acc accD ∧ W2.G D = none ∧ D ∉ W2.ρ ∧ i ≤ ds.length ∧ acc.length ≤ i ∧ m = ds.length - i ∧
    ∃ ys cs', noX (lcLoop g c f (wipeS S (own.map (·.2))) (ds.drop i) cs2) = .ok ys cs' ∧ Fin accD ys cs', ?_, ?_⟩
  · obtain ⟨ok2, l2⟩ := ok1.apart (.lst []) hD
    obtain ⟨g2, n2⟩ := ok1.fresh hD
    exact ⟨ds.length, W1, cs1, [], [], ok2, l2, upd_same, .nil, g2, n2, Nat.zero_le _, Nat.zero_le _, rfl, q2⟩
  · rintro i m H2 ⟨W2, cs2, acc, accD, ok2, l2, hacc, racc, gD, nD, hi, hai, rfl, hfin⟩
    have hit := hJ i W2 H2 cs2 ok2 l2.pre l2.ex
    by_cases hlt : i < ds.length
    · have hd : ds[i]? = some ds[i] := List.getElem?_eq_getElem hlt
      obtain ⟨hgo, hyl⟩ := hit.1 _ hd
      rw [List.drop_eq_getElem_cons hlt] at hfin
      refine .inr ⟨hgo, fun H' => ∃ (W2 : Wd) (cs2 : Cs) (acc : List V) (accD : List LL.D), Ok X.K X.mg W2 H' cs2 ∧ Le W1 H1 W2 H' ∧ H' D = some (.lst acc) ∧ RepL X.K X.mg W2 acc accD ∧ W2.G D = none ∧ D ∉ W2.ρ ∧ acc.length ≤ i + 1 ∧
        ∃ ys cs', noX (lcLoop g c f (wipeS S (own.map (·.2))) (ds.drop (i + 1)) cs2) = .ok ys cs' ∧ Fin accD ys cs', ?_, ?_⟩
      · rintro H' ⟨W3, cs3, acc3, accD3, a1, a2, a3, a4, a5, a6, a7, a8⟩
        exact ⟨ds.length - (i + 1), by omega, W3, cs3, acc3, accD3, a1, a2, a3, a4, a5, a6, by omega, a7, rfl, a8⟩
      · intro x H3 hy
        obtain ⟨W3, ok3, l3, r3⟩ := hyl x H3 hy
        have l13 := l2.trans ok2 l3
        obtain ⟨S2, cs2', e20, hf1⟩ := noX_seq hfin
        obtain ⟨e2, ec⟩ : g ds[i] (wipeS S (own.map (·.2))) = some S2 ∧ cs2 = cs2' := by
          cases hg : g ds[i] (wipeS S (own.map (·.2))) with
          | none => rw [hg] at e20; cases e20
          | some S2 => rw [hg] at e20; cases e20; exact ⟨rfl, rfl⟩
        clear hfin e20
        subst ec
        refine ⟨W3, wipeS S (own.map (·.2)), cs2, H0, ds[i], S2, ok3, (sl.mono (l1.trans ok1 l13)).wipe _, r3, e2, fun σ2 sl2 hj hl => ⟨wipe_same hix hj hl, ?_⟩⟩
        obtain ⟨b, cs4, e4, hf2⟩ := noX_seq hf1
        refine ⟨W3, S2, cs2, H0, ok3, sl2, RO.of_eq e4 fun b' W4 H4 ok4 l4 r4 => ?_⟩
        cases r4
        have l14 := l13.trans ok3 l4
        have nD3 := l3.new D (by rw [hacc]; simp) gD nD
        have hD3 : H3 D = some (.lst acc) := l3.keep D _ hacc nD
        have nD4 := l4.new D (by rw [hD3]; simp) nD3.1 nD3.2
        have hD4 : H4 D = some (.lst acc) := l4.keep D _ hD3 nD3.2
        cases b with
        | false => exact ⟨W4, cs4, acc, accD, ok4, l14, hD4, (racc.le l3).le l4, nD4.1, nD4.2, by omega, hf2⟩
        | true =>
          obtain ⟨y, cs5, e5, hf3⟩ := noX_seq hf2
          obtain ⟨ys, cs6, e6, zs, cs7, e7, hf4⟩ := noX_seq hf3
          cases e7
          refine ⟨W4, S2, cs4, H0, ok4, sl2.mono l4, RO.of_eq e5 fun yv W5 H5 ok5 l5 r5 => ?_⟩
          have nD5 := l5.new D (by rw [hD4]; simp) nD4.1 nD4.2
          have hD5 : H5 D = some (.lst acc) := l5.keep D _ hD4 nD4.2
          refine ⟨acc, hD5, line_lt (by omega), ?_⟩
          obtain ⟨ok6, l6⟩ := ok5.change (l14.trans ok4 l5) (.lst (acc ++ [yv])) nD5.1 nD5.2 hD
          refine ⟨W5, cs5, acc ++ [yv], accD ++ [y], ok6, l6, upd_same, (((racc.le l3).le l4).le l5).append (.one r5), nD5.1, nD5.2, by simp; omega, ys, _, by rw [e6]; rfl, ?_⟩
          intro v W' H' o' l' r'
          rw [List.append_assoc] at r'
          exact hf4 v W' H' o' l' r'
    · have hii : i = ds.length := by omega
      refine .inl ⟨hit.2 hii, ?_⟩
      rw [List.drop_eq_nil_of_le (by omega)] at hfin
      obtain ⟨ys, cs', e, hfin⟩ := hfin
      cases e
      rw [show Fin accD [] cs2 = _ from rfl] at hfin
      obtain ⟨ok3, l3, ex3⟩ := ok2.freeze l2 hacc gD nD hD
      refine hfin _ _ _ ok3 l3 (.lst upd_same ?_)
      rw [List.append_nil]
      exact racc.mono ⟨[], by simp⟩ ex3
theorem de_lc (hc : X.calm = true) (hN : X.N.Nodup) (hi : DI X E tg iter its) (ok : BlkOk X.N X.env.scope scope own) (hix : ∀ j ∈ ix, j ∈ own.map (·.2))
    (hg : ∀ (s : Shared) (H : Hp) (C : Addr) (cl : List (Str × Addr)) (fp : List Addr), DG (X.blk s H scope (compEnvC scope cl C X.env) fp) tg g ix) (ht : ∀ (s : Shared) (H : Hp) (C : Addr) (cl : List (Str × Addr)) (fp : List Addr), DTs (X.blk s H scope (compEnvC scope cl C X.env) fp) E0 ifs c)
    (he : ∀ (s : Shared) (H : Hp) (C : Addr) (cl : List (Str × Addr)) (fp : List Addr), DE (X.blk s H scope (compEnvC scope cl C X.env) fp) E0 elt f) (hs : ∀ x, foldedSetIterable iter X.env x = pure x := by intro _; rfl) :
    DE X E (.ListComp elt [⟨tg, iter, ifs, 0⟩] scope pos) (eLc its g c f (own.map (·.2))) :=
  (pe_lc hc hN hi ok hg ht he hs).imp fun σ H Q q => lc_den hix q
end
end LL

set_option Elab.async false
set_option linter.all false
set_option maxRecDepth 100000
set_option maxHeartbeats 4000000
/-! comprehensions of two clauses, dict comprehensions -/
namespace LL
open PySem PySem.Spec PyProof.Rows L2

theorem Res.bind_assoc {α β γ : Type} (r : Res α) (f : α → Cs → Res β) (g : β → Cs → Res γ) : (r.bind f).bind g = r.bind fun a cs => (f a cs).bind g := by cases r <;> rfl
def lcLoop2 (g : Tg) (c : Sem) (its1 : Its) (g1 : Tg) (c1 f : Sem) (vs1 : List Nat) (S : List Sl) : List D → Cs → Res (List D)
  | [], cs => .ok [] cs
  | d :: ds, cs => (Res.opt (g d S) cs).bind fun S2 cs => (asB (c S2 cs)).bind fun b cs => if b then (its1 S2 cs).bind fun ds1 cs => (lcLoop g1 c1 f (wipeS S2 vs1) ds1 cs).bind fun ys cs => (lcLoop2 g c its1 g1 c1 f vs1 S ds cs).bind fun zs cs => .ok (ys ++ zs) cs
      else lcLoop2 g c its1 g1 c1 f vs1 S ds cs
def eLc2 (its : Its) (g : Tg) (c : Sem) (its1 : Its) (g1 : Tg) (c1 f : Sem) (vs vs1 : List Nat) : Sem := fun S cs => (its S cs).bind fun ds cs => (noX (lcLoop2 g c its1 g1 c1 f vs1 (wipeS S vs) ds cs)).bind fun ys cs => if ys.length ≤ 1000000 then .ok (.lst ys) cs else .bad
theorem reassoc {r : Res (List D)} {k2 : Cs → Res (List D)} {y : D} {P : List D → Cs → Prop} (h : ∃ ws cs', noX ((r.bind fun ys cs => .ok (y :: ys) cs).bind fun ys cs => (k2 cs).bind fun zs cs => .ok (ys ++ zs) cs) = .ok ws cs' ∧ P ws cs') :
    ∃ ws cs', noX (r.bind fun ys cs => (k2 cs).bind fun zs cs => .ok (ys ++ zs) cs) = .ok ws cs' ∧ P (y :: ws) cs' := by
  obtain ⟨ws, cs', e, p⟩ := h
  cases r with
  | ok ys cs =>
    have e : noX ((k2 cs).bind fun zs cs => .ok ((y :: ys) ++ zs) cs) = .ok ws cs' := e
    show ∃ ws cs', noX ((k2 cs).bind fun zs cs => .ok (ys ++ zs) cs) = .ok ws cs' ∧ P (y :: ws) cs'
    cases hk : k2 cs with
    | ok zs cs2 => rw [hk] at e; cases e; exact ⟨_, _, rfl, p⟩
    | exc _ _ _ _ => rw [hk] at e; cases e
    | bad => rw [hk] at e; cases e
  | exc _ _ _ _ => cases e
  | bad => cases e
theorem opt_eq {α : Type} {o : Option α} {a : α} {cs cs' : Cs} (h : Res.opt o cs = .ok a cs') : o = some a ∧ cs = cs' := by
  cases o with
  | none => cases h
  | some b => cases h; exact ⟨rfl, rfl⟩
/-- all but one object stays -/
structure LeX (D : Addr) (W : Wd) (H : Hp) (W' : Wd) (H' : Hp) : Prop where
  pre : ∃ l, W'.ρ = W.ρ ++ l
  ex : Ext W.G W'.G
  keep : ∀ a o, H a = some o → a ∉ W.ρ → a ≠ D → H' a = some o
  new : ∀ a, H a ≠ none → W.G a = none → a ∉ W.ρ → W'.G a = none ∧ a ∉ W'.ρ
  me : W'.me = W.me
section
variable {K : PySem.W.Frag} {mg : Str → Option Value} {D : Addr} {W W1 W2 : Wd} {H H1 H2 H0 : Hp} {cs1 : Cs}
theorem LeX.of (l : Le W H W1 H1) : LeX D W H W1 H1 := ⟨l.pre, l.ex, fun a o e h _ => l.keep a o e h, l.new, l.me⟩
theorem LeX.put (l : LeX D W H W1 H1) (o : HO) : LeX D W H W1 (upd H1 D o) := ⟨l.pre, l.ex, fun a u e h n => by rw [upd_ne n]; exact l.keep a u e h n, l.new, l.me⟩
theorem LeX.step (ok1 : Ok K mg W1 H1 cs1) (a : LeX D W H W1 H1) (hD1 : H1 D ≠ none) (b : Le W1 H1 W2 H2) : LeX D W H W2 H2 := by
  have notin : ∀ x o, H x = some o → x ∉ W.ρ → x ∉ W1.ρ := fun x o e hx => by
    cases g : W.G x with
    | none => exact (a.new x (by rw [e]; simp) g hx).2
    | some u => exact ok1.notin (a.ex x u g)
  refine ⟨?_, a.ex.trans b.ex, fun x o e hx n => b.keep x o (a.keep x o e hx n) (notin x o e hx), fun x hne g hx => ?_, b.me.trans a.me⟩
  · obtain ⟨l, e⟩ := a.pre
    obtain ⟨l', e'⟩ := b.pre
    exact ⟨l ++ l', by rw [e', e, List.append_assoc]⟩
  · obtain ⟨o, e⟩ := Option.ne_none_iff_exists'.mp hne
    have q := a.new x hne g hx
    refine b.new x ?_ q.1 q.2
    by_cases n : x = D
    · rw [n]; exact hD1
    · rw [a.keep x o e hx n]; simp
theorem Slots.monoX {σ : SSt} {S : List Sl} (sl : Slots K mg W H0 H σ S) (h0 : H0 D ≠ none) (l : LeX D W H W1 H1) : Slots K mg W1 H0 H1 σ S := by
  refine ⟨sl.len, fun i s e => ?_, sl.sep⟩
  have q := sl.get i s e
  cases s with
  | un => trivial
  | val d => obtain ⟨v, e, r⟩ := q; exact ⟨v, e, r.mono l.pre l.ex⟩
  | own xs =>
    obtain ⟨p, vs, e, h, r, g, n, h1⟩ := q
    have z := l.new p (by rw [h]; simp) g n
    exact ⟨p, vs, e, l.keep p _ h n (fun y => h0 (y ▸ h1)), r.mono l.pre l.ex, z.1, z.2, h1⟩
  | odct ks us =>
    obtain ⟨p, kvs, e, h, ⟨r1, r2, nd⟩, g, n, h1⟩ := q
    have z := l.new p (by rw [h]; simp) g n
    exact ⟨p, kvs, e, l.keep p _ h n (fun y => h0 (y ▸ h1)), ⟨r1.mono l.pre l.ex, r2.mono l.pre l.ex, nd⟩, z.1, z.2, h1⟩
  | self c ns vs =>
    obtain ⟨p, C, dx, fs, e, m, h, hn, r, g, n, h1⟩ := q
    have z := l.new p (by rw [h]; simp) g n
    exact ⟨p, C, dx, fs, e, m, l.keep p _ h n (fun y => h0 (y ▸ h1.1)), hn, r.mono l.pre l.ex, z.1, z.2, h1.1, l.me.trans h1.2⟩
/-- an address that is not there yet is no slot's own -/
theorem Slots.mark {σ : SSt} {S : List Sl} (sl : Slots K mg W H0 H σ S) (hD : H D = none) (o : HO) : Slots K mg W (upd H0 D o) H σ S := by
  refine ⟨sl.len, fun i s e => ?_, sl.sep⟩
  have q := sl.get i s e
  cases s with
  | un => trivial
  | val d => exact q
  | own xs =>
    obtain ⟨p, vs, e, h, r, g, n, h1⟩ := q
    exact ⟨p, vs, e, h, r, g, n, by rw [upd_ne (ne_of_none h hD)]; exact h1⟩
  | odct ks us =>
    obtain ⟨p, kvs, e, h, r, g, n, h1⟩ := q
    exact ⟨p, kvs, e, h, r, g, n, by rw [upd_ne (ne_of_none h hD)]; exact h1⟩
  | self c ns vs =>
    obtain ⟨p, C, dx, fs, e, m, h, hn, r, g, n, h1⟩ := q
    exact ⟨p, C, dx, fs, e, m, h, hn, r, g, n, by rw [upd_ne (ne_of_none h hD)]; exact h1.1, h1.2⟩
end
section
variable {X : Cx} {E : XK} {elt tg iter tg1 iter1 : Expr} {ifs ifs1 : List Expr} {scope : Scope} {own : List (Str × Nat)} {vs1 : List Nat} {pos : Pos} {its its1 : Its} {g g1 : Tg} {ix ix1 : List Nat} {c c1 f : Sem}
theorem lc2_den {σ : SSt} {H : Hp} {Q : VK} (hix : ∀ j ∈ ix, j ∈ own.map (·.2)) (hix1 : ∀ j ∈ ix1, j ∈ vs1) (q : den X.K X.mg E (eLc2 its g c its1 g1 c1 f (own.map (·.2)) vs1) σ H Q) :
    tLc2 (denI X.K X.mg E its) (denG X.K X.mg g ix) (denT X.K X.mg E0 c) (denI X.K X.mg E0 its1) (denG X.K X.mg g1 ix1) (denT X.K X.mg E0 c1) (den X.K X.mg E0 f) (own.map (·.2)) vs1 σ H Q := by
  obtain ⟨W, S, cs, H0, ok, sl, q⟩ := q
  refine ⟨W, S, cs, H0, ok, sl, (RO.seqv (R := ItOk X.K X.mg) q).imp fun J H1 ⟨W1, cs1, ds, ok1, l1, hJ, q1⟩ => ?_⟩
  intro D hD
  have sl1 := (sl.mono l1).mark hD (.lst [])
  have h0D : upd H0 D (.lst []) D ≠ none := by rw [upd_same]; simp
  generalize upd H0 D (.lst []) = H0 at sl1 h0D
  let Fin : List LL.D → List LL.D → Cs → Prop := fun acc ys cs' => (acc ++ ys).length ≤ 1000000 ∧ ∀ (v : V) (W' : Wd) (H' : Hp), Ok X.K X.mg W' H' cs' → Le W1 H1 W' H' → Rep X.K X.mg W' v (.lst (acc ++ ys)) → Q v H'
  have q2 : ∃ ys cs', noX (lcLoop2 g c its1 g1 c1 f vs1 (wipeS S (own.map (·.2))) ds cs1) = .ok ys cs' ∧ Fin [] ys cs' := by
    cases e : noX (lcLoop2 g c its1 g1 c1 f vs1 (wipeS S (own.map (·.2))) ds cs1) with
    | ok ys cs' =>
      rw [e] at q1
      have q1 : RO X.K X.mg E (Rep X.K X.mg) W1 H1 (if ys.length ≤ 1000000 then .ok (.lst ys) cs' else .bad) Q := q1
      split at q1
      · rename_i hl
        exact ⟨ys, cs', rfl, hl, q1⟩
      · exact q1.elim
    | exc _ _ _ _ => unfold noX at e; split at e <;> cases e
    | bad => rw [e] at q1; exact q1.elim
  refine ⟨fun i m H2 => ∃ (W2 : Wd) (cs2 : Cs) (acc : List V) (accD : List LL.D), Ok X.K X.mg W2 H2 cs2 ∧ Le W1 H1 W2 H2 ∧ H2 D = some (.lst acc) ∧ RepL X.K X.mg W2 acc accD ∧ W2.G D = none ∧ D ∉ W2.ρ ∧ i ≤ ds.length ∧ m = ds.length - i ∧
    ∃ ys cs', noX (lcLoop2 g c its1 g1 c1 f vs1 (wipeS S (own.map (·.2))) (ds.drop i) cs2) = .ok ys cs' ∧ Fin accD ys cs', ?_, ?_⟩
  · obtain ⟨ok2, l2⟩ := ok1.apart (.lst []) hD
    obtain ⟨g2, n2⟩ := ok1.fresh hD
    exact ⟨ds.length, W1, cs1, [], [], ok2, l2, upd_same, .nil, g2, n2, Nat.zero_le _, rfl, q2⟩
  · rintro i m H2 ⟨W2, cs2, acc, accD, ok2, l2, hacc, racc, gD, nD, hi, rfl, hfin⟩
    have hit := hJ i W2 H2 cs2 ok2 l2.pre l2.ex
    by_cases hlt : i < ds.length
    · have hd : ds[i]? = some ds[i] := List.getElem?_eq_getElem hlt
      obtain ⟨hgo, hyl⟩ := hit.1 _ hd
      rw [List.drop_eq_getElem_cons hlt] at hfin
      refine .inr ⟨hgo, fun H' => ∃ (W2 : Wd) (cs2 : Cs) (acc : List V) (accD : List LL.D), Ok X.K X.mg W2 H' cs2 ∧ Le W1 H1 W2 H' ∧ H' D = some (.lst acc) ∧ RepL X.K X.mg W2 acc accD ∧ W2.G D = none ∧ D ∉ W2.ρ ∧
        ∃ ys cs', noX (lcLoop2 g c its1 g1 c1 f vs1 (wipeS S (own.map (·.2))) (ds.drop (i + 1)) cs2) = .ok ys cs' ∧ Fin accD ys cs', ?_, ?_⟩
      · rintro H' ⟨W3, cs3, acc3, accD3, a1, a2, a3, a4, a5, a6, a8⟩
        exact ⟨ds.length - (i + 1), by omega, W3, cs3, acc3, accD3, a1, a2, a3, a4, a5, a6, by omega, rfl, a8⟩
      · intro x H3 hy
        obtain ⟨W3, ok3, l3, r3⟩ := hyl x H3 hy
        have l13 := l2.trans ok2 l3
        obtain ⟨S2, cs2', e20, hf1⟩ := noX_seq hfin
        obtain ⟨e2, ec⟩ := opt_eq e20
        clear hfin e20
        subst ec
        refine ⟨W3, wipeS S (own.map (·.2)), cs2, H0, ds[i], S2, ok3, (sl1.mono l13).wipe _, r3, e2, fun σ2 sl2 hj hl => ⟨wipe_same hix hj hl, ?_⟩⟩
        obtain ⟨b, cs4, e4, hf2⟩ := noX_seq hf1
        refine ⟨W3, S2, cs2, H0, ok3, sl2, RO.of_eq e4 fun b' W4 H4 ok4 l4 r4 => ?_⟩
        cases r4
        have l14 := l13.trans ok3 l4
        have nD3 := l3.new D (by rw [hacc]; simp) gD nD
        have hD3 : H3 D = some (.lst acc) := l3.keep D _ hacc nD
        have nD4 := l4.new D (by rw [hD3]; simp) nD3.1 nD3.2
        have hD4 : H4 D = some (.lst acc) := l4.keep D _ hD3 nD3.2
        cases b with
        | false => exact ⟨W4, cs4, acc, accD, ok4, l14, hD4, (racc.le l3).le l4, nD4.1, nD4.2, hf2⟩
        | true =>
          obtain ⟨ds1, cs5, e5, hf3⟩ := noX_seq hf2
          have sl4 := sl2.mono l4
          refine ⟨W4, S2, cs4, H0, ok4, sl4, RO.of_eq (R := ItOk X.K X.mg) e5 fun J1 W5 H5 ok5 l5 hJ1 => ?_⟩
          have l15 := l14.trans ok4 l5
          have nD5 := l5.new D (by rw [hD4]; simp) nD4.1 nD4.2
          have hD5 : H5 D = some (.lst acc) := l5.keep D _ hD4 nD4.2
          let K2 : Cs → Res (List LL.D) := fun cs => lcLoop2 g c its1 g1 c1 f vs1 (wipeS S (own.map (·.2))) (ds.drop (i + 1)) cs
          refine ⟨fun j k H6 => ∃ (W6 : Wd) (cs6 : Cs) (acc6 : List V) (accD6 : List LL.D), Ok X.K X.mg W6 H6 cs6 ∧ Le W1 H1 W6 H6 ∧ LeX D W5 H5 W6 H6 ∧ H6 D = some (.lst acc6) ∧ RepL X.K X.mg W6 acc6 accD6 ∧ W6.G D = none ∧ D ∉ W6.ρ ∧ j ≤ ds1.length ∧ k = ds1.length - j ∧
            ∃ ys cs', noX ((lcLoop g1 c1 f (wipeS S2 vs1) (ds1.drop j) cs6).bind fun ys cs => (K2 cs).bind fun zs cs => .ok (ys ++ zs) cs) = .ok ys cs' ∧ Fin accD6 ys cs', ?_, ?_⟩
          · exact ⟨ds1.length, W5, cs5, acc, accD, ok5, l15, LeX.of (Le.refl W5 H5), hD5, ((racc.le l3).le l4).le l5, nD5.1, nD5.2, Nat.zero_le _, rfl, hf3⟩
          · rintro j k H6 ⟨W6, cs6, acc6, accD6, ok6, l16, l56, hacc6, racc6, gD6, nD6, hj6, rfl, hfin6⟩
            have hit1 := hJ1 j W6 H6 cs6 ok6 l56.pre l56.ex
            by_cases hlt1 : j < ds1.length
            · have hd1 : ds1[j]? = some ds1[j] := List.getElem?_eq_getElem hlt1
              obtain ⟨hgo1, hyl1⟩ := hit1.1 _ hd1
              rw [List.drop_eq_getElem_cons hlt1] at hfin6
              refine .inr ⟨hgo1, fun H' => ∃ (W6 : Wd) (cs6 : Cs) (acc6 : List V) (accD6 : List LL.D), Ok X.K X.mg W6 H' cs6 ∧ Le W1 H1 W6 H' ∧ LeX D W5 H5 W6 H' ∧ H' D = some (.lst acc6) ∧ RepL X.K X.mg W6 acc6 accD6 ∧ W6.G D = none ∧ D ∉ W6.ρ ∧
                ∃ ys cs', noX ((lcLoop g1 c1 f (wipeS S2 vs1) (ds1.drop (j + 1)) cs6).bind fun ys cs => (K2 cs).bind fun zs cs => .ok (ys ++ zs) cs) = .ok ys cs' ∧ Fin accD6 ys cs', ?_, ?_⟩
              · rintro H' ⟨W7, cs7, acc7, accD7, a1, a2, a3, a4, a5, a6, a7, a8⟩
                exact ⟨ds1.length - (j + 1), by omega, W7, cs7, acc7, accD7, a1, a2, a3, a4, a5, a6, a7, by omega, rfl, a8⟩
              · intro x1 H7 hy1
                obtain ⟨W7, ok7, l7, r7⟩ := hyl1 x1 H7 hy1
                have l17 := l16.trans ok6 l7
                have l57 := l56.step ok6 (by rw [hacc6]; simp) l7
                have hfin7 : ∃ ws cs', noX ((Res.opt (g1 ds1[j] (wipeS S2 vs1)) cs6).bind fun S3 cs => ((asB (c1 S3 cs)).bind fun b cs => if b then (f S3 cs).bind fun y cs => (lcLoop g1 c1 f (wipeS S2 vs1) (ds1.drop (j + 1)) cs).bind fun ys cs => .ok (y :: ys) cs else lcLoop g1 c1 f (wipeS S2 vs1) (ds1.drop (j + 1)) cs).bind fun ys cs => (K2 cs).bind fun zs cs => .ok (ys ++ zs) cs) = .ok ws cs' ∧ Fin accD6 ws cs' := by
                  rw [lcLoop, Res.bind_assoc] at hfin6
                  exact hfin6
                obtain ⟨S3, cs6', e60, hg1'⟩ := noX_seq hfin7
                obtain ⟨e6, ec6⟩ := opt_eq e60
                clear hfin6 hfin7 e60
                subst ec6
                refine ⟨W7, wipeS S2 vs1, cs6, H0, ds1[j], S3, ok7, ((sl4.mono l5).monoX h0D l57).wipe _, r7, e6, fun σ3 sl3 hj3 hl3 => ⟨wipe_same hix1 hj3 hl3, ?_⟩⟩
                rw [Res.bind_assoc] at hg1'
                obtain ⟨b1, cs8, e8, hg2⟩ := noX_seq hg1'
                refine ⟨W7, S3, cs6, H0, ok7, sl3, RO.of_eq e8 fun b' W8 H8 ok8 l8 r8 => ?_⟩
                cases r8
                have l18 := l17.trans ok7 l8
                have nD7 := l7.new D (by rw [hacc6]; simp) gD6 nD6
                have hD7 : H7 D = some (.lst acc6) := l7.keep D _ hacc6 nD6
                have l58 := l57.step ok7 (by rw [hD7]; simp) l8
                have nD8 := l8.new D (by rw [hD7]; simp) nD7.1 nD7.2
                have hD8 : H8 D = some (.lst acc6) := l8.keep D _ hD7 nD7.2
                cases b1 with
                | false => exact ⟨W8, cs8, acc6, accD6, ok8, l18, l58, hD8, (racc6.le l7).le l8, nD8.1, nD8.2, hg2⟩
                | true =>
                  rw [if_pos rfl, Res.bind_assoc] at hg2
                  obtain ⟨y, cs9, e9, hg3⟩ := noX_seq hg2
                  obtain ⟨ws, cs10, e10, hF⟩ := reassoc (k2 := K2) hg3
                  refine ⟨W8, S3, cs8, H0, ok8, sl3.mono l8, RO.of_eq e9 fun yv W9 H9 ok9 l9 r9 => ?_⟩
                  have nD9 := l9.new D (by rw [hD8]; simp) nD8.1 nD8.2
                  have hD9 : H9 D = some (.lst acc6) := l9.keep D _ hD8 nD8.2
                  have hlen := hF.1
                  refine ⟨acc6, hD9, line_lt (by rw [racc6.length]; simp at hlen; omega), ?_⟩
                  obtain ⟨ok11, l11⟩ := ok9.change (l18.trans ok8 l9) (.lst (acc6 ++ [yv])) nD9.1 nD9.2 hD
                  have l511 : LeX D W5 H5 W9 (upd H9 D (.lst (acc6 ++ [yv]))) := (l58.step ok8 (by rw [hD8]; simp) l9).put _
                  refine ⟨W9, cs9, acc6 ++ [yv], accD6 ++ [y], ok11, l11, l511, upd_same, (((racc6.le l7).le l8).le l9).append (.one r9), nD9.1, nD9.2, ws, cs10, e10, ?_⟩
                  refine ⟨by simpa using hlen, fun v W' H' o' l' r' => ?_⟩
                  rw [List.append_assoc] at r'
                  exact hF.2 v W' H' o' l' r'
            · have hjj : j = ds1.length := by omega
              refine .inl ⟨hit1.2 hjj, ?_⟩
              rw [List.drop_eq_nil_of_le (by omega)] at hfin6
              have hfin7 : ∃ ws cs', noX ((K2 cs6).bind fun zs cs => .ok ([] ++ zs) cs) = .ok ws cs' ∧ Fin accD6 ws cs' := hfin6
              refine ⟨W6, cs6, acc6, accD6, ok6, l16, hacc6, racc6, gD6, nD6, ?_⟩
              obtain ⟨ws, cs', e, hF⟩ := hfin7
              refine ⟨ws, cs', ?_, hF⟩
              show noX (K2 cs6) = _
              cases hk : K2 cs6 with
              | ok zs cs => rw [hk] at e; exact e
              | exc _ _ _ _ => rw [hk] at e; cases e
              | bad => rw [hk] at e; cases e
    · have hii : i = ds.length := by omega
      refine .inl ⟨hit.2 hii, ?_⟩
      rw [List.drop_eq_nil_of_le (by omega)] at hfin
      obtain ⟨ys, cs', e, hfin⟩ := hfin
      cases e
      obtain ⟨ok3, l3, ex3⟩ := ok2.freeze l2 hacc gD nD hD
      refine hfin.2 _ _ _ ok3 l3 (.lst upd_same ?_)
      rw [List.append_nil]
      exact racc.mono ⟨[], by simp⟩ ex3
theorem de_lc2 (hc : X.calm = true) (hN : X.N.Nodup) (hi : DI X E tg iter its) (ok : BlkOk X.N X.env.scope scope own) (hv : ∀ i ∈ vs1, i ∈ own.map (·.2)) (hix : ∀ j ∈ ix, j ∈ own.map (·.2)) (hix1 : ∀ j ∈ ix1, j ∈ vs1)
    (hg : ∀ (s : Shared) (H : Hp) (C : Addr) (cl : List (Str × Addr)) (fp : List Addr), DG (X.blk s H scope (compEnvC scope cl C X.env) fp) tg g ix) (ht : ∀ (s : Shared) (H : Hp) (C : Addr) (cl : List (Str × Addr)) (fp : List Addr), DTs (X.blk s H scope (compEnvC scope cl C X.env) fp) E0 ifs c)
    (hi1 : ∀ (s : Shared) (H : Hp) (C : Addr) (cl : List (Str × Addr)) (fp : List Addr), DI (X.blk s H scope (compEnvC scope cl C X.env) fp) E0 tg1 iter1 its1)
    (hg1 : ∀ (s : Shared) (H : Hp) (C : Addr) (cl : List (Str × Addr)) (fp : List Addr), DG (X.blk s H scope (compEnvC scope cl C X.env) fp) tg1 g1 ix1) (ht1 : ∀ (s : Shared) (H : Hp) (C : Addr) (cl : List (Str × Addr)) (fp : List Addr), DTs (X.blk s H scope (compEnvC scope cl C X.env) fp) E0 ifs1 c1)
    (he : ∀ (s : Shared) (H : Hp) (C : Addr) (cl : List (Str × Addr)) (fp : List Addr), DE (X.blk s H scope (compEnvC scope cl C X.env) fp) E0 elt f) (hs : ∀ x, foldedSetIterable iter X.env x = pure x := by intro _; rfl) (hs1 : ∀ env x, foldedSetIterable iter1 env x = pure x := by intro _ _; rfl) :
    DE X E (.ListComp elt [⟨tg, iter, ifs, 0⟩, ⟨tg1, iter1, ifs1, 0⟩] scope pos) (eLc2 its g c its1 g1 c1 f (own.map (·.2)) vs1) :=
  (pe_lc2 hc hN hi ok hv hg ht hi1 hg1 ht1 he hs hs1).imp fun σ H Q q => lc2_den hix hix1 q
end
/-! ### dict comprehensions -/
def dputD : List D → List D → D → D → List D × List D
  | k :: ks, v :: vs, x, y => if keyEq k x then (k :: ks, y :: vs) else let r := dputD ks vs x y; (k :: r.1, v :: r.2)
  | _, _, x, y => ([x], [y])
def dcLoop (g : Tg) (c fk fv : Sem) (S : List Sl) : List D → List D × List D → Cs → Res (List D × List D)
  | [], a, cs => .ok a cs
  | d :: ds, a, cs => (Res.opt (g d S) cs).bind fun S2 cs => (asB (c S2 cs)).bind fun b cs => if b then (fk S2 cs).bind fun y cs => (fv S2 cs).bind fun z cs => if keyD y then dcLoop g c fk fv S ds (dputD a.1 a.2 y z) cs else .bad else dcLoop g c fk fv S ds a cs
def eDc (its : Its) (g : Tg) (c fk fv : Sem) (vs : List Nat) : Sem := fun S cs => (its S cs).bind fun ds cs => if ds.length ≤ 1000000 then (noX (dcLoop g c fk fv (wipeS S vs) ds ([], []) cs)).bind fun a cs => .ok (.dct a.1 a.2) cs else .bad
section
variable {K : PySem.W.Frag} {mg : Str → Option Value} {W : Wd}
theorem RepL.any_key {k : Key} {x : D} (r : Rep K mg W (kV k) x) : ∀ {kvs : List (Key × V)} {ks : List D}, RepL K mg W (kvs.map fun p => kV p.1) ks → (kvs.any fun kv => decide (kv.1 = k)) = ks.any fun z => keyEq z x
  | [], _, .nil => rfl
  | p :: kvs, _, .cons r1 t => by rw [List.any_cons, List.any_cons, RepL.any_key r t, keyEq_of r1 r]
/-- keys unlike -/
def KsNd : List (Key × V) → Prop := fun kvs => (kvs.map (·.1)).Nodup
theorem putK_cons_pos {p : Key × V} {r : List (Key × V)} {k : Key} {v : V} (nd : KsNd (p :: r)) (e : p.1 = k) : putK (p :: r) k v = (p.1, v) :: r := by
  unfold putK
  have : ((p :: r).any fun kv => decide (kv.1 = k)) = true := by simp [e]
  rw [if_pos this, List.map_cons, if_pos e]
  congr 1
  have nd' := List.nodup_cons.mp (show (p.1 :: r.map (·.1)).Nodup from nd)
  have : ∀ kv ∈ r, (if kv.1 = k then (kv.1, v) else kv) = kv := fun kv hm => if_neg fun z => nd'.1 (by rw [e, ← z]; exact List.mem_map_of_mem hm)
  exact (List.map_congr_left this).trans (List.map_id r)
theorem putK_cons_neg {p : Key × V} {r : List (Key × V)} {k : Key} {v : V} (e : ¬ p.1 = k) : putK (p :: r) k v = p :: putK r k v := by
  unfold putK
  have h : ((p :: r).any fun kv => decide (kv.1 = k)) = r.any fun kv => decide (kv.1 = k) := by rw [List.any_cons, decide_eq_false e, Bool.false_or]
  rw [h]
  split
  · rw [List.map_cons, if_neg e]
  · rfl
theorem dput_of {k : Key} {v : V} {x y : D} (rk : Rep K mg W (kV k) x) (rv : Rep K mg W v y) : ∀ {kvs : List (Key × V)} {ks vs : List D}, KsNd kvs → RepL K mg W (kvs.map fun p => kV p.1) ks → RepL K mg W (kvs.map (·.2)) vs →
    RepL K mg W ((putK kvs k v).map fun p => kV p.1) (dputD ks vs x y).1 ∧ RepL K mg W ((putK kvs k v).map (·.2)) (dputD ks vs x y).2 ∧ KsNd (putK kvs k v)
  | [], _, _, _, .nil, .nil => ⟨.one rk, .one rv, by simp [KsNd, putK]⟩
  | p :: kvs, _, _, nd, .cons (d := dk) (ds := ks) r1 t1, .cons (d := dv) (ds := vs) r2 t2 => by
    have e := keyEq_of r1 rk
    have nd' : (p.1 :: kvs.map (·.1)).Nodup := nd
    by_cases h : p.1 = k
    · rw [decide_eq_true h] at e
      rw [putK_cons_pos nd h]
      simp only [dputD, e, if_true]
      exact ⟨.cons r1 t1, .cons rv t2, nd⟩
    · rw [decide_eq_false h] at e
      rw [putK_cons_neg h]
      obtain ⟨a, b, c⟩ := dput_of rk rv (kvs := kvs) (List.nodup_cons.mp nd').2 t1 t2
      simp only [dputD, e, if_false, Bool.false_eq_true]
      refine ⟨.cons r1 a, .cons r2 b, ?_⟩
      show (p.1 :: (putK kvs k v).map (·.1)).Nodup
      refine List.nodup_cons.mpr ⟨fun m => ?_, c⟩
      obtain ⟨q, hq, eq⟩ := List.mem_map.mp m
      unfold putK at hq
      split at hq
      · obtain ⟨z, hz, ez⟩ := List.mem_map.mp hq
        have : q.1 = z.1 := by
          rw [← ez]; split <;> rfl
        exact (List.nodup_cons.mp nd').1 (by rw [← eq, this]; exact List.mem_map_of_mem hz)
      · rcases List.mem_append.mp hq with hq | hq
        · exact (List.nodup_cons.mp nd').1 (by rw [← eq]; exact List.mem_map_of_mem hq)
        · simp at hq; rw [hq] at eq; exact h eq.symm
end
section
variable {X : Cx} {E : XK} {kx vx tg iter : Expr} {ifs : List Expr} {scope : Scope} {own : List (Str × Nat)} {pos : Pos} {its : Its} {g : Tg} {ix : List Nat} {c fk fv : Sem}
theorem putK_len (kvs : List (Key × V)) (k : Key) (v : V) : (putK kvs k v).length ≤ kvs.length + 1 := by
  unfold putK
  split <;> simp
theorem dc_den {σ : SSt} {H : Hp} {Q : VK} (hix : ∀ j ∈ ix, j ∈ own.map (·.2)) (q : den X.K X.mg E (eDc its g c fk fv (own.map (·.2))) σ H Q) :
    tDc (denI X.K X.mg E its) (denG X.K X.mg g ix) (denT X.K X.mg E0 c) (den X.K X.mg E0 fk) (den X.K X.mg E0 fv) (own.map (·.2)) σ H Q := by
  obtain ⟨W, S, cs, H0, ok, sl, q⟩ := q
  refine ⟨W, S, cs, H0, ok, sl, (RO.seqv (R := ItOk X.K X.mg) q).imp fun J H1 ⟨W1, cs1, ds, ok1, l1, hJ, q1⟩ => ?_⟩
  split at q1
  case isFalse => exact q1.elim
  case isTrue hlen =>
  intro D hD
  have sl1 := sl.mono l1
  let Fin : List LL.D × List LL.D → Cs → Prop := fun a cs' => ∀ (v : V) (W' : Wd) (H' : Hp), Ok X.K X.mg W' H' cs' → Le W1 H1 W' H' → Rep X.K X.mg W' v (.dct a.1 a.2) → Q v H'
  have q2 : ∃ a cs', noX (dcLoop g c fk fv (wipeS S (own.map (·.2))) ds ([], []) cs1) = .ok a cs' ∧ Fin a cs' := by
    cases e : noX (dcLoop g c fk fv (wipeS S (own.map (·.2))) ds ([], []) cs1) with
    | ok ys cs' => rw [e] at q1; exact ⟨ys, cs', rfl, q1⟩
    | exc _ _ _ _ => unfold noX at e; split at e <;> cases e
    | bad => rw [e] at q1; exact q1.elim
  let Inv' : Nat → Hp → Prop := fun i H2 => ∃ (W2 : Wd) (cs2 : Cs) (kvs : List (Key × V)) (a : List LL.D × List LL.D), Ok X.K X.mg W2 H2 cs2 ∧ Le W1 H1 W2 H2 ∧ H2 D = some (.dK kvs) ∧ RepL X.K X.mg W2 (kvs.map fun p => kV p.1) a.1 ∧ RepL X.K X.mg W2 (kvs.map (·.2)) a.2 ∧ KsNd kvs ∧ W2.G D = none ∧ D ∉ W2.ρ ∧ kvs.length ≤ i ∧
    ∃ r cs', noX (dcLoop g c fk fv (wipeS S (own.map (·.2))) (ds.drop i) a cs2) = .ok r cs' ∧ Fin r cs'
  refine ⟨fun i m H2 => i ≤ ds.length ∧ m = ds.length - i ∧ Inv' i H2, ?_, ?_⟩
  · obtain ⟨ok2, l2⟩ := ok1.apart (.dK []) hD
    obtain ⟨g2, n2⟩ := ok1.fresh hD
    exact ⟨ds.length, Nat.zero_le _, rfl, W1, cs1, [], ([], []), ok2, l2, upd_same, .nil, .nil, by simp [KsNd], g2, n2, Nat.zero_le _, q2⟩
  · rintro i m H2 ⟨hi, rfl, W2, cs2, kvs, a, ok2, l2, hacc, rk, rv, nd, gD, nD, hai, hfin⟩
    have hit := hJ i W2 H2 cs2 ok2 l2.pre l2.ex
    by_cases hlt : i < ds.length
    · have hd : ds[i]? = some ds[i] := List.getElem?_eq_getElem hlt
      obtain ⟨hgo, hyl⟩ := hit.1 _ hd
      rw [List.drop_eq_getElem_cons hlt] at hfin
      refine .inr ⟨hgo, Inv' (i + 1), fun H' h => ⟨ds.length - (i + 1), by omega, by omega, rfl, h⟩, ?_⟩
      intro x H3 hy
      obtain ⟨W3, ok3, l3, r3⟩ := hyl x H3 hy
      have l13 := l2.trans ok2 l3
      obtain ⟨S2, cs2', e20, hf1⟩ := noX_seq hfin
      obtain ⟨e2, ec⟩ := opt_eq e20
      clear hfin e20
      subst ec
      refine ⟨W3, wipeS S (own.map (·.2)), cs2, H0, ds[i], S2, ok3, (sl1.mono l13).wipe _, r3, e2, fun σ2 sl2 hj hl => ⟨wipe_same hix hj hl, ?_⟩⟩
      obtain ⟨b, cs4, e4, hf2⟩ := noX_seq hf1
      refine ⟨W3, S2, cs2, H0, ok3, sl2, RO.of_eq e4 fun b' W4 H4 ok4 l4 r4 => ?_⟩
      cases r4
      have l14 := l13.trans ok3 l4
      have nD3 := l3.new D (by rw [hacc]; simp) gD nD
      have hD3 : H3 D = some (.dK kvs) := l3.keep D _ hacc nD
      have nD4 := l4.new D (by rw [hD3]; simp) nD3.1 nD3.2
      have hD4 : H4 D = some (.dK kvs) := l4.keep D _ hD3 nD3.2
      cases b with
      | false => exact ⟨W4, cs4, kvs, a, ok4, l14, hD4, (rk.le l3).le l4, (rv.le l3).le l4, nd, nD4.1, nD4.2, by omega, hf2⟩
      | true =>
        obtain ⟨y, cs5, e5, hf3⟩ := noX_seq hf2
        obtain ⟨z, cs6, e6, hf4⟩ := noX_seq hf3
        refine ⟨W4, S2, cs4, H0, ok4, sl2.mono l4, RO.of_eq e5 fun yv W5 H5 ok5 l5 r5 => ?_⟩
        have nD5 := l5.new D (by rw [hD4]; simp) nD4.1 nD4.2
        have hD5 : H5 D = some (.dK kvs) := l5.keep D _ hD4 nD4.2
        refine ⟨W5, S2, cs5, H0, ok5, (sl2.mono l4).mono l5, RO.of_eq e6 fun zv W6 H6 ok6 l6 r6 => ?_⟩
        have nD6 := l6.new D (by rw [hD5]; simp) nD5.1 nD5.2
        have hD6 : H6 D = some (.dK kvs) := l6.keep D _ hD5 nD5.2
        by_cases hk : keyD y = true
        · rw [if_pos hk] at hf4
          obtain ⟨k, rfl⟩ := key_of r5 hk
          have l16 := (l14.trans ok4 l5).trans ok5 l6
          refine ⟨kvs, k, rfl, hD6, line_lt (by omega), ?_⟩
          obtain ⟨ok7, l7⟩ := ok6.change l16 (.dK (putK kvs k zv)) nD6.1 nD6.2 hD
          obtain ⟨p1, p2, p3⟩ := dput_of (r5.le l6) r6 nd ((((rk.le l3).le l4).le l5).le l6) ((((rv.le l3).le l4).le l5).le l6)
          exact ⟨W6, cs6, putK kvs k zv, dputD a.1 a.2 y z, ok7, l7, upd_same, p1, p2, p3, nD6.1, nD6.2, by have := putK_len kvs k zv; omega, hf4⟩
        · rw [if_neg hk] at hf4
          obtain ⟨_, _, h, _⟩ := hf4
          cases h
    · have hii : i = ds.length := by omega
      refine .inl ⟨hit.2 hii, ?_⟩
      rw [List.drop_eq_nil_of_le (by omega)] at hfin
      obtain ⟨r, cs', e, hfin⟩ := hfin
      cases e
      obtain ⟨ok3, l3, ex3⟩ := ok2.freeze l2 hacc gD nD hD
      exact hfin _ _ _ ok3 l3 (.dct upd_same (rk.mono ⟨[], by simp⟩ ex3) (rv.mono ⟨[], by simp⟩ ex3))
theorem de_dc (hc : X.calm = true) (hN : X.N.Nodup) (hi : DI X E tg iter its) (ok : BlkOk X.N X.env.scope scope own) (hix : ∀ j ∈ ix, j ∈ own.map (·.2))
    (hg : ∀ (s : Shared) (H : Hp) (C : Addr) (cl : List (Str × Addr)) (fp : List Addr), DG (X.blk s H scope (compEnvC scope cl C X.env) fp) tg g ix) (ht : ∀ (s : Shared) (H : Hp) (C : Addr) (cl : List (Str × Addr)) (fp : List Addr), DTs (X.blk s H scope (compEnvC scope cl C X.env) fp) E0 ifs c)
    (hk : ∀ (s : Shared) (H : Hp) (C : Addr) (cl : List (Str × Addr)) (fp : List Addr), DE (X.blk s H scope (compEnvC scope cl C X.env) fp) E0 kx fk)
    (he : ∀ (s : Shared) (H : Hp) (C : Addr) (cl : List (Str × Addr)) (fp : List Addr), DE (X.blk s H scope (compEnvC scope cl C X.env) fp) E0 vx fv) (hs : ∀ x, foldedSetIterable iter X.env x = pure x := by intro _; rfl) :
    DE X E (.DictComp kx vx [⟨tg, iter, ifs, 0⟩] scope pos) (eDc its g c fk fv (own.map (·.2))) :=
  (pe_dc hc hN hi ok hg ht hk he hs).imp fun σ H Q q => dc_den hix q
end
end LL

set_option Elab.async false
set_option linter.all false
set_option maxRecDepth 100000
set_option maxHeartbeats 4000000
/-! statements over plain data -/
namespace LL
open PySem PySem.Spec PyProof.Rows L2

inductive Fl where
  | nx (S : List Sl) (cs : Cs) | rt (d : D) (cs : Cs) | bk (S : List Sl) (cs : Cs) | ct (S : List Sl) (cs : Cs)
  | exc (c : Str) (ns : List Str) (vs : List D) (cs : Cs) | bad
abbrev Cm := List Sl → Cs → Fl
def Res.thenF {α : Type} (r : Res α) (k : α → Cs → Fl) : Fl := match r with
  | .ok a cs => k a cs
  | .exc c ns vs cs => .exc c ns vs cs
  | .bad => .bad
@[simp] theorem Res.thenF_ok {α : Type} (a : α) (cs : Cs) (k : α → Cs → Fl) : (Res.ok a cs).thenF k = k a cs := rfl
@[simp] theorem Res.thenF_bad {α : Type} (k : α → Cs → Fl) : (Res.bad (α := α)).thenF k = .bad := rfl
@[simp] theorem Res.thenF_exc {α : Type} (c : Str) (ns : List Str) (vs : List D) (cs : Cs) (k : α → Cs → Fl) : (Res.exc (α := α) c ns vs cs).thenF k = .exc c ns vs cs := rfl
/-- what is known grows -/
structure Mo (W W' : Wd) : Prop where
  pre : ∃ l, W'.ρ = W.ρ ++ l
  ex : Ext W.G W'.G
  me : W'.me = W.me
theorem Mo.refl (W : Wd) : Mo W W := ⟨⟨[], by simp⟩, Ext.refl _, rfl⟩
theorem Mo.trans {A B C : Wd} (a : Mo A B) (b : Mo B C) : Mo A C := by
  obtain ⟨l, e⟩ := a.pre
  obtain ⟨l', e'⟩ := b.pre
  exact ⟨⟨l ++ l', by rw [e', e, List.append_assoc]⟩, a.ex.trans b.ex, b.me.trans a.me⟩
theorem Le.mo {W W' : Wd} {H H' : Hp} (l : Le W H W' H') : Mo W W' := ⟨l.pre, l.ex, l.me⟩
def FO (K : PySem.W.Frag) (mg : Str → Option Value) (E : XK) (W0 : Wd) (H0 : Hp) (W : Wd) (r : Fl) (T : Ends) : Prop :=
  match r with
  | .nx S' cs' => ∀ (W' : Wd) (σ' : SSt) (H' : Hp), Ok K mg W' H' cs' → Le W0 H0 W' H' → Mo W W' → Slots K mg W' H0 H' σ' S' → T.nx σ' H'
  | .bk S' cs' => ∀ (W' : Wd) (σ' : SSt) (H' : Hp), Ok K mg W' H' cs' → Le W0 H0 W' H' → Mo W W' → Slots K mg W' H0 H' σ' S' → T.bk σ' H'
  | .ct S' cs' => ∀ (W' : Wd) (σ' : SSt) (H' : Hp), Ok K mg W' H' cs' → Le W0 H0 W' H' → Mo W W' → Slots K mg W' H0 H' σ' S' → T.ct σ' H'
  | .rt d cs' => ∀ (v : V) (W' : Wd) (H' : Hp), Ok K mg W' H' cs' → Le W0 H0 W' H' → Rep K mg W' v d → T.rt v H'
  | .exc c ns vs cs' => ∀ (W' : Wd) (H' : Hp) (C a : Addr) (fs : List (Str × V)), Ok K mg W' H' cs' → Le W0 H0 W' H' → mg c = some (.ref C) → H' a = some (.xd fs) → ns = fs.map (·.1) → RepL K mg W' (fs.map (·.2)) vs → E (.ref C) (some a) H'
  | .bad => False
def denS (K : PySem.W.Frag) (mg : Str → Option Value) (E : XK) (c : Cm) : TS := fun T σ H => ∃ (W : Wd) (S : List Sl) (cs : Cs) (W0 : Wd) (H0 : Hp), Ok K mg W H cs ∧ Le W0 H0 W H ∧ Slots K mg W H0 H σ S ∧ FO K mg E W0 H0 W (c S cs) T
abbrev DS (X : Cx) (E : XK) (s : Stmt) (c : Cm) : Prop := PS X s (denS X.K X.mg E c)
abbrev DSs (X : Cx) (E : XK) (s : List Stmt) (c : Cm) : Prop := PSs X s (denS X.K X.mg E c)
section
variable {K : PySem.W.Frag} {mg : Str → Option Value} {E : XK} {α β : Type} {R : Wd → β → α → Prop} {W W0 : Wd} {H H0 : Hp} {cs : Cs} {σ : SSt} {S : List Sl}
theorem FO.mo {W1 : Wd} {r : Fl} {T : Ends} (m : Mo W W1) (h : FO K mg E W0 H0 W r T) : FO K mg E W0 H0 W1 r T := by
  cases r with
  | nx S cs => exact fun W' σ' H' o l m' sl => h W' σ' H' o l (m.trans m') sl
  | bk S cs => exact fun W' σ' H' o l m' sl => h W' σ' H' o l (m.trans m') sl
  | ct S cs => exact fun W' σ' H' o l m' sl => h W' σ' H' o l (m.trans m') sl
  | rt d cs => exact h
  | exc c ns vs cs => exact h
  | bad => exact h
theorem RO.toF {r : Res α} {k : α → Cs → Fl} {T : Ends} (ok : Ok K mg W H cs) (l0 : Le W0 H0 W H) (h : FO K mg E W0 H0 W (r.thenF k) T) :
    RO K mg E R W H r (fun v H1 => ∃ (W1 : Wd) (cs1 : Cs) (d : α), Ok K mg W1 H1 cs1 ∧ Le W H W1 H1 ∧ Le W0 H0 W1 H1 ∧ R W1 v d ∧ FO K mg E W0 H0 W1 (k d cs1) T) := by
  cases r with
  | ok d cs' => exact fun v W' H' o l r => ⟨W', cs', d, o, l, l0.trans ok l, r, FO.mo (r := k d cs') l.mo h⟩
  | exc c ns vs cs' => exact fun W' H' C a fs o l => h W' H' C a fs o (l0.trans ok l)
  | bad => exact h
theorem den.toF {f : Sem} {k : D → Cs → Fl} {T : Ends} (ok : Ok K mg W H cs) (l0 : Le W0 H0 W H) (sl : Slots K mg W H0 H σ S) (h : FO K mg E W0 H0 W ((f S cs).thenF k) T) :
    den K mg E f σ H (fun v H1 => ∃ (W1 : Wd) (cs1 : Cs) (d : D), Ok K mg W1 H1 cs1 ∧ Le W0 H0 W1 H1 ∧ Slots K mg W1 H0 H1 σ S ∧ Le W H W1 H1 ∧ Rep K mg W1 v d ∧ FO K mg E W0 H0 W1 (k d cs1) T) :=
  ⟨W, S, cs, H0, ok, sl, (RO.toF ok l0 h).imp fun v H1 ⟨W1, cs1, d, o, l, l1, r, q⟩ => ⟨W1, cs1, d, o, l1, sl.mono l, l, r, q⟩⟩
theorem denA.toF {f : Sems} {k : List D → Cs → Fl} {T : Ends} (ok : Ok K mg W H cs) (l0 : Le W0 H0 W H) (sl : Slots K mg W H0 H σ S) (h : FO K mg E W0 H0 W ((f S cs).thenF k) T) :
    denA K mg E f σ H (fun v H1 => ∃ (W1 : Wd) (cs1 : Cs) (d : List D), Ok K mg W1 H1 cs1 ∧ Le W0 H0 W1 H1 ∧ Slots K mg W1 H0 H1 σ S ∧ Le W H W1 H1 ∧ RepL K mg W1 v d ∧ FO K mg E W0 H0 W1 (k d cs1) T) :=
  ⟨W, S, cs, H0, ok, sl, (RO.toF ok l0 h).imp fun v H1 ⟨W1, cs1, d, o, l, l1, r, q⟩ => ⟨W1, cs1, d, o, l1, sl.mono l, l, r, q⟩⟩
theorem denT.toF {f : Sem} {k : Bool → Cs → Fl} {T : Ends} (ok : Ok K mg W H cs) (l0 : Le W0 H0 W H) (sl : Slots K mg W H0 H σ S) (h : FO K mg E W0 H0 W ((asB (f S cs)).thenF k) T) :
    denT K mg E f σ H (fun b H1 => ∃ (W1 : Wd) (cs1 : Cs), Ok K mg W1 H1 cs1 ∧ Le W0 H0 W1 H1 ∧ Slots K mg W1 H0 H1 σ S ∧ FO K mg E W0 H0 W1 (k b cs1) T) :=
  ⟨W, S, cs, H0, ok, sl, (RO.toF (R := RepB) ok l0 h).imp fun v H1 ⟨W1, cs1, d, o, l, l1, r, q⟩ => ⟨W1, cs1, o, l1, sl.mono l, by cases r; exact q⟩⟩
/-- the same ends, but for what comes next -/
theorem FO.seq {c : Fl} {k : Cm} {T : Ends} (h : FO K mg E W0 H0 W (match c with | .nx S cs => k S cs | r => r) T) : FO K mg E W0 H0 W c { T with nx := denS K mg E k T } := by
  cases c with
  | nx S cs => exact fun W' σ' H' o l m sl => ⟨W', S, cs, W0, H0, o, l, sl, FO.mo m h⟩
  | rt d cs => exact h
  | bk S cs => exact h
  | ct S cs => exact h
  | exc c ns vs cs => exact h
  | bad => exact h
end

/-! ### rows of statements -/
def sNil : Cm := fun S cs => .nx S cs
def sSeq (c k : Cm) : Cm := fun S cs => match c S cs with
  | .nx S cs => k S cs
  | r => r
section
variable {X : Cx} {E : XK} {st : Stmt} {rest a b : List Stmt} {c k c1 c2 : Cm} {e tg o : Expr} {f fi fo : Sem} {gs : Sems} {t : Sem} {pos : Pos} {i : Nat} {x : Str} {g : Tg} {ix : List Nat} {kr : Nat}
theorem dss_nil : DSs X E [] sNil := pss_nil.imp fun T σ H ⟨W, S, cs, W0, H0, ok, l, sl, q⟩ => q W σ H ok l (Mo.refl W) sl
theorem dss_cons (h1 : DS X E st c) (h2 : DSs X E rest k) : DSs X E (st :: rest) (sSeq c k) := (pss_cons h1 h2).imp fun T σ H ⟨W, S, cs, W0, H0, ok, l, sl, q⟩ => ⟨W, S, cs, W0, H0, ok, l, sl, FO.seq q⟩
theorem dss_one (h1 : DS X E st c) : DSs X E [st] c := pss_one h1
def sPass : Cm := fun S cs => .nx S cs
theorem ds_pass : DS X E (.Pass pos) sPass := ps_pass.imp fun T σ H ⟨W, S, cs, W0, H0, ok, l, sl, q⟩ => q W σ H ok l (Mo.refl W) sl
def sBreak : Cm := fun S cs => .bk S cs
def sCont : Cm := fun S cs => .ct S cs
theorem ds_break : DS X E (.Break pos) sBreak := ps_break.imp fun T σ H ⟨W, S, cs, W0, H0, ok, l, sl, q⟩ => q W σ H ok l (Mo.refl W) sl
theorem ds_cont : DS X E (.Continue pos) sCont := ps_continue.imp fun T σ H ⟨W, S, cs, W0, H0, ok, l, sl, q⟩ => q W σ H ok l (Mo.refl W) sl
def sRet (f : Sem) : Cm := fun S cs => (f S cs).thenF .rt
theorem ds_ret (h : DE X E e f) : DS X E (.Return (some e) pos) (sRet f) := (ps_ret h).imp fun T σ H ⟨W, S, cs, W0, H0, ok, l, sl, q⟩ => by
  obtain ⟨W', S', cs', H0', ok', sl', q'⟩ := den.toF ok l sl q
  exact ⟨W', S', cs', H0', ok', sl', q'.imp fun v H1 ⟨W1, cs1, d, ok1, l1, sl1, _, r1, q1⟩ => q1 v W1 H1 ok1 l1 r1⟩
def sRetN : Cm := fun _ cs => .rt .non cs
theorem ds_retN : DS X E (.Return none pos) sRetN := ps_retN.imp fun T σ H ⟨W, S, cs, W0, H0, ok, l, sl, q⟩ => q .non W H ok l .non
def sDrop (f : Sem) : Cm := fun S cs => (f S cs).thenF fun _ cs => .nx S cs
theorem ds_drop (h : DE X E e f) (hs : swapsWith e none pos.line X.env = pure false := by rfl) : DS X E (.Expr e pos) (sDrop f) := (ps_expr h hs).imp fun T σ H ⟨W, S, cs, W0, H0, ok, l, sl, q⟩ => by
  obtain ⟨W', S', cs', H0', ok', sl', q'⟩ := den.toF ok l sl q
  exact ⟨W', S', cs', H0', ok', sl', q'.imp fun v H1 ⟨W1, cs1, d, ok1, l1, sl1, _, r1, q1⟩ => q1 W1 σ H1 ok1 l1 (Mo.refl _) sl1⟩
/-! ### stores -/
def sSet (i : Nat) (f : Sem) : Cm := fun S cs => (f S cs).thenF fun d cs => .nx (S.set i (.val d)) cs
theorem denS.set {T : Ends} {σ : SSt} {H : Hp} (q : denS X.K X.mg E (sSet i f) T σ H) : tAsg (den X.K X.mg E f) (gName i) T σ H := by
  obtain ⟨W, S, cs, W0, H0, ok, l, sl, q⟩ := q
  obtain ⟨W', S', cs', H0', ok', sl', q'⟩ := den.toF ok l sl q
  exact ⟨W', S', cs', H0', ok', sl', q'.imp fun v H1 ⟨W1, cs1, d, ok1, l1, sl1, _, r1, q1⟩ => q1 W1 _ H1 ok1 l1 (Mo.refl _) (sl1.setVal r1)⟩
theorem ds_set {pos' : Pos} (hN : X.N.Nodup) (hi : X.N[i]? = some x) (hx : Loc X.env.scope x) (he : DE X E e f) (hs : swapsWith e (some (.Name x pos')) pos.line X.env = pure false := by rfl) (hf : X.fn x = true ∨ X.env.scope.names.lookup x = some .local := by first | exact .inl rfl | exact .inr rfl | assumption) :
    DS X E (.Assign [.Name x pos'] e pos) (sSet i f) := (ps_set hN hi hx he hs hf).imp fun T σ H q => denS.set q
theorem ds_setLc {y : Str} {py : Pos} {elt tg iter : Expr} {ifs : List Expr} {scope : Scope} {own : List (Str × Nat)} {pos spos : Pos} {its : Its} {g : Tg} {ix : List Nat} {c f : Sem} (hc : X.calm = true) (hN : X.N.Nodup) (hy : X.N[i]? = some y) (hyl : X.env.scope.names.lookup y = some .local)
    (hsw : swapsWith (.ListComp elt [⟨tg, iter, ifs, 0⟩] scope pos) (some (.Name y py)) spos.line X.env = pure true) (hi : DI X E tg iter its) (ok : BlkOk X.N X.env.scope scope own) (hix : ∀ j ∈ ix, j ∈ own.map (·.2))
    (hg : ∀ (s : Shared) (H : Hp) (C : Addr) (cl : List (Str × Addr)) (fp : List Addr), DG (X.blk s H scope (compEnvC scope cl C X.env) fp) tg g ix) (ht : ∀ (s : Shared) (H : Hp) (C : Addr) (cl : List (Str × Addr)) (fp : List Addr), DTs (X.blk s H scope (compEnvC scope cl C X.env) fp) E0 ifs c)
    (he : ∀ (s : Shared) (H : Hp) (C : Addr) (cl : List (Str × Addr)) (fp : List Addr), DE (X.blk s H scope (compEnvC scope cl C X.env) fp) E0 elt f) (hs : ∀ x, foldedSetIterable iter X.env x = pure x := by intro _; rfl) :
    DS X E (.Assign [.Name y py] (.ListComp elt [⟨tg, iter, ifs, 0⟩] scope pos) spos) (sSet i (eLc its g c f (own.map (·.2)))) :=
  (ps_setLc hc hN hy hyl hsw hi ok hg ht he hs).imp fun T σ H q => lc_den hix (denS.set q)
def sAsg (g : Tg) (f : Sem) : Cm := fun S cs => (f S cs).thenF fun d cs => match g d S with
  | some S' => .nx S' cs
  | none => .bad
theorem ds_asg (he : DE X E e f) (hg : DG X tg g ix) (hs : swapsWithSole [tg] e pos.line X.env = pure false := by rfl) (hw : swappedStores [tg] e X.env = pure none := by rfl)
    (h1 : (assignEach [tg] X.env).map (·.2) = [assign tg X.env] := by rfl) : DS X E (.Assign [tg] e pos) (sAsg g f) := (ps_asg he hg hs hw h1).imp fun T σ H ⟨W, S, cs, W0, H0, ok, l, sl, q⟩ => by
  obtain ⟨W', S', cs', H0', ok', sl', q'⟩ := den.toF ok l sl q
  refine ⟨W', S', cs', H0', ok', sl', q'.imp fun v H1 ⟨W1, cs1, d, ok1, l1, sl1, _, r1, q1⟩ => ?_⟩
  cases hg : g d S with
  | none => rw [hg] at q1; exact q1.elim
  | some S' =>
    rw [hg] at q1
    exact ⟨W1, S, cs1, H0, d, S', ok1, sl1, r1, hg, fun σ' sl' _ _ => q1 W1 σ' H1 ok1 l1 (Mo.refl _) sl'⟩
/-- a, b = x, y -/
def sPar (i j : Nat) (gs : Sems) : Cm := fun S cs => (gs S cs).thenF fun ds cs => match ds with
  | [a, b] => .nx ((S.set i (.val a)).set j (.val b)) cs
  | _ => .bad
theorem ds_par {j : Nat} {x y : Str} {a b : Expr} {px py pt : Pos} {kt k2 pt2} (hc : X.calm = true) (hN : X.N.Nodup) (hi : X.N[i]? = some x) (hj : X.N[j]? = some y) (hij : i ≠ j)
    (hx : X.env.scope.names.lookup x = some .local) (hy : X.env.scope.names.lookup y = some .local) (ha : DA X E [a, b] gs)
    (hw : swappedStores [.Tuple [.Name x px, .Name y py] kt pt] (.Tuple [a, b] k2 pt2) X.env = pure (some [x, y]))
    (hs : swapsWithSole [.Tuple [.Name x px, .Name y py] kt pt] (.Tuple [a, b] k2 pt2) pos.line X.env = pure false := by rfl) :
    DS X E (.Assign [.Tuple [.Name x px, .Name y py] kt pt] (.Tuple [a, b] k2 pt2) pos) (sPar i j gs) := (ps_par hc hN hi hj hij hx hy ha hw hs).imp fun T σ H ⟨W, S, cs, W0, H0, ok, l, sl, q⟩ => by
  obtain ⟨W', S', cs', H0', ok', sl', q'⟩ := denA.toF ok l sl q
  refine ⟨W', S', cs', H0', ok', sl', q'.imp fun v H1 ⟨W1, cs1, d, ok1, l1, sl1, _, r1, q1⟩ => ?_⟩
  split at q1
  · obtain ⟨u, w, rfl, ru, rw'⟩ := r1.two_inv
    exact ⟨u, w, rfl, q1 W1 _ H1 ok1 l1 (Mo.refl _) ((sl1.setVal ru).setVal rw')⟩
  · exact q1.elim
def sPar3 (i j m : Nat) (gs : Sems) : Cm := fun S cs => (gs S cs).thenF fun ds cs => match ds with
  | [a, b, c] => .nx (((S.set i (.val a)).set j (.val b)).set m (.val c)) cs
  | _ => .bad
theorem ds_par3 {j l : Nat} {x y z : Str} {a b c : Expr} {px py pz pt : Pos} {kt k2 pt2} (hc : X.calm = true) (hN : X.N.Nodup) (hi : X.N[i]? = some x) (hj : X.N[j]? = some y) (hl : X.N[l]? = some z) (hij : i ≠ j) (hil : i ≠ l) (hjl : j ≠ l)
    (hx : X.env.scope.names.lookup x = some .local) (hy : X.env.scope.names.lookup y = some .local) (hz : X.env.scope.names.lookup z = some .local) (ha : DA X E [a, b, c] gs)
    (hw : swappedStores [.Tuple [.Name x px, .Name y py, .Name z pz] kt pt] (.Tuple [a, b, c] k2 pt2) X.env = pure (some [x, y, z]))
    (hs : swapsWithSole [.Tuple [.Name x px, .Name y py, .Name z pz] kt pt] (.Tuple [a, b, c] k2 pt2) pos.line X.env = pure false := by rfl) :
    DS X E (.Assign [.Tuple [.Name x px, .Name y py, .Name z pz] kt pt] (.Tuple [a, b, c] k2 pt2) pos) (sPar3 i j l gs) := (ps_par3 hc hN hi hj hl hij hil hjl hx hy hz ha hw hs).imp fun T σ H ⟨W, S, cs, W0, H0, ok, l0, sl, q⟩ => by
  obtain ⟨W', S', cs', H0', ok', sl', q'⟩ := denA.toF ok l0 sl q
  refine ⟨W', S', cs', H0', ok', sl', q'.imp fun v H1 ⟨W1, cs1, d, ok1, l1, sl1, _, r1, q1⟩ => ?_⟩
  split at q1
  · cases r1 with
    | cons ru r2 =>
      obtain ⟨w1, w2, rfl, r3, r4⟩ := r2.two_inv
      exact ⟨_, w1, w2, rfl, q1 W1 _ H1 ok1 l1 (Mo.refl _) (((sl1.setVal ru).setVal r3).setVal r4)⟩
  · exact q1.elim
/-! ### lists of one's own -/
def sOwn (i : Nat) (gs : Sems) : Cm := fun S cs => (gs S cs).thenF fun ds cs => if ds.length ≤ 1000000 then .nx (S.set i (.own ds)) cs else .bad
theorem Slots.newOwn {K : PySem.W.Frag} {mg : Str → Option Value} {W0 W W1 : Wd} {H0 H H1 : Hp} {cs1 : Cs} {σ : SSt} {S : List Sl} {p : Addr} {vs : List V} {ds : List D} (sl : Slots K mg W1 H0 H1 σ S) (h0 : H0 p = none) (hn : H1 p = none)
    (ok1 : Ok K mg W1 H1 cs1) (r : RepL K mg W1 vs ds) : Slots K mg W1 H0 (upd H1 p (.lst vs)) (σ.set i (some (.ref p))) (S.set i (.own ds)) := by
  obtain ⟨ok2, l2⟩ := ok1.apart (.lst vs) hn
  obtain ⟨g, n⟩ := ok1.fresh hn
  refine (sl.mono l2).setOwn ⟨p, vs, rfl, upd_same, r, g, n, h0⟩ fun j t hj e ho z => ?_
  have q := sl.get j t e
  rw [z] at q
  cases t with
  | un => cases ho
  | val d => cases ho
  | own xs => obtain ⟨p', vs', e', h', _⟩ := q; cases e'; rw [hn] at h'; cases h'
  | odct ks us => obtain ⟨p', vs', e', h', _⟩ := q; cases e'; rw [hn] at h'; cases h'
  | self c ns vs => obtain ⟨p', C, dx, fs, e', m, h', _⟩ := q; cases e'; rw [hn] at h'; cases h'
theorem Le.none {W0 W : Wd} {H0 H : Hp} {K : PySem.W.Frag} {mg : Str → Option Value} {cs : Cs} (ok : Ok K mg W H cs) (l : Le W0 H0 W H) {p : Addr} (h : H p = none) : H0 p = none := by
  cases e : H0 p with
  | none => rfl
  | some o =>
    by_cases hr : p ∈ W0.ρ
    · obtain ⟨l', e'⟩ := l.pre
      obtain ⟨_, vs, e2⟩ := ok.cl.mem (a := p) (by rw [e']; exact List.mem_append_left _ hr)
      rw [e2] at h; cases h
    · rw [l.keep p o e hr] at h; cases h
theorem ds_own {es : List Expr} {pos' lpos : Pos} (hN : X.N.Nodup) (hi : X.N[i]? = some x) (hx : Loc X.env.scope x) (ha : DA X E es gs) (hs : swapsWith (.List es lpos) (some (.Name x pos')) pos.line X.env = pure false := by rfl) (hf : X.fn x = true ∨ X.env.scope.names.lookup x = some .local := by first | exact .inl rfl | exact .inr rfl | assumption) :
    DS X E (.Assign [.Name x pos'] (.List es lpos) pos) (sOwn i gs) := (ps_set hN hi hx (pe_lst ha) hs hf).imp fun T σ H ⟨W, S, cs, W0, H0, ok, l, sl, q⟩ => by
  obtain ⟨W', S', cs', H0', ok', sl', q'⟩ := denA.toF ok l sl q
  refine ⟨W', S', cs', H0', ok', sl', q'.imp fun vs H1 ⟨W1, cs1, ds, ok1, l1, sl1, _, r1, q1⟩ => ?_⟩
  split at q1
  · refine ⟨by rw [r1.length]; exact line_of (by assumption), fun p hp => ?_⟩
    obtain ⟨ok2, l2⟩ := ok1.apart (.lst vs) hp
    exact q1 W1 _ _ ok2 (l1.trans ok1 l2) (Mo.refl _) (sl1.newOwn (W0 := W0) (W := W) (H := H) (l1.none ok1 hp) hp ok1 r1)
  · exact q1.elim
/-- x = y + z, two lists, x to grow later -/
def sOwnCat (i : Nat) (f g : Sem) : Cm := fun S cs => (f S cs).thenF fun a cs => (g S cs).thenF fun b cs => match a, b with
  | .lst a, .lst b => if a.length + b.length ≤ 1000000 then .nx (S.set i (.own (a ++ b))) cs else .bad
  | _, _ => .bad
theorem ds_ownCat {a b : Expr} {fb : Sem} {pos' lpos : Pos} (hN : X.N.Nodup) (hi : X.N[i]? = some x) (hx : Loc X.env.scope x) (ha : DE X E a f) (hb : DE X E b fb) (hs : swapsWith (.BinOp a .Add b lpos) (some (.Name x pos')) pos.line X.env = pure false := by rfl) (hf : X.fn x = true ∨ X.env.scope.names.lookup x = some .local := by first | exact .inl rfl | exact .inr rfl | assumption) :
    DS X E (.Assign [.Name x pos'] (.BinOp a .Add b lpos) pos) (sOwnCat i f fb) := (ps_set hN hi hx (pe_op op_cat ha hb) hs hf).imp fun T σ H ⟨W, S, cs, W0, H0, ok, l, sl, q⟩ => by
  obtain ⟨W', S', cs', H0', ok', sl', q'⟩ := den.toF ok l sl q
  refine ⟨W', S', cs', H0', ok', sl', q'.imp fun v1 H1 ⟨W1, cs1, d1, ok1, l1, sl1, _, r1, q1⟩ => ?_⟩
  obtain ⟨W2, S2, cs2, H02, ok2, sl2, q2⟩ := den.toF ok1 l1 sl1 q1
  refine ⟨W2, S2, cs2, H02, ok2, sl2, q2.imp fun v3 H3 ⟨W3, cs3, d3, ok3, l3, sl3, l13, r3, q3⟩ => ?_⟩
  split at q3
  · split at q3
    · rename_i hz
      cases r1 with
      | @lst a1 xs da ha1 ra1 => cases r3 with
        | @lst a2 ys db ha2 ra2 =>
          refine ⟨a1, a2, xs, ys, rfl, rfl, ok3.ex _ _ (l13.ex _ _ ha1), ok3.ex _ _ ha2, by rw [ra1.length, ra2.length]; exact line_of hz, fun p hp => ?_⟩
          obtain ⟨ok4, l4⟩ := ok3.apart (.lst (xs ++ ys)) hp
          exact q3 W3 _ _ ok4 (l3.trans ok3 l4) (Mo.refl _) (sl3.newOwn (W0 := W0) (W := W) (H := H) (l3.none ok3 hp) hp ok3 ((ra1.le l13).append ra2))
    · exact q3.elim
  · exact q3.elim
theorem Slots.ownAt {K : PySem.W.Frag} {mg : Str → Option Value} {W : Wd} {H0 H : Hp} {σ : SSt} {S : List Sl} (sl : Slots K mg W H0 H σ S) {xs : List D} (e : S[i]? = some (.own xs)) :
    ∃ p vs, σ[i]? = some (some (.ref p)) ∧ H p = some (.lst vs) ∧ RepL K mg W vs xs ∧ W.G p = none ∧ p ∉ W.ρ ∧ H0 p = none := sl.get i _ e
theorem Slots.putOwn {K : PySem.W.Frag} {mg : Str → Option Value} {W : Wd} {H0 H : Hp} {cs : Cs} {σ : SSt} {S : List Sl} (ok : Ok K mg W H cs) (sl : Slots K mg W H0 H σ S) {xs : List D} (e : S[i]? = some (.own xs)) {p : Addr} (hσ : σ[i]? = some (some (.ref p)))
    (g : W.G p = none) (n : p ∉ W.ρ) (h0 : H0 p = none) {vs : List V} {ys : List D} (r : RepL K mg W vs ys) : Slots K mg W H0 (upd H p (.lst vs)) σ (S.set i (.own ys)) := by
  have hi : i < S.length := (List.getElem?_eq_some_iff.mp e).1
  refine ⟨by rw [List.length_set]; exact sl.len, fun j s ej => ?_, fun j k s t q ne e1 e2 o1 o2 z => ?_⟩
  · by_cases h : i = j
    · subst h
      rw [List.getElem?_set_self hi] at ej
      cases ej
      exact ⟨p, vs, hσ, upd_same, r, g, n, h0⟩
    · rw [List.getElem?_set_ne h] at ej
      have q := sl.get j s ej
      have ap : ∀ p', s.owns = true → σ[j]? = some (some (.ref p')) → p' ≠ p := fun p' ho ez y => by
        subst y
        exact sl.sep i j _ _ p' h e ej rfl ho hσ ez
      cases s with
      | un => trivial
      | val d => exact q
      | own zs => obtain ⟨p', vs', a1, a2, a3, a4, a5, a6⟩ := q; exact ⟨p', vs', a1, by rw [upd_ne (ap p' rfl a1)]; exact a2, a3, a4, a5, a6⟩
      | odct zs us => obtain ⟨p', vs', a1, a2, a3, a4, a5, a6⟩ := q; exact ⟨p', vs', a1, by rw [upd_ne (ap p' rfl a1)]; exact a2, a3, a4, a5, a6⟩
      | self c ns us => obtain ⟨p', C, dx, fs, a1, a2, a3, a4, a5, a6, a7, a8⟩ := q; exact ⟨p', C, dx, fs, a1, a2, by rw [upd_ne (ap p' rfl a1)]; exact a3, a4, a5, a6, a7, a8⟩
  · have own : ∀ (m : Nat) (s' : Sl), (S.set i (.own ys))[m]? = some s' → s'.owns = true → ∃ s'' : Sl, S[m]? = some s'' ∧ s''.owns = true := fun m s' em om => by
      by_cases h : i = m
      · subst h; exact ⟨_, e, rfl⟩
      · rw [List.getElem?_set_ne h] at em; exact ⟨s', em, om⟩
    obtain ⟨s1, f1, p1⟩ := own j s e1 o1
    obtain ⟨s2, f2, p2⟩ := own k t e2 o2
    exact sl.sep j k s1 s2 q ne f1 f2 p1 p2 z
def sApp (i : Nat) (f : Sem) : Cm := fun S cs => match S[i]? with
  | some (.own xs) => (f S cs).thenF fun d cs => if xs.length < 1000000 then .nx (S.set i (.own (xs ++ [d]))) cs else .bad
  | _ => .bad
theorem ds_app {px apos cpos : Pos} {y : Expr} (hi : PE X (.Name x px) (tVar i)) (ha : DE X E y f)
    (hbase : attributeBase (.Name x px) "append" X.env (eval (.Name x px) X.env) = eval (.Name x px) X.env := by rfl)
    (hfew : ((backTo cpos (starEach [y] X.env)).all (fun x => !x.1) && (backToKw cpos (keywordEach [] X.env)).all (fun x => x.1.isSome)
      && decide (([y] : List Expr).length + ([] : List Keyword).length + (if ([] : List Keyword).isEmpty then 0 else 1) < 30)) = true := by rfl)
    (hline : (apos.endLine == cpos.line) = true := by rfl) (hs : starEach [y] X.env = (false, eval y X.env) :: starEach [] X.env := by rfl) (hplain : (backTo cpos (starEach [] X.env)).any (·.1) = false := by rfl)
    (hsw : swapsWith (.Call (.Attribute (.Name x px) "append" apos) [y] [] cpos) none pos.line X.env = pure false := by rfl) :
    DS X E (.Expr (.Call (.Attribute (.Name x px) "append" apos) [y] [] cpos) pos) (sApp i f) :=
  (ps_expr (pe_bm PySem.F.plainAttrs_list PySem.F.slot_list_append PySem.F.type_list_append mt_append hi (pa_cons ha pa_nil hs) hbase hfew hline hs hplain) hsw).imp fun T σ H ⟨W, S, cs, W0, H0, ok, l, sl, q⟩ => by
    unfold sApp at q
    split at q
    · rename_i xs e
      obtain ⟨p, vs, hσ, hp, r, g, n, h0⟩ := sl.ownAt e
      refine ⟨.ref p, hσ, .inl ⟨rfl, _, .inl (.inl hp)⟩, ?_⟩
      obtain ⟨W', S', cs', H0', ok', sl', q'⟩ := den.toF ok l sl q
      refine ⟨W', S', cs', H0', ok', sl', q'.imp fun v H1 ⟨W1, cs1, d, ok1, l1, sl1, l01, r1, q1⟩ => ?_⟩
      split at q1
      · rename_i hz
        have nD := l01.new p (by rw [hp]; simp) g n
        have hp1 := l01.keep p _ hp n
        refine ⟨p, vs, v, rfl, rfl, hp1, by rw [r.length]; exact line_lt hz, ?_⟩
        obtain ⟨ok2, l2⟩ := ok1.change l1 (.lst (vs ++ [v])) nD.1 nD.2 h0
        exact q1 W1 σ _ ok2 l2 (Mo.refl _) (sl1.putOwn ok1 e hσ nD.1 nD.2 h0 ((r.le l01).append (.one r1)))
      · exact q1.elim
    · exact q.elim
def sExt (i : Nat) (f : Sem) : Cm := fun S cs => match S[i]? with
  | some (.own xs) => (f S cs).thenF fun d cs => match d with
    | .lst ys => if xs.length + ys.length ≤ 1000000 then .nx (S.set i (.own (xs ++ ys))) cs else .bad
    | _ => .bad
  | _ => .bad
theorem ds_ext {px apos cpos : Pos} {y : Expr} (hi : PE X (.Name x px) (tVar i)) (ha : DE X E y f)
    (hbase : attributeBase (.Name x px) "extend" X.env (eval (.Name x px) X.env) = eval (.Name x px) X.env := by rfl)
    (hfew : ((backTo cpos (starEach [y] X.env)).all (fun x => !x.1) && (backToKw cpos (keywordEach [] X.env)).all (fun x => x.1.isSome)
      && decide (([y] : List Expr).length + ([] : List Keyword).length + (if ([] : List Keyword).isEmpty then 0 else 1) < 30)) = true := by rfl)
    (hline : (apos.endLine == cpos.line) = true := by rfl) (hs : starEach [y] X.env = (false, eval y X.env) :: starEach [] X.env := by rfl) (hplain : (backTo cpos (starEach [] X.env)).any (·.1) = false := by rfl)
    (hsw : swapsWith (.Call (.Attribute (.Name x px) "extend" apos) [y] [] cpos) none pos.line X.env = pure false := by rfl) :
    DS X E (.Expr (.Call (.Attribute (.Name x px) "extend" apos) [y] [] cpos) pos) (sExt i f) :=
  (ps_expr (pe_bm PySem.F.plainAttrs_list PySem.F.slot_list_extend PySem.F.type_list_extend mt_extend hi (pa_cons ha pa_nil hs) hbase hfew hline hs hplain) hsw).imp fun T σ H ⟨W, S, cs, W0, H0, ok, l, sl, q⟩ => by
    unfold sExt at q
    split at q
    · rename_i xs e
      obtain ⟨p, vs, hσ, hp, r, g, n, h0⟩ := sl.ownAt e
      refine ⟨.ref p, hσ, .inl ⟨rfl, _, .inl (.inl hp)⟩, ?_⟩
      obtain ⟨W', S', cs', H0', ok', sl', q'⟩ := den.toF ok l sl q
      refine ⟨W', S', cs', H0', ok', sl', q'.imp fun v H1 ⟨W1, cs1, d, ok1, l1, sl1, l01, r1, q1⟩ => ?_⟩
      split at q1
      · split at q1
        · rename_i ys hz
          cases r1 with
          | @lst b zs _ hb rb =>
            have nD := l01.new p (by rw [hp]; simp) g n
            have hp1 := l01.keep p _ hp n
            refine ⟨p, b, vs, zs, rfl, rfl, hp1, ok1.ex _ _ hb, by rw [r.length, rb.length]; exact line_of hz, ?_⟩
            obtain ⟨ok2, l2⟩ := ok1.change l1 (.lst (vs ++ zs)) nD.1 nD.2 h0
            exact q1 W1 σ _ ok2 l2 (Mo.refl _) (sl1.putOwn ok1 e hσ nD.1 nD.2 h0 ((r.le l01).append rb))
        · exact q1.elim
      · exact q1.elim
    · exact q.elim
/-- from here on the lists are read alone -/
def frz1 (S : List Sl) (i : Nat) : List Sl := match S[i]? with
  | some (.own xs) => S.set i (.val (.lst xs))
  | some (.odct ks us) => S.set i (.val (.dct ks us))
  | _ => S
def frzS (S : List Sl) : List Nat → List Sl
  | [] => S
  | i :: is => frz1 (frzS S is) i
def sFrz (is : List Nat) (c : Cm) : Cm := fun S cs => c (frzS S is) cs
theorem Slots.frz1 {K : PySem.W.Frag} {mg : Str → Option Value} {W0 W : Wd} {H0 H : Hp} {cs : Cs} {σ : SSt} {S : List Sl} (ok : Ok K mg W H cs) (l : Le W0 H0 W H) (sl : Slots K mg W H0 H σ S) (i : Nat) :
    ∃ W', Ok K mg W' H cs ∧ Le W0 H0 W' H ∧ Mo W W' ∧ Slots K mg W' H0 H σ (LL.frz1 S i) := by
  unfold LL.frz1
  split
  · rename_i xs e
    obtain ⟨p, vs, hσ, hp, r, g, n, h0⟩ := sl.ownAt e
    obtain ⟨ok2, l2, ex⟩ := ok.freeze l hp g n h0
    have hi : i < S.length := (List.getElem?_eq_some_iff.mp e).1
    refine ⟨_, ok2, l2, ⟨⟨[], by simp⟩, ex, rfl⟩, by rw [List.length_set]; exact sl.len, fun j s ej => ?_, fun j k s t q ne e1 e2 o1 o2 z => ?_⟩
    · by_cases h : i = j
      · subst h
        rw [List.getElem?_set_self hi] at ej
        cases ej
        exact ⟨.ref p, hσ, .lst upd_same (r.mono ⟨[], by simp⟩ ex)⟩
      · rw [List.getElem?_set_ne h] at ej
        have q := sl.get j s ej
        have ap : ∀ p', s.owns = true → σ[j]? = some (some (.ref p')) → p' ≠ p := fun p' ho ez y => by
          subst y
          exact sl.sep i j _ _ p' h e ej rfl ho hσ ez
        cases s with
        | un => trivial
        | val d => obtain ⟨v, a1, a2⟩ := q; exact ⟨v, a1, a2.mono ⟨[], by simp⟩ ex⟩
        | own zs => obtain ⟨p', vs', a1, a2, a3, a4, a5, a6⟩ := q; exact ⟨p', vs', a1, a2, a3.mono ⟨[], by simp⟩ ex, (upd_ne (ap p' rfl a1)).trans a4, a5, a6⟩
        | odct zs us => obtain ⟨p', vs', a1, a2, ⟨r1, r2, nd⟩, a4, a5, a6⟩ := q; exact ⟨p', vs', a1, a2, ⟨r1.mono ⟨[], by simp⟩ ex, r2.mono ⟨[], by simp⟩ ex, nd⟩, (upd_ne (ap p' rfl a1)).trans a4, a5, a6⟩
        | self c ns us => obtain ⟨p', C, dx, fs, a1, a2, a3, a4, a5, a6, a7, a8⟩ := q; exact ⟨p', C, dx, fs, a1, a2, a3, a4, a5.mono ⟨[], by simp⟩ ex, (upd_ne (ap p' rfl a1)).trans a6, a7, a8⟩
    · have nj : i ≠ j := fun y => by subst y; rw [List.getElem?_set_self hi] at e1; cases e1; cases o1
      have nk : i ≠ k := fun y => by subst y; rw [List.getElem?_set_self hi] at e2; cases e2; cases o2
      rw [List.getElem?_set_ne nj] at e1
      rw [List.getElem?_set_ne nk] at e2
      exact sl.sep j k s t q ne e1 e2 o1 o2 z
  · rename_i ks us e
    obtain ⟨p, kvs, hσ, hp, ⟨r1, r2, nd⟩, g, n, h0⟩ := sl.get i _ e
    obtain ⟨ok2, l2, ex⟩ := ok.freeze l hp g n h0
    have hi : i < S.length := (List.getElem?_eq_some_iff.mp e).1
    refine ⟨_, ok2, l2, ⟨⟨[], by simp⟩, ex, rfl⟩, by rw [List.length_set]; exact sl.len, fun j s ej => ?_, fun j k s t q ne e1 e2 o1 o2 z => ?_⟩
    · by_cases h : i = j
      · subst h
        rw [List.getElem?_set_self hi] at ej
        cases ej
        exact ⟨.ref p, hσ, .dct upd_same (r1.mono ⟨[], by simp⟩ ex) (r2.mono ⟨[], by simp⟩ ex)⟩
      · rw [List.getElem?_set_ne h] at ej
        have q := sl.get j s ej
        have ap : ∀ p', s.owns = true → σ[j]? = some (some (.ref p')) → p' ≠ p := fun p' ho ez y => by
          subst y
          exact sl.sep i j _ _ p' h e ej rfl ho hσ ez
        cases s with
        | un => trivial
        | val d => obtain ⟨v, a1, a2⟩ := q; exact ⟨v, a1, a2.mono ⟨[], by simp⟩ ex⟩
        | own zs => obtain ⟨p', vs', a1, a2, a3, a4, a5, a6⟩ := q; exact ⟨p', vs', a1, a2, a3.mono ⟨[], by simp⟩ ex, (upd_ne (ap p' rfl a1)).trans a4, a5, a6⟩
        | odct zs us => obtain ⟨p', vs', a1, a2, ⟨q1, q2, qd⟩, a4, a5, a6⟩ := q; exact ⟨p', vs', a1, a2, ⟨q1.mono ⟨[], by simp⟩ ex, q2.mono ⟨[], by simp⟩ ex, qd⟩, (upd_ne (ap p' rfl a1)).trans a4, a5, a6⟩
        | self c ns us => obtain ⟨p', C, dx, fs, a1, a2, a3, a4, a5, a6, a7, a8⟩ := q; exact ⟨p', C, dx, fs, a1, a2, a3, a4, a5.mono ⟨[], by simp⟩ ex, (upd_ne (ap p' rfl a1)).trans a6, a7, a8⟩
    · have nj : i ≠ j := fun y => by subst y; rw [List.getElem?_set_self hi] at e1; cases e1; cases o1
      have nk : i ≠ k := fun y => by subst y; rw [List.getElem?_set_self hi] at e2; cases e2; cases o2
      rw [List.getElem?_set_ne nj] at e1
      rw [List.getElem?_set_ne nk] at e2
      exact sl.sep j k s t q ne e1 e2 o1 o2 z
  · exact ⟨W, ok, l, Mo.refl W, sl⟩
theorem Slots.frzS {K : PySem.W.Frag} {mg : Str → Option Value} {W0 : Wd} {H0 H : Hp} {cs : Cs} {σ : SSt} {S : List Sl} : ∀ (is : List Nat) {W : Wd}, Ok K mg W H cs → Le W0 H0 W H → Slots K mg W H0 H σ S → ∃ W', Ok K mg W' H cs ∧ Le W0 H0 W' H ∧ Mo W W' ∧ Slots K mg W' H0 H σ (LL.frzS S is)
  | [], W, ok, l, sl => ⟨W, ok, l, Mo.refl W, sl⟩
  | i :: is, W, ok, l, sl => by
    obtain ⟨W1, ok1, l1, m1, sl1⟩ := Slots.frzS is ok l sl
    obtain ⟨W2, ok2, l2, m2, sl2⟩ := Slots.frz1 ok1 l1 sl1 i
    exact ⟨W2, ok2, l2, m1.trans m2, sl2⟩
theorem ds_frz (is : List Nat) (h : DS X E st c) : DS X E st (sFrz is c) := h.imp fun T σ H ⟨W, S, cs, W0, H0, ok, l, sl, q⟩ => by
  obtain ⟨W', ok', l', m', sl'⟩ := Slots.frzS is ok l sl
  exact ⟨W', _, cs, W0, H0, ok', l', sl', FO.mo m' q⟩
/-- how long a list of one's own is -/
def eLenV (i : Nat) : Sem := fun S cs => match S[i]? with
  | some (.own xs) => .ok (.int xs.length) cs
  | _ => .bad
theorem de_lenV {p px : Pos} (hg : Gl X "len") (hm : X.mg "len" = none) (hi : PE X (.Name x px) (tVar i)) (hs : starEach [.Name x px] X.env = (false, eval (.Name x px) X.env) :: starEach [] X.env := by rfl) : DE X E (.Call (.Name "len" p) [.Name x px] [] pos) (eLenV i) :=
  (pe_callB call_len_seq hg hm (by decide +kernel) (pa_cons hi pa_nil hs) (he := hs)).imp fun σ H Q ⟨W, S, cs, H0, ok, sl, q⟩ => by
    unfold eLenV at q
    split at q
    · rename_i xs e
      obtain ⟨p, vs, hσ, hp, r, g, n, h0⟩ := sl.ownAt e
      refine ⟨.ref p, hσ, p, vs, rfl, .inl (.inl (.inl hp)), ?_⟩
      rw [r.length]
      exact RO.ok_ ok q (.int _)
    · exact q.elim
/-! ### a cell's item -/
def sCell (fo fi f : Sem) : Cm := fun S cs => (f S cs).thenF fun d cs => (fo S cs).thenF fun o cs => (fi S cs).thenF fun j cs => match o, j with
  | .cell n, .int k => (match cs[n]? with
    | some xs => (match ixN xs.length k with
      | some m => .nx S (cs.set n (xs.set m d))
      | none => .bad)
    | none => .bad)
  | _, _ => .bad
theorem ds_cell {ie : Expr} {pos' : Pos} (ho : DE X E o fo) (hi : DE X E ie fi) (he : DE X E e f)
    (ha : ∀ v, assign (.Subscript o ie pos') X.env v = (do
      let ov ← holding [v] (eval o X.env)
      let iv ← holding [v, ov] (eval ie X.env)
      standAt pos'
      holding [v, ov, iv] (setItem ov iv v)
      release [v, ov, iv] []) := by intro _; rfl)
    (hs : swapsWithSole [.Subscript o ie pos'] e pos.line X.env = pure false := by rfl) (hw : swappedStores [.Subscript o ie pos'] e X.env = pure none := by rfl)
    (h1 : (assignEach [.Subscript o ie pos'] X.env).map (·.2) = [assign (.Subscript o ie pos') X.env] := by rfl) : DS X E (.Assign [.Subscript o ie pos'] e pos) (sCell fo fi f) :=
  (ps_asg he (pg_sub ho hi set_list ha) hs hw h1).imp fun T σ H ⟨W, S, cs, W0, H0, ok, l, sl, q⟩ => by
    obtain ⟨W', S', cs', H0', ok', sl', q'⟩ := den.toF ok l sl q
    refine ⟨W', S', cs', H0', ok', sl', q'.imp fun v H1 ⟨W1, cs1, d, ok1, l1, sl1, l01, r1, q1⟩ => ?_⟩
    obtain ⟨W2, S2, cs2, H02, ok2, sl2, q2⟩ := den.toF ok1 l1 sl1 q1
    refine ⟨W2, S2, cs2, H02, ok2, sl2, q2.imp fun v3 H3 ⟨W3, cs3, d3, ok3, l3, sl3, l13, r3, q3⟩ => ?_⟩
    obtain ⟨W4, S4, cs4, H04, ok4, sl4, q4⟩ := den.toF ok3 l3 sl3 q3
    refine ⟨W4, S4, cs4, H04, ok4, sl4, q4.imp fun v5 H5 ⟨W5, cs5, d5, ok5, l5, sl5, l35, r5, q5⟩ => ?_⟩
    split at q5
    · cases r5
      have r3' := r3.le l35
      cases r3' with
      | @cell a n hn =>
        obtain ⟨ds, vs, e1, e2, e3, e4⟩ := ok5.cl.get hn
        rw [e1] at q5
        dsimp only at q5
        split at q5
        · rename_i m hm
          refine ⟨a, vs, _, m, rfl, rfl, e3, by rw [e4.length]; exact hm, ?_⟩
          obtain ⟨ok6, l6⟩ := ok5.cellPut hn (RepL.set ((r1.le l13).le l35) m e4)
          exact q5 W5 σ _ ok6 (l5.trans ok5 l6) (Mo.refl _) (sl5.mono l6)
        · exact q5.elim
    · exact q5.elim
/-! ### if, for, while -/
def sIf (t : Sem) (c k : Cm) : Cm := fun S cs => (asB (t S cs)).thenF fun b cs => if b then c S cs else k S cs
theorem ds_if {ce : Expr} (hc : DT X E ce t) (ha : DSs X E a c) (hb : DSs X E b k) : DS X E (.If ce a b pos) (sIf t c k) := (ps_if hc ha hb).imp fun T σ H ⟨W, S, cs, W0, H0, ok, l, sl, q⟩ => by
  obtain ⟨W', S', cs', H0', ok', sl', q'⟩ := denT.toF ok l sl q
  refine ⟨W', S', cs', H0', ok', sl', q'.imp fun b H1 ⟨W1, cs1, ok1, l1, sl1, q1⟩ => ?_⟩
  cases b with
  | true => exact ⟨W1, S, cs1, W0, H0, ok1, l1, sl1, q1⟩
  | false => exact ⟨W1, S, cs1, W0, H0, ok1, l1, sl1, q1⟩
def forLoop (g : Tg) (c : Cm) : List D → List Sl → Cs → Fl
  | [], S, cs => .nx S cs
  | d :: ds, S, cs => match g d S with
    | none => .bad
    | some S1 => match c S1 cs with
      | .nx S2 cs2 => forLoop g c ds S2 cs2
      | .ct S2 cs2 => forLoop g c ds S2 cs2
      | .bk S2 cs2 => .nx S2 cs2
      | r => r
def sFor (its : Its) (g : Tg) (c : Cm) : Cm := fun S cs => (its S cs).thenF fun ds cs => forLoop g c ds S cs
theorem ds_for {iter : Expr} {body : List Stmt} {its : Its} (hp : PassesOwn (model X.prog X.w) X.A X.env X.xe) (hc : X.calm = true) (hi : DI X E tg iter its) (hg : DG X tg g ix) (hb : DSs X E body c)
    (hs : ∀ x, foldedSetIterable iter X.env x = pure x := by intro _; rfl) : DS X E (.For tg iter body [] pos) (sFor its g c) := (ps_for hp hc hi hg hb hs).imp fun T σ H ⟨W, S, cs, W0, H0, ok, l, sl, q⟩ => by
  refine ⟨W, S, cs, H0, ok, sl, (RO.toF (R := ItOk X.K X.mg) ok l q).imp fun J H1 ⟨W1, cs1, ds, ok1, l01, l1, hJ, q1⟩ => ?_⟩
  let Inv' : Nat → SSt → Hp → Prop := fun i σ H2 => ∃ (W2 : Wd) (S2 : List Sl) (cs2 : Cs), Ok X.K X.mg W2 H2 cs2 ∧ Le W0 H0 W2 H2 ∧ Mo W1 W2 ∧ Slots X.K X.mg W2 H0 H2 σ S2 ∧ FO X.K X.mg E W0 H0 W2 (forLoop g c (ds.drop i) S2 cs2) T
  refine ⟨fun i m σ H2 => i ≤ ds.length ∧ m = ds.length - i ∧ Inv' i σ H2, ⟨ds.length, Nat.zero_le _, rfl, W1, S, cs1, ok1, l1, Mo.refl _, sl.mono l01, q1⟩, ?_⟩
  rintro i m σ2 H2 ⟨hi', rfl, W2, S2, cs2, ok2, l2, m2, sl2, hF⟩
  have hit := hJ i W2 H2 cs2 ok2 m2.pre m2.ex
  by_cases hlt : i < ds.length
  · obtain ⟨hgo, hyl⟩ := hit.1 _ (List.getElem?_eq_getElem hlt)
    rw [List.drop_eq_getElem_cons hlt] at hF
    refine .inr ⟨hgo, Inv' (i + 1), fun σ' H' h => ⟨ds.length - (i + 1), by omega, by omega, rfl, h⟩, fun x H3 hy => ?_⟩
    obtain ⟨W3, ok3, l3, r3⟩ := hyl x H3 hy
    have hF : FO X.K X.mg E W0 H0 W2 (match g ds[i] S2 with | none => .bad | some S1 => match c S1 cs2 with | .nx S2 cs2 => forLoop g c (ds.drop (i + 1)) S2 cs2 | .ct S2 cs2 => forLoop g c (ds.drop (i + 1)) S2 cs2 | .bk S2 cs2 => .nx S2 cs2 | r => r) T := hF
    cases hg : g ds[i] S2 with
    | none => rw [hg] at hF; exact hF.elim
    | some S1 =>
      rw [hg] at hF
      dsimp only at hF
      refine ⟨W3, S2, cs2, H0, ds[i], S1, ok3, sl2.mono l3, r3, hg, fun σ3 sl3 _ _ => ⟨W3, S1, cs2, W0, H0, ok3, l2.trans ok2 l3, sl3, ?_⟩⟩
      cases hcc : c S1 cs2 with
      | nx S4 cs4 => rw [hcc] at hF; exact fun W' σ' H' o l m sl => ⟨W', S4, cs4, o, l, (m2.trans l3.mo).trans m, sl, FO.mo (l3.mo.trans m) hF⟩
      | ct S4 cs4 => rw [hcc] at hF; exact fun W' σ' H' o l m sl => ⟨W', S4, cs4, o, l, (m2.trans l3.mo).trans m, sl, FO.mo (l3.mo.trans m) hF⟩
      | bk S4 cs4 => rw [hcc] at hF; exact fun W' σ' H' o l m sl => hF W' σ' H' o l (l3.mo.trans m) sl
      | rt d cs4 => rw [hcc] at hF; exact hF
      | exc cl ns vs cs4 => rw [hcc] at hF; exact hF
      | bad => rw [hcc] at hF; exact hF
  · have hii : i = ds.length := by omega
    refine .inl ⟨hit.2 hii, ?_⟩
    rw [List.drop_eq_nil_of_le (by omega)] at hF
    exact hF W2 σ2 H2 ok2 l2 (Mo.refl _) sl2
def whileLoop (t : Sem) (c : Cm) : Nat → List Sl → Cs → Fl
  | 0, _, _ => .bad
  | n + 1, S, cs => (asB (t S cs)).thenF fun b cs => if b then (match c S cs with
      | .nx S2 cs2 => whileLoop t c n S2 cs2
      | .ct S2 cs2 => whileLoop t c n S2 cs2
      | .bk S2 cs2 => .nx S2 cs2
      | r => r) else .nx S cs
def sWhile (n : Nat) (t : Sem) (c : Cm) : Cm := fun S cs => whileLoop t c n S cs
theorem ds_while {ce : Expr} {body : List Stmt} (n : Nat) (hp : PassesOwn (model X.prog X.w) X.A X.env X.xe) (hc : DT X E ce t) (hb : DSs X E body c) : DS X E (.While ce body [] pos) (sWhile n t c) := (ps_while hp hc hb).imp fun T σ H ⟨W, S, cs, W0, H0, ok, l, sl, q⟩ => by
  refine ⟨fun m σ H2 => ∃ (W2 : Wd) (S2 : List Sl) (cs2 : Cs), Ok X.K X.mg W2 H2 cs2 ∧ Le W0 H0 W2 H2 ∧ Slots X.K X.mg W2 H0 H2 σ S2 ∧ FO X.K X.mg E W0 H0 W2 (whileLoop t c m S2 cs2) T, ⟨n, W, S, cs, ok, l, sl, q⟩, ?_⟩
  rintro m σ2 H2 ⟨W2, S2, cs2, ok2, l2, sl2, hF⟩
  cases m with
  | zero => exact hF.elim
  | succ m =>
    obtain ⟨W', S', cs', H0', ok', sl', q'⟩ := denT.toF ok2 l2 sl2 hF
    refine ⟨W', S', cs', H0', ok', sl', q'.imp fun b H3 ⟨W3, cs3, ok3, l3, sl3, hF⟩ => ?_⟩
    cases b with
    | false => exact hF W3 σ2 H3 ok3 l3 (Mo.refl _) sl3
    | true =>
      refine ⟨fun σ' H' => ∃ (W2 : Wd) (S2 : List Sl) (cs2 : Cs), Ok X.K X.mg W2 H' cs2 ∧ Le W0 H0 W2 H' ∧ Slots X.K X.mg W2 H0 H' σ' S2 ∧ FO X.K X.mg E W0 H0 W2 (whileLoop t c m S2 cs2) T, fun σ' H' h => ⟨m, Nat.lt_succ_self _, h⟩, W3, S2, cs3, W0, H0, ok3, l3, sl3, ?_⟩
      have hF : FO X.K X.mg E W0 H0 W3 (match c S2 cs3 with | .nx S2 cs2 => whileLoop t c m S2 cs2 | .ct S2 cs2 => whileLoop t c m S2 cs2 | .bk S2 cs2 => .nx S2 cs2 | r => r) T := hF
      cases hcc : c S2 cs3 with
      | nx S4 cs4 => rw [hcc] at hF; exact fun W' σ' H' o l m sl => ⟨W', S4, cs4, o, l, sl, FO.mo m hF⟩
      | ct S4 cs4 => rw [hcc] at hF; exact fun W' σ' H' o l m sl => ⟨W', S4, cs4, o, l, sl, FO.mo m hF⟩
      | bk S4 cs4 => rw [hcc] at hF; exact fun W' σ' H' o l m sl => hF W' σ' H' o l m sl
      | rt d cs4 => rw [hcc] at hF; exact hF
      | exc cl ns vs cs4 => rw [hcc] at hF; exact hF
      | bad => rw [hcc] at hF; exact hF
/-- a statement that is never come to -/
def sBad : Cm := fun _ _ => .bad
theorem ds_bad : DS X E st sBad := ps_never.imp fun T σ H ⟨_, _, _, _, _, _, _, _, q⟩ => q.elim
theorem de_docs {z : Str} {j : Nat} {p2 : Pos} : DS X E (.Expr (.Constant (.str z) j p2) pos) sPass := ps_doc.imp fun T σ H ⟨W, S, cs, W0, H0, ok, l, sl, q⟩ => q W σ H ok l (Mo.refl W) sl
end
end LL

set_option Elab.async false
set_option linter.all false
set_option maxRecDepth 100000
set_option maxHeartbeats 4000000
/-! defs, calls, objects made, over plain data (nothing is raised) -/
namespace LL
open PySem PySem.Spec PyProof.Rows L2

abbrev Fn := List D → Cs → Res D
def fnRes (r : Fl) : Res D := match r with
  | .rt d cs => .ok d cs
  | .nx _ cs => .ok .non cs
  | .exc c ns vs cs => .exc c ns vs cs
  | _ => .bad
@[simp] theorem fnRes_rt (d : D) (cs : Cs) : fnRes (.rt d cs) = .ok d cs := rfl
@[simp] theorem fnRes_nx (S : List Sl) (cs : Cs) : fnRes (.nx S cs) = .ok .non cs := rfl
def fnSem (n N : Nat) (c : Cm) : Fn := fun ds cs => if ds.length = n then fnRes (c (ds.map .val ++ List.replicate (N - n) .un) cs) else .bad
/-- what a def promises -/
def spF (K : PySem.W.Frag) (mg : Str → Option Value) (n : Nat) (f : Fn) : Sp := fun vs H Q _ => ∃ W ds cs, Ok K mg W H cs ∧ RepL K mg W vs ds ∧ ds.length = n ∧ RO K mg E0 (Rep K mg) W H (noX (f ds cs)) Q
section
variable {P : Program} {w : World} {K : PySem.W.Frag} {mg : Str → Option Value} {base : Heap}
theorem slots_start {W : Wd} {H H0 : Hp} : ∀ {vs : List V} {ds : List D} (m : Nat), RepL K mg W vs ds → Slots K mg W H0 H (vs.map some ++ List.replicate m none) (ds.map .val ++ List.replicate m .un) := fun {vs ds} m r => by
  have hl := r.length
  have own : ∀ (i : Nat) (s : Sl), (ds.map Sl.val ++ List.replicate m Sl.un)[i]? = some s → s.owns = false := fun i s e => by
    have := List.mem_of_getElem? e
    rcases List.mem_append.mp this with h | h
    · obtain ⟨d, _, rfl⟩ := List.mem_map.mp h; rfl
    · rw [(List.mem_replicate.mp h).2]; rfl
  refine ⟨by simp [hl], fun i s e => ?_, fun i j s t p ne e1 e2 o1 o2 => by rw [own i s e1] at o1; cases o1⟩
  by_cases h : i < ds.length
  · rw [List.getElem?_append_left (by simpa using h), List.getElem?_map] at e
    cases hd : ds[i]? with
    | none => rw [hd] at e; cases e
    | some d =>
      rw [hd] at e
      cases e
      obtain ⟨v, hv, rv⟩ := r.get hd
      refine ⟨v, ?_, rv⟩
      rw [List.getElem?_append_left (by simpa [hl] using h), List.getElem?_map, hv]
      rfl
  · rw [List.getElem?_append_right (by simpa using Nat.not_lt.mp h)] at e
    have := List.mem_of_getElem? e
    rw [(List.mem_replicate.mp this).2]
    trivial
theorem fn_okF {dv0 : List V} {kw0 : List (Str × V)} {x qual : Str} {st : Stmt} {f : Addr} {fd : FuncData} {N ps : List Str} {k : Nat} {c : Cm} (F : FunD K x qual (defArgs st) (defBody st) (defScope st) dv0 kw0 f fd) (S : FnScope N ps (defScope st))
    (hbody : ∀ (cdv : Value) (A : Around) (outer : List Env) (s : Shared) (H : Hp) (E : XK), Room k (A.deeper (envOfC qual (defScope st) s.heap.objs.size f cdv)) →
      DSs (cxOf CX0 P w K mg base N qual (defScope st) f cdv A outer s H E).nox E0 (defBody st) c) : FnOk P w K mg base CX0 (k + 1) f fd ps (spF K mg ps.length (fnSem ps.length N.length c)) := by
  refine F.ok S (fun vs H Q E ⟨W, ds, cs, ok, r, hl, _⟩ => r.length.trans hl) (fun cdv A outer s H vs Q E hr ⟨W, ds, cs, ok, r, hl, q⟩ => ?_)
  refine ⟨_, PSs.nox (hbody cdv A outer s H E hr), W, ds.map .val ++ List.replicate (N.length - ps.length) .un, cs, W, H, ok, Le.refl W H, ?_, ?_⟩
  · have e : L2.start N vs = vs.map some ++ List.replicate (N.length - ps.length) none := by unfold L2.start; rw [r.length, hl]
    rw [e]
    exact slots_start _ r
  · unfold fnSem at q
    rw [if_pos hl] at q
    show FO K mg E0 W H W (c _ cs) _
    cases hc : c (ds.map .val ++ List.replicate (N.length - ps.length) .un) cs with
    | nx S' cs' => rw [hc] at q; exact fun W' σ' H' o l m sl => q .non W' H' o l .non
    | rt d cs' => rw [hc] at q; exact fun v W' H' o l r => q v W' H' o l r
    | bk S' cs' => rw [hc] at q; exact q.elim
    | ct S' cs' => rw [hc] at q; exact q.elim
    | exc cl ns vs cs' => rw [hc] at q; exact q.elim
    | bad => rw [hc] at q; exact q.elim
end
/-! ### calls -/
def eFn (f : Fn) (g : Sems) (dfl : List D) : Sem := fun S cs => (g S cs).bind fun ds cs => noX (f (ds ++ dfl) cs)
/-- n: how many parameters -/
def fnN (n : Nat) (f : Fn) : Fn := fun ds cs => if ds.length = n then f ds cs else .bad
section
variable {X : Cx} {E : XK} {e : Expr} {es : List Expr} {gs : Sems} {k n i : Nat} {f C : Addr} {fd : FuncData} {ps : List Str} {fs : Fn} {x : Str} {p pos : Pos} {dvs : List V} {ds : List Value} {dds : List D}
theorem noX_imp {α β : Type} {R : Wd → β → α → Prop} {W : Wd} {H : Hp} {r : Res α} {Q : β → Hp → Prop} (q : RO X.K X.mg E R W H (noX r) Q) : RO X.K X.mg E0 R W H (noX r) Q := by
  cases r with
  | ok a cs => exact q
  | exc _ _ _ _ => exact q.elim
  | bad => exact q.elim
theorem de_call (F : FnOk X.prog X.w X.K X.mg X.base CX0 k f fd ps (spF X.K X.mg n fs)) (hr : Room k X.A) (hg : Gl X x) (hm : X.mg x = some (.ref f)) (hk : PySem.W.keepIn X.K (.ref f) = true) (hb : Binds X.K fd ps ds) (hd : Vals dvs ds) (hdd : ∀ W, RepL X.K X.mg W dvs dds)
    (ha : DA X E (e :: es) gs) (hdb : (x == ("__debug__" : Str)) = false := by decide) (he : starEach (e :: es) X.env = (false, eval e X.env) :: starEach es X.env := by rfl) (hpl : (backTo pos (starEach es X.env)).any (·.1) = false := by rfl) :
    DE X E (.Call (.Name x p) (e :: es) [] pos) (eFn (fnN n fs) gs dds) := (pe_call F hr hg hm hk hb hd pass0 ha hdb he hpl).imp fun σ H Q ⟨W, S, cs, H0, ok, sl, q⟩ => by
  obtain ⟨W', S', cs', H0', ok', sl', q'⟩ := denA.then ok sl q
  refine ⟨W', S', cs', H0', ok', sl', q'.imp fun v H1 ⟨W1, cs1, d, ok1, sl1, l1, r1, q1⟩ => ?_⟩
  unfold fnN at q1
  split at q1
  · exact ⟨W1, d ++ dds, cs1, ok1, r1.append (hdd W1), by assumption, noX_imp q1⟩
  · exact q1.elim
theorem de_call0 (F : FnOk X.prog X.w X.K X.mg X.base CX0 k f fd ps (spF X.K X.mg n fs)) (hr : Room k X.A) (hg : Gl X x) (hm : X.mg x = some (.ref f)) (hk : PySem.W.keepIn X.K (.ref f) = true) (hb : Binds X.K fd ps ds) (hd : Vals dvs ds) (hdd : ∀ W, RepL X.K X.mg W dvs dds)
    (hdb : (x == ("__debug__" : Str)) = false := by decide) : DE X E (.Call (.Name x p) [] [] pos) (eFn (fnN n fs) eNil dds) := (pe_call0 F hr hg hm hk hb hd pass0 hdb).imp fun σ H Q ⟨W, S, cs, H0, ok, sl, q⟩ => by
  have q1 : RO X.K X.mg E (Rep X.K X.mg) W H (noX (fnN n fs ([] ++ dds) cs)) Q := q
  unfold fnN at q1
  split at q1
  · exact ⟨W, [] ++ dds, cs, ok, by rw [List.nil_append, List.nil_append]; exact hdd W, by assumption, noX_imp q1⟩
  · exact q1.elim
/-- one of some defs, by a name that holds it -/
structure FnAt (P : Program) (w : World) (K : PySem.W.Frag) (mg : Str → Option Value) (base : Heap) (k : Nat) (nm : Str) (n : Nat) (fs : Fn) : Prop where
  ex : ∃ (f : Addr) (fd : FuncData) (ps : List Str), mg nm = some (.ref f) ∧ FnOk P w K mg base CX0 k f fd ps (spF K mg n fs) ∧ PySem.W.keepIn K (.ref f) = true ∧ Binds K fd ps []
theorem de_callG {n : Nat} {fs : Fn} (A : FnAt X.prog X.w X.K X.mg X.base k x n fs) (hr : Room k X.A) (hg : Gl X x) (ha : DA X E (e :: es) gs)
    (hdb : (x == ("__debug__" : Str)) = false := by decide) (he : starEach (e :: es) X.env = (false, eval e X.env) :: starEach es X.env := by rfl) (hpl : (backTo pos (starEach es X.env)).any (·.1) = false := by rfl) :
    DE X E (.Call (.Name x p) (e :: es) [] pos) (eFn (fnN n fs) gs []) := by
  obtain ⟨f, fd, ps, hm, F, hk, hb⟩ := A.ex
  exact de_call F hr hg hm hk hb .nil (fun W => .nil) ha hdb he hpl
theorem de_callG0 {n : Nat} {fs : Fn} (A : FnAt X.prog X.w X.K X.mg X.base k x n fs) (hr : Room k X.A) (hg : Gl X x) (hdb : (x == ("__debug__" : Str)) = false := by decide) :
    DE X E (.Call (.Name x p) [] [] pos) (eFn (fnN n fs) eNil []) := by
  obtain ⟨f, fd, ps, hm, F, hk, hb⟩ := A.ex
  exact de_call0 F hr hg hm hk hb .nil (fun W => .nil) hdb
theorem de_gfnA {n : Nat} {fs : Fn} (A : FnAt X.prog X.w X.K X.mg X.base k x n fs) (hg : Gl X x) (hdb : (x == ("__debug__" : Str)) = false := by decide) : DE X E (.Name x pos) (eC (.fn x)) := by
  obtain ⟨f, fd, ps, hm, F, hk, hb⟩ := A.ex
  exact de_gfn hg hm hdb
def tblAt : List (Str × Nat × Fn) → Str → Option (Nat × Fn)
  | [], _ => none
  | q :: r, nm => if q.1 = nm then some q.2 else tblAt r nm
theorem tblAt_mem : ∀ {tbl : List (Str × Nat × Fn)} {nm : Str} {r : Nat × Fn}, tblAt tbl nm = some r → (nm, r) ∈ tbl
  | [], _, _, h => by cases h
  | q :: t, nm, r, h => by
    unfold tblAt at h
    split at h
    · rename_i e
      cases h
      subst e
      exact List.mem_cons_self
    · exact List.mem_cons_of_mem _ (tblAt_mem h)
def eFnV (i : Nat) (tbl : List (Str × Nat × Fn)) (g : Sems) : Sem := fun S cs => match S[i]? with
  | some (.val (.fn nm)) => (match tblAt tbl nm with
    | some (n, f) => (g S cs).bind fun ds cs => noX (fnN n f ds cs)
    | none => .bad)
  | _ => .bad
theorem de_callV {tbl : List (Str × Nat × Fn)} (A : ∀ q ∈ tbl, FnAt X.prog X.w X.K X.mg X.base k q.1 q.2.1 q.2.2) (hr : Room k X.A) (hN : X.N[i]? = some x) (hv : Vis X.env.scope x) (ha : DA X E (e :: es) gs)
    (hdb : (x == ("__debug__" : Str)) = false := by decide) (hcd : (x == ("__classdict__" : Str)) = false := by decide)
    (he : starEach (e :: es) X.env = (false, eval e X.env) :: starEach es X.env := by rfl) (hpl : (backTo pos (starEach es X.env)).any (·.1) = false := by rfl) : DE X E (.Call (.Name x p) (e :: es) [] pos) (eFnV i tbl gs) := ⟨fun pins s σ H Q I ⟨W, S, cs, H0, ok, sl, q⟩ => by
  unfold eFnV at q
  split at q
  · rename_i nm hs
    split at q
    · rename_i n fs ht
      obtain ⟨f, fd, ps, hm, F, hk, hb⟩ := (A _ (tblAt_mem ht)).ex
      obtain ⟨v, e1, r1⟩ := sl.val hs
      cases r1 with
      | @fn a _ hm' =>
        have ea : a = f := by
          have z := hm'.symm.trans hm
          cases z; rfl
        subst ea
        refine (pe_callL (i := i) (f := a) (dvs := []) (E := E0) F hr hN hv hk hb .nil pass0 ha hdb hcd he hpl).run pins s σ H Q I ⟨e1, ?_⟩
        obtain ⟨W', S', cs', H0', ok', sl', q'⟩ := denA.then ok sl q
        refine ⟨W', S', cs', H0', ok', sl', q'.imp fun v H1 ⟨W1, cs1, d, ok1, sl1, l1, r1, q1⟩ => ?_⟩
        unfold fnN at q1
        split at q1
        · exact ⟨W1, d, cs1, ok1, by rw [List.append_nil]; exact r1, by assumption, noX_imp q1⟩
        · exact q1.elim
    · exact q.elim
  · exact q.elim⟩
end
/-! ### objects made -/
def putFD (fld : Str) (d : D) : List Str → List D → List Str × List D
  | n :: ns, v :: vs => if n = fld then (n :: ns, d :: vs) else let r := putFD fld d ns vs; (n :: r.1, v :: r.2)
  | _, _ => ([fld], [d])
def sFld (i : Nat) (fld : Str) (f : Sem) : Cm := fun S cs => (f S cs).thenF fun d cs => match S[i]? with
  | some (.self c ns vs) => if ns.length < 900 then let r := putFD fld d ns vs; .nx (S.set i (.self c r.1 r.2)) cs else .bad
  | _ => .bad
def eSelf (i : Nat) (fld : Str) : Sem := fun S cs => match S[i]? with
  | some (.self _ ns vs) => Res.opt ((ns.zip vs).lookup fld) cs
  | _ => .bad
def sFldC (cls : Str) (i : Nat) (fld : Str) (fv : Sem) : Cm := fun S cs => match S[i]? with | some (.self c _ _) => if c = cls then sFld i fld fv S cs else .bad | _ => .bad
def eSelfC (cls : Str) (i : Nat) (fld : Str) : Sem := fun S cs => match S[i]? with | some (.self c _ _) => if c = cls then eSelf i fld S cs else .bad | _ => .bad
def initOf (cls : Str) (o : Option Sl) (cs : Cs) : Res (List Str × List D) := match o with
  | some (.self c' ns vs) => if c' = cls then .ok (ns, vs) cs else .bad
  | _ => .bad
def initRes (cls : Str) (r : Fl) : Res (List Str × List D) := match r with
  | .nx S cs => initOf cls S[0]? cs
  | _ => .bad
abbrev Ini := List D → Cs → Res (List Str × List D)
def initSem (cls : Str) (n N : Nat) (c : Cm) : Ini := fun ds cs => if ds.length + 1 = n then initRes cls (c (.self cls [] [] :: (ds.map .val ++ List.replicate (N - n) .un)) cs) else .bad
def spI (K : PySem.W.Frag) (mg : Str → Option Value) (cls : Str) (n : Nat) (f : Ini) : Sp := fun vs H Q _ => ∃ x C dx H1 W ds cs rest, vs = .ref x :: rest ∧ H = upd (upd H1 dx (.own x)) x (.ins C dx []) ∧ H1 x = none ∧ H1 dx = none ∧ dx ≠ x ∧ mg cls = some (.ref C) ∧ Ok K mg W H1 cs ∧ RepL K mg W rest ds ∧ ds.length + 1 = n ∧
  match f ds cs with
  | .ok r cs' => ∀ (W' : Wd) (H' : Hp) (fs : List (Str × V)), Ok K mg W' H' cs' → Le W H1 W' H' → H' x = some (.ins C dx fs) → r.1 = fs.map (·.1) → RepL K mg W' (fs.map (·.2)) r.2 → W'.G x = none → x ∉ W'.ρ → Q .non H'
  | _ => False
section
variable {P : Program} {w : World} {K : PySem.W.Frag} {mg : Str → Option Value} {base : Heap}
theorem init_okF {dv0 : List V} {kw0 : List (Str × V)} {x qual cls : Str} {st : Stmt} {f : Addr} {fd : FuncData} {N ps : List Str} {k : Nat} {c : Cm} (F : FunD K x qual (defArgs st) (defBody st) (defScope st) dv0 kw0 f fd) (S : FnScope N ps (defScope st)) (hps : 0 < ps.length)
    (hbody : ∀ (cdv : Value) (A : Around) (outer : List Env) (s : Shared) (H : Hp) (E : XK), Room k (A.deeper (envOfC qual (defScope st) s.heap.objs.size f cdv)) →
      DSs (cxOf CX0 P w K mg base N qual (defScope st) f cdv A outer s H E).nox E0 (defBody st) c) : FnOk P w K mg base CX0 (k + 1) f fd ps (spI K mg cls ps.length (initSem cls ps.length N.length c)) := by
  refine F.ok S (fun vs H Q E ⟨x, C, dx, H1, W, ds, cs, rest, e, _, _, _, _, _, ok, r, hl, _⟩ => ?_) (fun cdv A outer s H vs Q E hr ⟨x, C, dx, H1, W, ds, cs, rest, e, eH, hx, hdx, hne, hC, ok, r, hl, q⟩ => ?_)
  · subst e
    rw [List.length_cons, r.length, hl]
  · subst e eH
    obtain ⟨ok1, l1⟩ := ok.apart (.own x) hdx
    obtain ⟨gd, nd⟩ := ok.fresh hdx
    have hx1 : (upd H1 dx (.own x)) x = none := by rw [upd_ne (Ne.symm hne)]; exact hx
    obtain ⟨ok2, l2⟩ := ok1.apart (.ins C dx []) hx1
    have l12 := l1.trans ok1 l2
    obtain ⟨gx, nx⟩ := ok.fresh hx
    have mm : ∀ {v : V} {d : D}, Rep K mg W v d → Rep K mg ⟨W.ρ, W.G, some (x, dx)⟩ v d := fun r => Rep.mono (W := W) (W' := ⟨W.ρ, W.G, some (x, dx)⟩) ⟨[], by simp⟩ (Ext.refl _) r
    have mmL : ∀ {v : List V} {d : List D}, RepL K mg W v d → RepL K mg ⟨W.ρ, W.G, some (x, dx)⟩ v d := fun r => RepL.mono (W := W) (W' := ⟨W.ρ, W.G, some (x, dx)⟩) ⟨[], by simp⟩ (Ext.refl _) r
    have okm : ∀ {H : Hp}, Ok K mg W H cs → Ok K mg ⟨W.ρ, W.G, some (x, dx)⟩ H cs := fun o => ⟨o.ex, o.nd, CellsOk.imp (W := W) (W' := ⟨W.ρ, W.G, some (x, dx)⟩) (H := _) mmL (fun a m hg => hg) (fun a m u e => e) o.cl⟩
    have l13 : Le ⟨W.ρ, W.G, some (x, dx)⟩ H1 ⟨W.ρ, W.G, some (x, dx)⟩ (upd (upd H1 dx (.own x)) x (.ins C dx [])) := ⟨l12.pre, l12.ex, l12.keep, l12.new, rfl⟩
    refine ⟨_, PSs.nox (hbody cdv A outer s _ E hr), ⟨W.ρ, W.G, some (x, dx)⟩, .self cls [] [] :: (ds.map .val ++ List.replicate (N.length - ps.length) .un), cs, ⟨W.ρ, W.G, some (x, dx)⟩, H1, okm ok2, l13, ?_, ?_⟩
    · have e : L2.start N (.ref x :: rest) = some (.ref x) :: (rest.map some ++ List.replicate (N.length - ps.length) none) := by
        unfold L2.start
        rw [List.length_cons, r.length, hl]
        rfl
      rw [e]
      have s0 : Slots K mg ⟨W.ρ, W.G, some (x, dx)⟩ H1 (upd (upd H1 dx (.own x)) x (.ins C dx [])) (rest.map some ++ List.replicate (N.length - ps.length) none) (ds.map .val ++ List.replicate (N.length - ps.length) .un) := slots_start _ (mmL r)
      refine ⟨by simp [s0.len], fun i s e => ?_, fun i j s t p ne e1 e2 o1 o2 z => ?_⟩
      · cases i with
        | zero => cases e; exact ⟨x, C, dx, [], rfl, hC, upd_same, rfl, .nil, gx, nx, hx, rfl⟩
        | succ i => exact s0.get i s e
      · have own : ∀ (i : Nat) (s : Sl), (ds.map Sl.val ++ List.replicate (N.length - ps.length) Sl.un)[i]? = some s → s.owns = false := fun i s e => by
          have := List.mem_of_getElem? e
          rcases List.mem_append.mp this with h | h
          · obtain ⟨d, _, rfl⟩ := List.mem_map.mp h; rfl
          · rw [(List.mem_replicate.mp h).2]; rfl
        cases i with
        | zero => cases j with
          | zero => exact absurd rfl ne
          | succ j => rw [own j t e2] at o2; cases o2
        | succ i => rw [own i s e1] at o1; cases o1
    · unfold initSem at q
      rw [if_pos hl] at q
      show FO K mg E0 ⟨W.ρ, W.G, some (x, dx)⟩ H1 ⟨W.ρ, W.G, some (x, dx)⟩ (c _ cs) _
      cases hc : c (.self cls [] [] :: (ds.map .val ++ List.replicate (N.length - ps.length) .un)) cs with
      | nx S' cs' =>
        rw [hc] at q
        intro W' σ' H' o l m sl
        have q : match initOf cls S'[0]? cs' with
          | .ok r cs' => ∀ (W' : Wd) (H' : Hp) (fs : List (Str × V)), Ok K mg W' H' cs' → Le W H1 W' H' → H' x = some (.ins C dx fs) → r.1 = fs.map (·.1) → RepL K mg W' (fs.map (·.2)) r.2 → W'.G x = none → x ∉ W'.ρ → Q .non H'
          | _ => False := q
        cases hs : S'[0]? with
        | none => rw [hs] at q; exact q.elim
        | some s0 =>
          rw [hs] at q
          cases s0 with
          | self c' ns us =>
            obtain ⟨p, C', dx', fs, e1, m1, h1, hn, r1, g1, n1, h01, hq⟩ := sl.get 0 _ hs
            have q3 : match (if c' = cls then Res.ok (ns, us) cs' else .bad) with
              | .ok r cs' => ∀ (W' : Wd) (H' : Hp) (fs : List (Str × V)), Ok K mg W' H' cs' → Le W H1 W' H' → H' x = some (.ins C dx fs) → r.1 = fs.map (·.1) → RepL K mg W' (fs.map (·.2)) r.2 → W'.G x = none → x ∉ W'.ρ → Q .non H'
              | _ => False := q
            clear q
            by_cases hh : c' = cls
            · rw [if_pos hh] at q3
              have e5 := hq.symm.trans l.me
              cases e5
              subst hh
              have : C' = C := by
                have z := m1.symm.trans hC
                cases z; rfl
              subst this
              have back : ∀ {v : List V} {d : List D}, RepL K mg W' v d → RepL K mg ⟨W'.ρ, W'.G, W.me⟩ v d := fun r => RepL.mono (W := W') (W' := ⟨W'.ρ, W'.G, W.me⟩) ⟨[], by simp⟩ (Ext.refl _) r
              have ob : Ok K mg ⟨W'.ρ, W'.G, W.me⟩ H' cs' := ⟨o.ex, o.nd, CellsOk.imp (W := W') (W' := ⟨W'.ρ, W'.G, W.me⟩) (H := H') back (fun a m hg => hg) (fun a m u e => e) o.cl⟩
              exact q3 ⟨W'.ρ, W'.G, W.me⟩ H' fs ob ⟨l.pre, l.ex, l.keep, l.new, rfl⟩ h1 hn (back r1) g1 n1
            · rw [if_neg hh] at q3
              exact q3.elim
          | _ => exact q.elim
      | rt d cs' => rw [hc] at q; exact q.elim
      | bk S' cs' => rw [hc] at q; exact q.elim
      | ct S' cs' => rw [hc] at q; exact q.elim
      | exc cl ns vs cs' => rw [hc] at q; exact q.elim
      | bad => rw [hc] at q; exact q.elim
end
section
variable {X : Cx} {E : XK} {e : Expr} {es : List Expr} {gs : Sems} {k n i : Nat} {f C : Addr} {fd : FuncData} {ps : List Str} {fi : Ini} {x cls fld : Str} {p pos : Pos} {dvs : List V} {ds : List Value} {dds : List D} {fv : Sem}
/-- self.fld = e -/
theorem ds_fld {o : Expr} {pos' : Pos} (hC : ∀ C c, X.mg c = some (.ref C) → c = cls → Cls X.K C ∧ NoAttr X.K C fld) (hi : PE X o (tVar i)) (hv : DE X E e fv) (hs : swapsWith e (some (.Attribute o fld pos')) pos.line X.env = pure false := by rfl) :
    DS X E (.Assign [.Attribute o fld pos'] e pos) (sFldC cls i fld fv) := (ps_fld hi hv hs).imp fun T σ H ⟨W, S, cs, W0, H0, ok, l, sl, q⟩ => by
  unfold sFldC at q
  split at q
  · rename_i c ns vs hS
    split at q
    · rename_i hc
      unfold sFld at q
      obtain ⟨W', S', cs', H0', ok', sl', q'⟩ := den.toF ok l sl q
      refine ⟨W', S', cs', H0', ok', sl', q'.imp fun v H1 ⟨W1, cs1, d, ok1, l1, sl1, l01, r1, q1⟩ => ?_⟩
      rw [hS] at q1
      dsimp only at q1
      obtain ⟨p, C, dx, fs, e1, m1, h1, hn, r2, g1, n1, h01, hq⟩ := sl1.get i _ hS
      split at q1
      · rename_i hlen
        obtain ⟨hcl, hna⟩ := hC C c m1 hc
        refine ⟨.ref p, e1, p, C, dx, fs, rfl, h1, hcl, hna, by rw [hn, List.length_map] at hlen; omega, ?_⟩
        obtain ⟨ok2, l2⟩ := ok1.change l1 (.ins C dx (putF fld v fs)) g1 n1 h01
        have hi' : i < S.length := (List.getElem?_eq_some_iff.mp hS).1
        have pf : ∀ (fs : List (Str × V)) (us : List D), RepL X.K X.mg W1 (fs.map (·.2)) us → (putFD fld d (fs.map (·.1)) us).1 = (putF fld v fs).map (·.1) ∧ RepL X.K X.mg W1 ((putF fld v fs).map (·.2)) (putFD fld d (fs.map (·.1)) us).2 := fun fs => by
          induction fs with
          | nil => intro us r; cases r; exact ⟨rfl, .one r1⟩
          | cons q fs ih =>
            intro us r
            cases r with
            | cons r t =>
              have z := ih _ t
              by_cases hq : q.1 = fld
              · simp only [List.map_cons, putFD, if_pos hq, putF]
                refine ⟨?_, ?_⟩
                · first | rfl | simp [hq] | (split <;> simp_all)
                · first | exact .cons r1 t | (simp [hq]; exact .cons r1 t) | (split <;> first | exact .cons r1 t | simp_all)
              · simp only [List.map_cons, putFD, if_neg hq, putF]
                refine ⟨?_, ?_⟩
                · first | (simp [hq, z.1]; done) | (split <;> simp_all)
                · first | exact .cons r z.2 | (simp [hq]; exact .cons r z.2) | (split <;> first | exact .cons r z.2 | simp_all)
        obtain ⟨p1, p2⟩ := pf fs vs r2
        rw [← hn] at p1 p2
        refine q1 W1 σ _ ok2 l2 (Mo.refl _) ⟨by rw [List.length_set]; exact sl1.len, fun j s ej => ?_, fun j k s t q ne e1 e2 o1 o2 z => ?_⟩
        · by_cases h : i = j
          · subst h
            rw [List.getElem?_set_self hi'] at ej
            cases ej
            exact ⟨p, C, dx, _, e1, m1, upd_same, p1, p2, g1, n1, h01, hq⟩
          · rw [List.getElem?_set_ne h] at ej
            have q := sl1.get j s ej
            have ap : ∀ p', s.owns = true → σ[j]? = some (some (.ref p')) → p' ≠ p := fun p' ho ez y => by
              subst y
              exact sl1.sep i j _ _ p' h hS ej rfl ho e1 ez
            cases s with
            | un => trivial
            | val d => exact q
            | own zs => obtain ⟨p', vs', a1, a2, a3, a4, a5, a6⟩ := q; exact ⟨p', vs', a1, by rw [upd_ne (ap p' rfl a1)]; exact a2, a3, a4, a5, a6⟩
            | odct zs us => obtain ⟨p', vs', a1, a2, a3, a4, a5, a6⟩ := q; exact ⟨p', vs', a1, by rw [upd_ne (ap p' rfl a1)]; exact a2, a3, a4, a5, a6⟩
            | self c ns us => obtain ⟨p', C, dx, fs, a1, a2, a3, a4, a5, a6, a7, a8⟩ := q; exact ⟨p', C, dx, fs, a1, a2, by rw [upd_ne (ap p' rfl a1)]; exact a3, a4, a5, a6, a7, a8⟩
        · have own : ∀ (m : Nat) (s' : Sl), (S.set i (.self c (putFD fld d ns vs).1 (putFD fld d ns vs).2))[m]? = some s' → s'.owns = true → ∃ s'' : Sl, S[m]? = some s'' ∧ s''.owns = true := fun m s' em om => by
            by_cases h : i = m
            · subst h; exact ⟨_, hS, rfl⟩
            · rw [List.getElem?_set_ne h] at em; exact ⟨s', em, om⟩
          obtain ⟨s1, f1, y1⟩ := own j s e1 o1
          obtain ⟨s2, f2, y2⟩ := own k t e2 o2
          exact sl1.sep j k s1 s2 q ne f1 f2 y1 y2 z
      · exact q1.elim
    · exact q.elim
  · exact q.elim
/-- self.fld within __init__ -/
theorem de_self {o : Expr} (hC : ∀ C c, X.mg c = some (.ref C) → c = cls → Cls X.K C ∧ NoAttr X.K C fld) (hi : PE X o (tVar i)) (hb : attributeBase o fld X.env (eval o X.env) = eval o X.env := by rfl) :
    DE X E (.Attribute o fld pos) (eSelfC cls i fld) := (pe_fld hi hb).imp fun σ H Q ⟨W, S, cs, H0, ok, sl, q⟩ => by
  unfold eSelfC at q
  split at q
  · rename_i c ns vs hS
    split at q
    · rename_i hc
      obtain ⟨p, C, dx, fs, e1, m1, h1, hn, r2, g1, n1, h01, hq⟩ := sl.get i _ hS
      unfold eSelf at q
      rw [hS] at q
      obtain ⟨z, ez, q1⟩ := RO.opt q
      rw [hn] at ez
      obtain ⟨v, ev, rv⟩ := RepL.lookup r2 ez
      obtain ⟨hcl, hna⟩ := hC C c m1 hc
      exact ⟨.ref p, e1, p, C, dx, fs, v, rfl, h1, hcl, hna, ev, q1 v W H ok (Le.refl W H) rv⟩
    · exact q.elim
  · exact q.elim
def eMk (cls : Str) (f : Ini) (g : Sems) (dfl : List D) (n : Nat) : Sem := fun S cs => (g S cs).bind fun ds cs => if (ds ++ dfl).length + 1 = n then (noX (f (ds ++ dfl) cs)).bind fun r cs => .ok (.obj cls r.1 r.2) cs else .bad
theorem de_make (M : Mk X.K C f) (F : FnOk X.prog X.w X.K X.mg X.base CX0 k f fd ps (spI X.K X.mg x n fi)) (hr : Room (k + 1) X.A) (hg : Gl X x) (hm : X.mg x = some (.ref C)) (hb : Binds X.K fd ps ds) (hd : Vals dvs ds) (hdd : ∀ W, RepL X.K X.mg W dvs dds)
    (ha : DA X E (e :: es) gs) (hdb : (x == ("__debug__" : Str)) = false := by decide) (he : starEach (e :: es) X.env = (false, eval e X.env) :: starEach es X.env := by rfl) (hpl : (backTo pos (starEach es X.env)).any (·.1) = false := by rfl) :
    DE X E (.Call (.Name x p) (e :: es) [] pos) (eMk x fi gs dds n) := (pe_make M F hr hg hm hb hd pass0 ha hdb he hpl).imp fun σ H Q ⟨W, S, cs, H0, ok, sl, q⟩ => by
  obtain ⟨W', S', cs', H0', ok', sl', q'⟩ := denA.then ok sl q
  refine ⟨W', S', cs', H0', ok', sl', q'.imp fun vs H1 ⟨W1, cs1, d, ok1, sl1, l1, r1, q1⟩ => ?_⟩
  intro z dz hz hdz hne
  split at q1
  · rename_i hl
    refine ⟨z, C, dz, H1, W1, d ++ dds, cs1, vs ++ dvs, rfl, rfl, hz, hdz, hne, hm, ok1, r1.append (hdd W1), hl, ?_⟩
    cases hf : fi (d ++ dds) cs1 with
    | ok r cs2 =>
      rw [hf] at q1
      intro W2 H2 fs ok2 l2 hx2 hn r2 g2 n2
      obtain ⟨ok3, l3, ex3⟩ := ok2.freeze l2 hx2 g2 n2 hz
      exact ⟨rfl, q1 (.ref z) _ H2 ok3 l3 (.obj hm upd_same hn (r2.mono ⟨[], by simp⟩ ex3))⟩
    | exc _ _ _ _ => rw [hf] at q1; exact q1.elim
    | bad => rw [hf] at q1; exact q1.elim
  · exact q1.elim
/-- a class that makes objects, by its name -/
structure MkAt (P : Program) (w : World) (K : PySem.W.Frag) (mg : Str → Option Value) (base : Heap) (k : Nat) (nm : Str) (n : Nat) (fi : Ini) : Prop where
  ex : ∃ (C f : Addr) (fd : FuncData) (ps : List Str), mg nm = some (.ref C) ∧ Mk K C f ∧ FnOk P w K mg base CX0 k f fd ps (spI K mg nm n fi) ∧ Binds K fd ps []
theorem de_makeG {n : Nat} {fi : Ini} (A : MkAt X.prog X.w X.K X.mg X.base k x n fi) (hr : Room (k + 1) X.A) (hg : Gl X x) (ha : DA X E (e :: es) gs)
    (hdb : (x == ("__debug__" : Str)) = false := by decide) (he : starEach (e :: es) X.env = (false, eval e X.env) :: starEach es X.env := by rfl) (hpl : (backTo pos (starEach es X.env)).any (·.1) = false := by rfl) :
    DE X E (.Call (.Name x p) (e :: es) [] pos) (eMk x fi gs [] n) := by
  obtain ⟨C, f, fd, ps, hm, M, F, hb⟩ := A.ex
  exact de_make M F hr hg hm hb .nil (fun W => .nil) ha hdb he hpl
/-- d.get(k, x) -/
def eGet2 (f g h : Sem) : Sem := fun S cs => (f S cs).bind fun d cs => match d with
  | .dct ks vs => (g S cs).bind fun k cs => (h S cs).bind fun z cs => if keyD k then .ok ((dgetD ks vs k).getD z) cs else .bad
  | _ => .bad
theorem de_get2 {o a b : Expr} {apos cpos : Pos} {fo ga hb : Sem} {kr : Nat} (hr : Room kr X.A) (ho : DE X E o fo) (ha : DE X E a ga) (hb' : DE X E b hb) (m : M2 X o "get" apos a b cpos) : DE X E (.Call (.Attribute o "get" apos) [a, b] [] cpos) (eGet2 fo ga hb) :=
  (pe_dget2 (by have := hr.un; omega) ho ha hb' m).imp fun σ H Q ⟨W, S, cs, H0, ok, sl, q⟩ => by
    obtain ⟨W', S', cs', H0', ok', sl', q'⟩ := den.then ok sl q
    refine ⟨W', S', cs', H0', ok', sl', q'.imp fun v H1 ⟨W1, cs1, d, ok1, sl1, l1, r1, q1⟩ => ?_⟩
    cases r1 with
    | @dct da kvs ks vs h r1 r2 =>
      refine ⟨da, rfl, .inl ⟨kvs, .inl (ok1.ex _ _ h)⟩, ?_⟩
      obtain ⟨W2, S2, cs2, H2, ok2, sl2, q2⟩ := den.then ok1 sl1 q1
      refine ⟨W2, S2, cs2, H2, ok2, sl2, q2.imp fun u H3 ⟨W3, cs3, d3, ok3, sl3, l3, r3, q3⟩ => ?_⟩
      obtain ⟨W4, S4, cs4, H4, ok4, sl4, q4⟩ := den.then ok3 sl3 q3
      refine ⟨W4, S4, cs4, H4, ok4, sl4, q4.imp fun t H5 ⟨W5, cs5, d5, ok5, sl5, l5, r5, q5⟩ => ?_⟩
      split at q5
      · rename_i hk
        obtain ⟨k, rfl⟩ := key_of r3 hk
        have l15 := l3.trans ok3 l5
        have dg := dget_of (r3.le l5) (r1.le l15) (r2.le l15)
        refine ⟨valV kvs k, DGet.k (ok5.ex _ _ ((l15.ex _ _ h))), ?_⟩
        cases hd : dgetD ks vs d3 with
        | none =>
          rw [hd] at q5
          rw [dg.2 hd]
          exact RO.ok_ ok5 q5 r5
        | some w =>
          rw [hd] at q5
          obtain ⟨y, e1, ry⟩ := dg.1 w hd
          rw [e1]
          exact RO.ok_ ok5 q5 ry
      · exact q5.elim
    | _ => exact q1.elim
end
end LL

set_option Elab.async false
set_option linter.all false
set_option maxRecDepth 100000
set_option maxHeartbeats 4000000
/-! len(set(texts)) of any count (turned from the kit's proof of at most one text) -/
namespace LL
open PySem PySem.Spec PyProof.Rows L2
/-- how many different texts stand among the first n -/
def cS (xs : List Str) : Nat → Nat
  | 0 => 0
  | i + 1 => if (xs.take i).any (· == xs.getD i Str.empty) then cS xs i else cS xs i + 1
theorem cS_le (xs : List Str) : ∀ i, cS xs i ≤ i
  | 0 => Nat.le_refl _
  | i + 1 => by
    have := cS_le xs i
    unfold cS
    split <;> omega
section
variable {prog : Program} {w : World} {A : Around} {R : Result → Shared → Prop} {I : Addr} {fp wr : List Addr} {G : Array GenState → Array GenState → Prop} {n : Nat} {P : Nat → Value → Prop} {St : Nat → Shared → Prop}
theorem loopTx (W : WalksS prog w A.in1 I fp wr G n P St) (S : Addr) (hSf : S ∉ fp) (xs : List Str) (hsz : xs.length = n) (hn1 : n + 1 < scanBound)
    (hval : ∀ i v, P i v → ∃ t, v = .str (xs.getD i Str.empty) t) :
    ∀ (k i : Nat) (s : Shared), n - i = k → i ≤ n → St i s →
      s.heap.SetOf (PySem.strKind prog w) S (fun k' => (xs.take i).any (· == k')) (cS xs i) →
      (∀ s', Moved (S :: wr) G s s' → s'.heap.SetOf (PySem.strKind prog w) S (fun k' => (xs.take n).any (· == k')) (cS xs n) → R (.ok (.ret .none)) s') →
      codeAny (model prog w) A (.builtin "set.update.loop" ⟨[.ref S, .ref I], []⟩) R s := by
  have hSw : S ∉ wr := fun h => hSf (W.sub _ h)
  have hsub : ∀ b ∈ wr, b ∈ S :: wr := fun b hb => List.mem_cons_of_mem _ hb
  intro k
  induction k with
  | zero =>
    intro i s hk hi hst hS hR
    have hin : i = n := by omega
    subst hin
    refine codeAny_builtin PyProof.Rows.F.entry_set_update_loop ?_
    rw [Around.under_plainId PyProof.Rows.F.plain_set_update_loop _]
    show wpAny _ A.in1 (pyNext (.ref I) >>= _) _ _ s
    refine wpAny_bind (W.done s _ _ hst fun s' hm => ?_)
    show wpAny _ A.in1 (ret Value.none) _ _ s'
    exact wpAny_pure (hR s' (hm.mono hsub) (by
      obtain ⟨o, es, ep, t, ho, rest⟩ := hS
      exact ⟨o, es, ep, t, hm.heap S _ hSw ho, rest⟩))
  | succ k ih =>
    intro i s hk hi hst hS hR
    have hlt : i < n := by omega
    refine codeAny_builtin PyProof.Rows.F.entry_set_update_loop ?_
    rw [Around.under_plainId PyProof.Rows.F.plain_set_update_loop _]
    show wpAny _ A.in1 (pyNext (.ref I) >>= _) _ _ s
    refine wpAny_bind (W.item i s _ _ hlt hst fun v s' hP hst' hm => ?_)
    obtain ⟨t, rfl⟩ := hval i v hP
    have hS' : s'.heap.SetOf (PySem.strKind prog w) S (fun k' => (xs.take i).any (· == k')) (cS xs i) := by
      obtain ⟨o, es, ep, tb, ho, rest⟩ := hS
      exact ⟨o, es, ep, tb, hm.heap S _ hSw ho, rest⟩
    show wpAny _ A.in1 (holding [Value.str (xs.getD i Str.empty) t] (setAdd S (.str (xs.getD i Str.empty) t)) >>= _) _ _ s'
    refine wpAny_bind (wpAny_holding ?_)
    unfold setAdd
    refine wpAny_holding ?_
    refine wpAny_bind ((PySem.strKind prog w).pyHash (k := xs.getD i Str.empty) (strKind_is _ _ _ _) ?_)
    refine wpAny_setAddHashed_of (knd := PySem.strKind prog w) (s := { s' with toks := s'.toks + 1 }) (strKind_is _ _ _ _) rfl hS' (by have := cS_le xs i; omega) fun h' hsb hS2 => ?_
    have hSi : h'.SetOf (PySem.strKind prog w) S (fun k' => (xs.take (i + 1)).any (· == k')) (cS xs (i + 1)) := by
      refine SetOf_congr hS2 (fun k' => ?_) rfl
      have hxi : xs[i]? = some (xs.getD i Str.empty) := by
        rw [List.getD_eq_getElem?_getD]
        cases h : xs[i]? with
        | none => rw [List.getElem?_eq_none_iff] at h; omega
        | some y => rfl
      rw [List.take_add_one, hxi, List.any_append]
      by_cases e : k' = xs.getD i Str.empty
      · subst e; simp
      · have hb : (xs.getD i Str.empty == k') = false := by simpa [beq_iff_eq] using (fun h' : xs.getD i Str.empty = k' => e h'.symm)
        simp only [Option.toList, List.any_cons, List.any_nil, hb, e, decide_false, Bool.or_false]
    refine wpAny_pure ⟨plainId_quiet PyProof.Rows.F.plain_set_update_loop _, ih (i + 1) _ (by omega) hlt (W.frame _ s' _ _ hst' (Nat.le_succ _) fun b hb o e => ?_) hSi fun s'' hm'' hS'' => ?_⟩
    · rw [hsb.2 b (fun h : b = S => hSf (by rw [← h]; exact hb))]; exact e
    · refine hR s'' (Moved.trans W.gtrans ((hm.mono hsub).then_heap (Nat.le_succ _) fun b o hb e => ?_) hm'') hS''
      rw [hsb.2 b (fun h : b = S => hb (by rw [h]; exact List.mem_cons_self))]; exact e
end

section
variable {prog : Program} {w : World} {A : Around} {E : Value → Shared → Prop} {s : Shared}
set_option maxHeartbeats 3200000 in
theorem call_set_listT {l : Addr} {items : Array Value} {xs : List Str} {Q : Value → Shared → Prop}
    (hh : A.handled = none) (hl : s.heap.IsList l items) (hi : PyProof.Rows.StrsAre items.toList xs) (hn1 : xs.length + 1 < scanBound)
    (h : ∀ (h' : Heap) (tk : Nat), h'.SetOf (PySem.strKind prog w) s.heap.objs.size (fun k' => (xs.take items.size).any (· == k')) (cS xs items.size) →
      (∀ b o, b < s.heap.objs.size → s.heap.get? b = some o → h'.get? b = some o) → Q (.ref s.heap.objs.size) { s with heap := h', toks := tk }) :
    wpAny (model prog w) A (call (.type "set") [.ref l]) Q E s := by
  obtain ⟨c, tl, hmro⟩ := PySem.F.called_set.mro
  have hmade := PySem.F.called_set.made
  have hsub := PySem.F.called_set.sub
  refine wpAny_call (codeAny_of_tree ?_)
  show wpAny _ _ (callAny (.type "set") _) _ _ _
  refine wpAny_pure ⟨Code.quiet_builtin _ (by decide +kernel), codeAny_builtin PySem.F.entry_type_call ?_⟩
  rw [Around.under_plain (weight_type_call_type "set" [.ref l] []) rfl]
  have h1 := PySem.F.called_set.notType
  have h2 := PySem.F.called_set.canCreate
  have hct := PySem.F.typeCall_set_1 (.ref l)
  repeat (any_goals (first | assumption | wp_step))

  refine codeAny_mono (code_set_new_1 (.ref l) (E := E) (Q₁ := fun obj s₁ => ∃ led : Bool, obj = .ref s.heap.objs.size ∧ s₁ = { s with heap := s.heap.push { cls := .type "set", dict := none, data := .set #[] 0 (.fresh 0 0 led) } }) fun led => ⟨led, rfl, rfl⟩) fun r s₁ hr => ?_
  cases r with
  | error e => exact hr
  | ok fl =>
    cases fl with
    | ret obj =>
      obtain ⟨led, rfl, rfl⟩ := hr
      have hS : (s.heap.push { cls := .type "set", dict := none, data := .set #[] 0 (.fresh 0 0 led) }).get? s.heap.objs.size = some { cls := .type "set", dict := none, data := .set #[] 0 (.fresh 0 0 led) } := Heap.get?_push_size _ rfl
      have hT : Shared.TypeIs { s with heap := s.heap.push { cls := .type "set", dict := none, data := .set #[] 0 (.fresh 0 0 led) } } (.ref s.heap.objs.size) "set" := ⟨_, hS, rfl⟩
      have hli := PySem.F.called_set.init.lookup
      have hbi := PySem.F.called_set.init.bind (.ref s.heap.objs.size)
      repeat (any_goals (first | assumption | wp_step))

      refine codeAny_mono (codeAny_call_builtin (R := wants (fun r s₂ => r = .none ∧ ∃ h' tk, s₂ = { s with heap := h', toks := tk } ∧
          h'.SetOf (PySem.strKind prog w) s.heap.objs.size (fun k' => (xs.take items.size).any (· == k')) (cS xs items.size) ∧
          (∀ b o, b < s.heap.objs.size → s.heap.get? b = some o → h'.get? b = some o)) E) PySem.F.called_set.init.plain PySem.F.entry_set_init (check_set_init_1 hT ?_)) fun r₂ s₂ hr₂ => ?_
      · obtain ⟨ol, hol, hcl, nl, hdl⟩ := hl
        obtain ⟨ocls, odict, odata, oslots⟩ := ol
        simp only at hcl hdl
        subst hcl; subst hdl
        have hol' : (s.heap.push { cls := .type "set", dict := none, data := .set #[] 0 (.fresh 0 0 led) }).get? l = some { cls := .type "list", dict := odict, data := .seq items nl, slots := oslots } := Heap.get?_push_of_some _ hol
        have hsls := PySem.F.sub_list_set
        have hslf := PySem.F.sub_list_frozenset
        have hne : (Value.type "list" == Value.type "dict") = false := by decide
        have hl1 : (s.heap.push { cls := .type "set", dict := none, data := .set #[] 0 (.fresh 0 0 led) }).IsList l items := ⟨_, hol', rfl, nl, rfl⟩
        unfold Builtin.«set.__init__» noKeywords Builtin.Frozenset.updateFrom
        generalize hPI : pyIter = PI
        wp_walk
        subst hPI

        refine wpAny_pyIter_list hl1 ?_
        refine wpAny_bind (wpAny_runValue ?_)
        have hlS : l < s.heap.objs.size := Heap.lt_size hol
        have hh3 : A.in1.in1.in1.handled = none := by simp [hh]
        have hneI : l ≠ (s.heap.push { cls := .type "set", dict := none, data := .set #[] 0 (.fresh 0 0 led) }).objs.size := by
          rw [Heap.size_push]; exact Nat.ne_of_lt (Nat.lt_succ_of_lt hlS)
        have hSf : s.heap.objs.size ∉ [(s.heap.push { cls := .type "set", dict := none, data := .set #[] 0 (.fresh 0 0 led) }).objs.size, l] := by
          rw [Heap.size_push]; simp only [List.mem_cons, List.mem_singleton, List.not_mem_nil, or_false, not_or]
          exact ⟨Nat.ne_of_lt (Nat.lt_succ_self _), Nat.ne_of_gt hlS⟩
        have hsz : xs.length = items.size := by rw [← StrsAre.len_eq hi, Array.length_toList]
        have hval : ∀ (i : Nat) (v : Value), items[i]? = some v → ∃ t, v = .str (xs.getD i Str.empty) t := fun i v hv => SS.strs_at hi i v (by rw [Array.getElem?_toList]; exact hv)
        refine loopTx ((Walks.list hh3 _ l hneI items).toS) s.heap.objs.size
          hSf xs hsz (by rw [← hsz]; exact hn1) hval (items.size - 0) 0 _ (by omega) (Nat.zero_le _)
          ⟨⟨_, Heap.get?_push_size _ rfl, rfl, rfl⟩, (hl1.push _)⟩ ?hS0 ?hR
        case hS0 =>
          have hget : ((s.heap.push { cls := .type "set", dict := none, data := .set #[] 0 (.fresh 0 0 led) }).push { cls := .type "list_iterator", data := .fields #[.ref l, .int 0 0] }).get? s.heap.objs.size
              = some { cls := .type "set", dict := none, data := .set #[] 0 (.fresh 0 0 led) } := Heap.get?_push_of_some _ hS
          exact PyProof.Rows.SetOf_congr ((PyProof.Rows.setObjOf_fresh (knd := PySem.strKind prog w) led).setOf hget (by unfold scanBound; omega)) (fun _ => rfl) rfl
        case hR =>
          intro s' hm hS'
          obtain ⟨h', g', d', tk', os'⟩ := s'
          have eg : g' = s.gens := hm.gens
          have ed : d' = s.drawn := hm.drawn
          have eo : os' = s.os := hm.os
          subst eg; subst ed; subst eo
          show wpAny _ _ _ _ _ _
          refine wpAny_pure ?_
          show wpAny _ _ (ret Value.none) _ _ _
          refine wpAny_pure ⟨rfl, h', tk', rfl, hS', fun b o hb e => ?_⟩
          have hb1 : b ≠ s.heap.objs.size := Nat.ne_of_lt hb
          have hb2 : b ≠ (s.heap.push { cls := .type "set", dict := none, data := .set #[] 0 (.fresh 0 0 led) }).objs.size := by
            rw [Heap.size_push]; exact Nat.ne_of_lt (Nat.lt_succ_of_lt hb)
          exact hm.heap b o (by simp only [List.mem_cons, List.mem_singleton, List.not_mem_nil, or_false, not_or]; exact ⟨hb1, hb2⟩) (Heap.get?_push_of_some _ (Heap.get?_push_of_some _ e))

      · cases r₂ with
        | error e => exact hr₂
        | ok fl₂ =>
          cases fl₂ with
          | ret r =>
            obtain ⟨rfl, h', tk, rfl, hS', hk'⟩ := hr₂
            repeat (any_goals (first | assumption | wp_step))
            exact h _ _ hS' hk'
          | _ => exact hr₂.elim
    | _ => exact hr.elim

set_option maxHeartbeats 3200000 in
theorem call_set_tupleT {l : Addr} {items : Array Value} {xs : List Str} {Q : Value → Shared → Prop}
    (hh : A.handled = none) (hl : s.heap.IsTuple l items) (hi : PyProof.Rows.StrsAre items.toList xs) (hn1 : xs.length + 1 < scanBound)
    (h : ∀ (h' : Heap) (tk : Nat), h'.SetOf (PySem.strKind prog w) s.heap.objs.size (fun k' => (xs.take items.size).any (· == k')) (cS xs items.size) →
      (∀ b o, b < s.heap.objs.size → s.heap.get? b = some o → h'.get? b = some o) → Q (.ref s.heap.objs.size) { s with heap := h', toks := tk }) :
    wpAny (model prog w) A (call (.type "set") [.ref l]) Q E s := by
  obtain ⟨c, tl, hmro⟩ := PySem.F.called_set.mro
  have hmade := PySem.F.called_set.made
  have hsub := PySem.F.called_set.sub
  refine wpAny_call (codeAny_of_tree ?_)
  show wpAny _ _ (callAny (.type "set") _) _ _ _
  refine wpAny_pure ⟨Code.quiet_builtin _ (by decide +kernel), codeAny_builtin PySem.F.entry_type_call ?_⟩
  rw [Around.under_plain (weight_type_call_type "set" [.ref l] []) rfl]
  have h1 := PySem.F.called_set.notType
  have h2 := PySem.F.called_set.canCreate
  have hct := PySem.F.typeCall_set_1 (.ref l)
  repeat (any_goals (first | assumption | wp_step))

  refine codeAny_mono (code_set_new_1 (.ref l) (E := E) (Q₁ := fun obj s₁ => ∃ led : Bool, obj = .ref s.heap.objs.size ∧ s₁ = { s with heap := s.heap.push { cls := .type "set", dict := none, data := .set #[] 0 (.fresh 0 0 led) } }) fun led => ⟨led, rfl, rfl⟩) fun r s₁ hr => ?_
  cases r with
  | error e => exact hr
  | ok fl =>
    cases fl with
    | ret obj =>
      obtain ⟨led, rfl, rfl⟩ := hr
      have hS : (s.heap.push { cls := .type "set", dict := none, data := .set #[] 0 (.fresh 0 0 led) }).get? s.heap.objs.size = some { cls := .type "set", dict := none, data := .set #[] 0 (.fresh 0 0 led) } := Heap.get?_push_size _ rfl
      have hT : Shared.TypeIs { s with heap := s.heap.push { cls := .type "set", dict := none, data := .set #[] 0 (.fresh 0 0 led) } } (.ref s.heap.objs.size) "set" := ⟨_, hS, rfl⟩
      have hli := PySem.F.called_set.init.lookup
      have hbi := PySem.F.called_set.init.bind (.ref s.heap.objs.size)
      repeat (any_goals (first | assumption | wp_step))

      refine codeAny_mono (codeAny_call_builtin (R := wants (fun r s₂ => r = .none ∧ ∃ h' tk, s₂ = { s with heap := h', toks := tk } ∧
          h'.SetOf (PySem.strKind prog w) s.heap.objs.size (fun k' => (xs.take items.size).any (· == k')) (cS xs items.size) ∧
          (∀ b o, b < s.heap.objs.size → s.heap.get? b = some o → h'.get? b = some o)) E) PySem.F.called_set.init.plain PySem.F.entry_set_init (check_set_init_1 hT ?_)) fun r₂ s₂ hr₂ => ?_
      · obtain ⟨ol, hol, hcl, nl, hdl⟩ := hl
        obtain ⟨ocls, odict, odata, oslots⟩ := ol
        simp only at hcl hdl
        subst hcl; subst hdl
        have hol' : (s.heap.push { cls := .type "set", dict := none, data := .set #[] 0 (.fresh 0 0 led) }).get? l = some { cls := .type "tuple", dict := odict, data := .seq items nl, slots := oslots } := Heap.get?_push_of_some _ hol
        have hsls := PySem.F.sub_tuple_set
        have hslf := PySem.F.sub_tuple_frozenset
        have hne : (Value.type "tuple" == Value.type "dict") = false := by decide
        have hl1 : (s.heap.push { cls := .type "set", dict := none, data := .set #[] 0 (.fresh 0 0 led) }).IsTuple l items := ⟨_, hol', rfl, nl, rfl⟩
        unfold Builtin.«set.__init__» noKeywords Builtin.Frozenset.updateFrom
        generalize hPI : pyIter = PI
        wp_walk
        subst hPI

        refine wpAny_pyIter_tuple hl1 ?_
        refine wpAny_bind (wpAny_runValue ?_)
        have hlS : l < s.heap.objs.size := Heap.lt_size hol
        have hh3 : A.in1.in1.in1.handled = none := by simp [hh]
        have hneI : l ≠ (s.heap.push { cls := .type "set", dict := none, data := .set #[] 0 (.fresh 0 0 led) }).objs.size := by
          rw [Heap.size_push]; exact Nat.ne_of_lt (Nat.lt_succ_of_lt hlS)
        have hSf : s.heap.objs.size ∉ [(s.heap.push { cls := .type "set", dict := none, data := .set #[] 0 (.fresh 0 0 led) }).objs.size, l] := by
          rw [Heap.size_push]; simp only [List.mem_cons, List.mem_singleton, List.not_mem_nil, or_false, not_or]
          exact ⟨Nat.ne_of_lt (Nat.lt_succ_self _), Nat.ne_of_gt hlS⟩
        have hsz : xs.length = items.size := by rw [← StrsAre.len_eq hi, Array.length_toList]
        have hval : ∀ (i : Nat) (v : Value), items[i]? = some v → ∃ t, v = .str (xs.getD i Str.empty) t := fun i v hv => SS.strs_at hi i v (by rw [Array.getElem?_toList]; exact hv)
        refine loopTx ((Walks.tuple hh3 _ l hneI items).toS) s.heap.objs.size
          hSf xs hsz (by rw [← hsz]; exact hn1) hval (items.size - 0) 0 _ (by omega) (Nat.zero_le _)
          ⟨⟨_, Heap.get?_push_size _ rfl, rfl, rfl⟩, (hl1.push _)⟩ ?hS0 ?hR
        case hS0 =>
          have hget : ((s.heap.push { cls := .type "set", dict := none, data := .set #[] 0 (.fresh 0 0 led) }).push { cls := .type "tuple_iterator", data := .fields #[.ref l, .int 0 0] }).get? s.heap.objs.size
              = some { cls := .type "set", dict := none, data := .set #[] 0 (.fresh 0 0 led) } := Heap.get?_push_of_some _ hS
          exact PyProof.Rows.SetOf_congr ((PyProof.Rows.setObjOf_fresh (knd := PySem.strKind prog w) led).setOf hget (by unfold scanBound; omega)) (fun _ => rfl) rfl
        case hR =>
          intro s' hm hS'
          obtain ⟨h', g', d', tk', os'⟩ := s'
          have eg : g' = s.gens := hm.gens
          have ed : d' = s.drawn := hm.drawn
          have eo : os' = s.os := hm.os
          subst eg; subst ed; subst eo
          show wpAny _ _ _ _ _ _
          refine wpAny_pure ?_
          show wpAny _ _ (ret Value.none) _ _ _
          refine wpAny_pure ⟨rfl, h', tk', rfl, hS', fun b o hb e => ?_⟩
          have hb1 : b ≠ s.heap.objs.size := Nat.ne_of_lt hb
          have hb2 : b ≠ (s.heap.push { cls := .type "set", dict := none, data := .set #[] 0 (.fresh 0 0 led) }).objs.size := by
            rw [Heap.size_push]; exact Nat.ne_of_lt (Nat.lt_succ_of_lt hb)
          exact hm.heap b o (by simp only [List.mem_cons, List.mem_singleton, List.not_mem_nil, or_false, not_or]; exact ⟨hb1, hb2⟩) (Heap.get?_push_of_some _ (Heap.get?_push_of_some _ e))

      · cases r₂ with
        | error e => exact hr₂
        | ok fl₂ =>
          cases fl₂ with
          | ret r =>
            obtain ⟨rfl, h', tk, rfl, hS', hk'⟩ := hr₂
            repeat (any_goals (first | assumption | wp_step))
            exact h _ _ hS' hk'
          | _ => exact hr₂.elim
    | _ => exact hr.elim

end


section
variable {X : Cx}
/-- len(set(xs)), xs a list or tuple of texts -/
def tLenSetT (K : PySem.W.Frag) (ta : TE) : TE := fun σ H Q => ta σ H fun x H1 => ∃ l, ∃ xs : List Str, x = .ref l ∧ (SqL K H1 l (xs.map V.str) ∨ SqT K H1 l (xs.map V.str)) ∧ xs.length + 1 < scanBound ∧ Q (.int (cS xs xs.length : Nat)) H1
theorem pe_lenSetT {a : Expr} {ta : TE} {p p2 q pos : Pos} (hc : X.calm = true) (hg : Gl X "len") (hm : X.mg "len" = none) (hg2 : Gl X "set") (hm2 : X.mg "set" = none) (ha : PE X a ta)
    (na : starEach [a] X.env = (false, eval a X.env) :: starEach [] X.env := by rfl) : PE X (.Call (.Name "len" p) [.Call (.Name "set" p2) [a] [] q] [] pos) (tLenSetT X.K ta) := by
  refine ⟨fun pins s σ H Q I h => ?_⟩
  refine Call_ (ld_blt I hg hm boot_len ?_)
  refine PyProof.Rows.callWith_builtin1 (PyProof.Rows.args_cons ?_ rfl) rfl rfl
  refine Call_ (ld_blt I hg2 hm2 boot_set ?_)
  refine PyProof.Rows.callWith_type1 (PyProof.Rows.args_cons (thn (ha.run pins s σ H _ I h) fun v s1 ⟨x, H1, I1, r1, q1⟩ => PyProof.Rows.args_nil ?_) na) na rfl
  obtain ⟨l, xs, rfl, hq, h1, q1⟩ := q1
  cases r1
  have fin : ∀ (its : List Value), Vals (xs.map V.str) its → ∀ (h' : Heap) (tk : Nat), h'.SetOf (PySem.strKind X.prog X.w) s1.heap.objs.size (fun k' => (xs.take its.toArray.size).any (· == k')) (cS xs its.toArray.size) →
      (∀ b o, b < s1.heap.objs.size → s1.heap.get? b = some o → h'.get? b = some o) →
      wpAny (model X.prog X.w) X.A (spliced (backTo pos (starEach [] X.env))) (fun vs s₂ => wpAny (model X.prog X.w) X.A (call (.builtin "len") (Value.ref s1.heap.objs.size :: vs)) (EP X pins σ Q) X.xe s₂) X.xe { s1 with heap := h', toks := tk } := fun its r h' tk hS hk => by
    refine PyProof.Rows.args_nil ?_
    have hl : its.toArray.size = xs.length := by rw [List.size_toArray, ← r.length, List.length_map]
    rw [hl] at hS
    obtain ⟨o, es, ep, t, ho, hex, hd, _, _, _, hf, hn⟩ := hS
    have I2 : Inv X pins σ H1 { s1 with heap := h', toks := tk } := I1.kept fun b o e => hk b o (Heap.lt_size e) e
    have hz := cS_le xs xs.length
    unfold scanBound at h1
    refine call_len_set ho hex hd hf (by rw [hn] <;> omega) ⟨.int (cS xs xs.length : Nat), H1, I2.tok _, ⟨_, by rw [hn]⟩, q1⟩
  rcases hq with hq | hq
  · obtain ⟨its, r, pl, hz⟩ := I1.list hq
    exact call_set_listT (I1.ok.hd hc) pl.isList (by simpa using strsAre_of r) h1 fun h' tk hS hk => fin its r h' tk hS hk
  · obtain ⟨its, r, pl, hz⟩ := I1.tuple hq
    exact call_set_tupleT (I1.ok.hd hc) pl (by simpa using strsAre_of r) h1 fun h' tk hS hk => fin its r h' tk hS hk
end
end LL

set_option Elab.async false
set_option linter.all false
set_option maxRecDepth 100000
set_option maxHeartbeats 4000000
/-! displays; defs with default values -/
namespace LL
open PySem PySem.Spec PyProof.Rows L2
section
variable {X : Cx}
def strsD : List D → Option (List Str)
  | [] => some []
  | .str z :: r => (strsD r).map (z :: ·)
  | _ :: _ => none
theorem strsD_of {K : PySem.W.Frag} {mg : Str → Option Value} {W : Wd} : ∀ {vs : List V} {ds : List D} {bs : List Str}, RepL K mg W vs ds → strsD ds = some bs → vs = bs.map V.str
  | _, _, _, .nil, e => by cases e; rfl
  | v :: vs, d :: ds, bs, .cons r t, e => by
    cases r with
    | str z =>
      have e : (strsD ds).map (z :: ·) = some bs := e
      cases h : strsD ds with
      | none => rw [h] at e; cases e
      | some l =>
        rw [h] at e
        cases e
        rw [strsD_of t h]; rfl
    | _ => cases e
def lenSetD (d : D) : Option D := match d with
  | .lst xs => (strsD xs).bind fun zs => if zs.length < 4000 then some (.int (cS zs zs.length : Nat)) else none
  | .tup xs => (strsD xs).bind fun zs => if zs.length < 4000 then some (.int (cS zs zs.length : Nat)) else none
  | _ => none
def eLenSet (f : Sem) : Sem := fun S cs => (f S cs).bind fun d cs => Res.opt (lenSetD d) cs
theorem de_lenSet {E : XK} {a : Expr} {f : Sem} {p p2 q pos : Pos} (hc : X.calm = true) (hg : Gl X "len") (hm : X.mg "len" = none) (hg2 : Gl X "set") (hm2 : X.mg "set" = none) (ha : DE X E a f)
    (na : starEach [a] X.env = (false, eval a X.env) :: starEach [] X.env := by rfl) : DE X E (.Call (.Name "len" p) [.Call (.Name "set" p2) [a] [] q] [] pos) (eLenSet f) := (pe_lenSetT hc hg hm hg2 hm2 ha na).imp fun σ H Q ⟨W, S, cs, H0, ok, sl, q⟩ => by
  obtain ⟨W', S', cs', H0', ok', sl', q'⟩ := den.then ok sl q
  refine ⟨W', S', cs', H0', ok', sl', q'.imp fun x H1 ⟨W1, cs1, d, ok1, sl1, l1, r1, q1⟩ => ?_⟩
  obtain ⟨z, e, q2⟩ := q1.opt
  have fin : ∀ (vs : List V) (ds : List D), RepL X.K X.mg W1 vs ds → ((strsD ds).bind fun zs => if zs.length < 4000 then some (D.int (cS zs zs.length : Nat)) else none) = some z →
      ∃ xs : List Str, vs = xs.map V.str ∧ xs.length + 1 < scanBound ∧ z = .int (cS xs xs.length : Nat) := fun vs ds r e => by
    cases h : strsD ds with
    | none => rw [h] at e; cases e
    | some zs =>
      rw [h] at e
      have e : (if zs.length < 4000 then some (D.int (cS zs zs.length : Nat)) else none) = some z := e
      split at e
      · cases e
        exact ⟨zs, strsD_of r h, by unfold scanBound; omega, rfl⟩
      · cases e
  cases r1 with
  | @lst a vs ds h r =>
    obtain ⟨xs, rfl, h1, rfl⟩ := fin _ _ r e
    exact ⟨a, xs, rfl, .inl (.inl (.inl (ok1.ex _ _ h))), h1, q2 _ W1 H1 ok1 (Le.refl _ _) (.int _)⟩
  | @tup a vs ds h r =>
    obtain ⟨xs, rfl, h1, rfl⟩ := fin _ _ r e
    exact ⟨a, xs, rfl, .inr (ok1.ex.sqt h.sqt), h1, q2 _ W1 H1 ok1 (Le.refl _ _) (.int _)⟩
  | _ => cases e
/-! ### displays -/
/-- [e, ..] as a value that stays as it is -/
def eLst (g : Sems) : Sem := fun S cs => (g S cs).bind fun xs cs => if xs.length ≤ 1000000 then .ok (.lst xs) cs else .bad
theorem de_lst {E : XK} {es : List Expr} {g : Sems} {pos : Pos} (h : DA X E es g) : DE X E (.List es pos) (eLst g) := (pe_lst h).imp fun σ H Q ⟨W, S, cs, H0, ok, sl, q⟩ => by
  obtain ⟨W', S', cs', H0', ok', sl', q'⟩ := denA.then ok sl q
  refine ⟨W', S', cs', H0', ok', sl', q'.imp fun xs H1 ⟨W1, cs1, d, ok1, sl1, l1, r1, q1⟩ => ?_⟩
  split at q1
  · refine ⟨by rw [r1.length]; exact line_of (by assumption), fun p hp => ?_⟩
    obtain ⟨ok2, l2⟩ := ok1.lay (.lst xs) hp
    exact q1 _ _ _ ok2 l2 (.lst upd_same (r1.le l2))
  · exact q1.elim
/-- [e, ..] as a new cell -/
def eNew (g : Sems) : Sem := fun S cs => (g S cs).bind fun xs cs => if xs.length ≤ 1000000 then .ok (.cell cs.length) (cs ++ [xs]) else .bad
theorem Ok.cells {K : PySem.W.Frag} {mg : Str → Option Value} {W : Wd} {H : Hp} {cs : Cs} (ok : Ok K mg W H cs) : W.ρ.length = cs.length := ok.cl.length
theorem de_new {E : XK} {es : List Expr} {g : Sems} {pos : Pos} (h : DA X E es g) : DE X E (.List es pos) (eNew g) := (pe_lst h).imp fun σ H Q ⟨W, S, cs, H0, ok, sl, q⟩ => by
  obtain ⟨W', S', cs', H0', ok', sl', q'⟩ := denA.then ok sl q
  refine ⟨W', S', cs', H0', ok', sl', q'.imp fun xs H1 ⟨W1, cs1, d, ok1, sl1, l1, r1, q1⟩ => ?_⟩
  split at q1
  · refine ⟨by rw [r1.length]; exact line_of (by assumption), fun p hp => ?_⟩
    obtain ⟨ok2, l2⟩ := ok1.cellNew r1 hp
    exact q1 _ _ _ ok2 l2 (.cell (by rw [← ok1.cells]; simp))
  · exact q1.elim
/-! ### dict displays -/
def pSem : List (Sem × Sem) → List Sl → Cs → Res (List D × List D)
  | [], _, cs => .ok ([], []) cs
  | p :: r, S, cs => (p.1 S cs).bind fun k cs => (p.2 S cs).bind fun v cs => (pSem r S cs).bind fun q cs => .ok (k :: q.1, v :: q.2) cs
def mergeD : List D → List D → List D × List D → List D × List D
  | k :: ks, v :: vs, a => mergeD ks vs (dputD a.1 a.2 k v)
  | _, _, a => a
def eDisp (fs : List (Sem × Sem)) : Sem := fun S cs => (pSem fs S cs).bind fun p cs => if p.1.all keyD && decide (p.1.length ≤ 15) then .ok (.dct (mergeD p.1 p.2 ([], [])).1 (mergeD p.1 p.2 ([], [])).2) cs else .bad
def RepP (K : PySem.W.Frag) (mg : Str → Option Value) (W : Wd) (ps : List (V × V)) (q : List D × List D) : Prop := RepL K mg W (ps.map (·.1)) q.1 ∧ RepL K mg W (ps.map (·.2)) q.2
abbrev trsOf (X : Cx) (E : XK) (fs : List (Sem × Sem)) : List (TE × TE) := fs.map fun p => (den X.K X.mg E p.1, den X.K X.mg E p.2)
abbrev DPs (X : Cx) (E : XK) (pos : Pos) (keys : List (Option Expr)) (values : List Expr) (fs : List (Sem × Sem)) : Prop := PPs X pos keys values (trsOf X E fs)
variable {E : XK}
theorem dps_nil {pos : Pos} : DPs X E pos [] [] [] := pps_nil
theorem dps_cons {pos : Pos} {k v : Expr} {ks : List (Option Expr)} {vs : List Expr} {f g : Sem} {fs : List (Sem × Sem)} (hk : DE X E k f) (hv : DE X E v g) (hr : DPs X E pos ks vs fs) : DPs X E pos (some k :: ks) (v :: vs) ((f, g) :: fs) := pps_cons hk hv hr
theorem pairs_den : ∀ (fs : List (Sem × Sem)) {W : Wd} {S : List Sl} {cs : Cs} {H H0 : Hp} {σ : SSt} {Q : List (V × V) → Hp → Prop}, Ok X.K X.mg W H cs → Slots X.K X.mg W H0 H σ S → RO X.K X.mg E (RepP X.K X.mg) W H (pSem fs S cs) Q → tPairs (trsOf X E fs) σ H Q
  | [], W, S, cs, H, H0, σ, Q, ok, sl, q => RO.ok_ (R := RepP X.K X.mg) (v := []) ok q ⟨.nil, .nil⟩
  | p :: r, W, S, cs, H, H0, σ, Q, ok, sl, q => by
    show den X.K X.mg E p.1 σ H fun x H1 => den X.K X.mg E p.2 σ H1 fun y H2 => tPairs (trsOf X E r) σ H2 fun ps H3 => Q ((x, y) :: ps) H3
    unfold pSem at q
    obtain ⟨W', S', cs', H0', ok', sl', q'⟩ := den.then ok sl q
    refine ⟨W', S', cs', H0', ok', sl', q'.imp fun x H1 ⟨W1, cs1, d, ok1, sl1, l1, r1, q1⟩ => ?_⟩
    obtain ⟨W2, S2, cs2, H2, ok2, sl2, q2⟩ := den.then ok1 sl1 q1
    refine ⟨W2, S2, cs2, H2, ok2, sl2, q2.imp fun y H3 ⟨W3, cs3, d3, ok3, sl3, l3, r3, q3⟩ => ?_⟩
    refine pairs_den r ok3 sl3 ((RO.seqv (R := RepP X.K X.mg) q3).imp fun ps H4 ⟨W4, cs4, d4, ok4, l4, r4, q4⟩ => ?_)
    exact RO.ok_ (R := RepP X.K X.mg) (v := (x, y) :: ps) ok4 q4 ⟨.cons ((r1.le l3).le l4) r4.1, .cons (r3.le l4) r4.2⟩
theorem merge_of {K : PySem.W.Frag} {mg : Str → Option Value} {W : Wd} : ∀ {ps : List (V × V)} {ks vs : List D} {a : List D × List D} {kvs : List (Key × V)}, RepL K mg W (ps.map (·.1)) ks → RepL K mg W (ps.map (·.2)) vs → ks.all keyD = true → KsNd kvs →
    RepL K mg W (kvs.map fun p => kV p.1) a.1 → RepL K mg W (kvs.map (·.2)) a.2 →
    ∃ ws : List (Key × V), ps = ws.map (fun kv => (kV kv.1, kv.2)) ∧ RepL K mg W ((mergeK kvs ws).map fun p => kV p.1) (mergeD ks vs a).1 ∧ RepL K mg W ((mergeK kvs ws).map (·.2)) (mergeD ks vs a).2
  | [], _, _, a, kvs, .nil, .nil, _, _, h1, h2 => ⟨[], rfl, h1, h2⟩
  | p :: ps, _, _, a, kvs, .cons (d := dk) (ds := ks) r1 t1, .cons (d := dv) (ds := vs) r2 t2, hk, nd, h1, h2 => by
    rw [List.all_cons, Bool.and_eq_true] at hk
    obtain ⟨k, ek⟩ := key_of r1 hk.1
    have r1' : Rep K mg W (kV k) dk := by rw [← ek]; exact r1
    obtain ⟨a1, a2, a3⟩ := dput_of r1' r2 nd h1 h2
    obtain ⟨ws, e, b1, b2⟩ := merge_of t1 t2 hk.2 a3 a1 a2
    refine ⟨(k, p.2) :: ws, ?_, b1, b2⟩
    rw [List.map_cons, ← e, ← ek]
theorem de_disp {pos : Pos} {keys : List (Option Expr)} {values : List Expr} {fs : List (Sem × Sem)} (h : DPs X E pos keys values fs) (hall : keys.all (·.isSome) = true := by rfl) (hl : keys.length = values.length := by rfl) (h0 : keys ≠ [] := by intro z; cases z)
    (h15 : keys.length ≤ 15 := by decide) : DE X E (.Dict keys values pos) (eDisp fs) := (pe_disp h hall hl h0 h15).imp fun σ H Q ⟨W, S, cs, H0, ok, sl, q⟩ => by
  intro p hp
  obtain ⟨ok1, l1⟩ := ok.apart (.dK []) hp
  obtain ⟨g1, n1⟩ := ok.fresh hp
  unfold eDisp at q
  cases hf : pSem fs S cs with
  | bad => rw [hf] at q; exact q.elim
  | exc c ns vs cs' =>
    rw [hf] at q
    refine pairs_den fs ok1 (sl.mono l1) ?_
    rw [hf]
    exact RO.le (R := RepP X.K X.mg) (r := .exc c ns vs cs') (Q := fun ps H2 => _) q ok1 l1
  | ok d cs2 =>
    rw [hf] at q
    refine pairs_den fs ok1 (sl.mono l1) ?_
    rw [hf]
    intro ps W2 H2 ok2 l2 r2
    have hp2 : H2 p = some (.dK []) := l2.keep p _ upd_same n1
    have np := l2.new p (by rw [upd_same]; simp) g1 n1
    refine ⟨hp2, ?_⟩
    have q2 : RO X.K X.mg E (Rep X.K X.mg) W H (if d.1.all keyD && decide (d.1.length ≤ 15) then .ok (.dct (mergeD d.1 d.2 ([], [])).1 (mergeD d.1 d.2 ([], [])).2) cs2 else .bad) Q := q
    split at q2
    · rename_i hk
      rw [Bool.and_eq_true] at hk
      obtain ⟨ws, e, b1, b2⟩ := merge_of (a := ([], [])) (kvs := []) r2.1 r2.2 hk.1 (by simp [KsNd]) .nil .nil
      refine ⟨ws, e, ?_, ?_⟩
      · have z2 := r2.1.length
        have z3 := of_decide_eq_true hk.2
        rw [e] at z2
        simp at z2
        omega
      · have l02 := l1.trans ok1 l2
        obtain ⟨ok3, l3⟩ := ok2.change l02 (.dK (mergeK [] ws)) np.1 np.2 hp
        obtain ⟨ok4, l4, ex4⟩ := ok3.freeze l3 upd_same np.1 np.2 hp
        exact q2 _ _ _ ok4 l4 (.dct upd_same (b1.mono ⟨[], by simp⟩ ex4) (b2.mono ⟨[], by simp⟩ ex4))
    · exact q2.elim
end
end LL

set_option Elab.async false
set_option linter.all false
set_option maxRecDepth 100000
set_option maxHeartbeats 4000000
/-! whatever is iterated over; fields of objects of some classes -/
namespace LL
open PySem PySem.Spec PyProof.Rows L2
section
variable {X : Cx} {E : XK} {tg e : Expr} {f : Sem}
/-- in e: a list, a tuple, a text -/
def iA (f : Sem) : Its := fun S cs => (f S cs).bind fun d cs => match d with
  | .lst xs => .ok xs cs
  | .scr xs => .ok xs cs
  | .tup xs => .ok xs cs
  | .str z => .ok (z.cps.toList.map fun c => .str ⟨#[c]⟩) cs
  | _ => .bad
theorem di_any (he : DE X E e f) : DI X E tg e (iA f) := ⟨fun pins s σ H R I ⟨W, S, cs, H0, ok, sl, q⟩ => by
  unfold iA at q
  cases hf : f S cs with
  | bad => rw [hf] at q; exact q.elim
  | exc c ns vs cs' =>
    rw [hf] at q
    refine (di_list he).run pins s σ H R I ⟨W, S, cs, H0, ok, sl, ?_⟩
    unfold iL
    rw [hf]
    exact q
  | ok d cs' =>
    rw [hf] at q
    cases d with
    | lst xs =>
      refine (di_list he).run pins s σ H R I ⟨W, S, cs, H0, ok, sl, ?_⟩
      unfold iL
      rw [hf]
      exact q
    | scr xs =>
      refine (di_list he).run pins s σ H R I ⟨W, S, cs, H0, ok, sl, ?_⟩
      unfold iL
      rw [hf]
      exact q
    | tup xs =>
      refine (di_tup he).run pins s σ H R I ⟨W, S, cs, H0, ok, sl, ?_⟩
      unfold iT
      rw [hf]
      exact q
    | str z =>
      refine (di_str he).run pins s σ H R I ⟨W, S, cs, H0, ok, sl, ?_⟩
      unfold iS
      rw [hf]
      exact q
    | _ => exact q.elim⟩
end
end LL

set_option Elab.async false
set_option linter.all false
set_option maxRecDepth 100000
set_option maxHeartbeats 4000000
/-! reckoning with readings -/
namespace LL
open PySem PySem.Spec PyProof.Rows L2
theorem forLoop_inv {g : Tg} {c : Cm} (I : Nat → List Sl → Cs → Prop) : ∀ {ds : List D} {k : Nat} {S : List Sl} {cs : Cs}, I k S cs →
    (∀ i d S cs, ds[i]? = some d → I (k + i) S cs → ∃ S2 S' cs', g d S = some S2 ∧ c S2 cs = .nx S' cs' ∧ I (k + i + 1) S' cs') → ∃ S' cs', forLoop g c ds S cs = .nx S' cs' ∧ I (k + ds.length) S' cs'
  | [], k, S, cs, h, _ => ⟨S, cs, rfl, h⟩
  | d :: ds, k, S, cs, h, st => by
    obtain ⟨S2, S', cs', e1, e2, h2⟩ := st 0 d S cs rfl h
    obtain ⟨S3, cs3, e3, h3⟩ := forLoop_inv (g := g) (c := c) I (ds := ds) (k := k + 1) h2 fun i d S cs e h => by
      have q := st (i + 1) d S cs (by simpa using e) (by rw [show k + (i + 1) = k + 1 + i by omega]; exact h)
      rw [show k + (i + 1) + 1 = k + 1 + i + 1 by omega] at q
      exact q
    refine ⟨S3, cs3, ?_, by rw [List.length_cons, show k + (ds.length + 1) = k + 1 + ds.length by omega]; exact h3⟩
    simp only [forLoop, e1, e2]
    exact e3
/-- a tape: a cell of one number -/
def Tape (cs : Cs) (n : Nat) : Prop := ∃ t : Int, cs[n]? = some [.int t]
theorem eqD_int (cs : Cs) (i j : Int) : eqD cs (.int i) (.int j) = some (.bl (decide (i = j))) := rfl
theorem neD_int (cs : Cs) (i j : Int) : neD cs (.int i) (.int j) = some (.bl (!decide (i = j))) := rfl
theorem eqD_str (cs : Cs) (i j : Str) (hi : PyData.strOk i = true) (hj : PyData.strOk j = true) : eqD cs (.str i) (.str j) = some (.bl (i == j)) := by
  unfold eqD plainD
  rw [hi, hj]
  rfl
theorem ltD_int (cs : Cs) (i j : Int) : ltD cs (.int i) (.int j) = some (.bl (decide (i < j))) := rfl
theorem geD_int (cs : Cs) (i j : Int) : geD cs (.int i) (.int j) = some (.bl (decide (j ≤ i))) := rfl
theorem addD_int (cs : Cs) (i j : Int) : addD cs (.int i) (.int j) = some (.int (i + j)) := rfl
theorem subD_int (cs : Cs) (i j : Int) : subD cs (.int i) (.int j) = some (.int (i - j)) := rfl
theorem mulD_intL (cs : Cs) (i j : Int) (h1 : -18446744073709551616 < i) (h2 : i < 18446744073709551616) : mulD cs (.int i) (.int j) = some (.int (i * j)) := by
  unfold mulD mulIntOk
  simp [h1, h2]
theorem mulD_intR (cs : Cs) (i j : Int) (h1 : -18446744073709551616 < j) (h2 : j < 18446744073709551616) : mulD cs (.int i) (.int j) = some (.int (i * j)) := by
  unfold mulD mulIntOk
  simp [h1, h2]
theorem modD_int (cs : Cs) (i j : Int) (h : 0 < j) : modD cs (.int i) (.int j) = some (.int (i % j)) := by
  unfold modD
  simp [h]
theorem fdivD_int (cs : Cs) (i j : Int) (h : 0 < j) (hl : j < 1000) : fdivD cs (.int i) (.int j) = some (.int (i / j)) := by
  have h1 : j.natAbs.log2 < 9000 := by
    have h2 : j.natAbs < 1000 := by omega
    have := Nat.log2_le_self j.natAbs
    omega
  unfold fdivD
  simp [h, h1]
theorem sSeq_nx {c k : Cm} {S S' : List Sl} {cs cs' : Cs} (h : c S cs = .nx S' cs') : sSeq c k S cs = k S' cs' := by simp only [sSeq, h]
theorem sSeq_rt {c k : Cm} {S : List Sl} {cs cs' : Cs} {d : D} (h : c S cs = .rt d cs') : sSeq c k S cs = .rt d cs' := by simp only [sSeq, h]
theorem sSet_ok {i : Nat} {f : Sem} {S : List Sl} {cs cs' : Cs} {d : D} (h : f S cs = .ok d cs') : sSet i f S cs = .nx (S.set i (.val d)) cs' := by simp only [sSet, h, Res.thenF_ok]
theorem sRet_ok {f : Sem} {S : List Sl} {cs cs' : Cs} {d : D} (h : f S cs = .ok d cs') : sRet f S cs = .rt d cs' := by simp only [sRet, h, Res.thenF_ok]
theorem sIf_t {t : Sem} {c k : Cm} {S : List Sl} {cs cs' : Cs} (h : t S cs = .ok (.bl true) cs') : sIf t c k S cs = c S cs' := by simp only [sIf, h, asB_ok, Res.thenF_ok, if_true]
theorem sIf_f {t : Sem} {c k : Cm} {S : List Sl} {cs cs' : Cs} (h : t S cs = .ok (.bl false) cs') : sIf t c k S cs = k S cs' := by simp [sIf, h, asB_ok, Res.thenF_ok]
theorem sFor_ok {its : Its} {g : Tg} {c : Cm} {S : List Sl} {cs cs' : Cs} {ds : List D} (h : its S cs = .ok ds cs') : sFor its g c S cs = forLoop g c ds S cs' := by simp only [sFor, h, Res.thenF_ok]
theorem eBin_ok {op : Cs → D → D → Option D} {f g : Sem} {S : List Sl} {cs cs1 cs2 : Cs} {x y z : D} (h1 : f S cs = .ok x cs1) (h2 : g S cs1 = .ok y cs2) (h3 : op cs2 x y = some z) : eBin op f g S cs = .ok z cs2 := by simp only [eBin, h1, h2, h3, Res.bind_ok, Res.opt_some]
theorem eVar_ok {i : Nat} {S : List Sl} {cs : Cs} {d : D} (h : S[i]? = some (.val d)) : eVar i S cs = .ok d cs := by simp only [eVar, h]
theorem eFn_ok {f : Fn} {gs : Sems} {S : List Sl} {cs cs1 cs2 : Cs} {ds : List D} {d : D} (h1 : gs S cs = .ok ds cs1) (h2 : f ds cs1 = .ok d cs2) : eFn f gs [] S cs = .ok d cs2 := by simp only [eFn, h1, Res.bind_ok, List.append_nil, h2, noX_ok]
theorem fnN_ok {n : Nat} {f : Fn} {ds : List D} {cs : Cs} (h : ds.length = n) : fnN n f ds cs = f ds cs := by simp only [fnN, h, if_true]
theorem rng_lo (j : Nat) : -4611686018427387904 ≤ (j : Int) := Int.le_trans (by decide) (Int.natCast_nonneg j)
theorem rng_hi {j : Nat} (h : j < 1000) : (j : Int) < 4611686018427387904 := Int.lt_trans (Int.ofNat_lt.mpr h) (by decide)
theorem iR1_int (j : Int) (h : -4611686018427387904 ≤ j ∧ j < 4611686018427387904) (S : List Sl) (cs cs' : Cs) (g : Sems) (e : g S cs = .ok [.int j] cs') : iR1 g S cs = .ok (rngD 0 j.toNat) cs' := by
  unfold iR1
  rw [e]
  exact if_pos h
theorem iR1_ok {g : Sems} {S : List Sl} {cs cs' : Cs} {j : Nat} (h : g S cs = .ok [.int (j : Nat)] cs') (hj : j < 1000) : iR1 g S cs = .ok (rngD 0 j) cs' :=
  iR1_int (j : Nat) ⟨rng_lo j, rng_hi hj⟩ S cs cs' g h
theorem eCons_ok {f : Sem} {g : Sems} {S : List Sl} {cs cs1 cs2 : Cs} {x : D} {xs : List D} (h1 : f S cs = .ok x cs1) (h2 : g S cs1 = .ok xs cs2) : eCons f g S cs = .ok (x :: xs) cs2 := by simp only [eCons, h1, h2, Res.bind_ok]
end LL

set_option Elab.async false
set_option linter.all false
set_option maxRecDepth 100000
set_option maxHeartbeats 4000000
/-! dicts of one's own; what has no meaning -/
namespace LL
open PySem PySem.Spec PyProof.Rows L2
section
variable {X : Cx} {E : XK} {e : Expr} {x : Str} {i : Nat} {pos : Pos} {f g : Sem}
def eBad : Sem := fun _ _ => .bad
theorem de_bad : DE X E e eBad := ⟨fun pins s σ H Q I ⟨W, S, cs, H0, ok, sl, q⟩ => q.elim⟩
/-- a slot's own object is changed -/
theorem Slots.putS {K : PySem.W.Frag} {mg : Str → Option Value} {W : Wd} {H0 H : Hp} {σ : SSt} {S : List Sl} (sl : Slots K mg W H0 H σ S) {s0 s1 : Sl} (e : S[i]? = some s0) (o0 : s0.owns = true) {p : Addr} (hσ : σ[i]? = some (some (.ref p)))
    {o : HO} (new : SlOk K mg W H0 (upd H p o) σ[i]? s1) : Slots K mg W H0 (upd H p o) σ (S.set i s1) := by
  have hi : i < S.length := (List.getElem?_eq_some_iff.mp e).1
  refine ⟨by rw [List.length_set]; exact sl.len, fun j s ej => ?_, fun j k s t q ne e1 e2 o1 o2 z => ?_⟩
  · by_cases h : i = j
    · subst h
      rw [List.getElem?_set_self hi] at ej
      cases ej
      exact new
    · rw [List.getElem?_set_ne h] at ej
      have q := sl.get j s ej
      have ap : ∀ p', s.owns = true → σ[j]? = some (some (.ref p')) → p' ≠ p := fun p' ho ez y => by
        subst y
        exact sl.sep i j _ _ p' h e ej o0 ho hσ ez
      cases s with
      | un => trivial
      | val d => exact q
      | own zs => obtain ⟨p', vs', a1, a2, r⟩ := q; exact ⟨p', vs', a1, by rw [upd_ne (ap p' rfl a1)]; exact a2, r⟩
      | odct zs us => obtain ⟨p', vs', a1, a2, r⟩ := q; exact ⟨p', vs', a1, by rw [upd_ne (ap p' rfl a1)]; exact a2, r⟩
      | self c ns us => obtain ⟨p', C, dx, fs, a1, a2, a3, r⟩ := q; exact ⟨p', C, dx, fs, a1, a2, by rw [upd_ne (ap p' rfl a1)]; exact a3, r⟩
  · have own : ∀ (m : Nat) (s' : Sl), (S.set i s1)[m]? = some s' → s'.owns = true → ∃ s'' : Sl, S[m]? = some s'' ∧ s''.owns = true := fun m s' em om => by
      by_cases h : i = m
      · subst h; exact ⟨_, e, o0⟩
      · rw [List.getElem?_set_ne h] at em; exact ⟨s', em, om⟩
    obtain ⟨t1, f1, p1⟩ := own j s e1 o1
    obtain ⟨t2, f2, p2⟩ := own k t e2 o2
    exact sl.sep j k t1 t2 q ne f1 f2 p1 p2 z
/-- x = {} -/
def sOd (i : Nat) : Cm := fun S cs => .nx (S.set i (.odct [] [])) cs
theorem ds_od {pos' dpos : Pos} (hN : X.N.Nodup) (hi : X.N[i]? = some x) (hx : Loc X.env.scope x) (hs : swapsWith (.Dict [] [] dpos) (some (.Name x pos')) pos.line X.env = pure false := by rfl) (hf : X.fn x = true ∨ X.env.scope.names.lookup x = some .local := by first | exact .inl rfl | exact .inr rfl | assumption) :
    DS X E (.Assign [.Name x pos'] (.Dict [] [] dpos) pos) (sOd i) := (ps_set hN hi hx pe_dnewK hs hf).imp fun T σ H ⟨W, S, cs, W0, H0, ok, l, sl, q⟩ => by
  intro p hp
  obtain ⟨ok2, l2⟩ := ok.apart (.dK []) hp
  obtain ⟨g, n⟩ := ok.fresh hp
  refine q W _ _ ok2 (l.trans ok l2) (Mo.refl _) ((sl.mono l2).setOwn (s := .odct [] []) (p := p) ⟨p, [], rfl, upd_same, ⟨.nil, .nil, List.nodup_nil⟩, g, n, l.none ok hp⟩ fun j t hj e ho z => ?_)
  have q := sl.get j t e
  rw [z] at q
  cases t with
  | un => cases ho
  | val d => cases ho
  | own xs => obtain ⟨p', vs', e', h', _⟩ := q; cases e'; rw [hp] at h'; cases h'
  | odct ks us => obtain ⟨p', vs', e', h', _⟩ := q; cases e'; rw [hp] at h'; cases h'
  | self c ns vs => obtain ⟨p', C, dx, fs, e', m, h', _⟩ := q; cases e'; rw [hp] at h'; cases h'
/-- x[k] = v -/
def sOdPut (i : Nat) (fk fv : Sem) : Cm := fun S cs => match S[i]? with
  | some (.odct ks us) => (fv S cs).thenF fun d cs => (fk S cs).thenF fun k cs => if keyD k && decide (ks.length < 1000000) then let r := dputD ks us k d; .nx (S.set i (.odct r.1 r.2)) cs else .bad
  | _ => .bad
theorem ds_odPut {k v : Expr} {px pos' : Pos} {fk fv : Sem} {kr : Nat} (hr : Room kr X.A) (hi : PE X (.Name x px) (tVar i)) (hk : DE X E k fk) (hv : DE X E v fv) (hs : swapsWith v (some (.Subscript (.Name x px) k pos')) pos.line X.env = pure false := by rfl) :
    DS X E (.Assign [.Subscript (.Name x px) k pos'] v pos) (sOdPut i fk fv) := (ps_dput (by have := hr.un; omega) hi hk hv hs).imp fun T σ H ⟨W, S, cs, W0, H0, ok, l, sl, q⟩ => by
  unfold sOdPut at q
  split at q
  · rename_i ks us e
    obtain ⟨W', S', cs', H0', ok', sl', q'⟩ := den.toF ok l sl q
    refine ⟨W', S', cs', H0', ok', sl', q'.imp fun u H1 ⟨W1, cs1, d, ok1, l1, sl1, l01, r1, q1⟩ => ?_⟩
    obtain ⟨p, kvs, hσ, hp, ⟨k1, k2, nd⟩, g, n, h0⟩ := sl.get i _ e
    refine ⟨.ref p, hσ, ?_⟩
    obtain ⟨W2, S2, cs2, H2, ok2, sl2, q2⟩ := den.toF ok1 l1 sl1 q1
    refine ⟨W2, S2, cs2, H2, ok2, sl2, q2.imp fun y H3 ⟨W3, cs3, d3, ok3, l3, sl3, l13, r3, q3⟩ => ?_⟩
    obtain ⟨p', kvs', hσ', hp', ⟨k1', k2', nd'⟩, g', n', h0'⟩ := sl3.get i _ e
    rw [hσ] at hσ'
    cases hσ'
    split at q3
    · rename_i hk
      rw [Bool.and_eq_true] at hk
      obtain ⟨kk, rfl⟩ := key_of r3 hk.1
      have hl : kvs'.length < sizeLine := by
        have := k1'.length
        rw [List.length_map] at this
        rw [this]
        exact line_lt (of_decide_eq_true hk.2)
      obtain ⟨a1, a2, a3⟩ := dput_of r3 (r1.le l13) nd' k1' k2'
      obtain ⟨ok4, l4⟩ := ok3.change l3 (.dK (putK kvs' kk u)) g' n' h0'
      refine ⟨p, _, rfl, DPut.k hp' hl, ?_⟩
      exact q3 W3 σ _ ok4 l4 (Mo.refl _) (sl3.putS e rfl hσ ⟨p, putK kvs' kk u, hσ, upd_same, ⟨a1, a2, a3⟩, g', n', h0'⟩)
    · exact q3.elim
  · exact q.elim
end
end LL

set_option Elab.async false
set_option linter.all false
set_option maxRecDepth 100000
set_option maxHeartbeats 4000000
/-! loops and comprehensions as functions of lists -/
namespace LL
open PySem PySem.Spec PyProof.Rows L2
/-- a loop that goes on, or returns at the first place where p tells what -/
theorem forLoop_find {α : Type} {g : Tg} {c : Cm} (I : List Sl → Prop) (enc : α → D) (p : α → Option D) (cs : Cs) : ∀ {ds : List α} {S : List Sl}, I S → (∀ d ∈ ds, ∀ S, I S → ∃ S2, g (enc d) S = some S2 ∧ (match p d with | some r => c S2 cs = .rt r cs | none => ∃ S', c S2 cs = .nx S' cs ∧ I S')) →
    (match ds.findSome? p with | some r => forLoop g c (ds.map enc) S cs = .rt r cs | none => ∃ S', forLoop g c (ds.map enc) S cs = .nx S' cs ∧ I S')
  | [], S, h, _ => ⟨S, rfl, h⟩
  | d :: ds, S, h, st => by
    obtain ⟨S2, e1, e2⟩ := st d List.mem_cons_self S h
    rw [List.findSome?_cons]
    cases hp : p d with
    | some r =>
      rw [hp] at e2
      simp only [List.map_cons, forLoop, e1, e2]
    | none =>
      rw [hp] at e2
      obtain ⟨S', e3, h'⟩ := e2
      have ih := forLoop_find I enc p cs (ds := ds) h' fun d hd => st d (List.mem_cons_of_mem _ hd)
      have e : forLoop g c ((d :: ds).map enc) S cs = forLoop g c (ds.map enc) S' cs := by simp only [List.map_cons, forLoop, e1, e3]
      rw [e]
      exact ih
/-- a comprehension that keeps what p tells -/
theorem lcLoop_filterMap {α : Type} {g : Tg} {c f : Sem} {S : List Sl} (enc : α → D) (p : α → Option D) (cs : Cs) : ∀ {ds : List α}, (∀ d ∈ ds, ∃ S2, g (enc d) S = some S2 ∧ (match p d with | some y => c S2 cs = .ok (.bl true) cs ∧ f S2 cs = .ok y cs | none => c S2 cs = .ok (.bl false) cs)) → lcLoop g c f S (ds.map enc) cs = .ok (ds.filterMap p) cs
  | [], _ => rfl
  | d :: ds, st => by
    obtain ⟨S2, e1, e2⟩ := st d List.mem_cons_self
    have ih := lcLoop_filterMap enc p cs (ds := ds) fun d hd => st d (List.mem_cons_of_mem _ hd)
    cases hp : p d with
    | some y =>
      rw [hp] at e2
      simp only [List.map_cons, lcLoop, e1, Res.opt_some, Res.bind_ok, e2.1, asB_ok, if_true, e2.2, ih]
      rw [List.filterMap_cons, hp]
    | none =>
      rw [hp] at e2
      rw [List.filterMap_cons, hp]
      simp [lcLoop, e1, e2, asB_ok, ih]
theorem eLc_ok {its : Its} {g : Tg} {c f : Sem} {vs : List Nat} {S : List Sl} {cs : Cs} {ds ys : List D} (h : its S cs = .ok ds cs) (hl : ds.length ≤ 1000000) (hy : lcLoop g c f (wipeS S vs) ds cs = .ok ys cs) : eLc its g c f vs S cs = .ok (.lst ys) cs := by
  simp only [eLc, h, Res.bind_ok, if_pos hl, hy, noX_ok]
/-- words: texts that may be laid -/
def Wrd (x : Str) : Prop := PyData.strOk x = true
theorem plain_sv {n : Nat} : ∀ {xs : List Str}, (∀ x ∈ xs, Wrd x) → plainDs n (xs.map .str) = true
  | [], _ => rfl
  | x :: xs, h => by
    show (plainD n (.str x) && plainDs n (xs.map .str)) = true
    rw [plain_sv fun y hy => h y (List.mem_cons_of_mem _ hy)]
    have := h x List.mem_cons_self
    unfold plainD
    rw [show PyData.strOk x = true from this]
    rfl
theorem eqvs_sv : ∀ (xs ys : List Str), PyData.eqvAll (toPs (xs.map .str)) (toPs (ys.map .str)) = decide (xs = ys)
  | [], [] => by simp [toPs, PyData.eqvAll]
  | [], _ :: _ => by simp [toPs, PyData.eqvAll]
  | _ :: _, [] => by simp [toPs, PyData.eqvAll]
  | x :: xs, y :: ys => by
    have ih := eqvs_sv xs ys
    have e : PyData.eqv (toP (.str x)) (toP (.str y)) = (x == y) := rfl
    simp only [List.map_cons, toPs, PyData.eqvAll, ih, e]
    rw [Bool.eq_iff_iff]
    simp
theorem eqT_sv (xs ys : List Str) : PyData.eqv (toP (.tup (xs.map .str))) (toP (.tup (ys.map .str))) = decide (xs = ys) := by
  rw [← eqvs_sv]
  simp only [toP, PyData.eqv]
theorem eqD_sv (cs : Cs) {xs ys : List Str} (hx : ∀ x ∈ xs, Wrd x) (hy : ∀ y ∈ ys, Wrd y) : eqD cs (.tup (xs.map .str)) (.tup (ys.map .str)) = some (.bl (decide (xs = ys))) := by
  have p1 : plainD 20 (.tup (xs.map .str)) = true := plain_sv (n := 19) hx
  have p2 : plainD 20 (.tup (ys.map .str)) = true := plain_sv (n := 19) hy
  unfold eqD
  rw [p1, p2, eqT_sv]
  rfl
theorem neD_sv (cs : Cs) {xs ys : List Str} (hx : ∀ x ∈ xs, Wrd x) (hy : ∀ y ∈ ys, Wrd y) : neD cs (.tup (xs.map .str)) (.tup (ys.map .str)) = some (.bl (!decide (xs = ys))) := by
  have p1 : plainD 20 (.tup (xs.map .str)) = true := plain_sv (n := 19) hx
  have p2 : plainD 20 (.tup (ys.map .str)) = true := plain_sv (n := 19) hy
  unfold neD
  rw [p1, p2, eqT_sv]
  rfl
/-- slices by numbers that are not below nought -/
theorem cut_nat (xs : List D) (i j : Nat) : LL.cutD xs (some (i : Int)) (some (j : Int)) = (xs.take j).drop i := by
  have s1 : HT.sIx xs.length 0 (some (i : Int)) = min i xs.length := HT.sIx_nat _ 0 i
  have s2 : HT.sIx xs.length xs.length (some (j : Int)) = min j xs.length := HT.sIx_nat _ _ j
  simp only [LL.cutD, s1, s2]
  rw [List.drop_take]
  by_cases hi : i ≤ xs.length
  · rw [Nat.min_eq_left hi]
    by_cases hj : j ≤ xs.length
    · rw [Nat.min_eq_left hj]
    · rw [Nat.min_eq_right (by omega), List.take_of_length_le (by simp), List.take_of_length_le (by simp; omega)]
  · rw [Nat.min_eq_right (show xs.length ≤ i by omega), List.drop_eq_nil_of_le (Nat.le_refl _), List.drop_eq_nil_of_le (show xs.length ≤ i by omega)]
    simp
theorem cut_from (xs : List D) (i : Nat) : LL.cutD xs (some (i : Int)) none = xs.drop i := by
  have s1 : HT.sIx xs.length 0 (some (i : Int)) = min i xs.length := HT.sIx_nat _ 0 i
  have s2 : HT.sIx xs.length xs.length none = xs.length := HT.sIx_none _ _
  simp only [LL.cutD, s1, s2]
  by_cases hi : i ≤ xs.length
  · rw [Nat.min_eq_left hi]
    exact List.take_of_length_le (by simp)
  · rw [Nat.min_eq_right (by omega), List.drop_eq_nil_of_le (by omega), List.drop_eq_nil_of_le (by omega)]
    simp
theorem cut_to (xs : List D) (j : Nat) : LL.cutD xs none (some (j : Int)) = xs.take j := by
  have s1 : HT.sIx xs.length 0 none = 0 := HT.sIx_none _ _
  have s2 : HT.sIx xs.length xs.length (some (j : Int)) = min j xs.length := HT.sIx_nat _ _ j
  simp only [LL.cutD, s1, s2, List.drop_zero, Nat.sub_zero]
  by_cases hj : j ≤ xs.length
  · rw [Nat.min_eq_left hj]
  · rw [Nat.min_eq_right (by omega), List.take_of_length_le (by omega), List.take_of_length_le (by omega)]
theorem eSl_ok {f : Sem} {lo hi : Semo} {S : List Sl} {cs cs1 cs2 cs3 : Cs} {d z : D} {l h : Option Int} (e1 : f S cs = .ok d cs1) (e2 : lo S cs1 = .ok l cs2) (e3 : hi S cs2 = .ok h cs3) (e4 : slD d l h = some z) : eSl f lo hi S cs = .ok z cs3 := by
  simp only [eSl, e1, e2, e3, e4, Res.bind_ok, Res.opt_some]
theorem oSome_ok {f : Sem} {S : List Sl} {cs cs1 : Cs} {i : Int} (h : f S cs = .ok (.int i) cs1) : oSome f S cs = .ok (some i) cs1 := by simp only [oSome, h, Res.bind_ok]
theorem eTup_ok {g : Sems} {S : List Sl} {cs cs1 : Cs} {xs : List D} (h : g S cs = .ok xs cs1) (hl : xs.length ≤ 1000000) : eTup g S cs = .ok (.tup xs) cs1 := by simp only [eTup, h, Res.bind_ok, if_pos hl]
theorem eCall_ok {op : Cs → List D → Option D} {g : Sems} {S : List Sl} {cs cs1 : Cs} {xs : List D} {d : D} (h : g S cs = .ok xs cs1) (ho : op cs1 xs = some d) : eCall op g S cs = .ok d cs1 := by simp only [eCall, h, Res.bind_ok, ho, Res.opt_some]
theorem addD_tup (cs : Cs) (a b : List D) (h : a.length + b.length ≤ 1000000) : addD cs (.tup a) (.tup b) = some (.tup (a ++ b)) := by simp only [addD, if_pos h]
end LL

set_option Elab.async false
set_option linter.all false
set_option maxRecDepth 100000
set_option maxHeartbeats 4000000
/-! calls with keywords over plain data -/
namespace LL
open PySem PySem.Spec PyProof.Rows L2
/-- pm: for each parameter the place of its value -/
def permL {α : Type} (pm : List Nat) (l : List α) : List α := pm.filterMap fun i => l[i]?
theorem permL_vals {vs : List V} {us : List Value} (r : Vals vs us) : ∀ pm : List Nat, Vals (permL pm vs) (permL pm us)
  | [] => .nil
  | i :: pm => by
    have ih := permL_vals r pm
    unfold permL at ih ⊢
    rw [List.filterMap_cons, List.filterMap_cons]
    have hl := r.length
    by_cases h : i < vs.length
    · have h2 : i < us.length := by omega
      rw [List.getElem?_eq_getElem h, List.getElem?_eq_getElem h2]
      obtain ⟨u, e, ru⟩ := r.get (List.getElem?_eq_getElem h)
      rw [List.getElem?_eq_getElem h2] at e
      cases e
      exact .cons ru ih
    · rw [List.getElem?_eq_none (by omega), List.getElem?_eq_none (by omega)]
      exact ih
theorem permL_rep {K : PySem.W.Frag} {mg : Str → Option Value} {W : Wd} {vs : List V} {us : List D} (r : RepL K mg W vs us) : ∀ pm : List Nat, RepL K mg W (permL pm vs) (permL pm us)
  | [] => .nil
  | i :: pm => by
    have ih := permL_rep r pm
    unfold permL at ih ⊢
    rw [List.filterMap_cons, List.filterMap_cons]
    have hl := r.length
    by_cases h : i < us.length
    · have h2 : i < vs.length := by omega
      rw [List.getElem?_eq_getElem h, List.getElem?_eq_getElem h2]
      obtain ⟨v, e, rv⟩ := r.get (List.getElem?_eq_getElem h)
      rw [List.getElem?_eq_getElem h2] at e
      cases e
      exact .cons rv ih
    · rw [List.getElem?_eq_none (by omega), List.getElem?_eq_none (by omega)]
      exact ih
theorem kbn_of {K : PySem.W.Frag} {x qual : Str} {params : Arguments} {body : List Stmt} {scope : Scope} {kws : List (Str × V)} {f : Addr} {fd : FuncData} {ps : List Str} (F : FunD K x qual params body scope [] kws f fd) (n : Nat) (ks : List Str) (pm : List Nat)
    (h : ∀ (kV doc pq : Value) (an : Option Addr) (cdv ct : Value) (us ws : List Value), us.length = n → ws.length = ks.length → bindArgs (PySem.W.fnOf x qual params body scope .none kV doc pq an cdv ct) ⟨us, ks.zip ws⟩ = pure (ps.zip (permL pm (us ++ ws)))) :
    KBn K fd ps n ks (fun us ws => permL pm (us ++ ws)) (fun us ws => permL pm (us ++ ws)) := by
  obtain ⟨oc, od, dV, kV, doc, pq, an, cdv, ct, osl, rfl, lk, hcd, hD, hK⟩ := F.ex
  rcases hD with ⟨_, rfl⟩ | ⟨e, _⟩
  · exact ⟨fun s us ws _ l1 l2 => .of_eq (h kV doc pq an cdv ct us ws l1 l2), fun r1 r2 => permL_vals (r1.append r2) pm⟩
  · exact absurd rfl e
structure FnKw (P : Program) (w : World) (K : PySem.W.Frag) (mg : Str → Option Value) (base : Heap) (k : Nat) (nm : Str) (n : Nat) (fs : Fn) (np : Nat) (ks : List Str) (pm : List Nat) : Prop where
  ex : ∃ (f : Addr) (fd : FuncData) (ps : List Str), mg nm = some (.ref f) ∧ FnOk P w K mg base CX0 k f fd ps (spF K mg n fs) ∧ PySem.W.keepIn K (.ref f) = true ∧ KBn K fd ps np ks (fun us ws => permL pm (us ++ ws)) (fun us ws => permL pm (us ++ ws))
def eFnK (np nk n : Nat) (f : Fn) (pm : List Nat) (g gk : Sems) : Sem := fun S cs => (g S cs).bind fun ds cs => (gk S cs).bind fun zs cs =>
  if ds.length = np ∧ zs.length = nk then noX (fnN n f (permL pm (ds ++ zs)) cs) else .bad
section
variable {X : Cx} {E : XK} {e : Expr} {es : List Expr} {f : Sem} {g gs gk : Sems} {k n np : Nat} {kws : List Keyword} {ks : List Str} {fs : Fn} {x : Str} {nm : Option Str} {p pos kpos : Pos} {pm : List Nat}
abbrev DK (X : Cx) (E : XK) (ks : List Keyword) (f : Sems) : Prop := PK X ks (denA X.K X.mg E f)
theorem _root_.L2.PK.imp {X : Cx} {e : List Keyword} {t t' : TA} (h : PK X e t) (i : ∀ σ H Q, t' σ H Q → t σ H Q) : PK X e t' := ⟨fun pos pins s σ H Q I q => h.run pos pins s σ H Q I (i σ H Q q)⟩
theorem dk_nil : DK X E [] eNil := pk_nil.imp fun σ H Q ⟨W, S, cs, H0, ok, sl, q⟩ => RO.ok_ ok q .nil
theorem dk_cons (ha : DE X E e f) (hr : DK X E kws g) : DK X E (⟨nm, e, kpos⟩ :: kws) (eCons f g) :=
  (pk_cons ha hr).imp fun σ H Q ⟨W, S, cs, H0, ok, sl, q⟩ => by
    obtain ⟨W', S', cs', H0', ok', sl', q'⟩ := den.then ok sl q
    refine ⟨W', S', cs', H0', ok', sl', q'.imp fun x H1 ⟨W1, cs1, d, ok1, sl1, l1, r1, q1⟩ => ?_⟩
    obtain ⟨W2, S2, cs2, H2, ok2, sl2, q2⟩ := denA.then ok1 sl1 q1
    exact ⟨W2, S2, cs2, H2, ok2, sl2, q2.imp fun y H3 ⟨W3, cs3, d3, ok3, sl3, l3, r3, q3⟩ => RO.ok_ ok3 q3 (.cons (r1.le l3) r3)⟩
/-- the call by keywords alone -/
theorem pe_kw0 {CX : CXT} {fa : Addr} {fd : FuncData} {ps : List Str} {sp : Sp} {tk : TA} {gg : List Value → List Value → List Value} {gV : List V → List V → List V} (F : FnOk X.prog X.w X.K X.mg X.base CX k fa fd ps sp) (hr : Room k X.A) (hg : Gl X x) (hm : X.mg x = some (.ref fa)) (hk : PySem.W.keepIn X.K (.ref fa) = true)
    (hb : KBn X.K fd ps 0 ks gg gV) (hx : Passes CX X E) (hkw : PK X kws tk) (hall : (backToKw pos (keywordEach kws X.env)).all (·.1.isSome) = true) (hks : (backToKw pos (keywordEach kws X.env)).filterMap (·.1) = ks)
    (hdb : (x == ("__debug__" : Str)) = false) (hpl : ((backTo pos (starEach [] X.env)).any (·.1) || (backToKw pos (keywordEach kws X.env)).any (·.1.isNone)) = false) : PE X (.Call (.Name x p) [] kws pos) (tCallN 0 ks.length sp gV E tNil tk) :=
  ⟨fun pins s σ H Q I h => wpAny_Call_Name_kw (ld_glob I hg hm (by
    refine PySem.W.callWith_KW0 (h₀ := X.base) I.ok.mod.kin hk hall (thn (hkw.run pos pins s σ H _ I h) fun ws s2 ⟨zs, H2, I2, rz, l1, l2, q2⟩ => ⟨I2.kIn, ?_⟩) hpl
    rw [hks]
    exact run_fnN (us := []) (vs := []) F hr hb hx I2 .nil rz rfl l2 q2) hdb)⟩
theorem de_kw0 {n nk : Nat} {fs : Fn} (A : FnKw X.prog X.w X.K X.mg X.base k x n fs 0 ks pm) (hr : Room k X.A) (hg : Gl X x) (hkw : DK X E kws gk) (hnk : ks.length = nk := by rfl) (hall : (backToKw pos (keywordEach kws X.env)).all (·.1.isSome) = true := by rfl) (hks : (backToKw pos (keywordEach kws X.env)).filterMap (·.1) = ks := by rfl)
    (hdb : (x == ("__debug__" : Str)) = false := by decide) (hpl : ((backTo pos (starEach [] X.env)).any (·.1) || (backToKw pos (keywordEach kws X.env)).any (·.1.isNone)) = false := by rfl) :
    DE X E (.Call (.Name x p) [] kws pos) (eFnK 0 nk n fs pm eNil gk) := by
  subst hnk
  obtain ⟨f, fd, ps, hm, F, hk, hb⟩ := A.ex
  refine (pe_kw0 F hr hg hm hk hb pass0 hkw hall hks hdb hpl).imp fun σ H Q ⟨W, S, cs, H0, ok, sl, q⟩ => ?_
  obtain ⟨W', S', cs', H0', ok', sl', q'⟩ := denA.then (f := gk) ok sl q
  refine ⟨W', S', cs', H0', ok', sl', q'.imp fun v H1 ⟨W1, cs1, d, ok1, sl1, l1, r1, q1⟩ => ?_⟩
  split at q1
  · rename_i hc
    unfold fnN at q1
    split at q1
    · exact ⟨rfl, r1.length.trans hc.2, W1, permL pm ([] ++ d), cs1, ok1, permL_rep (RepL.append .nil r1) pm, by assumption, noX_imp q1⟩
    · exact q1.elim
  · exact q1.elim
theorem de_kw {n nk : Nat} {fs : Fn} (A : FnKw X.prog X.w X.K X.mg X.base k x n fs np ks pm) (hr : Room k X.A) (hg : Gl X x) (ha : DA X E (e :: es) gs) (hkw : DK X E kws gk) (hnk : ks.length = nk := by rfl) (hall : (backToKw pos (keywordEach kws X.env)).all (·.1.isSome) = true := by rfl) (hks : (backToKw pos (keywordEach kws X.env)).filterMap (·.1) = ks := by rfl)
    (hdb : (x == ("__debug__" : Str)) = false := by decide) (he : starEach (e :: es) X.env = (false, eval e X.env) :: starEach es X.env := by rfl)
    (hpl : ((backTo pos (starEach (e :: es) X.env)).any (·.1) || (backToKw pos (keywordEach kws X.env)).any (·.1.isNone)) = false := by rfl) :
    DE X E (.Call (.Name x p) (e :: es) kws pos) (eFnK np nk n fs pm gs gk) := by
  subst hnk
  obtain ⟨f, fd, ps, hm, F, hk, hb⟩ := A.ex
  refine (pe_callN F hr hg hm hk hb pass0 ha hkw hall hks hdb he hpl).imp fun σ H Q ⟨W, S, cs, H0, ok, sl, q⟩ => ?_
  obtain ⟨W', S', cs', H0', ok', sl', q'⟩ := denA.then ok sl q
  refine ⟨W', S', cs', H0', ok', sl', q'.imp fun v H1 ⟨W1, cs1, d, ok1, sl1, l1, r1, q1⟩ => ?_⟩
  obtain ⟨W'', S'', cs'', H0'', ok'', sl'', q''⟩ := denA.then (f := gk) ok1 sl1 q1
  refine ⟨W'', S'', cs'', H0'', ok'', sl'', q''.imp fun v2 H2 ⟨W2, cs2, d2, ok2, sl2, l2, r2, q2⟩ => ?_⟩
  split at q2
  · rename_i hc
    unfold fnN at q2
    split at q2
    · exact ⟨r1.length.trans hc.1, r2.length.trans hc.2, W2, permL pm (d ++ d2), cs2, ok2, permL_rep (RepL.append (r1.le l2) r2) pm, by assumption, noX_imp q2⟩
    · exact q2.elim
  · exact q2.elim
end
end LL

set_option Elab.async false
set_option linter.all false
set_option maxRecDepth 100000
set_option maxHeartbeats 4000000
/-! defs that are called where no repr is under way (so that they may ask for one) -/
namespace LL
open PySem PySem.Spec PyProof.Rows L2
/-- no object is being shown -/
abbrev Calm (A : Around) : Prop := A.guards = some []
structure FnC (P : Program) (w : World) (K : PySem.W.Frag) (mg : Str → Option Value) (base : Heap) (k : Nat) (f : Addr) (fd : FuncData) (ps : List Str) (sp : Sp) : Prop where
  len : ∀ vs H Q E, sp vs H Q E → vs.length = ps.length
  run : ∀ (A : Around) (outer : List Env) (s : Shared) (H : Hp) (args : Args) (us : List Value) (vs : List V) (Q : VK) (E : XK), Room k A → Calm A → Env0 P w K mg base A outer s H →
    BindsTo s fd args (ps.zip us) → Vals vs us → sp vs H Q E → codeAny (model P w) A (.call (.ref f) args) (CR CX0 outer P w H s Q E) s
theorem FnC.of {P : Program} {w : World} {K : PySem.W.Frag} {mg : Str → Option Value} {base : Heap} {k : Nat} {f : Addr} {fd : FuncData} {ps : List Str} {sp : Sp} (F : FnOk P w K mg base CX0 k f fd ps sp) : FnC P w K mg base k f fd ps sp :=
  ⟨F.len, fun A o s H a us vs Q E r _ => F.run A o s H a us vs Q E r⟩
section
variable {P : Program} {w : World} {K : PySem.W.Frag} {mg : Str → Option Value} {base : Heap} {x qual : Str} {params : Arguments} {body : List Stmt} {scope : Scope} {dvs : List V} {kws : List (Str × V)} {f : Addr} {fd : FuncData}
theorem calm_deeper {A : Around} (env : Env) (h : Calm A) : Calm (A.deeper env) := h
theorem fnC_of {N ps : List Str} {k : Nat} {sp : Sp} (F : FunD K x qual params body scope dvs kws f fd) (S : FnScope N ps scope) (len : ∀ vs H Q E, sp vs H Q E → vs.length = ps.length)
    (hbody : ∀ (cdv : Value) (A : Around) (outer : List Env) (s : Shared) (H : Hp) (vs : List V) (Q : VK) (E : XK), Room k (A.deeper (envOfC qual scope s.heap.objs.size f cdv)) → Calm (A.deeper (envOfC qual scope s.heap.objs.size f cdv)) → sp vs H Q E →
      ∃ t, PSs (cxOf CX0 P w K mg base N qual scope f cdv A outer s H E) body t ∧ t { nx := fun _ H' => Q .non H', rt := Q } (start N vs) H) : FnC P w K mg base (k + 1) f fd ps sp := by
  obtain ⟨_, _, dV, kV, doc, pm, an, cdv, ct, _, rfl, lk, hcd, _, _⟩ := F.ex
  refine ⟨len, fun A outer s H args us vs Q E hr hc e0 hb r hsp => ?_⟩
  have hl := len _ _ _ _ hsp
  have kin : K.In s.heap := e0.mod.kin.keeps fun b o e => (e0.bs b o e).1
  have lim := e0.mod.nolimit.keeps (h' := s.heap) fun b o e => (e0.bs b o e).1
  refine codeAny_call_function hr.depth (kin _ _ lk) rfl S.co S.gen rfl (PySem.W.codeRec_of kin hcd) (hb _ _ _ _ (wpAny_newFunctionEnv_cells S.kind (fun ⟨n, v⟩ hy => ?_) fun env he s1 xc => ?_))
  · have hp := S.par n (List.of_mem_zip hy).1
    exact hp.elim .inl fun q => .inr ⟨q, PySem.W.cellsFrom_some _ _ _ (.inl q)⟩
  · subst he
    obtain ⟨t, ht, hq⟩ := hbody cdv A outer s H vs Q E (hr.deeper _) (calm_deeper _ hc) hsp
    have I := inv_start (CX := CX0) (P := P) (w := w) (K := K) (mg := mg) (base := base) (outer := outer) (E := E) S hr.hd e0 hl r xc
    refine ⟨lim.keeps xc.toInCall.keep, codeAny_func (wpAny_mono (ht.run [] s1 (start N vs) H _ I hq) (fun fl s' hs => ?_) fun e s' hs => hs)⟩
    cases fl with
    | brk => exact hs.elim fun _ h => h.elim fun _ h => h.2.elim
    | cont => exact hs.elim fun _ h => h.elim fun _ h => h.2.elim
    | next =>
      obtain ⟨σ', H', J, q⟩ := hs
      exact ⟨V.non, H', J.os, J.bare, J.base, J.hok, rfl, q⟩
    | ret u =>
      obtain ⟨v, σ', H', J, rv, q⟩ := hs
      exact ⟨v, H', J.os, J.bare, J.base, J.hok, rv, q⟩
end
section
variable {X : Cx} {k : Nat} {f C : Addr} {fd : FuncData} {ps : List Str} {sp : Sp} {E : XK} {x : Str} {p pos : Pos} {e : Expr} {es : List Expr} {t tk : TA} {kws : List Keyword} {ks : List Str}
theorem runC {pins : List (Addr × Obj)} {σ : SSt} {H : Hp} {s : Shared} {Q : VK} {us ws : List Value} {kw : List (Str × Value)} {vs : List V} (F : FnC X.prog X.w X.K X.mg X.base k f fd ps sp) (hr : Room k X.A) (hc : Calm X.A) (I : Inv X pins σ H s)
    (hb : BindsTo s fd ⟨us, kw⟩ (ps.zip ws)) (r : Vals vs ws) (h : sp vs H Q E) : wpAny (model X.prog X.w) X.A (call (.ref f) us kw) (EP X pins σ Q) X.xe s :=
  wpAny_call (codeAny_mono (F.run X.A X.stack s H ⟨us, kw⟩ ws vs Q E hr hc I.env0 hb r h) fun r s' hq => match r, hq with
    | .ok (.ret u), hq => I.after hq
    | .ok .next, hq => hq.elim
    | .ok .brk, hq => hq.elim
    | .ok .cont, hq => hq.elim
    | .error e, hq => (show False from hq).elim)
theorem bindC {pins : List (Addr × Obj)} {σ : SSt} {H : Hp} {s : Shared} {Q : VK} {us : List Value} {vs : List V} (F : FnC X.prog X.w X.K X.mg X.base k f fd ps sp) (hb : Binds X.K fd ps []) (I : Inv X pins σ H s) (r : Vals vs us) (h : sp vs H Q E) : BindsTo s fd ⟨us, []⟩ (ps.zip us) := by
  have hl : us.length = ps.length := r.length.symm.trans (F.len _ _ _ _ h)
  have q := hb s us I.kIn (by rw [List.append_nil]; exact hl)
  rwa [List.append_nil] at q
def tC (sp : Sp) (E : XK) (t : TA) : TE := fun σ H Q => t σ H fun vs H1 => sp vs H1 Q E
theorem pe_callC (F : FnC X.prog X.w X.K X.mg X.base k f fd ps sp) (hr : Room k X.A) (hc : Calm X.A) (hg : Gl X x) (hm : X.mg x = some (.ref f)) (hk : PySem.W.keepIn X.K (.ref f) = true) (hb : Binds X.K fd ps []) (ha : PA X (e :: es) t)
    (hdb : (x == ("__debug__" : Str)) = false) (he : starEach (e :: es) X.env = (false, eval e X.env) :: starEach es X.env) (hpl : (backTo pos (starEach es X.env)).any (·.1) = false) : PE X (.Call (.Name x p) (e :: es) [] pos) (tC sp E t) :=
  ⟨fun pins s σ H Q I h => wpAny_Call_Name_kw (ld_glob I hg hm (PySem.W.callWith_K (h₀ := X.base) I.ok.mod.kin hk
    (thn (ha.run pos pins s σ H _ I h) fun us s1 ⟨vs, H1, I1, r, q⟩ => ⟨I1.kIn, runC F hr hc I1 (bindC F hb I1 r q) r q⟩) he hpl) hdb)⟩
theorem pe_callC0 (F : FnC X.prog X.w X.K X.mg X.base k f fd ps sp) (hr : Room k X.A) (hc : Calm X.A) (hg : Gl X x) (hm : X.mg x = some (.ref f)) (hk : PySem.W.keepIn X.K (.ref f) = true) (hb : Binds X.K fd ps [])
    (hdb : (x == ("__debug__" : Str)) = false) : PE X (.Call (.Name x p) [] [] pos) (tC sp E tNil) :=
  ⟨fun pins s σ H Q I h => wpAny_Call_Name_kw (ld_glob I hg hm (PySem.W.callWith_K0 I.kIn hk (runC (us := []) F hr hc I (bindC F hb I .nil h) .nil h)) hdb)⟩
def tKw (np nk : Nat) (sp : Sp) (g : List V → List V → List V) (E : XK) (t tk : TA) : TE := fun σ H Q => t σ H fun vs H1 => tk σ H1 fun zs H2 => vs.length = np ∧ zs.length = nk ∧ sp (g vs zs) H2 Q E
theorem pe_kwC0 {g : List Value → List Value → List Value} {gV : List V → List V → List V} (F : FnC X.prog X.w X.K X.mg X.base k f fd ps sp) (hr : Room k X.A) (hc : Calm X.A) (hg : Gl X x) (hm : X.mg x = some (.ref f)) (hk : PySem.W.keepIn X.K (.ref f) = true) (hb : KBn X.K fd ps 0 ks g gV) (hkw : PK X kws tk)
    (hall : (backToKw pos (keywordEach kws X.env)).all (·.1.isSome) = true) (hks : (backToKw pos (keywordEach kws X.env)).filterMap (·.1) = ks) (hdb : (x == ("__debug__" : Str)) = false)
    (hpl : ((backTo pos (starEach [] X.env)).any (·.1) || (backToKw pos (keywordEach kws X.env)).any (·.1.isNone)) = false) : PE X (.Call (.Name x p) [] kws pos) (tKw 0 ks.length sp gV E tNil tk) :=
  ⟨fun pins s σ H Q I h => wpAny_Call_Name_kw (ld_glob I hg hm (by
    refine PySem.W.callWith_KW0 (h₀ := X.base) I.ok.mod.kin hk hall (thn (hkw.run pos pins s σ H _ I h) fun ws s2 ⟨zs, H2, I2, rz, l1, l2, q2⟩ => ⟨I2.kIn, ?_⟩) hpl
    rw [hks]
    exact runC (us := []) F hr hc I2 (hb.to s2 [] ws I2.kIn rfl (rz.length.symm.trans l2)) (hb.rel .nil rz) q2) hdb)⟩
theorem pe_kwC {np : Nat} {g : List Value → List Value → List Value} {gV : List V → List V → List V} (F : FnC X.prog X.w X.K X.mg X.base k f fd ps sp) (hr : Room k X.A) (hc : Calm X.A) (hg : Gl X x) (hm : X.mg x = some (.ref f)) (hk : PySem.W.keepIn X.K (.ref f) = true) (hb : KBn X.K fd ps np ks g gV) (ha : PA X (e :: es) t) (hkw : PK X kws tk)
    (hall : (backToKw pos (keywordEach kws X.env)).all (·.1.isSome) = true) (hks : (backToKw pos (keywordEach kws X.env)).filterMap (·.1) = ks) (hdb : (x == ("__debug__" : Str)) = false) (he : starEach (e :: es) X.env = (false, eval e X.env) :: starEach es X.env)
    (hpl : ((backTo pos (starEach (e :: es) X.env)).any (·.1) || (backToKw pos (keywordEach kws X.env)).any (·.1.isNone)) = false) : PE X (.Call (.Name x p) (e :: es) kws pos) (tKw np ks.length sp gV E t tk) :=
  ⟨fun pins s σ H Q I h => wpAny_Call_Name_kw (ld_glob I hg hm (by
    refine PySem.W.callWith_KW (h₀ := X.base) I.ok.mod.kin hk hall (thn (ha.run pos pins s σ H _ I h) fun us s1 ⟨vs, H1, I1, r, q⟩ => ?_) hpl he
    refine thn (hkw.run pos pins s1 σ H1 _ I1 q) fun ws s2 ⟨zs, H2, I2, rz, l1, l2, q2⟩ => ⟨I2.kIn, ?_⟩
    rw [hks]
    exact runC F hr hc I2 (hb.to s2 us ws I2.kIn (r.length.symm.trans l1) (rz.length.symm.trans l2)) (hb.rel r rz) q2) hdb)⟩
theorem calm_make {A : Around} (C : Addr) (us : List Value) (kw : List (Str × Value)) (h : Calm A) : Calm (A.under (.builtin "type.__call__" ⟨.ref C :: us, kw⟩)) := by
  first | exact h | (unfold Calm at h ⊢; simp [Around.under, Code.guards, Code.isGuard, pushGuards, h])
def tMk (C : Addr) (sp : Sp) (E : XK) (t : TA) : TE := fun σ H Q => t σ H fun vs H1 => ∀ x dx, H1 x = none → H1 dx = none → dx ≠ x → sp (.ref x :: vs) (upd (upd H1 dx (.own x)) x (.ins C dx [])) (fun v H2 => v = .non ∧ Q (.ref x) H2) E
theorem makeC {pins : List (Addr × Obj)} {σ : SSt} {H : Hp} {s : Shared} {Q : VK} {us : List Value} {vs : List V} {g : List Value → List Value} {kw : List (Str × Value)} (M : Mk X.K C f) (F : FnC X.prog X.w X.K X.mg X.base k f fd ps sp) (hr : Room (k + 1) X.A) (hc : Calm X.A) (I : Inv X pins σ H s)
    (hb : ∀ (s : Shared) (a : Value), X.K.In s.heap → BindsTo s fd ⟨a :: us, kw⟩ (ps.zip (a :: g us))) (r : Vals vs (g us))
    (h : ∀ x dx, H x = none → H dx = none → dx ≠ x → sp (.ref x :: vs) (upd (upd H dx (.own x)) x (.ins C dx [])) (fun v H2 => v = .non ∧ Q (.ref x) H2) E) : wpAny (model X.prog X.w) X.A (call (.ref C) us kw) (EP X pins σ Q) X.xe s := by
  have hq := h (s.heap.objs.size + 1) s.heap.objs.size (I.hok.fresh (Nat.le_succ _)) (I.hok.fresh (Nat.le_refl _)) (Nat.ne_of_lt (Nat.lt_succ_self _))
  have I2 := Inv.made (C := C) I
  refine wpAny_call (make_map (f := f) I.kIn M.makes M.init (beq_iff_eq.mp M.fn) (codeAny_mono (F.run _ X.stack _ _ ⟨.ref (s.heap.objs.size + 1) :: us, kw⟩ (.ref (s.heap.objs.size + 1) :: g us) _ _ E (hr.make C us kw) (calm_make C us kw hc) (I2.env0.make C us kw) (hb _ _ I2.kIn) (.cons (show L2.RelV (V.ref (s.heap.objs.size + 1)) (Value.ref (s.heap.objs.size + 1)) from rfl) r) hq) fun r s' hq' => ?_))
  match r, hq' with
  | .error e, hq' => exact (show False from hq').elim
  | .ok .next, hq' => exact hq'.elim
  | .ok .brk, hq' => exact hq'.elim
  | .ok .cont, hq' => exact hq'.elim
  | .ok (.ret u), hq' =>
    obtain ⟨v, H', I3, rv, ev, q3⟩ := I2.after hq'
    subst ev
    exact ⟨rv, ⟨V.ref (s.heap.objs.size + 1), H', I3, rfl, q3⟩⟩
theorem pe_makeC (M : Mk X.K C f) (F : FnC X.prog X.w X.K X.mg X.base k f fd ps sp) (hr : Room (k + 1) X.A) (hc : Calm X.A) (hg : Gl X x) (hm : X.mg x = some (.ref C)) (hb : Binds X.K fd ps []) (ha : PA X (e :: es) t)
    (hdb : (x == ("__debug__" : Str)) = false) (he : starEach (e :: es) X.env = (false, eval e X.env) :: starEach es X.env) (hpl : (backTo pos (starEach es X.env)).any (·.1) = false) : PE X (.Call (.Name x p) (e :: es) [] pos) (tMk C sp E t) :=
  ⟨fun pins s σ H Q I h => wpAny_Call_Name_kw (ld_glob I hg hm (PySem.W.callWith_K (h₀ := X.base) I.ok.mod.kin M.kp
    (thn (ha.run pos pins s σ H _ I h) fun us s1 ⟨vs, H1, I1, r, q⟩ => ⟨I1.kIn, makeC (g := fun u => u) M F hr hc I1 (fun s a kin => by
      have hl := F.len _ _ _ _ (q (s1.heap.objs.size + 1) s1.heap.objs.size (I1.hok.fresh (Nat.le_succ _)) (I1.hok.fresh (Nat.le_refl _)) (Nat.ne_of_lt (Nat.lt_succ_self _)))
      have z := hb s (a :: us) kin (by rw [List.append_nil, List.length_cons, ← r.length]; exact hl)
      rwa [List.append_nil] at z) r q⟩) he hpl) hdb)⟩
end
/-! ### over plain data -/
section
variable {X : Cx} {E : XK} {e : Expr} {es : List Expr} {gs gk : Sems} {k n i np : Nat} {f C : Addr} {fd : FuncData} {ps ks : List Str} {fs : Fn} {fi : Ini} {x : Str} {p pos : Pos} {kws : List Keyword} {pm : List Nat}
structure CAt (P : Program) (w : World) (K : PySem.W.Frag) (mg : Str → Option Value) (base : Heap) (k : Nat) (nm : Str) (n : Nat) (fs : Fn) : Prop where
  ex : ∃ (f : Addr) (fd : FuncData) (ps : List Str), mg nm = some (.ref f) ∧ FnC P w K mg base k f fd ps (spF K mg n fs) ∧ PySem.W.keepIn K (.ref f) = true ∧ Binds K fd ps []
structure CKw (P : Program) (w : World) (K : PySem.W.Frag) (mg : Str → Option Value) (base : Heap) (k : Nat) (nm : Str) (n : Nat) (fs : Fn) (np : Nat) (ks : List Str) (pm : List Nat) : Prop where
  ex : ∃ (f : Addr) (fd : FuncData) (ps : List Str), mg nm = some (.ref f) ∧ FnC P w K mg base k f fd ps (spF K mg n fs) ∧ PySem.W.keepIn K (.ref f) = true ∧ KBn K fd ps np ks (fun us ws => permL pm (us ++ ws)) (fun us ws => permL pm (us ++ ws))
structure CMk (P : Program) (w : World) (K : PySem.W.Frag) (mg : Str → Option Value) (base : Heap) (k : Nat) (nm : Str) (n : Nat) (fi : Ini) : Prop where
  ex : ∃ (C f : Addr) (fd : FuncData) (ps : List Str), mg nm = some (.ref C) ∧ Mk K C f ∧ FnC P w K mg base k f fd ps (spI K mg nm n fi) ∧ Binds K fd ps []
theorem fn_q {W : Wd} {H : Hp} {vs : List V} {ds : List D} {cs : Cs} {Q : VK} {n : Nat} {fs : Fn} (ok : Ok X.K X.mg W H cs) (r : RepL X.K X.mg W vs ds) (q : RO X.K X.mg E (Rep X.K X.mg) W H (noX (fnN n fs ds cs)) Q) : spF X.K X.mg n fs vs H Q E := by
  unfold fnN at q
  split at q
  · exact ⟨W, ds, cs, ok, r, by assumption, noX_imp q⟩
  · exact q.elim
theorem de_callC {n : Nat} {fs : Fn} (A : CAt X.prog X.w X.K X.mg X.base k x n fs) (hr : Room k X.A) (hc : Calm X.A) (hg : Gl X x) (ha : DA X E (e :: es) gs)
    (hdb : (x == ("__debug__" : Str)) = false := by decide) (he : starEach (e :: es) X.env = (false, eval e X.env) :: starEach es X.env := by rfl) (hpl : (backTo pos (starEach es X.env)).any (·.1) = false := by rfl) :
    DE X E (.Call (.Name x p) (e :: es) [] pos) (eFn (fnN n fs) gs []) := by
  obtain ⟨f, fd, ps, hm, F, hk, hb⟩ := A.ex
  refine (pe_callC (E := E) F hr hc hg hm hk hb ha hdb he hpl).imp fun σ H Q ⟨W, S, cs, H0, ok, sl, q⟩ => ?_
  obtain ⟨W', S', cs', H0', ok', sl', q'⟩ := denA.then ok sl q
  exact ⟨W', S', cs', H0', ok', sl', q'.imp fun v H1 ⟨W1, cs1, d, ok1, sl1, l1, r1, q1⟩ => fn_q ok1 r1 (by rw [List.append_nil] at q1; exact q1)⟩
theorem de_callC0 {n : Nat} {fs : Fn} (A : CAt X.prog X.w X.K X.mg X.base k x n fs) (hr : Room k X.A) (hc : Calm X.A) (hg : Gl X x) (hdb : (x == ("__debug__" : Str)) = false := by decide) : DE X E (.Call (.Name x p) [] [] pos) (eFn (fnN n fs) eNil []) := by
  obtain ⟨f, fd, ps, hm, F, hk, hb⟩ := A.ex
  refine (pe_callC0 (E := E) F hr hc hg hm hk hb hdb).imp fun σ H Q ⟨W, S, cs, H0, ok, sl, q⟩ => ?_
  have q1 : RO X.K X.mg E (Rep X.K X.mg) W H (noX (fnN n fs [] cs)) Q := q
  exact fn_q ok .nil q1
theorem de_kwC0 {n nk : Nat} {fs : Fn} (A : CKw X.prog X.w X.K X.mg X.base k x n fs 0 ks pm) (hr : Room k X.A) (hc : Calm X.A) (hg : Gl X x) (hkw : DK X E kws gk) (hnk : ks.length = nk := by rfl) (hall : (backToKw pos (keywordEach kws X.env)).all (·.1.isSome) = true := by rfl) (hks : (backToKw pos (keywordEach kws X.env)).filterMap (·.1) = ks := by rfl)
    (hdb : (x == ("__debug__" : Str)) = false := by decide) (hpl : ((backTo pos (starEach [] X.env)).any (·.1) || (backToKw pos (keywordEach kws X.env)).any (·.1.isNone)) = false := by rfl) : DE X E (.Call (.Name x p) [] kws pos) (eFnK 0 nk n fs pm eNil gk) := by
  subst hnk
  obtain ⟨f, fd, ps, hm, F, hk, hb⟩ := A.ex
  refine (pe_kwC0 (E := E) F hr hc hg hm hk hb hkw hall hks hdb hpl).imp fun σ H Q ⟨W, S, cs, H0, ok, sl, q⟩ => ?_
  obtain ⟨W', S', cs', H0', ok', sl', q'⟩ := denA.then (f := gk) ok sl q
  refine ⟨W', S', cs', H0', ok', sl', q'.imp fun v H1 ⟨W1, cs1, d, ok1, sl1, l1, r1, q1⟩ => ?_⟩
  split at q1
  · rename_i hl
    exact ⟨rfl, r1.length.trans hl.2, fn_q ok1 (permL_rep (RepL.append .nil r1) pm) q1⟩
  · exact q1.elim
theorem de_kwC {n nk : Nat} {fs : Fn} (A : CKw X.prog X.w X.K X.mg X.base k x n fs np ks pm) (hr : Room k X.A) (hc : Calm X.A) (hg : Gl X x) (ha : DA X E (e :: es) gs) (hkw : DK X E kws gk) (hnk : ks.length = nk := by rfl) (hall : (backToKw pos (keywordEach kws X.env)).all (·.1.isSome) = true := by rfl) (hks : (backToKw pos (keywordEach kws X.env)).filterMap (·.1) = ks := by rfl)
    (hdb : (x == ("__debug__" : Str)) = false := by decide) (he : starEach (e :: es) X.env = (false, eval e X.env) :: starEach es X.env := by rfl) (hpl : ((backTo pos (starEach (e :: es) X.env)).any (·.1) || (backToKw pos (keywordEach kws X.env)).any (·.1.isNone)) = false := by rfl) : DE X E (.Call (.Name x p) (e :: es) kws pos) (eFnK np nk n fs pm gs gk) := by
  subst hnk
  obtain ⟨f, fd, ps, hm, F, hk, hb⟩ := A.ex
  refine (pe_kwC (E := E) F hr hc hg hm hk hb ha hkw hall hks hdb he hpl).imp fun σ H Q ⟨W, S, cs, H0, ok, sl, q⟩ => ?_
  obtain ⟨W', S', cs', H0', ok', sl', q'⟩ := denA.then ok sl q
  refine ⟨W', S', cs', H0', ok', sl', q'.imp fun v H1 ⟨W1, cs1, d, ok1, sl1, l1, r1, q1⟩ => ?_⟩
  obtain ⟨W'', S'', cs'', H0'', ok'', sl'', q''⟩ := denA.then (f := gk) ok1 sl1 q1
  refine ⟨W'', S'', cs'', H0'', ok'', sl'', q''.imp fun v2 H2 ⟨W2, cs2, d2, ok2, sl2, l2, r2, q2⟩ => ?_⟩
  split at q2
  · rename_i hl
    exact ⟨r1.length.trans hl.1, r2.length.trans hl.2, fn_q ok2 (permL_rep (RepL.append (r1.le l2) r2) pm) q2⟩
  · exact q2.elim
theorem de_makeC {n : Nat} {fi : Ini} (A : CMk X.prog X.w X.K X.mg X.base k x n fi) (hr : Room (k + 1) X.A) (hc : Calm X.A) (hg : Gl X x) (ha : DA X E (e :: es) gs)
    (hdb : (x == ("__debug__" : Str)) = false := by decide) (he : starEach (e :: es) X.env = (false, eval e X.env) :: starEach es X.env := by rfl) (hpl : (backTo pos (starEach es X.env)).any (·.1) = false := by rfl) :
    DE X E (.Call (.Name x p) (e :: es) [] pos) (eMk x fi gs [] n) := by
  obtain ⟨C, f, fd, ps, hm, M, F, hb⟩ := A.ex
  refine (pe_makeC (E := E) M F hr hc hg hm hb ha hdb he hpl).imp fun σ H Q ⟨W, S, cs, H0, ok, sl, q⟩ => ?_
  obtain ⟨W', S', cs', H0', ok', sl', q'⟩ := denA.then ok sl q
  refine ⟨W', S', cs', H0', ok', sl', q'.imp fun vs H1 ⟨W1, cs1, d, ok1, sl1, l1, r1, q1⟩ => ?_⟩
  intro z dz hz hdz hne
  rw [List.append_nil] at q1
  split at q1
  · rename_i hl
    refine ⟨z, C, dz, H1, W1, d, cs1, vs, rfl, rfl, hz, hdz, hne, hm, ok1, r1, hl, ?_⟩
    cases hf : fi d cs1 with
    | ok r cs2 =>
      rw [hf] at q1
      intro W2 H2 fs ok2 l2 hx2 hn r2 g2 n2
      obtain ⟨ok3, l3, ex3⟩ := ok2.freeze l2 hx2 g2 n2 hz
      exact ⟨rfl, q1 (.ref z) _ H2 ok3 l3 (.obj hm upd_same hn (r2.mono ⟨[], by simp⟩ ex3))⟩
    | exc _ _ _ _ => rw [hf] at q1; exact q1.elim
    | bad => rw [hf] at q1; exact q1.elim
  · exact q1.elim
end
section
variable {P : Program} {w : World} {K : PySem.W.Frag} {mg : Str → Option Value} {base : Heap}
theorem fn_okC {dv0 : List V} {kw0 : List (Str × V)} {x qual : Str} {st : Stmt} {f : Addr} {fd : FuncData} {N ps : List Str} {k : Nat} {c : Cm} (F : FunD K x qual (defArgs st) (defBody st) (defScope st) dv0 kw0 f fd) (S : FnScope N ps (defScope st))
    (hbody : ∀ (cdv : Value) (A : Around) (outer : List Env) (s : Shared) (H : Hp) (E : XK), Room k (A.deeper (envOfC qual (defScope st) s.heap.objs.size f cdv)) → Calm (A.deeper (envOfC qual (defScope st) s.heap.objs.size f cdv)) →
      DSs (cxOf CX0 P w K mg base N qual (defScope st) f cdv A outer s H E).nox E0 (defBody st) c) : FnC P w K mg base (k + 1) f fd ps (spF K mg ps.length (fnSem ps.length N.length c)) := by
  refine fnC_of F S (fun vs H Q E ⟨W, ds, cs, ok, r, hl, _⟩ => r.length.trans hl) (fun cdv A outer s H vs Q E hr hc ⟨W, ds, cs, ok, r, hl, q⟩ => ?_)
  refine ⟨_, PSs.nox (hbody cdv A outer s H E hr hc), W, ds.map .val ++ List.replicate (N.length - ps.length) .un, cs, W, H, ok, Le.refl W H, ?_, ?_⟩
  · have e : L2.start N vs = vs.map some ++ List.replicate (N.length - ps.length) none := by unfold L2.start; rw [r.length, hl]
    rw [e]
    exact slots_start _ r
  · unfold fnSem at q
    rw [if_pos hl] at q
    show FO K mg E0 W H W (c _ cs) _
    cases hc : c (ds.map .val ++ List.replicate (N.length - ps.length) .un) cs with
    | nx S' cs' => rw [hc] at q; exact fun W' σ' H' o l m sl => q .non W' H' o l .non
    | rt d cs' => rw [hc] at q; exact fun v W' H' o l r => q v W' H' o l r
    | bk S' cs' => rw [hc] at q; exact q.elim
    | ct S' cs' => rw [hc] at q; exact q.elim
    | exc cl ns vs cs' => rw [hc] at q; exact q.elim
    | bad => rw [hc] at q; exact q.elim
end
/-! ### the law's def -/
theorem law_callC {P : Program} {w : World} {K : PySem.W.Frag} {mg mb : Str → Option Value} {k : Nat} {fa a : Addr} {fd : FuncData} {x : Str} {sp : Sp} {s₁ : Shared} {vs : List Value} {ns : List Int}
    (KX : K.In s₁.heap) (hns : s₁.heap.Ns mainGlobals mg) (hb : s₁.heap.Ns builtinsNs mb) (hbb : ∀ x : Str, x ≠ "__name__" → mb x = bootBuiltins x) (hlim : s₁.heap.NoLimit) (hg : s₁.gens = #[])
    (ha : s₁.heap.get? a = some { cls := .type "list", data := .seq vs.toArray }) (hi : IntsAre vs ns) (hl : ns.length ≤ sizeLine) (hr : Room k callerA)
    (F : ∀ base : Heap, K.In base → base.Ns mainGlobals mg → FnC P w K mg base k fa fd [x] sp) (hbind : ∀ (s : Shared) (u : Value), BindsTo s fd ⟨[u], []⟩ [(x, u)])
    (hsp : ∀ H : Hp, Only H → SqL K H a (ns.map V.int) → sp [.ref a] H (fun v _ => v = .bl true) fun _ _ _ => False) :
    codeAny (model P w) callerA (.call (.ref fa) ⟨[.ref a], []⟩) (fun r s' => r = .ok (.ret (.bool true)) ∧ OldK s₁.heap s'.heap ∧ s'.os = s₁.os ∧ AllBare s'.gens) s₁ := by
  have rv := vals_ints hi
  -- what is tracked: nothing, or the script
  obtain ⟨H, hO, hS, hok, hA, hK⟩ : ∃ H : Hp, Only H ∧ SqL K H a (ns.map V.int) ∧ HOk P w H s₁.heap ∧ (∀ b u, H b = some u → b = a) ∧ (∀ u, H a = some u → K.lookup a = none) := by
    cases hk : K.lookup a with
    | some o =>
      have e := (KX a o hk).symm.trans ha
      cases e
      exact ⟨fun _ => none, fun _ => .inl rfl, .inr ⟨_, vs.toArray, _, hk, rfl, rfl, rfl, by rw [List.size_toArray, hi.length]; exact hl, by simpa using rv⟩, fun b u z => (by cases (show (none : Option HO) = some u from z)), fun b u z => (by cases (show (none : Option HO) = some u from z)), fun u z => (by cases (show (none : Option HO) = some u from z))⟩
    | none =>
      refine ⟨fun b => if b = a then some (.frz { cls := .type "list", data := .seq vs.toArray } (.lst (ns.map V.int))) else none, fun b => ?_, .inl (.inr ⟨{ cls := .type "list", data := .seq vs.toArray }, if_pos rfl⟩), fun b u z => ?_, fun b u z => ?_, fun _ _ => rfl⟩
      · by_cases h : b = a
        · exact .inr ⟨_, _, if_pos h⟩
        · exact .inl (if_neg h)
      · by_cases h : b = a
        · subst h
          cases (if_pos rfl).symm.trans z
          exact ⟨ha, by rw [List.length_map]; exact hl, vs, _, rv, ha⟩
        · cases (if_neg h).symm.trans z
      · by_cases h : b = a
        · exact h
        · cases (if_neg h).symm.trans z
  have keepO : ∀ {b : Addr} {o : Obj}, s₁.heap.get? b = some o → (∀ u, H b = some u → False) → (hidT s₁.heap H).get? b = some o := fun {b o} e n => hidT_get e (by
    cases q : H b with
    | none => rfl
    | some u => exact (n u q).elim)
  have nsK : ∀ {b : Addr} {m : Str → Option Value}, s₁.heap.Ns b m → (hidT s₁.heap H).Ns b m := fun {b m} ⟨o, es, ep, e, d, r⟩ => ⟨o, es, ep, keepO e (fun u q => by
    have ea := hA b u q
    subst ea
    have eo := e.symm.trans ha
    cases eo
    cases (show Data.seq vs.toArray _ = Data.dict es ep from d)), d, r⟩
  have kin : K.In (hidT s₁.heap H) := fun b o e => keepO (KX b o e) fun u q => by
    have ea := hA b u q
    subst ea
    cases (hK u q).symm.trans e
  have e0 : Env0 P w K mg (hidT s₁.heap H) callerA [] s₁ H := ⟨rfl, ⟨kin, nsK hns, ⟨mb, nsK hb, hbb⟩, hlim.elim fun mc h => ⟨mc, nsK h.1, h.2⟩⟩, fun b o e => of_hidT e, Nat.le_of_eq (hidT_size _ _), trivial, fun b hb => (List.not_mem_nil hb).elim, hok, .of_eq hg⟩
  refine codeAny_mono ((F _ kin (nsK hns)).run callerA [] s₁ H ⟨[.ref a], []⟩ [.ref a] [.ref a] _ _ hr rfl e0 (hbind s₁ (.ref a)) (.cons rfl .nil) (hsp H hO hS)) fun r s' h => ?_
  match r, h with
  | .error e, h => exact (show False from h).elim
  | .ok .next, h => exact h.elim
  | .ok .brk, h => exact h.elim
  | .ok .cont, h => exact h.elim
  | .ok (.ret u), h =>
    obtain ⟨v, H', os, bare, un, hok', r', q⟩ := h
    obtain rfl : v = .bl true := q
    obtain rfl : u = Value.bool true := r'
    refine ⟨rfl, OldK.of_keep fun b o e => ?_, os, bare⟩
    rcases hO b with z | ⟨ob, xs, z⟩
    · exact un.keep b o e z (fun z => List.not_mem_nil z) (by simp)
    · have e1 := e.symm.trans (hok b _ z).1
      cases e1
      exact (hok' b _ (un.frzs b _ _ z)).1
theorem walk_ofC {l : PySem.W.OpenLaw} {n k : Nat} {q : Program} {loose : List Str} {XP : (Str → Option Value) → Heap → Prop} {YP : World → Heap → Prop} {d : DefRec} {x : Str}
    (hn : l.most = some n) (hn2 : n ≤ sizeLine) (hdf : d.params.defaults = []) (hr : Room k callerA)
    (F : ∀ (w : World) (mg : Str → Option Value) (fa : Addr) (h : Heap), YP w h → h.Ns mainGlobals mg → mg d.name = some (.ref fa) →
      ∃ (K : PySem.W.Frag) (fd : FuncData) (sp : Sp), K.In h ∧ (∀ (s : Shared) (u : Value), BindsTo s fd ⟨[u], []⟩ [(x, u)]) ∧
        (∀ (H : Hp) (a : Addr) (ns : List Int), ns.length ≤ n → Only H → SqL K H a (ns.map V.int) → sp [.ref a] H (fun v _ => v = .bl true) fun _ _ _ => False) ∧
        ∀ base : Heap, K.In base → base.Ns mainGlobals mg → FnC l.prog w K mg base k fa fd [x] sp) :
    PySem.W.WalkO q loose XP YP l.row.toRowW d [] (fun f vs => PySem.call f vs) :=
  Att.attach_call hn hdf fun w s₀ s₁ mg mb fa o pm cd doc a vs ns G Y ho hd hcd hmg hobj hints hlen hg => by
    obtain ⟨K, fd, sp, KX, hb, hsp, hF⟩ := F w mg fa _ Y G.T.g hmg
    exact law_callC KX G.T.g G.T.b G.T.builtins G.T.nolimit hg hobj hints (Nat.le_trans hlen hn2) hr hF hb fun H hO hS => hsp H a ns hlen hO hS
end LL

set_option Elab.async false
set_option linter.all false
set_option maxRecDepth 100000
set_option maxHeartbeats 4000000
/-! repr of plain data; in over plain data; lists that a call makes and that grow -/
namespace LL
open PySem PySem.Spec PyProof.Rows L2
/-! ### how long the shown text is at most -/
mutual
def szD : D → Nat
  | .int i => (PyData.shown (.int i)).length
  | .str x => 10 * x.length + 2
  | .tup xs => szDs xs + 5
  | .lst xs => szDs xs + 5
  | .scr xs => szDs xs + 5
  | _ => 10
def szDs : List D → Nat
  | [] => 0
  | x :: xs => szD x + 2 + szDs xs
end
theorem shown_len : ∀ xs : List PyData, (PyData.shownAll xs).length = xs.length
  | [] => rfl
  | x :: xs => by rw [PyData.shownAll, List.length_cons, List.length_cons, shown_len xs]
theorem str_small (x : Str) (h : PyData.strOk x = true) : ∀ c ∈ x.cps.toList, c < 16 ^ 8 := fun c hc => by
  unfold PyData.strOk at h
  rw [← Array.all_toList, List.all_eq_true] at h
  have := of_decide_eq_true (h c hc)
  omega
theorem tuple_len (ts : List Str) : (tupleText ts).length ≤ piled ts + 5 := by
  have e3 : (((if ts.length == 1 then ",)" else ")" : String) : Str)).length ≤ 2 := by split <;> decide +kernel
  have e1 : ((("(" : String) : Str)).length = 1 := rfl
  unfold tupleText
  rw [strLen_append, strLen_append, e1]
  by_cases h : ts = []
  · subst h
    decide +kernel
  · have := join_length_add ts h
    omega
theorem piled_sum : ∀ ts : List Str, (ts.map (·.length)).sum + 2 * ts.length = piled ts
  | [] => rfl
  | t :: ts => by
    have := piled_sum ts
    rw [List.map_cons, List.sum_cons, List.length_cons, piled_cons]
    omega
theorem list_len (ts : List Str) : (listText ts).length ≤ piled ts + 5 := by
  have h1 := listText_len_le ts
  have h2 := piled_sum ts
  omega
mutual
theorem shown_le : ∀ (n : Nat) (d : D), plainD n d = true → (toP d).shown.length ≤ szD d
  | _, .non, _ => by decide +kernel
  | _, .bl true, _ => by decide +kernel
  | _, .bl false, _ => by decide +kernel
  | _, .int i, _ => Nat.le_refl _
  | _, .str x, h => by
    have h : PyData.strOk x = true := by simpa [plainD] using h
    exact StrLaws.reprText_len x (str_small x h)
  | n + 1, .tup xs, h => by
    have q := shown_les n xs (by simpa [plainD] using h)
    have := tuple_len (PyData.shownAll (toPs xs))
    simp only [toP, PyData.shown, szD]
    omega
  | n + 1, .lst xs, h => by
    have q := shown_les n xs (by simpa [plainD] using h)
    have := list_len (PyData.shownAll (toPs xs))
    simp only [toP, PyData.shown, szD]
    omega
  | n + 1, .scr xs, h => by
    have q := shown_les n xs (by simpa [plainD] using h)
    have := list_len (PyData.shownAll (toPs xs))
    simp only [toP, PyData.shown, szD]
    omega
  | 0, .tup xs, h => by simp [plainD] at h
  | 0, .lst xs, h => by simp [plainD] at h
  | 0, .scr xs, h => by simp [plainD] at h
  | n, .dct _ _, h => by simp [plainD] at h
  | n, .obj _ _ _, h => by simp [plainD] at h
  | n, .cell _, h => by simp [plainD] at h
  | n, .fn _, h => by simp [plainD] at h
theorem shown_les : ∀ (n : Nat) (xs : List D), plainDs n xs = true → piled (PyData.shownAll (toPs xs)) ≤ szDs xs
  | _, [], _ => by simp [toPs, PyData.shownAll, piled_nil, szDs]
  | n, x :: xs, h => by
    have h : plainD n x = true ∧ plainDs n xs = true := by simpa [plainDs] using h
    have h1 := shown_le n x h.1
    have h2 := shown_les n xs h.2
    simp only [toPs, PyData.shownAll, szDs]
    rw [piled_cons]
    omega
end
mutual
theorem noDict_of : ∀ (n : Nat) (d : D), plainD n d = true → (toP d).hasDict = false
  | _, .non, _ => rfl
  | _, .bl _, _ => rfl
  | _, .int i, _ => rfl
  | _, .str x, h => rfl
  | n + 1, .tup xs, h => by
    simp only [toP, PyData.hasDict]
    exact noDict_ofs n xs (by simpa [plainD] using h)
  | n + 1, .lst xs, h => by
    simp only [toP, PyData.hasDict]
    exact noDict_ofs n xs (by simpa [plainD] using h)
  | n + 1, .scr xs, h => by
    simp only [toP, PyData.hasDict]
    exact noDict_ofs n xs (by simpa [plainD] using h)
  | 0, .tup xs, h => by simp [plainD] at h
  | 0, .lst xs, h => by simp [plainD] at h
  | 0, .scr xs, h => by simp [plainD] at h
  | n, .dct _ _, h => by simp [plainD] at h
  | n, .obj _ _ _, h => by simp [plainD] at h
  | n, .cell _, h => by simp [plainD] at h
  | n, .fn _, h => by simp [plainD] at h
theorem noDict_ofs : ∀ (n : Nat) (xs : List D), plainDs n xs = true → PyData.hasDictAll (toPs xs) = false
  | _, [], _ => rfl
  | n, x :: xs, h => by
    have h : plainD n x = true ∧ plainDs n xs = true := by simpa [plainDs] using h
    simp only [toPs, PyData.hasDictAll, noDict_of n x h.1, noDict_ofs n xs h.2, Bool.or_self]
end
/-! ### repr -/
def repr1 (d : D) : Option D := if plainD 20 d && (toP d).showable && decide (szD d ≤ 1000000) then some (.str (toP d).shown) else none
def reprD (cs : Cs) (ds : List D) : Option D := match ds with
  | [.cell n] => (cs[n]?).bind fun xs => repr1 (.lst xs)
  | [d] => repr1 d
  | _ => none
section
variable {X : Cx} {k : Nat}
theorem repr_ref {pins : List (Addr × Obj)} {s : Shared} {σ : SSt} {H : Hp} {Q : VK} {a : Addr} {d : D} (hr : Room k X.A) (hc : Calm X.A) (I : Inv X pins σ H s) (dp : Dp X.K H (.ref a) (toP d)) (hp : plainD 20 d = true) (hs : (toP d).showable = true) (hz : szD d ≤ 1000000) (q : Q (.str (toP d).shown) H) :
    wpAny (model X.prog X.w) X.A (call (.builtin "repr") [.ref a]) (EP X pins σ Q) X.xe s := by
  obtain ⟨as, r1⟩ := Dp.reads I _ (.ref a) (.ref a) dp rfl
  have hd := (plain_canLay 20 d hp).2
  have hu := hr.un
  exact repr_of_reads' r1 hs (PyData.noDict_hsm (noDict_of 20 d hp)) hc (by omega) (fun _ _ e => e) (fun h' u tk hk => ⟨.str _, H, I.kept hk, ⟨u, rfl⟩, q⟩) (Nat.le_trans (shown_le 20 d hp) (line_of hz))
theorem cr_reprX (hr : Room k X.A) (hc : Calm X.A) : CallR X (.builtin "repr") (rB X.K X.mg reprD) := by
  intro pins s σ H xs us Q I r ⟨W, cs, ds, d, ok, rl, e, q⟩
  have one : ∀ {v : V} {z : D}, Rep X.K X.mg W v z → xs = [v] → repr1 z = some d → wpAny (model X.prog X.w) X.A (call (.builtin "repr") us) (EP X pins σ Q) X.xe s := fun {v z} rz ex e => by
    subst ex
    obtain ⟨u, rfl, ru⟩ := Vals.one r
    unfold repr1 at e
    split at e
    · rename_i hp
      rw [Bool.and_eq_true, Bool.and_eq_true, decide_eq_true_eq] at hp
      obtain ⟨⟨h1, h2⟩, h3⟩ := hp
      cases e
      have f : Q (.str (toP z).shown) H := q _ W H ok (Le.refl W H) (.str _)
      have dp := rz.dp ok.ex h1
      cases rz with
      | non => cases ru; exact PySem.P.repr_of_none ⟨.str _, H, I.tok _, ⟨_, rfl⟩, f⟩
      | bl b => cases ru; exact PySem.P.repr_of_bool ⟨.str _, H, I.tok _, ⟨_, rfl⟩, f⟩
      | int i =>
        obtain ⟨t, rfl⟩ := ru
        exact PySem.P.repr_of_int (by simpa [toP, PyData.showable] using h2) ⟨.str _, H, I.tok _, ⟨_, rfl⟩, f⟩
      | str x =>
        obtain ⟨t, rfl⟩ := ru
        exact PySem.P.repr_of_str ⟨.str _, H, I.tok _, ⟨_, rfl⟩, f⟩ (Nat.le_trans (shown_le 20 (.str x) h1) (line_of h3))
      | tup h t => cases ru; exact repr_ref hr hc I dp h1 h2 h3 f
      | lst h t => cases ru; exact repr_ref hr hc I dp h1 h2 h3 f
      | scr h t => cases ru; exact repr_ref hr hc I dp h1 h2 h3 f
      | _ => simp [plainD] at h1
    · cases e
  unfold reprD at e
  split at e
  · rename_i n
    obtain ⟨v, rfl, rv⟩ := rl.one_inv
    cases rv with
    | @cell a n hn =>
      obtain ⟨ds, vs, e1, e2, e3, e4⟩ := ok.cl.get hn
      rw [e1] at e
      obtain ⟨u, rfl, ru⟩ := Vals.one r
      cases ru
      have e : repr1 (.lst ds) = some d := e
      unfold repr1 at e
      split at e
      · rename_i hp
        rw [Bool.and_eq_true, Bool.and_eq_true, decide_eq_true_eq] at hp
        obtain ⟨⟨h1, h2⟩, h3⟩ := hp
        cases e
        refine repr_ref hr hc I ?_ h1 h2 h3 (q _ W H ok (Le.refl W H) (.str _))
        have h1' : plainDs 19 ds = true := by simpa [plainD] using h1
        rw [toP]
        exact .lst (.inl (.inl e3)) (RepL.dp ok.ex (n := 19) e4 h1')
      · cases e
  · rename_i z hz
    obtain ⟨v, rfl, rv⟩ := rl.one_inv
    exact one rv rfl e
  · cases e
/-! ### texts are alike -/
def neRD (_ : Cs) (x y : D) : Option D := match x, y with
  | .str a, .str b => some (.bl (!PyData.eqv (.str a) (.str b)))
  | _, _ => none
def eqRD (_ : Cs) (x y : D) : Option D := match x, y with
  | .str a, .str b => some (.bl (PyData.eqv (.str a) (.str b)))
  | _, _ => none
theorem op_neRX (hr : Room k X.A) : OpR X (compareOp .NotEq) (rD X.K X.mg neRD) := by
  intro pins s σ H x y v u Q I rx ry ⟨W, cs, dx, dy, d, ok, hx, hy, e, q⟩
  unfold neRD at e
  split at e
  · cases hx; cases hy; cases e
    obtain ⟨t, rfl⟩ := rx
    obtain ⟨t', rfl⟩ := ry
    have hu := hr.un
    exact SeqAt.ne_plain (.str _ _) (.str _ _) rfl rfl (by simp only [PyData.depth]; omega) ⟨.bl _, H, I, rfl, q _ W H ok (Le.refl W H) (.bl _)⟩
  · cases e
theorem op_eqRX (hr : Room k X.A) : OpR X (compareOp .Eq) (rD X.K X.mg eqRD) := by
  intro pins s σ H x y v u Q I rx ry ⟨W, cs, dx, dy, d, ok, hx, hy, e, q⟩
  unfold eqRD at e
  split at e
  · cases hx; cases hy; cases e
    obtain ⟨t, rfl⟩ := rx
    obtain ⟨t', rfl⟩ := ry
    have hu := hr.un
    exact SeqAt.eq_plain (.str _ _) (.str _ _) rfl rfl (by simp only [PyData.depth]; omega) ⟨.bl _, H, I, rfl, q _ W H ok (Le.refl W H) (.bl _)⟩
  · cases e
/-! ### in over plain data -/
def inPB (x y : D) : Option Bool := match y with
  | .tup ys => if plainD 20 x && plainDs 20 ys then some (ys.any fun z => PyData.eqv (toP z) (toP x)) else none
  | .lst ys => if plainD 20 x && plainDs 20 ys then some (ys.any fun z => PyData.eqv (toP z) (toP x)) else none
  | _ => none
def inPD (_ : Cs) (x y : D) : Option D := (inPB x y).map .bl
def notInPD (_ : Cs) (x y : D) : Option D := (inPB x y).map fun b => .bl (!b)
theorem any_toPs (d : PyData) : ∀ xs : List D, ((toPs xs).any fun y => PyData.eqv y d) = xs.any fun y => PyData.eqv (toP y) d
  | [] => rfl
  | x :: xs => by rw [toPs, List.any_cons, List.any_cons, any_toPs d xs]
theorem inP_any {op : CmpOp} {neg : Bool} (hr : Room k X.A)
    (hl : ∀ {s : Shared} {E Q : Value → Shared → Prop} {c x : Value} {xs : List PyData} {d : PyData} {as bs : List Addr}, Reads s.heap c (.list xs) as → Reads s.heap x d bs → PyData.plainAll xs = true → d.plain = true → X.A.units + 1 + min (PyData.depthAll xs) d.depth < cLine → Q (.bool (if neg then !xs.any fun y => PyData.eqv y d else xs.any fun y => PyData.eqv y d)) s → wpAny (model X.prog X.w) X.A (compareOp op x c) Q E s)
    (ht : ∀ {s : Shared} {E Q : Value → Shared → Prop} {c x : Value} {xs : List PyData} {d : PyData} {as bs : List Addr}, Reads s.heap c (.tuple xs) as → Reads s.heap x d bs → PyData.plainAll xs = true → d.plain = true → X.A.units + 1 + min (PyData.depthAll xs) d.depth < cLine → Q (.bool (if neg then !xs.any fun y => PyData.eqv y d else xs.any fun y => PyData.eqv y d)) s → wpAny (model X.prog X.w) X.A (compareOp op x c) Q E s) :
    OpR X (compareOp op) (rD X.K X.mg fun _ x y => (inPB x y).map fun b => .bl (if neg then !b else b)) := by
  intro pins s σ H x y v u Q I rx ry ⟨W, cs, dx, dy, d, ok, hx, hy, e, q⟩
  have e : (inPB dx dy).map (fun b => D.bl (if neg then !b else b)) = some d := e
  have hu := hr.un
  cases hy with
  | @tup a vs ys h r =>
    have e : (if plainD 20 dx && plainDs 20 ys then some (ys.any fun z => PyData.eqv (toP z) (toP dx)) else none).map (fun b => D.bl (if neg then !b else b)) = some d := e
    by_cases hp : (plainD 20 dx && plainDs 20 ys) = true
    · rw [if_pos hp] at e
      rw [Bool.and_eq_true] at hp
      cases e
      obtain ⟨bs, r1⟩ := Dp.reads I _ x v (hx.dp ok.ex hp.1) rx
      have p2 : plainD 21 (.tup ys) = true := by simpa [plainD] using hp.2
      obtain ⟨as, r2⟩ := Dp.reads I _ (.ref a) u ((Rep.tup h r).dp ok.ex (n := 21) p2) ry
      rw [toP] at r2
      have c1 := plain_canLays 20 ys hp.2
      have c2 := plain_canLay 20 dx hp.1
      have hm := Nat.min_le_right (PyData.depthAll (toPs ys)) (toP dx).depth
      refine ht r2 r1 (PyData.plainAll_of_canLay0 _ c1.1) (PyData.plain_of_canLay0 _ c2.1) (by omega) ?_
      rw [any_toPs]
      exact ⟨.bl _, H, I, rfl, q _ W H ok (Le.refl W H) (.bl _)⟩
    · rw [if_neg hp] at e
      cases e
  | @lst a vs ys h r =>
    have e : (if plainD 20 dx && plainDs 20 ys then some (ys.any fun z => PyData.eqv (toP z) (toP dx)) else none).map (fun b => D.bl (if neg then !b else b)) = some d := e
    by_cases hp : (plainD 20 dx && plainDs 20 ys) = true
    · rw [if_pos hp] at e
      rw [Bool.and_eq_true] at hp
      cases e
      obtain ⟨bs, r1⟩ := Dp.reads I _ x v (hx.dp ok.ex hp.1) rx
      have p2 : plainD 21 (.lst ys) = true := by simpa [plainD] using hp.2
      obtain ⟨as, r2⟩ := Dp.reads I _ (.ref a) u ((Rep.lst h r).dp ok.ex (n := 21) p2) ry
      rw [toP] at r2
      have c1 := plain_canLays 20 ys hp.2
      have c2 := plain_canLay 20 dx hp.1
      have hm := Nat.min_le_right (PyData.depthAll (toPs ys)) (toP dx).depth
      refine hl r2 r1 (PyData.plainAll_of_canLay0 _ c1.1) (PyData.plain_of_canLay0 _ c2.1) (by omega) ?_
      rw [any_toPs]
      exact ⟨.bl _, H, I, rfl, q _ W H ok (Le.refl W H) (.bl _)⟩
    · rw [if_neg hp] at e
      cases e
  | _ => cases e
theorem op_inPX (hr : Room k X.A) : OpR X (compareOp .In) (rD X.K X.mg inPD) := inP_any (neg := false) hr (fun a b c d e f => SeqAt.in_list_data a b c d e f) (fun a b c d e f => SeqAt.in_tuple_data a b c d e f)
theorem op_notInPX (hr : Room k X.A) : OpR X (compareOp .NotIn) (rD X.K X.mg notInPD) := inP_any (neg := true) hr (fun a b c d e f => SeqAt.notIn_list_data a b c d e f) (fun a b c d e f => SeqAt.notIn_tuple_data a b c d e f)
end
/-! ### a comprehension's list that is changed later: a cell -/
theorem Ok.adopt {K : PySem.W.Frag} {mg : Str → Option Value} {W0 W : Wd} {H0 H : Hp} {cs : Cs} (ok : Ok K mg W H cs) (l : Le W0 H0 W H) {p : Addr} {vs : List V} {ds : List D} (hp : H p = some (.lst vs)) (g : W.G p = none) (n : p ∉ W.ρ) (h0 : H0 p = none) (r : RepL K mg W vs ds) :
    Ok K mg ⟨W.ρ ++ [p], W.G, W.me⟩ H (cs ++ [ds]) ∧ Le W0 H0 ⟨W.ρ ++ [p], W.G, W.me⟩ H := by
  have hm : ∀ {vs : List V} {ds : List D}, RepL K mg W vs ds → RepL K mg ⟨W.ρ ++ [p], W.G, W.me⟩ vs ds := fun r => RepL.mono (W := W) (W' := ⟨W.ρ ++ [p], W.G, W.me⟩) ⟨[p], rfl⟩ (Ext.refl _) r
  refine ⟨⟨ok.ex, List.nodup_append.mpr ⟨ok.nd, by simp, fun a ha b hb => ?_⟩, CellsOk.append (CellsOk.imp (W := W) (W' := ⟨W.ρ ++ [p], W.G, W.me⟩) (H := H) hm (fun a m hg => hg) (fun a m u e => e) ok.cl) (.cons g hp (hm r) .nil)⟩, ⟨?_, l.ex, l.keep, fun a hne hg hr => ⟨(l.new a hne hg hr).1, fun m => ?_⟩, l.me⟩⟩
  · simp at hb; subst hb
    exact fun q => n (q ▸ ha)
  · obtain ⟨z, e⟩ := l.pre
    exact ⟨z ++ [p], by show W.ρ ++ [p] = _; rw [e, List.append_assoc]⟩
  · rcases List.mem_append.mp m with m | m
    · exact (l.new a hne hg hr).2 m
    · simp at m; subst m; exact hne h0
def eLcN (its : Its) (g : Tg) (c f : Sem) (vs : List Nat) : Sem := fun S cs => (its S cs).bind fun ds cs => if ds.length ≤ 1000000 then (noX (lcLoop g c f (wipeS S vs) ds cs)).bind fun ys cs => .ok (.cell cs.length) (cs ++ [ys]) else .bad
section
variable {X : Cx} {E : XK} {elt tg iter : Expr} {ifs : List Expr} {scope : Scope} {own : List (Str × Nat)} {pos : Pos} {its : Its} {g : Tg} {ix : List Nat} {c f : Sem}
theorem lc_denN {σ : SSt} {H : Hp} {Q : VK} (hix : ∀ j ∈ ix, j ∈ own.map (·.2)) (q : den X.K X.mg E (eLcN its g c f (own.map (·.2))) σ H Q) :
    tLc (denI X.K X.mg E its) (denG X.K X.mg g ix) (denT X.K X.mg E0 c) (den X.K X.mg E0 f) (own.map (·.2)) σ H Q := by
  obtain ⟨W, S, cs, H0, ok, sl, q⟩ := q
  refine ⟨W, S, cs, H0, ok, sl, (RO.seqv (R := ItOk X.K X.mg) q).imp fun J H1 ⟨W1, cs1, ds, ok1, l1, hJ, q1⟩ => ?_⟩
  split at q1
  case isFalse => exact q1.elim
  case isTrue hlen =>
  intro D hD
  have sl1 := sl.mono l1
  -- what is wanted behind the turns
  let Fin : List LL.D → List LL.D → Cs → Prop := fun acc ys cs' => ∀ (v : V) (W' : Wd) (H' : Hp), Ok X.K X.mg W' H' (cs' ++ [acc ++ ys]) → Le W1 H1 W' H' → Rep X.K X.mg W' v (.cell cs'.length) → Q v H'
  have q2 : ∃ ys cs', noX (lcLoop g c f (wipeS S (own.map (·.2))) ds cs1) = .ok ys cs' ∧ Fin [] ys cs' := by
    cases e : noX (lcLoop g c f (wipeS S (own.map (·.2))) ds cs1) with
    | ok ys cs' => rw [e] at q1; exact ⟨ys, cs', rfl, q1⟩
    | exc _ _ _ _ => rw [e] at q1; unfold noX at e; split at e <;> cases e
    | bad => rw [e] at q1; exact q1.elim
  refine ⟨fun i m H2 => ∃ (W2 : Wd) (cs2 : Cs) (acc : List V) (accD : List LL.D), Ok X.K X.mg W2 H2 cs2 ∧ Le W1 H1 W2 H2 ∧ H2 D = some (.lst acc) ∧ RepL X.K X.mg W2 acc accD ∧ W2.G D = none ∧ D ∉ W2.ρ ∧ i ≤ ds.length ∧ acc.length ≤ i ∧ m = ds.length - i ∧
    ∃ ys cs', noX (lcLoop g c f (wipeS S (own.map (·.2))) (ds.drop i) cs2) = .ok ys cs' ∧ Fin accD ys cs', ?_, ?_⟩
  · obtain ⟨ok2, l2⟩ := ok1.apart (.lst []) hD
    obtain ⟨g2, n2⟩ := ok1.fresh hD
    exact ⟨ds.length, W1, cs1, [], [], ok2, l2, upd_same, .nil, g2, n2, Nat.zero_le _, Nat.zero_le _, rfl, q2⟩
  · rintro i m H2 ⟨W2, cs2, acc, accD, ok2, l2, hacc, racc, gD, nD, hi, hai, rfl, hfin⟩
    have hit := hJ i W2 H2 cs2 ok2 l2.pre l2.ex
    by_cases hlt : i < ds.length
    · have hd : ds[i]? = some ds[i] := List.getElem?_eq_getElem hlt
      obtain ⟨hgo, hyl⟩ := hit.1 _ hd
      rw [List.drop_eq_getElem_cons hlt] at hfin
      refine .inr ⟨hgo, fun H' => ∃ (W2 : Wd) (cs2 : Cs) (acc : List V) (accD : List LL.D), Ok X.K X.mg W2 H' cs2 ∧ Le W1 H1 W2 H' ∧ H' D = some (.lst acc) ∧ RepL X.K X.mg W2 acc accD ∧ W2.G D = none ∧ D ∉ W2.ρ ∧ acc.length ≤ i + 1 ∧
        ∃ ys cs', noX (lcLoop g c f (wipeS S (own.map (·.2))) (ds.drop (i + 1)) cs2) = .ok ys cs' ∧ Fin accD ys cs', ?_, ?_⟩
      · rintro H' ⟨W3, cs3, acc3, accD3, a1, a2, a3, a4, a5, a6, a7, a8⟩
        exact ⟨ds.length - (i + 1), by omega, W3, cs3, acc3, accD3, a1, a2, a3, a4, a5, a6, by omega, a7, rfl, a8⟩
      · intro x H3 hy
        obtain ⟨W3, ok3, l3, r3⟩ := hyl x H3 hy
        have l13 := l2.trans ok2 l3
        obtain ⟨S2, cs2', e20, hf1⟩ := noX_seq hfin
        obtain ⟨e2, ec⟩ : g ds[i] (wipeS S (own.map (·.2))) = some S2 ∧ cs2 = cs2' := by
          cases hg : g ds[i] (wipeS S (own.map (·.2))) with
          | none => rw [hg] at e20; cases e20
          | some S2 => rw [hg] at e20; cases e20; exact ⟨rfl, rfl⟩
        clear hfin e20
        subst ec
        refine ⟨W3, wipeS S (own.map (·.2)), cs2, H0, ds[i], S2, ok3, (sl.mono (l1.trans ok1 l13)).wipe _, r3, e2, fun σ2 sl2 hj hl => ⟨wipe_same hix hj hl, ?_⟩⟩
        obtain ⟨b, cs4, e4, hf2⟩ := noX_seq hf1
        refine ⟨W3, S2, cs2, H0, ok3, sl2, RO.of_eq e4 fun b' W4 H4 ok4 l4 r4 => ?_⟩
        cases r4
        have l14 := l13.trans ok3 l4
        have nD3 := l3.new D (by rw [hacc]; simp) gD nD
        have hD3 : H3 D = some (.lst acc) := l3.keep D _ hacc nD
        have nD4 := l4.new D (by rw [hD3]; simp) nD3.1 nD3.2
        have hD4 : H4 D = some (.lst acc) := l4.keep D _ hD3 nD3.2
        cases b with
        | false => exact ⟨W4, cs4, acc, accD, ok4, l14, hD4, (racc.le l3).le l4, nD4.1, nD4.2, by omega, hf2⟩
        | true =>
          obtain ⟨y, cs5, e5, hf3⟩ := noX_seq hf2
          obtain ⟨ys, cs6, e6, zs, cs7, e7, hf4⟩ := noX_seq hf3
          cases e7
          refine ⟨W4, S2, cs4, H0, ok4, sl2.mono l4, RO.of_eq e5 fun yv W5 H5 ok5 l5 r5 => ?_⟩
          have nD5 := l5.new D (by rw [hD4]; simp) nD4.1 nD4.2
          have hD5 : H5 D = some (.lst acc) := l5.keep D _ hD4 nD4.2
          refine ⟨acc, hD5, line_lt (by omega), ?_⟩
          obtain ⟨ok6, l6⟩ := ok5.change (l14.trans ok4 l5) (.lst (acc ++ [yv])) nD5.1 nD5.2 hD
          refine ⟨W5, cs5, acc ++ [yv], accD ++ [y], ok6, l6, upd_same, (((racc.le l3).le l4).le l5).append (.one r5), nD5.1, nD5.2, by simp; omega, ys, _, by rw [e6]; rfl, ?_⟩
          intro v W' H' o' l' r'
          rw [List.append_assoc] at o'
          exact hf4 v W' H' o' l' r'
    · have hii : i = ds.length := by omega
      refine .inl ⟨hit.2 hii, ?_⟩
      rw [List.drop_eq_nil_of_le (by omega)] at hfin
      obtain ⟨ys, cs', e, hfin⟩ := hfin
      cases e
      rw [show Fin accD [] cs2 = _ from rfl] at hfin
      obtain ⟨ok3, l3⟩ := ok2.adopt l2 hacc gD nD hD racc
      refine hfin _ _ _ (by rw [List.append_nil]; exact ok3) l3 (.cell (by rw [← ok2.cells]; simp))
theorem de_lcN (hc : X.calm = true) (hN : X.N.Nodup) (hi : DI X E tg iter its) (ok : BlkOk X.N X.env.scope scope own) (hix : ∀ j ∈ ix, j ∈ own.map (·.2))
    (hg : ∀ (s : Shared) (H : Hp) (C : Addr) (cl : List (Str × Addr)) (fp : List Addr), DG (X.blk s H scope (compEnvC scope cl C X.env) fp) tg g ix) (ht : ∀ (s : Shared) (H : Hp) (C : Addr) (cl : List (Str × Addr)) (fp : List Addr), DTs (X.blk s H scope (compEnvC scope cl C X.env) fp) E0 ifs c)
    (he : ∀ (s : Shared) (H : Hp) (C : Addr) (cl : List (Str × Addr)) (fp : List Addr), DE (X.blk s H scope (compEnvC scope cl C X.env) fp) E0 elt f) (hs : ∀ x, foldedSetIterable iter X.env x = pure x := by intro _; rfl) :
    DE X E (.ListComp elt [⟨tg, iter, ifs, 0⟩] scope pos) (eLcN its g c f (own.map (·.2))) :=
  (pe_lc hc hN hi ok hg ht he hs).imp fun σ H Q q => lc_denN hix q
/-- x.append(e), x a cell -/
def sCApp (i : Nat) (f : Sem) : Cm := fun S cs => match S[i]? with
  | some (.val (.cell n)) => (f S cs).thenF fun d cs => (match cs[n]? with
    | some xs => if xs.length < 1000000 then .nx S (cs.set n (xs ++ [d])) else .bad
    | none => .bad)
  | _ => .bad
variable {i : Nat} {x : Str} {pos : Pos}
theorem ds_capp {px apos cpos : Pos} {y : Expr} (hi : PE X (.Name x px) (tVar i)) (ha : DE X E y f)
    (hbase : attributeBase (.Name x px) "append" X.env (eval (.Name x px) X.env) = eval (.Name x px) X.env := by rfl)
    (hfew : ((backTo cpos (starEach [y] X.env)).all (fun x => !x.1) && (backToKw cpos (keywordEach [] X.env)).all (fun x => x.1.isSome)
      && decide (([y] : List Expr).length + ([] : List Keyword).length + (if ([] : List Keyword).isEmpty then 0 else 1) < 30)) = true := by rfl)
    (hline : (apos.endLine == cpos.line) = true := by rfl) (hs : starEach [y] X.env = (false, eval y X.env) :: starEach [] X.env := by rfl) (hplain : (backTo cpos (starEach [] X.env)).any (·.1) = false := by rfl)
    (hsw : swapsWith (.Call (.Attribute (.Name x px) "append" apos) [y] [] cpos) none pos.line X.env = pure false := by rfl) :
    DS X E (.Expr (.Call (.Attribute (.Name x px) "append" apos) [y] [] cpos) pos) (sCApp i f) :=
  (ps_expr (pe_bm PySem.F.plainAttrs_list PySem.F.slot_list_append PySem.F.type_list_append mt_append hi (pa_cons ha pa_nil hs) hbase hfew hline hs hplain) hsw).imp fun T σ H ⟨W, S, cs, W0, H0, ok, l, sl, q⟩ => by
    unfold sCApp at q
    split at q
    · rename_i n e
      obtain ⟨v0, hσ, rv⟩ := sl.val e
      cases rv with
      | @cell p n hn =>
        obtain ⟨ds, vs, e1, e2, e3, e4⟩ := ok.cl.get hn
        refine ⟨.ref p, hσ, .inl ⟨rfl, _, .inl (.inl e3)⟩, ?_⟩
        obtain ⟨W', S', cs', H0', ok', sl', q'⟩ := den.toF ok l sl q
        refine ⟨W', S', cs', H0', ok', sl', q'.imp fun v H1 ⟨W1, cs1, d, ok1, l1, sl1, l01, r1, q1⟩ => ?_⟩
        have hn1 : W1.ρ[n]? = some p := by
          obtain ⟨z, ez⟩ := l01.pre
          rw [ez, List.getElem?_append_left (List.getElem?_eq_some_iff.mp hn).1]
          exact hn
        obtain ⟨ds1, vs1, f1, f2, f3, f4⟩ := ok1.cl.get hn1
        rw [f1] at q1
        dsimp only at q1
        split at q1
        · rename_i hz
          refine ⟨p, vs1, v, rfl, rfl, f3, by rw [f4.length]; exact line_lt hz, ?_⟩
          obtain ⟨ok2, l2⟩ := ok1.cellPut hn1 (f4.append (.one r1))
          exact q1 W1 σ _ ok2 (l1.trans ok1 l2) (Mo.refl _) (sl1.mono l2)
        · exact q1.elim
    · exact q.elim
end
end LL

set_option Elab.async false
set_option linter.all false
set_option maxRecDepth 100000
set_option maxHeartbeats 4000000
/-! t[::-1] of a tuple -/
namespace LL
open PySem PySem.Spec PyProof.Rows L2
section
variable {prog : Program} {w : World} {A : Around} {E : Value → Shared → Prop} {s : Shared}
theorem rev_bounds (n : Nat) : Builtin.Slice.sliceAdjust none none (-1) (n : Int) = ((n : Int) - 1, -1) := rfl
theorem rev_places (n : Nat) : Builtin.Slice.slicePlaces ((n : Int) - 1) (-1) (-1) = n := by
  unfold Builtin.Slice.slicePlaces
  rw [if_neg (by decide)]
  by_cases h : (n : Int) - 1 > -1
  · rw [if_pos h, show -(-1 : Int) = 1 by decide, Int.ediv_one]
    omega
  · rw [if_neg h]
    omega
theorem rev_applied {sl : Addr} {vl vu vs : Value} {n : Nat} {Q : Int × Int × Nat → Shared → Prop} (hs : s.heap.IsSliceOf sl vl vu vs) (pl : IsPart vl none) (pu : IsPart vu none) (ps : IsPart vs (some (-1))) (h : Q ((n : Int) - 1, -1, n) s) :
    wpAny (model prog w) A (Builtin.Slice.sliceApplied (.ref sl) (pure (n : Int))) Q E s := by
  obtain ⟨ob, g1, g2, g3⟩ := id hs
  unfold Builtin.Slice.sliceApplied Builtin.Slice.sliceFields
  refine wpAny_bind (wpAny_bind (wpAny_field g1 g3 (x := vl) rfl (wpAny_bind (wpAny_field g1 g3 (x := vu) rfl (wpAny_bind (wpAny_field g1 g3 (x := vs) rfl (wpAny_pure ?_)))))))
  refine wpAny_bind (HT.slicePart_ ps ?_)
  show wpAny _ _ (if ((-1 : Int) == 0) = true then _ else _) _ _ s
  rw [if_neg (by decide)]
  refine wpAny_bind (HT.slicePart_ pl (wpAny_bind (HT.slicePart_ pu (wpAny_bind (wpAny_pure ?_)))))
  show wpAny _ _ (match Builtin.Slice.sliceAdjust none none (-1) (n : Int) with | (lo, hi) => pure (lo, (-1 : Int), Builtin.Slice.slicePlaces lo hi (-1))) _ _ s
  rw [rev_bounds]
  show wpAny _ _ (pure ((n : Int) - 1, (-1 : Int), Builtin.Slice.slicePlaces ((n : Int) - 1) (-1) (-1))) _ _ s
  rw [rev_places]
  exact wpAny_pure h
theorem fmap_congr {α β : Type} {f g : α → Option β} : ∀ {l : List α}, (∀ x ∈ l, f x = g x) → l.filterMap f = l.filterMap g
  | [], _ => rfl
  | x :: l, h => by rw [List.filterMap_cons, List.filterMap_cons, h x List.mem_cons_self, fmap_congr fun y hy => h y (List.mem_cons_of_mem _ hy)]
theorem rev_pick (xs : Array Value) : ((List.range xs.size).filterMap fun (m : Nat) => xs[(((xs.size : Int) - 1) + (m : Int) * (-1)).toNat]?).toArray = xs.toList.reverse.toArray := by
  have e : ((List.range xs.size).filterMap fun (m : Nat) => xs[(((xs.size : Int) - 1) + (m : Int) * (-1)).toNat]?) = (List.range xs.size).filterMap fun (m : Nat) => xs.toList.reverse.toArray[((0 : Nat) : Int).toNat + m]? := by
    refine fmap_congr fun m hm => ?_
    have hm := List.mem_range.mp hm
    have h1 : (((xs.size : Int) - 1) + (m : Int) * (-1)).toNat = xs.size - 1 - m := by omega
    rw [h1]
    show _ = xs.toList.reverse.toArray[0 + m]?
    have h2 : xs.toList.reverse[m]? = xs.toList[xs.size - 1 - m]? := by rw [List.getElem?_reverse (by rw [Array.length_toList]; exact hm), Array.length_toList]
    rw [Nat.zero_add]
    simp only [List.getElem?_toArray, h2, Array.getElem?_toList]
  rw [e]
  have g := HT.pick_gen xs.toList.reverse.toArray 0 xs.size
  have e2 : (fun (m : Nat) => xs.toList.reverse.toArray[((0 : Nat) : Int).toNat + m]?) = fun (m : Nat) => xs.toList.reverse.toArray[(((0 : Nat) : Int) + (m : Int) * 1).toNat]? := by
    funext m
    congr 1
    omega
  rw [e2, g]
  show (List.take xs.size xs.toList.reverse).toArray = _
  rw [List.take_of_length_le (by simp)]
theorem item_rev {t sl : Addr} {items : Array Value} {vl vu vs : Value} {Q : Value → Shared → Prop} (ht : IsTup s.heap t items) (hs : s.heap.IsSliceOf sl vl vu vs) (pl : IsPart vl none) (pu : IsPart vu none) (ps : IsPart vs (some (-1)))
    (h : Q (.ref s.heap.objs.size) { s with heap := s.heap.push { cls := .type "tuple", data := .seq items.toList.reverse.toArray } }) (hz : items.size ≤ sizeLine) : wpAny (model prog w) A (getItem (.ref t) (.ref sl)) Q E s := by
  have fits : sizeOk (.seq items.toList.reverse.toArray) := by
    show items.toList.reverse.toArray.size ≤ sizeLine
    rw [List.size_toArray, List.length_reverse, Array.length_toList]
    exact hz
  obtain ⟨ob, g1, g2, g3⟩ := id hs
  have tyS : s.TypeIs (.ref sl) "slice" := ⟨ob, g1, g2⟩
  have no : ¬ ((((items.size : Int) - 1) == 0 && (-1 : Int) == 1 && items.size == items.size) = true) := fun q => by
    rw [Bool.and_eq_true, Bool.and_eq_true] at q
    exact absurd q.1.2 (by decide)
  unfold getItem
  try with_reducible refine wpAny_holding ?_
  first | refine wpAny_bind (wpAny_pure ?_) | skip
  refine wpAny_bind (wpAny_sequenceKey ht.typeIs (by decide) (wpAny_bind (wpAny_callSpecial?_slot (name := Str.ofString "__getitem__") ht.typeIs PyProof.Rows.slot_tuple_getitem (wpAny_call_entry PyProof.Rows.slot_tuple_getitem ht.typeIs entry_tuple_getitem ?_ (args_tuple_getitem _ _)))))
  show wpAny _ _ (Builtin.Tuple.tupleItemsOf (.ref t) >>= _) _ _ s
  refine wpAny_bind (tupleItemsOf_ ht (wpAny_bind (wpAny_typeOf tyS ?_)))
  rw [if_pos (by decide)]
  refine wpAny_bind (rev_applied hs pl pu ps ?_)
  show wpAny _ _ (if (((items.size : Int) - 1) == 0 && (-1 : Int) == 1 && items.size == items.size) = true then _ else _) _ _ s
  rw [if_neg no, rev_pick]
  first
    | exact wpAny_bind (m := Builtin.Tuple.tupleExact _) (wpAny_newObj_type (wpAny_pure ⟨_, rfl, wpAny_pure h⟩) fits)
    | exact wpAny_bind (m := Builtin.Tuple.tupleExact _) (wpAny_newObj_type (wpAny_bind (wpAny_pure (wpAny_pure ⟨_, rfl, wpAny_pure h⟩))) fits)
    | exact wpAny_bind (wpAny_bind (m := Builtin.Tuple.tupleExact _) (wpAny_newObj_type (wpAny_pure (wpAny_pure ⟨_, rfl, wpAny_pure h⟩)) fits))
    | exact wpAny_bind (wpAny_bind (m := Builtin.Tuple.tupleExact _) (wpAny_newObj_type (wpAny_pure ⟨_, rfl, wpAny_pure h⟩) fits))
end
def eRev (f : Sem) : Sem := fun S cs => (f S cs).bind fun d cs => match d with
  | .tup xs => .ok (.tup xs.reverse) cs
  | _ => .bad
theorem repL_rev {K : PySem.W.Frag} {mg : Str → Option Value} {W : Wd} : ∀ {vs : List V} {ds : List D}, RepL K mg W vs ds → RepL K mg W vs.reverse ds.reverse
  | _, _, .nil => .nil
  | _, _, .cons r t => by
    rw [List.reverse_cons, List.reverse_cons]
    exact (repL_rev t).append (.one r)
theorem vals_rev : ∀ {vs : List V} {us : List Value}, Vals vs us → Vals vs.reverse us.reverse
  | _, _, .nil => .nil
  | _, _, .cons r t => by
    rw [List.reverse_cons, List.reverse_cons]
    exact (vals_rev t).append (.cons r .nil)
section
variable {X : Cx} {E : XK} {e : Expr} {f : Sem} {pos p1 p2 p3 : Pos} {k : Nat}
def tRevT (K : PySem.W.Frag) (te : TE) : TE := fun σ H Q => te σ H fun x H1 => ∃ a xs, x = .ref a ∧ SqT K H1 a xs ∧ NewT xs.reverse H1 Q
theorem pe_revT {te : TE} (he : PE X e te) : PE X (.Subscript e (.Slice none none (some (.UnaryOp .USub (.Constant (.int 1) k p1) p2)) p3) pos) (tRevT X.K te) := by
  refine ⟨fun pins s σ H Q I h => Subscript_ (thn (he.run pins s σ H _ I h) fun v s1 ⟨x, H1, I1, r1, a, xs, ex, hx, q⟩ => ?_)⟩
  subst ex
  cases r1
  have hst : PO X (some (.UnaryOp .USub (.Constant (.int 1) k p1) p2)) (tPart (tUn (rU fun i => .int (-i)) (L2.tC (.int 1)))) := po_some (pe_un un_neg pe_int)
  refine wpAny_Slice (thn (po_none.run pins s1 σ H1 (fun o G => o = none ∧ G = H1) I1 ⟨rfl, rfl⟩) fun vl s2 ⟨l, H2, I2, pl, el, e2⟩ => thn (po_none.run pins s2 σ H2 (fun o G => o = none ∧ G = H2) I2 ⟨rfl, rfl⟩) fun vu s3 ⟨u, H3, I3, pu, eu, e3⟩ => thn (hst.run pins s3 σ H3 (fun o G => o = some (-1) ∧ G = H3) I3 ⟨1, rfl, -1, rfl, rfl, rfl⟩) fun vs s4 ⟨o, H4, I4, ps, eo, e4⟩ => ?_)
  subst el e2 eu e3 eo e4
  have I5 : Inv X pins σ H4 { s4 with heap := s4.heap.push { cls := .type "slice", data := .fields #[vl, vu, vs] } } := I4.kept (t' := s4.toks) fun b ob q => Heap.get?_push_of_some _ q
  obtain ⟨its, r, ht, hz⟩ := I5.tuple hx
  have hlen := r.length
  show wpAny (model X.prog X.w) X.A (subscriptTail e (.Slice none none (some (.UnaryOp .USub (.Constant (.int 1) k p1) p2)) p3) (.ref a) (.ref s4.heap.objs.size)) (EP X pins σ Q) X.xe { s4 with heap := s4.heap.push { cls := .type "slice", data := .fields #[vl, vu, vs] } }
  refine tail_any (ops := [.ref a, .ref s4.heap.objs.size]) ht.typeIs (PyProof.Rows.slot_tuple_getitem.lookup) (item_rev ht (Heap.IsSliceOf.new _ vl vu vs) pl pu ps ?_ (by rw [List.size_toArray]; omega)) (by with_unfolding_all rfl)
  exact newT_fin (t' := s4.toks) I5 (vals_rev r) (by rw [List.length_reverse]; exact hz) (fun b ob q => Heap.get?_push_of_some _ q) (Nat.le_refl _) (Heap.get?_push_size _ rfl) q
theorem de_rev (he : DE X E e f) : DE X E (.Subscript e (.Slice none none (some (.UnaryOp .USub (.Constant (.int 1) k p1) p2)) p3) pos) (eRev f) := (pe_revT he).imp fun σ H Q ⟨W, S, cs, H0, ok, sl, q⟩ => by
  obtain ⟨W', S', cs', H0', ok', sl', q'⟩ := den.then ok sl q
  refine ⟨W', S', cs', H0', ok', sl', q'.imp fun x H1 ⟨W1, cs1, d, ok1, sl1, l1, r1, q1⟩ => ?_⟩
  cases r1 with
  | @tup a vs ds h r => exact ⟨a, vs, rfl, ok1.ex.sqt h.sqt, ok1.newT (repL_rev r) q1⟩
  | _ => exact q1.elim
end
end LL

set_option Elab.async false
set_option linter.all false
set_option maxRecDepth 100000
set_option maxHeartbeats 4000000
/-! is, is not of truths -/
namespace LL
open PySem PySem.Spec PyProof.Rows L2
def isBD (_ : Cs) (x y : D) : Option D := match x, y with
  | .bl a, .bl b => some (.bl (decide (a = b)))
  | _, _ => none
def notBD (_ : Cs) (x y : D) : Option D := match x, y with
  | .bl a, .bl b => some (.bl (!decide (a = b)))
  | _, _ => none
section
variable {X : Cx}
theorem op_isBX : OpR X (compareOp .Is) (rD X.K X.mg isBD) := by
  intro pins s σ H x y v u Q I rx ry ⟨W, cs, dx, dy, d, ok, hx, hy, e, q⟩
  unfold isBD at e
  split at e
  · cases hx; cases hy; cases e
    exact op_isBl pins s σ H _ _ v u Q I rx ry ⟨_, _, rfl, rfl, q _ W H ok (Le.refl W H) (.bl _)⟩
  · cases e
theorem op_notBX : OpR X (compareOp .IsNot) (rD X.K X.mg notBD) := by
  intro pins s σ H x y v u Q I rx ry ⟨W, cs, dx, dy, d, ok, hx, hy, e, q⟩
  unfold notBD at e
  split at e
  · cases hx; cases hy; cases e
    exact op_notBl pins s σ H _ _ v u Q I rx ry ⟨_, _, rfl, rfl, q _ W H ok (Le.refl W H) (.bl _)⟩
  · cases e
/-- {} as a value that stays as it is -/
theorem de_dnil {E : XK} {pos : Pos} : DE X E (.Dict [] [] pos) (eC (.dct [] [])) := pe_dnewK.imp fun σ H Q ⟨W, S, cs, H0, ok, sl, q⟩ => fun p hp => by
  obtain ⟨ok2, l2⟩ := ok.lay (.dK []) hp
  exact q _ _ _ ok2 l2 (.dct (kvs := []) upd_same .nil .nil)
end
end LL

set_option Elab.async false
set_option linter.all false
set_option maxRecDepth 100000
set_option maxHeartbeats 4000000
/-! == and != by an own __eq__ -/
namespace LL
open PySem PySem.Spec PyProof.Rows L2
section
variable {prog : Program} {w : World} {M : Model} {A A₀ : Around} {E : Value → Shared → Prop} {s : Shared} {K : PySem.W.Frag} {x C f : Addr} {ox : Obj} {od : Option Obj} {b tb : Value}
/-- a built-in slot that an instance takes from object -/
theorem ifBound_B {name : Str} {id : String} {args : List Value} {Q : Option Value → Shared → Prop} (X : K.In s.heap) (I : PySem.W.InstAt s.heap x ox C od) (hs : PySem.W.findIn K (.ref C) name = some (some (.builtin id))) (S : Slot "object" name id)
    (h : wpAny M A (call (.builtin id) (.ref x :: args)) (fun v => Q (some v)) E s) : wpAny M A (callSpecialIfBound? (.ref x) name args) Q E s := by
  simp only [callSpecialIfBound?, bindSpecialIfBound?]
  refine wpAny_holding (wpAny_bind (wpAny_bind (wpAny_bind (I.type.here ((PySem.W.looks_findIn X hs).here ?_)))))
  simp only [S.bind]
  refine wpAny_bind (wpAny_askSetting (wpAny_ite ?_))
  have fin : wpAny M A (call (.builtin id) ([.ref x] ++ args) >>= fun v => pure (some v)) Q E s :=
    wpAny_bind (wpAny_mono h (fun v s' h' => wpAny_pure h') fun _ _ h' => h')
  split
  · exact wpAny_bind (wpAny_pure (wpAny_pure fin))
  · exact wpAny_tryCatch (wpAny_bind (wpAny_pure (wpAny_pure fin)))
theorem check_slotK {id n : String} {rest : List Value} {Q : Unit → Shared → Prop} (hk : builtinKind id = some .slot) (hs : splitId id = some ("object", n)) (ha : argsOk id ⟨.ref x :: rest, []⟩) (X : K.In s.heap) (I : PySem.W.InstAt s.heap x ox C od)
    (hm : PySem.W.mroIn K C (.type "object") = some true) (hq : Q () s) : wpAny M A (checkBuiltinCall id ⟨.ref x :: rest, []⟩) Q E s := by
  simp only [checkBuiltinCall, hk, hs]
  refine wpAny_bind ?_
  unfold isInstance
  refine wpAny_bind (I.type.here ((PySem.W.looks_mroIn X hm).here ?_))
  cases hsig : Manifest.signature? id with
  | none => exact wpAny_pure hq
  | some sig =>
    simp only [argsOk, hsig] at ha
    have h2 : Bind.checkArgs id sig ⟨.ref x :: rest, []⟩ = pure () := ha
    show wpAny M A (Bind.checkArgs id sig ⟨.ref x :: rest, []⟩) Q E _
    rw [h2]; exact wpAny_pure hq
theorem objNe_own {Q : Fin → Shared → Prop} (X : K.In s.heap) (I : PySem.W.InstAt s.heap x ox C od) (he : PySem.W.findIn K (.ref C) "__eq__" = some (some (.ref f))) (hf : PySem.W.isFn K (.ref f) = true) (hu : A.units < cLine)
    (hcall : wpAny (model prog w) A (call (.ref f) [.ref x, b]) (fun v s' => ∃ k, v = .bool k ∧ Q (.done (.ret (.bool (!k)))) s') E s) :
    wpAny (model prog w) A (Builtin.«object.__ne__» ⟨[.ref x, b], []⟩) Q E s := by
  unfold Builtin.«object.__ne__»
  repeat (first
    | with_reducible refine wpAny_cRoomFor hu ?_
    | (refine wpAny_bind (m := callSpecialIfBound? (.ref x) (Str.ofString "__eq__") [b])
        (PySem.W.ifBound_K X I he hf (wpAny_mono hcall (fun r s' hr => by
          obtain ⟨k, rfl, hq⟩ := hr
          repeat (first | exact hq | exact wpAny_pure hq | exact wpAny_truthy_bool hq | (refine wpAny_bind (m := truthy (.bool _)) (wpAny_truthy_bool ?_)) | wp_step)) fun _ _ e => e)))
    | wp_step)
theorem tryNe_own {Q : Option Value → Shared → Prop} (X : K.In s.heap) (I : PySem.W.InstAt s.heap x ox C od) (hn : PySem.W.findIn K (.ref C) "__ne__" = some (some (.builtin "object.__ne__"))) (hm : PySem.W.mroIn K C (.type "object") = some true)
    (he : PySem.W.findIn K (.ref C) "__eq__" = some (some (.ref f))) (hf : PySem.W.isFn K (.ref f) = true) (hu : A.units + 1 < cLine)
    (hcall : wpAny (model prog w) A.in1 (call (.ref f) [.ref x, b]) (fun v s' => ∃ k, v = .bool k ∧ Q (some (.bool (!k))) s') E s) :
    wpAny (model prog w) A (tryCompare (.ref x) "__ne__" b) Q E s := by
  simp only [tryCompare]
  refine wpAny_bind (ifBound_B X I hn PySem.F.cmp_object.ne (wpAny_call (codeAny_call_builtin PySem.F.cmp_object.ne.plain PySem.F.cmpEntry_ne
    (check_slotK PySem.F.cmpKind_ne PySem.F.cmpSplit_ne (PySem.F.cmpArgs_ne _ _) X I hm
      (objNe_own (A := A.in1) X I he hf hu (wpAny_mono hcall (fun v s' hv => ?_) fun _ _ e => e))))))
  obtain ⟨k, rfl, hq⟩ := hv
  first | exact ⟨k, rfl, wpAny_pure hq⟩ | exact ⟨k, rfl, wpAny_pure (wpAny_pure hq)⟩ | exact ⟨k, rfl, hq⟩
/-- x != b by an own __eq__ -/
theorem ne_K {Q : Value → Shared → Prop} (hu : A.units + 1 < cLine) (X : K.In s.heap) (I : PySem.W.InstAt s.heap x ox C od) (hb : PySem.W.Looks (model prog w) s.heap (typeOf b) tb) (hnf : PySem.W.notFirst K C tb = true)
    (hn : PySem.W.findIn K (.ref C) "__ne__" = some (some (.builtin "object.__ne__"))) (hm : PySem.W.mroIn K C (.type "object") = some true) (he : PySem.W.findIn K (.ref C) "__eq__" = some (some (.ref f))) (hf : PySem.W.isFn K (.ref f) = true)
    (h : wpAny (model prog w) A.in1 (call (.ref f) [.ref x, b]) (fun v s' => ∃ k, v = .bool k ∧ Q (.bool (!k)) s') E s) : wpAny (model prog w) A (richCompare .NotEq (.ref x) b) Q E s := by
  have one : wpAny (model prog w) A (tryCompare (.ref x) "__ne__" b) (fun r s' => ∃ v, r = some v ∧ Q v s') E s :=
    tryNe_own X I hn hm he hf hu (wpAny_mono h (fun v s' hv => by
      obtain ⟨k, rfl, hq⟩ := hv
      exact ⟨k, rfl, _, rfl, hq⟩) fun _ _ e => e)
  unfold richCompare
  simp only [oneThing_ref]
  refine wpAny_holding (wpAny_bind (wpAny_cRoomFor (Nat.lt_of_succ_lt hu) ?_))
  rw [cmpInfo_NotEq]
  dsimp only
  refine wpAny_bind (I.type.here (wpAny_bind (hb.here ?_)))
  split
  · rename_i q
    have e : PySem.W.subIn K tb (.ref C) = some false := by
      rcases Bool.or_eq_true_iff.mp hnf with e | e
      · rw [beq_iff_eq.mp e] at q; simp at q
      · exact beq_iff_eq.mp e
    refine wpAny_bind ((PySem.W.looks_subIn X e).here ?_)
    simp only [Bool.false_eq_true, if_false]
    refine wpAny_bind (wpAny_mono one (fun r s' z => ?_) fun _ _ e => e)
    obtain ⟨v, rfl, hq⟩ := z
    exact wpAny_pure hq
  · refine wpAny_bind (wpAny_pure ?_)
    simp only [Bool.false_eq_true, if_false]
    refine wpAny_bind (wpAny_mono one (fun r s' z => ?_) fun _ _ e => e)
    obtain ⟨v, rfl, hq⟩ := z
    exact wpAny_pure hq
end
end LL

set_option Elab.async false
set_option linter.all false
set_option maxRecDepth 100000
set_option maxHeartbeats 4000000
/-! == and != by an own __eq__, over plain data -/
namespace LL
open PySem PySem.Spec PyProof.Rows L2
/-- what a class with an own __eq__ must have (of the written part) -/
structure EqC (K : PySem.W.Frag) (C f : Addr) : Prop where
  eq : PySem.W.findIn K (.ref C) "__eq__" = some (some (.ref f))
  fn : PySem.W.isFn K (.ref f) = true
  ne : PySem.W.findIn K (.ref C) "__ne__" = some (some (.builtin "object.__ne__"))
  ob : PySem.W.mroIn K C (.type "object") = some true
  ty : ∀ T ∈ (["NoneType", "bool", "int", "str", "tuple", "list", "dict"] : List String), PySem.W.subIn K (.type T) (.ref C) = some false
  tu : PySem.W.mroIn K C (.type "tuple") = some false
  no : PySem.W.mroIn K C (.type "NoneType") = some false
structure EqAt (P : Program) (w : World) (K : PySem.W.Frag) (mg : Str → Option Value) (base : Heap) (k : Nat) (c : Str) (fs : Fn) : Prop where
  ex : ∃ (C f : Addr) (fd : FuncData) (ps : List Str), mg c = some (.ref C) ∧ EqC K C f ∧ FnOk P w K mg base CX0 k f fd ps (spF K mg 2 fs) ∧ Binds K fd ps []
/-- what stands right of an object of the class c -/
def eqR (c : Str) (F : Fn) (x y : D) (cs : Cs) : Res D := match y with
  | .obj c2 _ _ => if c2 = c then noX (fnN 2 F [x, y] cs) else .bad
  | _ => if (tyName y).isSome then noX (fnN 2 F [x, y] cs) else .bad
/-- x == y, x an object of the class c -/
def eqRun (c : Str) (F : Fn) (x y : D) (cs : Cs) : Res D := match x with
  | .obj c1 _ _ => if c1 = c then eqR c F x y cs else .bad
  | _ => .bad
def negR (r : Res D) : Res D := r.bind fun d cs => match d with
  | .bl b => .ok (.bl (!b)) cs
  | _ => .bad
def rO (K : PySem.W.Frag) (mg : Str → Option Value) (run : D → D → Cs → Res D) : R2 := fun x y H Q => ∃ W cs dx dy, Ok K mg W H cs ∧ Rep K mg W x dx ∧ Rep K mg W y dy ∧ RO K mg E0 (Rep K mg) W H (noX (run dx dy cs)) Q
def eO (run : D → D → Cs → Res D) (f g : Sem) : Sem := fun S cs => (f S cs).bind fun x cs => (g S cs).bind fun y cs => noX (run x y cs)
section
variable {X : Cx} {E : XK} {a b : Expr} {f g : Sem} {pos : Pos} {k : Nat} {c : Str} {fs : Fn}
theorem den.opO {run : D → D → Cs → Res D} {σ : SSt} {H : Hp} {Q : VK} (q : den X.K X.mg E (eO run f g) σ H Q) : tOp (rO X.K X.mg run) (den X.K X.mg E f) (den X.K X.mg E g) σ H Q := by
  obtain ⟨W, S, cs, H0, ok, sl, q⟩ := q
  obtain ⟨W', S', cs', H0', ok', sl', q'⟩ := den.then ok sl q
  refine ⟨W', S', cs', H0', ok', sl', q'.imp fun v H1 ⟨W1, cs1, d, ok1, sl1, l1, r1, q1⟩ => ?_⟩
  obtain ⟨W2, S2, cs2, H2, ok2, sl2, q2⟩ := den.then ok1 sl1 q1
  refine ⟨W2, S2, cs2, H2, ok2, sl2, q2.imp fun u H3 ⟨W3, cs3, d3, ok3, sl3, l3, r3, q3⟩ => ?_⟩
  exact ⟨W3, cs3, d, d3, ok3, r1.le l3, r3, noX_imp q3⟩
theorem de_cmpO {op : CmpOp} {run : D → D → Cs → Res D} (ho : OpR X (compareOp op) (rO X.K X.mg run)) (ha : DE X E a f) (hb : DE X E b g) (hm : behindInMarks op b = false) : DE X E (.Compare a [op] [b] pos) (eO run f g) :=
  (pe_cmpR ho ha hb hm).imp fun σ H Q q => den.opO q
theorem dt_cmpO {op : CmpOp} {run : D → D → Cs → Res D} (ho : OpR X (compareOp op) (rO X.K X.mg run)) (ha : DE X E a f) (hb : DE X E b g) (hm : behindInMarks op b = false) : DT X E (.Compare a [op] [b] pos) (eO run f g) :=
  (pt_cmpR ho ha hb hm).imp fun σ H Q q => den.opO (den.toT q)
end
end LL
namespace LL
open PySem PySem.Spec PyProof.Rows L2
section
variable {X : Cx} {k : Nat} {c : Str} {fs : Fn} {pins : List (Addr × Obj)} {σ : SSt} {H : Hp} {s : Shared} {Q : VK}
theorem typ_of {cs : Cs} {W : Wd} (I : Inv X pins σ H s) (ok : Ok X.K X.mg W H cs) {y : V} {u : Value} {d : D} (ry : RelV y u) (r : Rep X.K X.mg W y d) {t : String} (h : tyName d = some t) : PySem.W.Looks (model X.prog X.w) s.heap (typeOf u) (.type t) := by
  obtain ⟨P, Z, p, _⟩ := kit_of I ry (tyX_of ok r h)
  exact Z.ty _ _ I.kIn p
/-- the own def runs below the running body -/
theorem run_own {A : Around} {f : Addr} {fd : FuncData} {ps : List Str} {sp : Sp} {us : List Value} {vs : List V} (F : FnOk X.prog X.w X.K X.mg X.base CX0 k f fd ps sp) (hb : Binds X.K fd ps []) (sb : Sub X k A) (I : Inv X pins σ H s) (r : Vals vs us)
    (h : sp vs H Q E0) : wpAny (model X.prog X.w) A (call (.ref f) us) (EP X pins σ Q) X.xe s := by
  have e0 : Env0 X.prog X.w X.K X.mg X.base A X.stack s H := by
    have e := I.env0
    exact ⟨by rw [sb.fr]; exact e.frames, e.mod, e.bs, e.bsz, e.funs, e.frf, e.hok, e.bare⟩
  have hl := F.len _ _ _ _ h
  refine wpAny_call (codeAny_mono (F.run A X.stack s H ⟨us, []⟩ us vs Q E0 sb.room e0 (by
    have := hb s us I.kIn (by simpa [← r.length] using hl)
    simpa using this) r h) fun r s' hq => ?_)
  cases r with
  | error e => exact pass0 pins σ H s e s' I hq
  | ok fl =>
    cases fl with
    | ret w => exact I.after hq
    | next => exact False.elim hq
    | brk => exact False.elim hq
    | cont => exact False.elim hq
/-- what stands right of an own == -/
theorem right_of {C : Addr} {cs : Cs} {W : Wd} {f : Addr} {ns : List Str} {vs : List D} (EC : EqC X.K C f) (hm : X.mg c = some (.ref C)) (I : Inv X pins σ H s) (ok : Ok X.K X.mg W H cs) {y : V} {u : Value} {d : D} (ry : RelV y u) (r : Rep X.K X.mg W y d) {r0 : Res D} {Q0 : VK}
    (h : RO X.K X.mg E0 (Rep X.K X.mg) W H (noX (eqRun c fs (.obj c ns vs) d cs)) Q0) : ∃ tb, PySem.W.Looks (model X.prog X.w) s.heap (typeOf u) tb ∧ PySem.W.notFirst X.K C tb = true ∧ RO X.K X.mg E0 (Rep X.K X.mg) W H (noX (fnN 2 fs [.obj c ns vs, d] cs)) Q0 := by
  have nn : ∀ {r : Res D}, noX (noX r) = noX r := fun {r} => by cases r <;> rfl
  have h : RO X.K X.mg E0 (Rep X.K X.mg) W H (noX (if c = c then eqR c fs (.obj c ns vs) d cs else .bad)) Q0 := h
  rw [if_pos rfl] at h
  unfold eqR at h
  have tn : ∀ {t : String}, tyName d = some t → ∃ tb, PySem.W.Looks (model X.prog X.w) s.heap (typeOf u) tb ∧ PySem.W.notFirst X.K C tb = true := fun {t} e => by
    refine ⟨.type t, typ_of I ok ry r e, ?_⟩
    unfold PySem.W.notFirst
    rw [EC.ty t (tyName_mem e)]
    simp
  cases hd : tyName d with
  | some t =>
    obtain ⟨tb, h1, h2⟩ := tn hd
    refine ⟨tb, h1, h2, ?_⟩
    cases d with
    | obj c2 n2 v2 => cases hd
    | _ =>
      dsimp only at h
      rw [hd] at h
      exact nn ▸ h
  | none =>
    cases d with
    | obj c2 n2 v2 =>
      dsimp only at h
      by_cases hc : c2 = c
      · subst hc
        rw [if_pos rfl, nn] at h
        cases r with
        | @obj a C2 dx fs2 _ _ _ hm2 hg hn hr =>
          have eC : C2 = C := by
            have z := hm2.symm.trans hm
            cases z; rfl
          subst eC
          cases (show u = Value.ref a from ry)
          obtain ⟨mA, J, _⟩ := ins_get I.hok (ok.ex _ _ hg)
          obtain ⟨od, J, _⟩ := J.look
          exact ⟨.ref C2, J.type, by simp [PySem.W.notFirst], h⟩
      · rw [if_neg hc] at h
        exact h.elim
    | _ =>
      dsimp only at h
      rw [hd] at h
      exact h.elim
theorem op_eqO (A : EqAt X.prog X.w X.K X.mg X.base k c fs) (hr : Room k X.A) : OpR X (compareOp .Eq) (rO X.K X.mg (eqRun c fs)) := by
  intro pins s σ H x y v u Q I rx ry h
  obtain ⟨C, f, fd, ps, hm, EC, F, hb⟩ := A.ex
  obtain ⟨W, cs, dx, dy, ok, r1, r2, q⟩ := h
  have nob : ∀ {d : D} (z : eqRun c fs d dy cs ≠ .bad), ∃ ns vs, d = .obj c ns vs := fun {d} z => by
    unfold eqRun at z
    cases d with
    | obj c1 ns vs =>
      by_cases e : c1 = c
      · subst e; exact ⟨ns, vs, rfl⟩
      · dsimp only at z
        rw [if_neg e] at z
        exact absurd rfl z
    | _ => exact absurd rfl z
  obtain ⟨ns, vs, rfl⟩ := nob (d := dx) (fun z => by rw [z] at q; exact q.elim)
  obtain ⟨tb, h1, h2, q2⟩ := right_of (r0 := .bad) EC hm I ok ry r2 q
  have sp := fn_q ok (.cons r1 (.cons r2 .nil)) q2
  cases r1 with
  | @obj a C2 dx2 fs2 _ _ _ hm2 hg hn hr2 =>
    have eC : C2 = C := by
      have z := hm2.symm.trans hm
      cases z; rfl
    subst eC
    cases (show v = Value.ref a from rx)
    obtain ⟨mA, J, _⟩ := ins_get I.hok (ok.ex _ _ hg)
    obtain ⟨od, J, _⟩ := J.look
    obtain ⟨m, hF⟩ := I.fr
    show wpAny (model X.prog X.w) X.A (richCompare .Eq _ u) (EP X pins σ Q) X.xe s
    refine PySem.W.cmp_K (op := .Eq) hr.units0 hF I.ok.mod.kin J h1 h2 EC.eq EC.fn ?_
    refine wpAny_mono (run_own F hb ⟨hr, rfl⟩ I (.cons (show L2.RelV (V.ref a) (Value.ref a) from rfl) (.cons ry .nil)) sp) (fun w s' z => ?_) fun _ _ x => x
    obtain ⟨z', H', I', rz, qz⟩ := z
    exact SlX.cmpback rz ⟨z', H', I', rz, qz⟩
theorem op_neO (A : EqAt X.prog X.w X.K X.mg X.base k c fs) (hr : Room (k + 1) X.A) : OpR X (compareOp .NotEq) (rO X.K X.mg fun x y cs => negR (noX (eqRun c fs x y cs))) := by
  intro pins s σ H x y v u Q I rx ry h
  obtain ⟨C, f, fd, ps, hm, EC, F, hb⟩ := A.ex
  obtain ⟨W, cs, dx, dy, ok, r1, r2, q⟩ := h
  have q1 : RO X.K X.mg E0 (Rep X.K X.mg) W H (noX (eqRun c fs dx dy cs)) (fun w H' => ∃ b, w = .bl b ∧ Q (.bl (!b)) H') := by
    have q : RO X.K X.mg E0 (Rep X.K X.mg) W H (noX (negR (noX (eqRun c fs dx dy cs)))) Q := q
    cases e : eqRun c fs dx dy cs with
    | ok d cs' =>
      rw [e] at q
      cases d with
      | bl b =>
        intro w W' H' ok' l' r'
        cases r'
        exact ⟨b, rfl, q (.bl (!b)) W' H' ok' l' (.bl _)⟩
      | _ => exact q.elim
    | exc _ _ _ _ => rw [e] at q; exact q.elim
    | bad => rw [e] at q; exact q.elim
  have nob : ∀ {d : D} (z : eqRun c fs d dy cs ≠ .bad), ∃ ns vs, d = .obj c ns vs := fun {d} z => by
    unfold eqRun at z
    cases d with
    | obj c1 ns vs =>
      by_cases e : c1 = c
      · subst e; exact ⟨ns, vs, rfl⟩
      · dsimp only at z
        rw [if_neg e] at z
        exact absurd rfl z
    | _ => exact absurd rfl z
  obtain ⟨ns, vs, rfl⟩ := nob (d := dx) (fun z => by rw [z] at q1; exact q1.elim)
  obtain ⟨tb, h1, h2, q2⟩ := right_of (r0 := .bad) EC hm I ok ry r2 q1
  have sp := fn_q ok (.cons r1 (.cons r2 .nil)) q2
  cases r1 with
  | @obj a C2 dx2 fs2 _ _ _ hm2 hg hn hr2 =>
    have eC : C2 = C := by
      have z := hm2.symm.trans hm
      cases z; rfl
    subst eC
    cases (show v = Value.ref a from rx)
    obtain ⟨mA, J, _⟩ := ins_get I.hok (ok.ex _ _ hg)
    obtain ⟨od, J, _⟩ := J.look
    obtain ⟨m, hF⟩ := I.fr
    show wpAny (model X.prog X.w) X.A (richCompare .NotEq _ u) (EP X pins σ Q) X.xe s
    have hr1 : Room k X.A.in1 := hr.in1
    refine ne_K (b := u) hr.in1.units0 I.kIn J h1 h2 EC.ne EC.ob EC.eq EC.fn ?_
    refine wpAny_mono (run_own F hb ⟨hr1, rfl⟩ I (.cons (show L2.RelV (V.ref a) (Value.ref a) from rfl) (.cons ry .nil)) sp) (fun w s' z => ?_) fun _ _ x => x
    obtain ⟨z', H', I', rz, b, e, qz⟩ := z
    subst e
    exact ⟨b, rz, .bl (!b), H', I', rfl, qz⟩
end
end LL

set_option Elab.async false
set_option linter.all false
set_option maxRecDepth 100000
set_option maxHeartbeats 4000000
/-! an own __eq__ asked from the other side; x in [..] by it -/
namespace LL
open PySem PySem.Spec PyProof.Rows L2
open AutoSeq1 (wpAny_loadPart')
open MeetsSeq MeetsSeq2 MeetsSeq3 SeqRoads2 SeqAt
section
variable {prog : Program} {w : World} {M : Model} {A : Around} {E : Value → Shared → Prop} {s : Shared} {K : PySem.W.Frag} {x C f : Addr} {ox : Obj} {od : Option Obj} {a base : Value} {r : Bool}
theorem isInst_K {Q : Bool → Shared → Prop} (X : K.In s.heap) (I : PySem.W.InstAt s.heap x ox C od) (hm : PySem.W.mroIn K C base = some r) (hq : Q r s) : wpAny M A (isInstance (.ref x) base) Q E s := by
  unfold isInstance
  exact wpAny_bind (I.type.here ((PySem.W.looks_mroIn X hm).here hq))
theorem tupEq_no {l : Addr} {items : Array Value} {n : Nat} {dd : Option Addr} {sl : Array (Option Value)} {Q : Fin → Shared → Prop} (hl : s.heap.get? l = some { cls := .type "tuple", dict := dd, data := .seq items n, slots := sl }) (X : K.In s.heap) (I : PySem.W.InstAt s.heap x ox C od)
    (hm : PySem.W.mroIn K C (.type "tuple") = some false) (hq : Q (.done (.ret .notImplemented)) s) : wpAny (model prog w) A (Builtin.«tuple.__eq__» ⟨[.ref l, .ref x], []⟩) Q E s := by
  obtain ⟨hp, g, d, tk, os⟩ := s
  wp_walk using wpAny_loadPart' hl, isInst_K X I hm
  exact hq
/-- a == x, where a knows nothing of x and x has an own __eq__ -/
theorem back_K {Q : Value → Shared → Prop} {T : String} (hu : A.units < cLine) (X : K.In s.heap) (I : PySem.W.InstAt s.heap x ox C od) (ha : PySem.W.Looks (model prog w) s.heap (typeOf a) (.type T)) (h1 : oneThing? .Eq a (.ref x) = none)
    (hm : PySem.W.mroIn K C (.type T) = some false) (dec : ∀ P : Option Value → Shared → Prop, P none s → wpAny (model prog w) A (tryCompare a "__eq__" (.ref x)) P E s)
    (he : PySem.W.findIn K (.ref C) "__eq__" = some (some (.ref f))) (hf : PySem.W.isFn K (.ref f) = true) (h : wpAny (model prog w) A (call (.ref f) [.ref x, a]) (PySem.W.CmpBack Q) E s) : wpAny (model prog w) A (richCompare .Eq a (.ref x)) Q E s := by
  have one : wpAny (model prog w) A (tryCompare (.ref x) "__eq__" a) (fun r s' => ∃ v, r = some v ∧ Q v s') E s := by
    unfold tryCompare
    refine wpAny_bind (PySem.W.ifBound_K X I he hf (wpAny_mono h (fun v s' hv => ?_) fun _ _ e => e))
    cases v <;> first | exact hv.elim | exact wpAny_pure ⟨_, rfl, hv⟩
  unfold richCompare
  simp only [h1]
  refine wpAny_holding (wpAny_bind (wpAny_cRoomFor hu ?_))
  refine wpAny_bind (ha.here (wpAny_bind (I.type.here ?_)))
  rw [if_pos (by simp)]
  refine wpAny_bind ((PySem.W.looks_mroIn X hm).here ?_)
  simp only [Bool.false_eq_true, if_false]
  refine wpAny_bind (dec _ ?_)
  simp only [Bool.not_false, if_true]
  refine wpAny_bind (wpAny_mono one (fun r s' z => ?_) fun _ _ e => e)
  obtain ⟨v, rfl, hq⟩ := z
  exact wpAny_pure hq
theorem tup_back {Q : Value → Shared → Prop} {l : Addr} {items : Array Value} {n : Nat} {dd : Option Addr} {sl : Array (Option Value)} (hu : A.units < cLine) (X : K.In s.heap) (I : PySem.W.InstAt s.heap x ox C od) (hl : s.heap.get? l = some { cls := .type "tuple", dict := dd, data := .seq items n, slots := sl })
    (hm : PySem.W.mroIn K C (.type "tuple") = some false) (he : PySem.W.findIn K (.ref C) "__eq__" = some (some (.ref f))) (hf : PySem.W.isFn K (.ref f) = true) (h : wpAny (model prog w) A (call (.ref f) [.ref x, .ref l]) (PySem.W.CmpBack Q) E s) :
    wpAny (model prog w) A (richCompare .Eq (.ref l) (.ref x)) Q E s :=
  back_K (T := "tuple") hu X I (fun {A Q E s'} k q => wpAny_typeOf_ref (k _ _ hl) q) (by rw [oneThing_ref]) hm (fun P hp => wpAny_tryCompare_declines ⟨_, hl, rfl⟩ PySem.F.slot_tuple_eq (GQ.call_here PySem.F.slot_tuple_eq ⟨_, hl, rfl⟩ PySem.F.entry_tuple_eq (PySem.F.args_tuple_eq_2 _ _) (tupEq_no hl X I hm ⟨rfl, hp⟩))) he hf h
theorem none_back {Q : Value → Shared → Prop} (hu : A.units < cLine) (X : K.In s.heap) (I : PySem.W.InstAt s.heap x ox C od) (hm : PySem.W.mroIn K C (.type "NoneType") = some false) (he : PySem.W.findIn K (.ref C) "__eq__" = some (some (.ref f))) (hf : PySem.W.isFn K (.ref f) = true)
    (h : wpAny (model prog w) A (call (.ref f) [.ref x, .none]) (PySem.W.CmpBack Q) E s) : wpAny (model prog w) A (richCompare .Eq .none (.ref x)) Q E s :=
  back_K (T := "NoneType") hu X I (PySem.W.Looks.of_pure rfl) rfl hm (fun P hp => wpAny_tryCompare_declines (typeIs_none s) PySem.F.slot_NoneType_eq (call_gives PySem.F.slot_NoneType_eq (typeIs_none s) PySem.F.entry_NoneType_eq (PySem.F.args_NoneType_eq_2 _ _) (NoneType___eq___none_ref_0 x) ⟨rfl, hp⟩)) he hf h
end
section
variable {prog : Program} {w : World} {A : Around} {R : Result → Shared → Prop}
/-- list.__contains__, where the comparisons may make objects -/
theorem cont_loopG (l : Addr) (x : Value) (N : Nat) (I : Nat → Shared → Prop)
    (turn : ∀ i s, I i s → ∃ (items : Array Value) (n : Nat), s.heap.get? l = some { cls := .type "list", data := .seq items n } ∧ items.size = N ∧
      ∀ h : i < items.size, wpAny (model prog w) A.in1 (eqBool items[i] x) (fun r s' => (r = true ∧ R (.ok (.ret (.bool true))) s') ∨ (r = false ∧ I (i + 1) s')) (fun e s' => R (.error e) s') s)
    (fin : ∀ s, I N s → R (.ok (.ret (.bool false))) s) (k : Nat) :
    ∀ i : Nat, N - i = k → i ≤ N → ∀ s, I i s →
      wpAny (model prog w) A.in1 (Builtin.«list.__contains__.loop» ⟨[.ref l, x, rawInt i], []⟩) (GQ.FinOf prog w A R) (fun e s' => R (.error e) s') s := by
  induction k with
  | zero =>
    intro i hk hi s h
    obtain ⟨items, n, hl1, hs1, _⟩ := turn _ _ h
    have hi' : i = N := by omega
    have hR : R (.ok (.ret (.bool false))) s := fin s (hi' ▸ h)
    obtain ⟨hp, g, d, tk, os⟩ := s
    wp_walk using wpAny_loadPart' hl1
    have hi1 : items[((i : Nat) : Int).toNat]? = none := by simp; omega
    rw [hi1]
    wp_walk
    exact hR
  | succ k ih =>
    intro i hk hi s h
    obtain ⟨items, n, hl1, hs1, tn⟩ := turn _ _ h
    have hlt : i < items.size := by omega
    have ht := tn hlt
    obtain ⟨hp, g, d, tk, os⟩ := s
    wp_walk using wpAny_loadPart' hl1
    have hi1 : items[((i : Nat) : Int).toNat]? = some items[i] := by simp [hlt]
    have hc : ((i : Int) + 1) = ((i + 1 : Nat) : Int) := by omega
    rw [hi1]
    refine wpAny_bind (wpAny_mono ht (fun r s2 h2 => ?_) fun _ _ x => x)
    rcases h2 with ⟨hr, h2⟩ | ⟨hr, h2⟩
    · subst hr
      obtain ⟨hp2, g2, d2, tk2, os2⟩ := s2
      wp_walk
      exact h2
    · subst hr
      have hrec := ih (i + 1) (by omega) (by omega) s2 h2
      obtain ⟨hp2, g2, d2, tk2, os2⟩ := s2
      wp_walk
      rw [hc]
      exact ⟨plainId_quiet plain_contains_loop _, codeAny_builtin entry_contains_loop (by
        rw [Around.under_plainId plain_contains_loop _]
        exact hrec)⟩
theorem list_contG (l : Addr) (x : Value) (N : Nat) (I : Nat → Shared → Prop)
    (turn : ∀ i s, I i s → ∃ (items : Array Value) (n : Nat), s.heap.get? l = some { cls := .type "list", data := .seq items n } ∧ items.size = N ∧
      ∀ h : i < items.size, wpAny (model prog w) A.in1 (eqBool items[i] x) (fun r s' => (r = true ∧ R (.ok (.ret (.bool true))) s') ∨ (r = false ∧ I (i + 1) s')) (fun e s' => R (.error e) s') s)
    (fin : ∀ s, I N s → R (.ok (.ret (.bool false))) s) {s : Shared} (h : I 0 s) :
    wpAny (model prog w) A.in1 (Builtin.«list.__contains__» ⟨[.ref l, x], []⟩) (GQ.FinOf prog w A R) (fun e s' => R (.error e) s') s := by
  obtain ⟨items, n, hl1, hs1, _⟩ := turn _ _ h
  have hrec := cont_loopG (A := A) (R := R) l x N I turn fin _ 0 rfl (Nat.zero_le _) s h
  obtain ⟨hp, g, d, tk, os⟩ := s
  wp_walk using wpAny_loadPart' hl1
  exact ⟨plainId_quiet plain_contains_loop _, codeAny_builtin entry_contains_loop (by
    rw [Around.under_plainId plain_contains_loop _]
    exact hrec)⟩
end
end LL

set_option Elab.async false
set_option linter.all false
set_option maxRecDepth 100000
set_option maxHeartbeats 4000000
/-! ==, !=, in, not in where one side may be an object with an own __eq__ -/
namespace LL
open PySem PySem.Spec PyProof.Rows L2
open SeqRoads2 SeqAt
/-- x == y, where x is a tuple or None and y an object of the class c -/
def backR (c : Str) (F : Fn) (x y : D) (cs : Cs) : Res D := match y with
  | .obj c2 _ _ => if c2 = c then noX (fnN 2 F [y, x] cs) else .bad
  | _ => Res.opt (eqD cs x y) cs
def eqA (c : Str) (F : Fn) (x y : D) (cs : Cs) : Res D := match x with
  | .obj _ _ _ => eqRun c F x y cs
  | .tup _ => backR c F x y cs
  | .non => backR c F x y cs
  | _ => Res.opt (eqD cs x y) cs
def neA (c : Str) (F : Fn) (x y : D) (cs : Cs) : Res D := match x with
  | .obj _ _ _ => negR (noX (eqRun c F x y cs))
  | _ => Res.opt (neD cs x y) cs
/-- z == x for an item z of a list, x an object of the class c -/
def elR (c : Str) (F : Fn) (x z : D) (cs : Cs) : Res Bool := match z with
  | .obj c2 _ _ => if c2 = c then (noX (fnN 2 F [z, x] cs)).bind fun d cs => match d with
    | .bl true => .ok true cs
    | _ => .bad else .bad
  | .tup _ => (noX (fnN 2 F [x, z] cs)).bind fun d cs => match d with
    | .bl b => .ok b cs
    | _ => .bad
  | .non => (noX (fnN 2 F [x, z] cs)).bind fun d cs => match d with
    | .bl b => .ok b cs
    | _ => .bad
  | _ => .bad
def anyR (c : Str) (F : Fn) (x : D) : List D → Cs → Res Bool
  | [], cs => .ok false cs
  | z :: zs, cs => (elR c F x z cs).bind fun b cs => if b then .ok true cs else anyR c F x zs cs
def inL (neg : Bool) (c : Str) (F : Fn) (x y : D) (cs : Cs) : Res D := match y with
  | .lst zs => (anyR c F x zs cs).bind fun b cs => .ok (.bl (if neg then !b else b)) cs
  | _ => .bad
def inA (neg : Bool) (c : Str) (F : Fn) (x y : D) (cs : Cs) : Res D := match x with
  | .obj c1 _ _ => if c1 = c then inL neg c F x y cs else .bad
  | _ => .bad
section
variable {X : Cx} {k : Nat} {c : Str} {fs : Fn} {pins : List (Addr × Obj)} {σ : SSt} {H : Hp} {s : Shared} {Q : VK} {A : Around}
theorem RO.opt_in {R : Wd → V → D → Prop} {W : Wd} {cs : Cs} {o : Option D} {E : XK} (h : RO X.K X.mg E R W H (noX (Res.opt o cs)) Q) : ∃ d, o = some d ∧ ∀ (v : V) (W' : Wd) (H' : Hp), Ok X.K X.mg W' H' cs → Le W H W' H' → R W' v d → Q v H' := by
  cases o with
  | some d => exact ⟨d, rfl, h⟩
  | none => exact h.elim
/-- an object and where it stands -/
theorem obj_at {C : Addr} {W : Wd} {cs : Cs} {ns : List Str} {vs : List D} {x : V} {u : Value} (hm : X.mg c = some (.ref C)) (I : Inv X pins σ H s) (ok : Ok X.K X.mg W H cs) (r : Rep X.K X.mg W x (.obj c ns vs)) (ru : RelV x u) :
    ∃ (a dx : Addr) (fs : List (Str × V)) (ox : Obj) (od : Option Obj), x = .ref a ∧ u = .ref a ∧ H a = some (.ins C dx fs) ∧ PySem.W.InstAt s.heap a ox C od := by
  cases r with
  | @obj a C2 dx fs2 _ _ _ hm2 hg hn hr =>
    have eC : C2 = C := by
      have z := hm2.symm.trans hm
      cases z; rfl
    subst eC
    cases (show u = Value.ref a from ru)
    have ha := ok.ex _ _ hg
    obtain ⟨mA, J, _⟩ := ins_get I.hok ha
    obtain ⟨od, J, _⟩ := J.look
    exact ⟨a, dx, fs2, _, _, rfl, rfl, ha, J⟩
/-- the own == asked with an object ahead and something else behind it -/
theorem back_run {C f : Addr} {fd : FuncData} {ps : List Str} {W : Wd} {cs : Cs} {ns : List Str} {vs : List D} {x y : V} {u w : Value} {d : D} (hu : A.units < cLine) (EC : EqC X.K C f) (hm : X.mg c = some (.ref C))
    (F : FnOk X.prog X.w X.K X.mg X.base CX0 k f fd ps (spF X.K X.mg 2 fs)) (hb : Binds X.K fd ps []) (sb : L2.Sub X k A) (I : Inv X pins σ H s) (ok : Ok X.K X.mg W H cs)
    (r : Rep X.K X.mg W x (.obj c ns vs)) (ry : Rep X.K X.mg W y d) (rx : RelV x u) (rw : RelV y w) (hd : (∃ xs, d = .tup xs) ∨ d = .non)
    (q : RO X.K X.mg E0 (Rep X.K X.mg) W H (noX (fnN 2 fs [.obj c ns vs, d] cs)) Q) : wpAny (model X.prog X.w) A (richCompare .Eq w u) (EP X pins σ Q) X.xe s := by
  obtain ⟨a, dx, fs2, ox, od, rfl, rfl, ha, J⟩ := obj_at hm I ok r rx
  have sp := fn_q ok (.cons r (.cons ry .nil)) q
  have run := wpAny_mono (run_own F hb sb I (us := [.ref a, w]) (.cons (show L2.RelV (V.ref a) (Value.ref a) from rfl) (.cons rw .nil)) sp) (Q' := PySem.W.CmpBack (EP X pins σ Q)) (fun w s' z => by
    obtain ⟨z', H', I', rz, qz⟩ := z
    exact SlX.cmpback rz ⟨z', H', I', rz, qz⟩) fun _ _ x => x
  rcases hd with ⟨xs, rfl⟩ | rfl
  · cases ry with
    | @tup l _ _ ht _ =>
      cases (show w = Value.ref l from rw)
      obtain ⟨its, rv, ⟨⟨cls, dd, data, sl⟩, ho, hc, n, hdt⟩, _⟩ := I.tuple (ok.ex.sqt ht.sqt)
      simp only at hc hdt
      subst hc hdt
      exact tup_back hu I.kIn J ho EC.tu EC.eq EC.fn run
  · cases ry
    cases rw
    exact none_back hu I.kIn J EC.no EC.eq EC.fn run
theorem op_eqA (A : EqAt X.prog X.w X.K X.mg X.base k c fs) (hr : Room k X.A) {k2 : Nat} (hr2 : Room k2 X.A) : OpR X (compareOp .Eq) (rO X.K X.mg (eqA c fs)) := by
  intro pins s σ H x y v u Q I rx ry h
  obtain ⟨W, cs, dx, dy, ok, r1, r2, q⟩ := h
  have plain : RO X.K X.mg E0 (Rep X.K X.mg) W H (noX (Res.opt (eqD cs dx dy) cs)) Q → wpAny (model X.prog X.w) X.A (compareOp .Eq v u) (EP X pins σ Q) X.xe s := fun q => by
    obtain ⟨d, e, q⟩ := RO.opt_in q
    exact op_eqX hr2 pins s σ H x y v u Q I rx ry ⟨W, cs, dx, dy, d, ok, r1, r2, e, q⟩
  have back : (∃ xs, dx = .tup xs) ∨ dx = .non → RO X.K X.mg E0 (Rep X.K X.mg) W H (noX (backR c fs dx dy cs)) Q → wpAny (model X.prog X.w) X.A (compareOp .Eq v u) (EP X pins σ Q) X.xe s := fun hd q => by
    cases dy with
    | obj c2 ns vs =>
      have q : RO X.K X.mg E0 (Rep X.K X.mg) W H (noX (if c2 = c then noX (fnN 2 fs [.obj c2 ns vs, dx] cs) else .bad)) Q := q
      by_cases e : c2 = c
      · subst e
        rw [if_pos rfl] at q
        obtain ⟨C, f, fd, ps, hm, EC, F, hb⟩ := A.ex
        have nn : ∀ {r : Res D}, noX (noX r) = noX r := fun {r} => by cases r <;> rfl
        rw [nn] at q
        exact back_run hr.units0 EC hm F hb ⟨hr, rfl⟩ I ok r2 r1 ry rx hd q
      · rw [if_neg e] at q
        exact q.elim
    | _ => exact plain q
  cases dx with
  | obj c1 ns vs => exact op_eqO A hr pins s σ H x y v u Q I rx ry ⟨W, cs, _, dy, ok, r1, r2, q⟩
  | tup xs => exact back (.inl ⟨xs, rfl⟩) q
  | non => exact back (.inr rfl) q
  | _ => exact plain q
theorem op_neA (A : EqAt X.prog X.w X.K X.mg X.base k c fs) (hr : Room (k + 1) X.A) {k2 : Nat} (hr2 : Room k2 X.A) : OpR X (compareOp .NotEq) (rO X.K X.mg (neA c fs)) := by
  intro pins s σ H x y v u Q I rx ry h
  obtain ⟨W, cs, dx, dy, ok, r1, r2, q⟩ := h
  have plain : RO X.K X.mg E0 (Rep X.K X.mg) W H (noX (Res.opt (neD cs dx dy) cs)) Q → wpAny (model X.prog X.w) X.A (compareOp .NotEq v u) (EP X pins σ Q) X.xe s := fun q => by
    obtain ⟨d, e, q⟩ := RO.opt_in q
    exact op_neX hr2 pins s σ H x y v u Q I rx ry ⟨W, cs, dx, dy, d, ok, r1, r2, e, q⟩
  cases dx with
  | obj c1 ns vs => exact op_neO A hr pins s σ H x y v u Q I rx ry ⟨W, cs, _, dy, ok, r1, r2, q⟩
  | _ => exact plain q
/-- one item of a list, asked of an object -/
theorem el_run {C f : Addr} {fd : FuncData} {ps : List Str} {W : Wd} {cs : Cs} {ns : List Str} {vs : List D} {x z : V} {u w : Value} {d : D} {P : Bool → Hp → Prop} (hu : A.units < cLine) (EC : EqC X.K C f) (hm : X.mg c = some (.ref C))
    (F : FnOk X.prog X.w X.K X.mg X.base CX0 k f fd ps (spF X.K X.mg 2 fs)) (hb : Binds X.K fd ps []) (sb : L2.Sub X k A) (I : Inv X pins σ H s) (ok : Ok X.K X.mg W H cs)
    (r : Rep X.K X.mg W x (.obj c ns vs)) (rz : Rep X.K X.mg W z d) (rx : RelV x u) (rw : RelV z w) (pure : ∀ x y cs d cs', fs [x, y] cs = .ok d cs' → cs' = cs) (q : RO X.K X.mg E0 RepB W H (noX (elR c fs (.obj c ns vs) d cs)) P) :
    wpAny (model X.prog X.w) A (eqBool w u) (fun b s' => ∃ H', Inv X pins σ H' s' ∧ P b H') X.xe s := by
  have tw : ∀ {r0 : Res D} {E1 : D → Cs → Res Bool}, (∀ b cs, E1 (.bl b) cs = .ok b cs ∨ E1 (.bl b) cs = .bad) → (∀ d cs, (∀ b, d ≠ .bl b) → E1 d cs = .bad) →
      RO X.K X.mg E0 RepB W H (noX ((noX r0).bind E1)) P → RO X.K X.mg E0 (Rep X.K X.mg) W H (noX r0) (fun v H' => ∃ b, v = .bl b ∧ P b H') := fun {r0 E1} h1 h2 q => by
    cases r0 with
    | ok d cs' =>
      by_cases hd : ∃ b, d = .bl b
      · obtain ⟨b, rfl⟩ := hd
        intro v W' H' ok' l' r'
        cases r'
        rcases h1 b cs' with e | e
        · have q : RO X.K X.mg E0 RepB W H (noX (E1 (.bl b) cs')) P := q
          rw [e] at q
          exact ⟨b, rfl, q b W' H' ok' l' rfl⟩
        · have q : RO X.K X.mg E0 RepB W H (noX (E1 (.bl b) cs')) P := q
          rw [e] at q
          exact q.elim
      · have q : RO X.K X.mg E0 RepB W H (noX (E1 d cs')) P := q
        rw [h2 d cs' fun b e => hd ⟨b, e⟩] at q
        exact q.elim
    | exc _ _ _ _ => exact q.elim
    | bad => exact q.elim
  obtain ⟨a, dx, fs2, ox, od, rfl, rfl, ha, J⟩ := obj_at hm I ok r rx
  have other : (∃ xs, d = .tup xs) ∨ d = .non → RO X.K X.mg E0 (Rep X.K X.mg) W H (noX (fnN 2 fs [.obj c ns vs, d] cs)) (fun v H' => ∃ b, v = .bl b ∧ P b H') →
      wpAny (model X.prog X.w) A (eqBool w (.ref a)) (fun b s' => ∃ H', Inv X pins σ H' s' ∧ P b H') X.xe s := fun hd q2 => by
    have rc := back_run (A := A) hu EC hm F hb sb I ok r rz (show L2.RelV (V.ref a) (Value.ref a) from rfl) rw hd q2
    have rc2 : wpAny (model X.prog X.w) A (richCompare .Eq w (.ref a)) (fun v s' => ∃ b, v = .bool b ∧ ∃ H', Inv X pins σ H' s' ∧ P b H') X.xe s := wpAny_mono rc (fun v s' ⟨v1, H', I', rv, b, e, p⟩ => by
      subst e
      exact ⟨b, rv, H', I', p⟩) fun _ _ x => x
    rcases hd with ⟨xs, rfl⟩ | rfl
    · cases rz with
      | @tup l _ _ ht _ =>
        cases (show w = Value.ref l from rw)
        have hne : l ≠ a := fun e => by
          subst e
          obtain ⟨its, rv, ⟨ob, ho, hc, _⟩, _⟩ := I.tuple (ok.ex.sqt ht.sqt)
          have := J.at_.symm.trans ho
          cases this
          have e2 := J.cls.symm.trans hc
          cases e2
        exact GQ.eqBool_refG hne rc2
    · cases rz
      cases rw
      unfold eqBool
      refine wpAny_holding ?_
      refine wpAny_ite_split (fun hab => absurd hab (by simp)) (fun _ => ?_)
      refine wpAny_bind (wpAny_mono rc2 (fun v s' hv => ?_) fun _ _ x => x)
      obtain ⟨b, rfl, q⟩ := hv
      exact wpAny_truthy_bool q
  cases d with
  | tup xs => exact other (.inl ⟨xs, rfl⟩) (tw (fun b cs => .inl rfl) (fun d cs h => by cases d <;> first | rfl | exact absurd rfl (h _)) q)
  | non => exact other (.inr rfl) (tw (fun b cs => .inl rfl) (fun d cs h => by cases d <;> first | rfl | exact absurd rfl (h _)) q)
  | obj c2 n2 v2 =>
    have q : RO X.K X.mg E0 RepB W H (noX (if c2 = c then (noX (fnN 2 fs [.obj c2 n2 v2, .obj c ns vs] cs)).bind fun d cs => match d with
      | .bl true => .ok true cs
      | _ => .bad else .bad)) P := q
    by_cases e : c2 = c
    · subst e
      rw [if_pos rfl] at q
      obtain ⟨q2, p0⟩ : RO X.K X.mg E0 (Rep X.K X.mg) W H (noX (fnN 2 fs [.obj c2 n2 v2, .obj c2 ns vs] cs)) (fun v H' => v = .bl true ∧ P true H') ∧ P true H := by
        cases hr0 : fnN 2 fs [.obj c2 n2 v2, .obj c2 ns vs] cs with
        | ok d cs' =>
          have ec : cs' = cs := pure _ _ cs d cs' (((if_pos rfl : fnN 2 fs [.obj c2 n2 v2, .obj c2 ns vs] cs = fs [.obj c2 n2 v2, .obj c2 ns vs] cs)).symm.trans hr0)
          subst ec
          rw [hr0] at q
          cases d with
          | bl b =>
            cases b with
            | true =>
              refine ⟨?_, q true W H ok (Le.refl W H) rfl⟩
              intro v W' H' ok' l' r'
              cases r'
              exact ⟨rfl, q true W' H' ok' l' rfl⟩
            | false => exact q.elim
          | _ => exact q.elim
        | exc _ _ _ _ => rw [hr0] at q; exact q.elim
        | bad => rw [hr0] at q; exact q.elim
      obtain ⟨a2, dx2, fs3, ox2, od2, rfl, rfl, ha2, J2⟩ := obj_at hm I ok rz rw
      by_cases hab : a2 = a
      · subst hab
        exact SeqAt.EqAt.same (A := A) (s := s) (.ref a2) X.prog X.w X.xe _ ⟨H, I, p0⟩
      · refine GQ.eqBool_refG hab ?_
        have sp := fn_q ok (.cons rz (.cons r .nil)) q2
        obtain ⟨m, hF⟩ := I.fr
        refine PySem.W.cmp_K (op := .Eq) hu hF I.ok.mod.kin J2 J.type (by simp [PySem.W.notFirst]) EC.eq EC.fn ?_
        refine wpAny_mono (run_own F hb sb I (.cons (show L2.RelV (V.ref a2) (Value.ref a2) from rfl) (.cons (show L2.RelV (V.ref a) (Value.ref a) from rfl) .nil)) sp) (fun w s' z => ?_) fun _ _ x => x
        obtain ⟨z', H', I', rz, e, p⟩ := z
        subst e
        exact SlX.cmpback rz ⟨true, rz, H', I', p⟩
    · rw [if_neg e] at q
      exact q.elim
  | _ => exact q.elim
theorem in_objA (A0 : EqAt X.prog X.w X.K X.mg X.base k c fs) (hr : Room (k + 1) X.A) (pure : ∀ x y cs d cs', fs [x, y] cs = .ok d cs' → cs' = cs) {x y : V} {v u : Value} {W : Wd} {cs : Cs} {dx dy : D} (I : Inv X pins σ H s) (ok : Ok X.K X.mg W H cs)
    (rx : RelV x v) (ry : RelV y u) (r1 : Rep X.K X.mg W x dx) (r2 : Rep X.K X.mg W y dy) (neg : Bool) (q : RO X.K X.mg E0 (Rep X.K X.mg) W H (noX (inA neg c fs dx dy cs)) Q) :
    wpAny (model X.prog X.w) X.A (contains u v) (fun b s' => EP X pins σ Q (.bool (if neg then !b else b)) s') X.xe s := by
  obtain ⟨C, f, fd, ps, hm, EC, F, hb⟩ := A0.ex
  obtain ⟨ns, vs, rfl⟩ : ∃ ns vs, dx = .obj c ns vs := by
    cases dx with
    | obj c1 ns vs =>
      have q : RO X.K X.mg E0 (Rep X.K X.mg) W H (noX (if c1 = c then inL neg c fs (.obj c1 ns vs) dy cs else .bad)) Q := q
      by_cases e : c1 = c
      · subst e; exact ⟨ns, vs, rfl⟩
      · rw [if_neg e] at q; exact q.elim
    | _ => exact q.elim
  have q : RO X.K X.mg E0 (Rep X.K X.mg) W H (noX (if c = c then inL neg c fs (.obj c ns vs) dy cs else .bad)) Q := q
  rw [if_pos rfl] at q
  cases dy with
  | lst zs =>
    have q : RO X.K X.mg E0 (Rep X.K X.mg) W H (noX ((anyR c fs (.obj c ns vs) zs cs).bind fun b cs => .ok (.bl (if neg then !b else b)) cs)) Q := q
    cases r2 with
    | @lst l xs _ hl rl =>
      cases (show u = Value.ref l from ry)
      have pos : ∀ {b : Bool} {s' : Shared} {H' : Hp} {W' : Wd} {cs' : Cs}, Inv X pins σ H' s' → Ok X.K X.mg W' H' cs' → RO X.K X.mg E0 (Rep X.K X.mg) W' H' (noX (.ok (.bl (if neg then !b else b)) cs')) Q → EP X pins σ Q (.bool (if neg then !b else b)) s' := fun {b s' H' W' cs'} I' ok' q' =>
        ⟨.bl _, H', I', rfl, q' _ W' H' ok' (Le.refl W' H') (.bl _)⟩
      obtain ⟨z0, its0, k0, rv0, e0⟩ := I.hok l _ (ok.ex _ _ hl)
      have hT : s.TypeIs (.ref l) "list" := ⟨_, e0, rfl⟩
      refine wpAny_contains_slot hT PySem.F.slot_list_contains ?_
      have goal := list_contG (prog := X.prog) (w := X.w) (A := X.A) (R := wants (fun v s' => ∃ b, v = .bool b ∧ EP X pins σ Q (.bool (if neg then !b else b)) s') X.xe) l v xs.length
        (fun i s => ∃ H1 W1 cs1, Inv X pins σ H1 s ∧ Ok X.K X.mg W1 H1 cs1 ∧ Le W H W1 H1 ∧ RO X.K X.mg E0 (Rep X.K X.mg) W1 H1 (noX ((anyR c fs (.obj c ns vs) (zs.drop i) cs1).bind fun b cs => .ok (.bl (if neg then !b else b)) cs)) Q)
        (fun i s1 ⟨H1, W1, cs1, I1, ok1, l1, q1⟩ => by
          obtain ⟨z1, its1, k1, rv1, e1⟩ := I1.hok l _ (ok1.ex _ _ (l1.ex _ _ hl))
          refine ⟨its1.toArray, k1, e1, by rw [List.size_toArray]; exact rv1.length.symm, fun hi => ?_⟩
          have hi2 : i < xs.length := by rw [rv1.length]; simpa using hi
          have hi3 : i < zs.length := by rw [← rl.length]; exact hi2
          rw [List.drop_eq_getElem_cons hi3] at q1
          have rz := (rl.le l1).get (List.getElem?_eq_getElem hi3)
          obtain ⟨zv, hz, rz⟩ := rz
          have rw1 : RelV zv its1[i] := by
            obtain ⟨u2, hu2, ru2⟩ := rv1.get hz
            have : its1[i] = u2 := by
              have e := (List.getElem?_eq_getElem (by simpa using hi : i < its1.length)).symm.trans hu2
              exact Option.some.inj e
            rw [this]; exact ru2
          have q2 : RO X.K X.mg E0 RepB W1 H1 (noX (elR c fs (.obj c ns vs) zs[i] cs1)) (fun b H' => ∃ W' cs', Ok X.K X.mg W' H' cs' ∧ Le W1 H1 W' H' ∧ RO X.K X.mg E0 (Rep X.K X.mg) W' H' (noX ((if b = true then Res.ok true cs' else anyR c fs (.obj c ns vs) (zs.drop (i + 1)) cs').bind fun b cs => .ok (.bl (if neg then !b else b)) cs)) Q) := by
            cases he : elR c fs (.obj c ns vs) zs[i] cs1 with
            | ok b cs2 =>
              intro b' W' H' ok' l' e
              cases e
              refine ⟨W', cs2, ok', l', ?_⟩
              unfold anyR at q1
              rw [he] at q1
              exact RO.le q1 ok' l'
            | exc _ _ _ _ => unfold anyR at q1; rw [he] at q1; exact q1.elim
            | bad => unfold anyR at q1; rw [he] at q1; exact q1.elim
          refine wpAny_mono (el_run (A := X.A.in1) hr.in1.units0 EC hm F hb ⟨hr.in1, rfl⟩ I1 ok1 (r1.le l1) rz rx (by simpa using rw1) pure q2) (fun b s2 ⟨H2, I2, W2, cs2, ok2, l2, q3⟩ => ?_) fun _ _ x => x
          cases b with
          | true => exact .inl ⟨rfl, true, rfl, pos I2 ok2 q3⟩
          | false => exact .inr ⟨rfl, H2, W2, cs2, I2, ok2, l1.trans ok1 l2, q3⟩)
        (fun s1 ⟨H1, W1, cs1, I1, ok1, l1, q1⟩ => by
          rw [List.drop_of_length_le (by rw [rl.length]; exact Nat.le_refl _)] at q1
          exact ⟨false, rfl, pos (b := false) I1 ok1 q1⟩) (s := s) ⟨H, W, cs, I, ok, Le.refl W H, q⟩
      refine wpAny_mono (GQ.call_here PySem.F.slot_list_contains hT PySem.F.entry_list_contains (PySem.F.args_list_contains_2 _ _) goal) (fun r s' hv => ?_) fun _ _ e => e
      obtain ⟨b, rfl, hq⟩ := hv
      exact wpAny_truthy_bool hq
  | _ => exact q.elim
theorem op_inA (A : EqAt X.prog X.w X.K X.mg X.base k c fs) (hr : Room (k + 1) X.A) (pure : ∀ x y cs d cs', fs [x, y] cs = .ok d cs' → cs' = cs) : OpR X (compareOp .In) (rO X.K X.mg (inA false c fs)) := by
  intro pins s σ H x y v u Q I rx ry h
  obtain ⟨W, cs, dx, dy, ok, r1, r2, q⟩ := h
  show wpAny _ X.A (do return Value.bool (← contains u v)) _ _ s
  exact wpAny_bind (wpAny_mono (in_objA A hr pure I ok rx ry r1 r2 false q) (fun b s' hq => wpAny_pure hq) fun _ _ e => e)
theorem op_notInA (A : EqAt X.prog X.w X.K X.mg X.base k c fs) (hr : Room (k + 1) X.A) (pure : ∀ x y cs d cs', fs [x, y] cs = .ok d cs' → cs' = cs) : OpR X (compareOp .NotIn) (rO X.K X.mg (inA true c fs)) := by
  intro pins s σ H x y v u Q I rx ry h
  obtain ⟨W, cs, dx, dy, ok, r1, r2, q⟩ := h
  show wpAny _ X.A (do return Value.bool (!(← contains u v))) _ _ s
  exact wpAny_bind (wpAny_mono (in_objA A hr pure I ok rx ry r1 r2 true q) (fun b s' hq => wpAny_pure hq) fun _ _ e => e)
end
end LL

set_option Elab.async false
set_option linter.all false
set_option maxRecDepth 100000
set_option maxHeartbeats 4000000
/-! isinstance with an own class; repr by an own __repr__; f-strings; classes called by keywords or with what they have by default -/
namespace LL
open PySem PySem.Spec PyProof.Rows L2
/-- what isinstance asks of an own class (of the written part) -/
structure IsC (K : PySem.W.Frag) (C : Addr) : Prop where
  cl : Cls K C
  ca : PySem.W.findIn K (.ref C) "__class__" = some (some (.builtin "object.__class__"))
  cn : PySem.W.specialIn K (.builtin "object.__class__") "__get__" = some (some (.builtin "getset_descriptor.__get__"))
  ct : PySem.W.takesIn K (.builtin "object.__class__") = some true
  cm : PySem.W.mroIn K C (.type "object") = some true
  kb : ∀ T ∈ (["NoneType", "bool", "int", "str", "tuple", "list", "dict"] : List String), PySem.W.kitOne K (.type T) (.ref C) = some false
structure IsAt (K : PySem.W.Frag) (mg : Str → Option Value) (c : Str) : Prop where
  ex : ∃ C : Addr, mg c = some (.ref C) ∧ IsC K C
def isiO (c : Str) (d : D) : Option D := match d with
  | .obj c1 _ _ => if c1 = c then some (.bl true) else none
  | _ => (tyName d).map fun _ => .bl false
def eIsiO (c : Str) (f : Sem) : Sem := fun S cs => (f S cs).bind fun d cs => Res.opt (isiO c d) cs
section
variable {X : Cx} {E : XK} {e : Expr} {f : Sem} {pos : Pos} {c : Str}
theorem de_isiO {p1 p2 : Pos} (A : IsAt X.K X.mg c) (hg : Gl X "isinstance") (hm : X.mg "isinstance" = none) (he : DE X E e f) (hg2 : Gl X c) (hd : (c == ("__debug__" : Str)) = false := by decide)
    (hs : starEach [e, .Name c p2] X.env = (false, eval e X.env) :: starEach [.Name c p2] X.env := by rfl) :
    DE X E (.Call (.Name "isinstance" p1) [e, .Name c p2] [] pos) (eIsiO c f) := by
  obtain ⟨C, hC, IC⟩ := A.ex
  exact (pe_callB call_isi hg hm (by decide +kernel) (pa_cons he (pa_cons (pe_glob (v := .ref C) hg2 hC rfl hd) pa_nil) hs) (he := hs)).imp fun σ H Q ⟨W, S, cs, H0, ok, sl, q⟩ => by
    obtain ⟨W', S', cs', H0', ok', sl', q'⟩ := den.then ok sl q
    refine ⟨W', S', cs', H0', ok', sl', q'.imp fun v H1 ⟨W1, cs1, d, ok1, sl1, l1, r1, q1⟩ => ?_⟩
    obtain ⟨z, e, q4⟩ := q1.opt
    unfold isiO at e
    cases hd : tyName d with
    | some t =>
      have e : some (D.bl false) = some z := by
        rw [← e]
        cases d <;> first | rfl | cases hd
      cases e
      exact ⟨v, .ref C, .type t, .ref C, false, rfl, .own C, tyX_of ok1 r1 hd, IC.kb t (tyName_mem hd), q4 _ W1 H1 ok1 (Le.refl W1 H1) (.bl _)⟩
    | none =>
      cases d with
      | obj c1 ns vs =>
        have e : (if c1 = c then some (D.bl true) else none) = some z := e
        by_cases hc : c1 = c
        · subst hc
          rw [if_pos rfl] at e
          cases e
          cases r1 with
          | @obj a C2 dx fs2 _ _ _ hm2 hg hn hr =>
            have eC : C2 = C := by
              have z := hm2.symm.trans hC
              cases z; rfl
            subst eC
            refine ⟨.ref a, .ref C2, .ref C2, .ref C2, true, rfl, .own C2, .base (.ins (ok1.ex _ _ hg) IC.cl IC.ca IC.cn IC.ct IC.cm), ?_, q4 _ W1 H1 ok1 (Le.refl W1 H1) (.bl _)⟩
            unfold PySem.W.kitOne
            simp
        · rw [if_neg hc] at e
          cases e
      | _ => simp only [hd, Option.map_none] at e; cases e
end
/-! ### {x!r} and f'..' -/
def fmtR (d : D) : Option D := match d with
  | .tup _ => repr1 d
  | _ => none
def eFmtR (f : Sem) : Sem := fun S cs => (f S cs).bind fun d cs => Res.opt (fmtR d) cs
def jnR : List Sem → Str → List Sl → Cs → Res D
  | [], acc, _, cs => .ok (.str acc) cs
  | f :: fs, acc, S, cs => (f S cs).bind fun d cs => match d with
    | .str y => if (acc ++ y).length ≤ 1000000 then jnR fs (acc ++ y) S cs else .bad
    | _ => .bad
def eJn (fs : List Sem) : Sem := fun S cs => jnR fs Str.empty S cs
inductive DJ (X : Cx) (E : XK) : List Expr → List Sem → Prop where
  | nil : DJ X E [] []
  | cons {e : Expr} {f : Sem} {es : List Expr} {fs : List Sem} (h : DE X E e f) (r : DJ X E es fs) : DJ X E (e :: es) (f :: fs)
section
variable {X : Cx} {E : XK} {e : Expr} {f : Sem} {pos : Pos} {k : Nat}
theorem de_fmtR (hr : Room k X.A) (hc : Calm X.A) (he : DE X E e f) : DE X E (.FormattedValue e 114 none pos) (eFmtR f) := by
  refine ⟨fun pins s σ H Q I ⟨W, S, cs, H0, ok, sl, q⟩ => ?_⟩
  have q1 := den.then ok sl q
  refine wpAny_FormattedValue_repr (thn (he.run pins s σ H _ I q1) fun v s1 ⟨x, H1, I1, rx, W1, cs1, d, ok1, sl1, l1, r1, q2⟩ => ?_)
  obtain ⟨z, e, q4⟩ := q2.opt
  cases d with
  | tup xs =>
    have e : repr1 (.tup xs) = some z := e
    unfold repr1 at e
    split at e
    · rename_i hp
      rw [Bool.and_eq_true, Bool.and_eq_true, decide_eq_true_eq] at hp
      obtain ⟨⟨h1, h2⟩, h3⟩ := hp
      cases e
      have f0 : Q (.str (toP (.tup xs)).shown) H1 := q4 _ W1 H1 ok1 (Le.refl W1 H1) (.str _)
      have dp := r1.dp ok1.ex h1
      cases r1 with
      | @tup a _ _ ht _ =>
        cases (show v = Value.ref a from rx)
        obtain ⟨as, rd⟩ := Dp.reads I1 _ (.ref a) (.ref a) dp rfl
        have hd := (plain_canLay 20 (.tup xs) h1).2
        have hu := hr.un
        have hz := Nat.le_trans (shown_le 20 (.tup xs) h1) (line_of h3)
        exact pyReprObj_of_reads rd h2 (PyData.noDict_hsm (noDict_of 20 (.tup xs) h1)) hc (by omega) (fun _ _ e => e)
          (fun h' u tk hk => wpAny_formatField_str ⟨.str _, H1, I1.kept hk, ⟨_, rfl⟩, f0⟩ ⟨.str _, H1, (I1.kept hk).tok _, ⟨_, rfl⟩, f0⟩ hz) hz
    · cases e
  | _ => cases e
theorem jn_run {es : List Expr} {fs : List Sem} (h : DJ X E es fs) : ∃ ts : List TE, PJ X es ts ∧ ∀ (acc : Str) (σ : SSt) (W : Wd) (S : List Sl) (cs : Cs) (H0 H : Hp) (Q : VK), Ok X.K X.mg W H cs → Slots X.K X.mg W H0 H σ S → RO X.K X.mg E (Rep X.K X.mg) W H (jnR fs acc S cs) Q →
    tJs ts acc σ H fun out H1 => Q (.str out) H1 := by
  induction h with
  | nil => exact ⟨[], .nil, fun acc σ W S cs H0 H Q ok sl q => q (.str acc) W H ok (Le.refl W H) (.str _)⟩
  | @cons e f es fs he r ih =>
    obtain ⟨ts, hp, ht⟩ := ih
    refine ⟨den X.K X.mg E f :: ts, .cons he hp, fun acc σ W S cs H0 H Q ok sl q => ?_⟩
    obtain ⟨W', S', cs', H0', ok', sl', q'⟩ := den.then ok sl q
    refine ⟨W', S', cs', H0', ok', sl', q'.imp fun v H1 ⟨W1, cs1, d, ok1, sl1, l1, r1, q1⟩ => ?_⟩
    cases d with
    | str y =>
      cases r1
      have q1 : RO X.K X.mg E (Rep X.K X.mg) W1 H1 (if (acc ++ y).length ≤ 1000000 then jnR fs (acc ++ y) S cs1 else .bad) Q := q1
      split at q1
      · rename_i hl
        exact ⟨y, rfl, line_of hl, ht (acc ++ y) σ W1 S cs1 _ H1 Q ok1 sl1 q1⟩
      · exact q1.elim
    | _ => exact q1.elim
theorem de_joined {v1 v2 : Expr} {rest : List Expr} {fs : List Sem} (h : DJ X E (v1 :: v2 :: rest) fs) : DE X E (.JoinedStr (v1 :: v2 :: rest) pos) (eJn fs) := by
  obtain ⟨ts, hp, ht⟩ := jn_run h
  exact (pe_joined hp).imp fun σ H Q ⟨W, S, cs, H0, ok, sl, q⟩ => ht Str.empty σ W S cs H0 H Q ok sl q
end
/-! ### repr by an own __repr__ -/
structure ReC (K : PySem.W.Frag) (C f : Addr) : Prop where
  re : PySem.W.findIn K (.ref C) "__repr__" = some (some (.ref f))
  fn : PySem.W.isFn K (.ref f) = true
structure ReAt (P : Program) (w : World) (K : PySem.W.Frag) (mg : Str → Option Value) (base : Heap) (k : Nat) (c : Str) (fs : Fn) : Prop where
  ex : ∃ (C f : Addr) (fd : FuncData) (ps : List Str), mg c = some (.ref C) ∧ ReC K C f ∧ FnC P w K mg base k f fd ps (spF K mg 1 fs) ∧ Binds K fd ps []
def strR (r : Res D) : Res D := r.bind fun d cs => match d with
  | .str y => .ok (.str y) cs
  | _ => .bad
def reprO (c : Str) (F : Fn) (cs : Cs) (ds : List D) : Res D := match ds with
  | [.obj c1 ns vs] => if c1 = c then strR (noX (fnN 1 F [.obj c1 ns vs] cs)) else .bad
  | _ => Res.opt (reprD cs ds) cs
def rBO (K : PySem.W.Frag) (mg : Str → Option Value) (run : Cs → List D → Res D) : List V → Hp → VK → Prop := fun xs H Q => ∃ W cs ds, Ok K mg W H cs ∧ RepL K mg W xs ds ∧ RO K mg E0 (Rep K mg) W H (noX (run cs ds)) Q
def eCallO (run : Cs → List D → Res D) (g : Sems) : Sem := fun S cs => (g S cs).bind fun ds cs => noX (run cs ds)
section
variable {X : Cx} {E : XK} {e : Expr} {es : List Expr} {gs : Sems} {pos p : Pos} {k : Nat} {x c : Str} {id : String} {fs : Fn} {pins : List (Addr × Obj)} {σ : SSt} {H : Hp} {s : Shared} {Q : VK}
theorem de_callBO {run : Cs → List D → Res D} (hc : CallR X (.builtin id) (rBO X.K X.mg run)) (hg : Gl X x) (hm : X.mg x = none) (hv : bootBuiltins x = some (.builtin id)) (ha : DA X E (e :: es) gs) (hn : x ≠ "__name__" := by decide) (hdb : (x == ("__debug__" : Str)) = false := by decide)
    (he : starEach (e :: es) X.env = (false, eval e X.env) :: starEach es X.env := by rfl) (hpl : (backTo pos (starEach es X.env)).any (·.1) = false := by rfl) : DE X E (.Call (.Name x p) (e :: es) [] pos) (eCallO run gs) :=
  (pe_callB hc hg hm hv ha hn hdb he hpl).imp fun σ H Q ⟨W, S, cs, H0, ok, sl, q⟩ => by
    obtain ⟨W', S', cs', H0', ok', sl', q'⟩ := denA.then ok sl q
    exact ⟨W', S', cs', H0', ok', sl', q'.imp fun v H1 ⟨W1, cs1, d, ok1, sl1, l1, r1, q1⟩ => ⟨W1, cs1, d, ok1, r1, noX_imp q1⟩⟩
theorem run_ownC {A : Around} {f : Addr} {fd : FuncData} {ps : List Str} {sp : Sp} {us : List Value} {vs : List V} (F : FnC X.prog X.w X.K X.mg X.base k f fd ps sp) (hb : Binds X.K fd ps []) (sb : L2.Sub X k A) (hc : Calm A) (I : Inv X pins σ H s) (r : Vals vs us)
    (h : sp vs H Q E0) : wpAny (model X.prog X.w) A (call (.ref f) us) (EP X pins σ Q) X.xe s := by
  have e0 : Env0 X.prog X.w X.K X.mg X.base A X.stack s H := by
    have e := I.env0
    exact ⟨by rw [sb.fr]; exact e.frames, e.mod, e.bs, e.bsz, e.funs, e.frf, e.hok, e.bare⟩
  have hl := F.len _ _ _ _ h
  refine wpAny_call (codeAny_mono (F.run A X.stack s H ⟨us, []⟩ us vs Q E0 sb.room hc e0 (by
    have := hb s us I.kIn (by simpa [← r.length] using hl)
    simpa using this) r h) fun r s' hq => ?_)
  cases r with
  | error e => exact (show False from hq).elim
  | ok fl =>
    cases fl with
    | ret w => exact I.after hq
    | next => exact False.elim hq
    | brk => exact False.elim hq
    | cont => exact False.elim hq
theorem cr_reprO (A : ReAt X.prog X.w X.K X.mg X.base k c fs) (hr : Room (k + 1) X.A) (hc : Calm X.A) : CallR X (.builtin "repr") (rBO X.K X.mg (reprO c fs)) := by
  intro pins s σ H xs us Q I r ⟨W, cs, ds, ok, rl, q⟩
  have plain : RO X.K X.mg E0 (Rep X.K X.mg) W H (noX (Res.opt (reprD cs ds) cs)) Q → wpAny (model X.prog X.w) X.A (call (.builtin "repr") us) (EP X pins σ Q) X.xe s := fun q => by
    obtain ⟨d, e, q⟩ := RO.opt_in q
    exact cr_reprX hr hc pins s σ H xs us Q I r ⟨W, cs, ds, d, ok, rl, e, q⟩
  match ds, rl, q with
  | [], rl, q => exact plain q
  | d :: d2 :: ds, rl, q => exact plain (by cases d <;> exact q)
  | [d], rl, q =>
    cases d with
    | obj c1 ns vs =>
      obtain ⟨C, f, fd, ps, hm, RC, F, hb⟩ := A.ex
      have q : RO X.K X.mg E0 (Rep X.K X.mg) W H (noX (if c1 = c then strR (noX (fnN 1 fs [.obj c1 ns vs] cs)) else .bad)) Q := q
      by_cases e : c1 = c
      · subst e
        rw [if_pos rfl] at q
        have q2 : RO X.K X.mg E0 (Rep X.K X.mg) W H (noX (fnN 1 fs [.obj c1 ns vs] cs)) (fun v H' => ∃ y, v = .str y ∧ Q (.str y) H') := by
          cases hr0 : fnN 1 fs [.obj c1 ns vs] cs with
          | ok d cs' =>
            rw [hr0] at q
            cases d with
            | str y =>
              intro v W' H' ok' l' r'
              cases r'
              exact ⟨y, rfl, q (.str y) W' H' ok' l' (.str _)⟩
            | _ => exact q.elim
          | exc _ _ _ _ => rw [hr0] at q; exact q.elim
          | bad => rw [hr0] at q; exact q.elim
        obtain ⟨v, rfl, rv⟩ := rl.one_inv
        obtain ⟨u, rfl, ru⟩ := Vals.one r
        obtain ⟨a, dx, fs2, ox, od, rfl, rfl, ha, J⟩ := obj_at hm I ok rv ru
        have sp := fn_q ok (.cons rv .nil) q2
        have hr1 := hr.in1
        have run := run_ownC (A := X.A.in1) F hb ⟨hr1, rfl⟩ hc I (us := [.ref a]) (.cons (show L2.RelV (V.ref a) (Value.ref a) from rfl) .nil) sp
        have hcall : wpAny (model X.prog X.w) X.A.in1 (call (.ref f) [.ref a]) (fun r s' => ∃ m tk, r = .str m tk ∧ EP X pins σ Q (.str m tk) s') X.xe s := wpAny_mono run (fun w s' ⟨v1, H', I', rv1, y, e, p⟩ => by
          subst e
          obtain ⟨tk, rfl⟩ := rv1
          exact ⟨y, tk, rfl, .str y, H', I', ⟨tk, rfl⟩, p⟩) fun _ _ x => x
        refine Calls.call_function_entry PySem.F.kind_repr PySem.F.plain_repr PySem.F.entry_repr (PySem.F.args_repr1 _) ?_
        unfold Builtin.«repr»
        refine wpAny_bind (m := oneArg "repr" _) (wpAny_pure ?_)
        refine wpAny_bind (wpAny_cRoomFor hr1.units0 ?_)
        refine wpAny_bind (wpAny_bind (J.type.here ((PySem.W.looks_findIn I.kIn RC.re).here ?_)))
        show wpAny _ _ (if (some (Value.ref f)).isNone = true then _ else _) _ _ _
        rw [if_neg (by simp)]
        refine wpAny_bind (m := callSpecialIfBound? (.ref a) (Str.ofString "__repr__") _) (PySem.W.ifBound_K I.kIn J RC.re RC.fn (wpAny_mono hcall (fun r s' hr => ?_) fun _ _ y => y))
        obtain ⟨m, tk, rfl, hq⟩ := hr
        refine wpAny_bind (wpAny_isInstance (typeIs_str _ _ _) isSubtype_str_str ?_)
        first
          | exact wpAny_pure ⟨_, rfl, hq⟩
          | (rw [if_pos rfl]; exact wpAny_pure ⟨_, rfl, hq⟩)
          | (simp only [if_true]; exact wpAny_pure ⟨_, rfl, hq⟩)
      · rw [if_neg e] at q
        exact q.elim
    | _ => exact plain q
end
end LL

set_option Elab.async false
set_option linter.all false
set_option maxRecDepth 100000
set_option maxHeartbeats 4000000
/-! own classes and defs with what they have by default, classes by keywords alone -/
namespace LL
open PySem PySem.Spec PyProof.Rows L2
structure MkD (P : Program) (w : World) (K : PySem.W.Frag) (mg : Str → Option Value) (base : Heap) (k : Nat) (nm : Str) (n : Nat) (fi : Ini) (dds : List D) : Prop where
  ex : ∃ (C f : Addr) (fd : FuncData) (ps : List Str) (dvs : List V) (ds : List Value), mg nm = some (.ref C) ∧ Mk K C f ∧ FnOk P w K mg base CX0 k f fd ps (spI K mg nm n fi) ∧ Binds K fd ps ds ∧ Vals dvs ds ∧ ∀ W, RepL K mg W dvs dds
structure FnD (P : Program) (w : World) (K : PySem.W.Frag) (mg : Str → Option Value) (base : Heap) (k : Nat) (nm : Str) (n : Nat) (fs : Fn) (dds : List D) : Prop where
  ex : ∃ (f : Addr) (fd : FuncData) (ps : List Str) (dvs : List V) (ds : List Value), mg nm = some (.ref f) ∧ FnOk P w K mg base CX0 k f fd ps (spF K mg n fs) ∧ PySem.W.keepIn K (.ref f) = true ∧ Binds K fd ps ds ∧ Vals dvs ds ∧ ∀ W, RepL K mg W dvs dds
structure MkKw (P : Program) (w : World) (K : PySem.W.Frag) (mg : Str → Option Value) (base : Heap) (k : Nat) (nm : Str) (n : Nat) (fi : Ini) (ks : List Str) (pm : List Nat) : Prop where
  ex : ∃ (C f : Addr) (fd : FuncData) (ps : List Str) (g : List Value → List Value → List Value), mg nm = some (.ref C) ∧ Mk K C f ∧ FnOk P w K mg base CX0 k f fd ps (spI K mg nm n fi) ∧
    KBn K fd ps 1 ks g (fun us ws => us ++ permL pm ws)
section
variable {X : Cx} {E : XK} {e : Expr} {es : List Expr} {gs gk : Sems} {k n : Nat} {fs : Fn} {fi : Ini} {x : Str} {p pos : Pos} {kws : List Keyword} {pm : List Nat} {ks : List Str} {dds : List D}
theorem de_makeD (A : MkD X.prog X.w X.K X.mg X.base k x n fi dds) (hr : Room (k + 1) X.A) (hg : Gl X x) (ha : DA X E (e :: es) gs)
    (hdb : (x == ("__debug__" : Str)) = false := by decide) (he : starEach (e :: es) X.env = (false, eval e X.env) :: starEach es X.env := by rfl) (hpl : (backTo pos (starEach es X.env)).any (·.1) = false := by rfl) :
    DE X E (.Call (.Name x p) (e :: es) [] pos) (eMk x fi gs dds n) := by
  obtain ⟨C, f, fd, ps, dvs, ds, hm, M, F, hb, hv, hd⟩ := A.ex
  exact de_make M F hr hg hm hb hv hd ha hdb he hpl
theorem de_callD (A : FnD X.prog X.w X.K X.mg X.base k x n fs dds) (hr : Room k X.A) (hg : Gl X x) (ha : DA X E (e :: es) gs)
    (hdb : (x == ("__debug__" : Str)) = false := by decide) (he : starEach (e :: es) X.env = (false, eval e X.env) :: starEach es X.env := by rfl) (hpl : (backTo pos (starEach es X.env)).any (·.1) = false := by rfl) :
    DE X E (.Call (.Name x p) (e :: es) [] pos) (eFn (fnN n fs) gs dds) := by
  obtain ⟨f, fd, ps, dvs, ds, hm, F, hk, hb, hv, hd⟩ := A.ex
  exact de_call F hr hg hm hk hb hv hd ha hdb he hpl
def tMakeK (C : Addr) (m : Nat) (sp : Sp) (gV : List V → List V → List V) (E : XK) (tk : TA) : TE := fun σ H Q => tk σ H fun zs H2 => zs.length = m ∧
  ∀ x dx, H2 x = none → H2 dx = none → dx ≠ x → sp (gV [.ref x] zs) (upd (upd H2 dx (.own x)) x (.ins C dx [])) (fun v H3 => v = .non ∧ Q (.ref x) H3) E
theorem pe_makeK {f C : Addr} {fd : FuncData} {ps : List Str} {sp : Sp} {g : List Value → List Value → List Value} {gV : List V → List V → List V} {tk : TA} {CX : CXT} (M : Mk X.K C f) (F : FnOk X.prog X.w X.K X.mg X.base CX k f fd ps sp) (hr : Room (k + 1) X.A) (hg : Gl X x) (hm : X.mg x = some (.ref C))
    (hb : KBn X.K fd ps 1 ks g gV) (hx : Passes CX X E) (hkw : PK X kws tk) (hall : (backToKw pos (keywordEach kws X.env)).all (·.1.isSome) = true) (hks : (backToKw pos (keywordEach kws X.env)).filterMap (·.1) = ks) (hdb : (x == ("__debug__" : Str)) = false)
    (hpl : ((backTo pos (starEach [] X.env)).any (·.1) || (backToKw pos (keywordEach kws X.env)).any (·.1.isNone)) = false) : PE X (.Call (.Name x p) [] kws pos) (tMakeK C ks.length sp gV E tk) :=
  ⟨fun pins s σ H Q I h => wpAny_Call_Name_kw (ld_glob I hg hm (by
    refine PySem.W.callWith_KW0 (h₀ := X.base) I.ok.mod.kin M.kp hall (thn (hkw.run pos pins s σ H _ I h) fun ws s2 ⟨zs, H2, I2, rz, l2, q2⟩ => ⟨I2.kIn, ?_⟩) hpl
    rw [hks]
    exact run_makeN (n := 0) (us := []) (vs := []) M F hr hb hx I2 .nil rz rfl l2 q2) hdb)⟩
def eMkK (x : Str) (fi : Ini) (pm : List Nat) (nk n : Nat) (gk : Sems) : Sem := fun S cs => (gk S cs).bind fun ds cs => if ds.length = nk ∧ (permL pm ds).length + 1 = n then (match fi (permL pm ds) cs with
  | .ok r cs => .ok (.obj x r.1 r.2) cs
  | _ => .bad) else .bad
theorem de_makeK {nk : Nat} (A : MkKw X.prog X.w X.K X.mg X.base k x n fi ks pm) (hr : Room (k + 1) X.A) (hg : Gl X x) (hkw : DK X E kws gk) (hnk : ks.length = nk := by rfl) (hall : (backToKw pos (keywordEach kws X.env)).all (·.1.isSome) = true := by rfl) (hks : (backToKw pos (keywordEach kws X.env)).filterMap (·.1) = ks := by rfl)
    (hdb : (x == ("__debug__" : Str)) = false := by decide) (hpl : ((backTo pos (starEach [] X.env)).any (·.1) || (backToKw pos (keywordEach kws X.env)).any (·.1.isNone)) = false := by rfl) : DE X E (.Call (.Name x p) [] kws pos) (eMkK x fi pm nk n gk) := by
  subst hnk
  obtain ⟨C, f, fd, ps, g, hm, M, F, hb⟩ := A.ex
  refine (pe_makeK (E := E) M F hr hg hm hb pass0 hkw hall hks hdb hpl).imp fun σ H Q ⟨W, S, cs, H0, ok, sl, q⟩ => ?_
  obtain ⟨W', S', cs', H0', ok', sl', q'⟩ := denA.then (f := gk) ok sl q
  refine ⟨W', S', cs', H0', ok', sl', q'.imp fun vs H1 ⟨W1, cs1, d, ok1, sl1, l1, r1, q1⟩ => ?_⟩
  split at q1
  · rename_i hl
    refine ⟨r1.length.trans hl.1, fun z dz hz hdz hne => ?_⟩
    refine ⟨z, C, dz, H1, W1, permL pm d, cs1, permL pm vs, rfl, rfl, hz, hdz, hne, hm, ok1, permL_rep r1 pm, hl.2, ?_⟩
    cases hf : fi (permL pm d) cs1 with
    | ok r cs2 =>
      rw [hf] at q1
      intro W2 H2 fs ok2 l2 hx2 hn r2 g2 n2
      obtain ⟨ok3, l3, ex3⟩ := ok2.freeze l2 hx2 g2 n2 hz
      exact ⟨rfl, q1 (.ref z) _ H2 ok3 l3 (.obj hm upd_same hn (r2.mono ⟨[], by simp⟩ ex3))⟩
    | exc _ _ _ _ => rw [hf] at q1; exact q1.elim
    | bad => rw [hf] at q1; exact q1.elim
  · exact q1.elim
end
/-- an empty tuple of the written part -/
theorem rep_unit {K : PySem.W.Frag} {mg : Str → Option Value} {a : Addr} {o : Obj} {n : Nat} (h : K.lookup a = some o) (hc : o.cls = .type "tuple") (hd : o.dict = none) (hs : o.data = .seq #[] n) (W : Wd) : Rep K mg W (.ref a) (.tup []) :=
  .tup (.inr ⟨o, #[], n, h, hc, hd, hs, Nat.zero_le _, .nil⟩) .nil
end LL

set_option Elab.async false
set_option linter.all false
set_option maxRecDepth 100000
set_option maxHeartbeats 4000000
/-! what the top leaves: facts of one's own beside HeadHook2's -/
namespace LL
open PySem PySem.Spec PyProof.Rows L2
abbrev FB : Type := PySem.W.Frag → Bool
abbrev AlB : Type := He.AlD × List Bool
def obsB (fa : List He.Fa) (fn : List He.DefD) (bs : List FB) (K : PySem.W.Frag) : AlB := (He.obsD fa fn K, bs.map fun b => b K)
def valB (fn : List He.DefD) (bs : List FB) : AlB := (He.valD fn, bs.map fun _ => true)
def SaysB (fa : List He.Fa) (fn : List He.DefD) (bs : List FB) (K : PySem.W.Frag) : Prop := obsB fa fn bs K = valB fn bs
def obsBG (n : Nat) (fa : List He.Fa) (fn : List He.DefD) (bs : List FB) (g : Addr → Option Obj) : AlB := obsB fa fn bs (He.frG g (He.asD g n))
def hookB (n : Nat) (fa : List He.Fa) (fn : List He.DefD) (bs : List FB) : PySem.W.Hook where
  α := AlB
  obs := fun s => obsBG n fa fn bs s.heap.get?
  val := fun _ => valB fn bs
  says := fun _ h => ∃ K : PySem.W.Frag, K.In h ∧ SaysB fa fn bs K
  of := fun _ _ e => ⟨_, He.frG_in, e⟩
  keeps := fun _ _ _ ⟨K, hK, c⟩ k => ⟨K, PySem.W.Frag.In.keeps hK k, c⟩
theorem obsBG_eq {n : Nat} {fa : List He.Fa} {fn : List He.DefD} {bs : List FB} {g : Addr → Option Obj} {s : Shared} (h : ∀ a, g a = s.heap.get? a) : obsBG n fa fn bs g = (hookB n fa fn bs).obs s := by
  have e : g = s.heap.get? := funext h
  rw [e] <;> rfl
section
variable {fa : List He.Fa} {fn : List He.DefD} {bs : List FB} {K : PySem.W.Frag}
theorem SaysB.d (c : SaysB fa fn bs K) : He.SaysD fa fn K := congrArg (fun z : AlB => z.1) c
theorem SaysB.b (c : SaysB fa fn bs K) (i : Nat) {b : FB} (h : bs[i]? = some b := by rfl) : b K = true := by
  have e : bs.map (fun b => b K) = bs.map fun _ => true := congrArg (fun z : AlB => z.2) c
  have e2 : (bs.map fun b => b K)[i]? = (bs.map fun _ => true)[i]? := by rw [e]
  rw [List.getElem?_map, List.getElem?_map, h] at e2
  exact Option.some.inj e2
end
def kindNames : List String := ["NoneType", "bool", "int", "str", "tuple", "list", "dict"]
def eqB (c : Str) : FB := fun K => He.eqO (PySem.W.findIn K (.ref (He.ga K c)) "__eq__") (some (some (.ref (He.ma K (He.ga K c) "__eq__")))) && (PySem.W.isFn K (.ref (He.ma K (He.ga K c) "__eq__")) &&
  (He.eqO (PySem.W.findIn K (.ref (He.ga K c)) "__ne__") (some (some (.builtin "object.__ne__"))) && (decide (PySem.W.mroIn K (He.ga K c) (.type "object") = some true) && ((kindNames.all fun T => decide (PySem.W.subIn K (.type T) (.ref (He.ga K c)) = some false)) &&
  (decide (PySem.W.mroIn K (He.ga K c) (.type "tuple") = some false) && decide (PySem.W.mroIn K (He.ga K c) (.type "NoneType") = some false))))))
theorem eqB_ok {c : Str} {K : PySem.W.Frag} (h : eqB c K = true) : EqC K (He.ga K c) (He.ma K (He.ga K c) "__eq__") := by
  obtain ⟨h1, h⟩ := He.ba h
  obtain ⟨h2, h⟩ := He.ba h
  obtain ⟨h3, h⟩ := He.ba h
  obtain ⟨h4, h⟩ := He.ba h
  obtain ⟨h5, h⟩ := He.ba h
  obtain ⟨h6, h7⟩ := He.ba h
  exact ⟨He.eqO_ok h1, h2, He.eqO_ok h3, of_decide_eq_true h4, fun T hT => of_decide_eq_true (List.all_eq_true.mp h5 T hT), of_decide_eq_true h6, of_decide_eq_true h7⟩
def isB (c : Str) : FB := fun K => (He.Fa.cls c).ok K && (He.eqO (PySem.W.findIn K (.ref (He.ga K c)) "__class__") (some (some (.builtin "object.__class__"))) && (He.eqO (PySem.W.specialIn K (.builtin "object.__class__") "__get__") (some (some (.builtin "getset_descriptor.__get__"))) &&
  (decide (PySem.W.takesIn K (.builtin "object.__class__") = some true) && (decide (PySem.W.mroIn K (He.ga K c) (.type "object") = some true) && kindNames.all fun T => decide (PySem.W.kitOne K (.type T) (.ref (He.ga K c)) = some false)))))
theorem isB_ok {c : Str} {K : PySem.W.Frag} (h : isB c K = true) : IsC K (He.ga K c) := by
  obtain ⟨h1, h⟩ := He.ba h
  obtain ⟨h2, h⟩ := He.ba h
  obtain ⟨h3, h⟩ := He.ba h
  obtain ⟨h4, h⟩ := He.ba h
  obtain ⟨h5, h6⟩ := He.ba h
  exact ⟨He.cls_ok h1, He.eqO_ok h2, He.eqO_ok h3, of_decide_eq_true h4, of_decide_eq_true h5, fun T hT => of_decide_eq_true (List.all_eq_true.mp h6 T hT)⟩
def reB (c : Str) : FB := fun K => He.eqO (PySem.W.findIn K (.ref (He.ga K c)) "__repr__") (some (some (.ref (He.ma K (He.ga K c) "__repr__")))) && PySem.W.isFn K (.ref (He.ma K (He.ga K c) "__repr__"))
theorem reB_ok {c : Str} {K : PySem.W.Frag} (h : reB c K = true) : ReC K (He.ga K c) (He.ma K (He.ga K c) "__repr__") := by
  obtain ⟨h1, h2⟩ := He.ba h
  exact ⟨He.eqO_ok h1, h2⟩
/-- the i-th thing that a def has by default is () -/
def unitB (f : Str × Option Str) (i : Nat) : FB := fun K => match K.lookup (He.dflAt f i K) with
  | some ⟨.type c, none, .seq its _, _⟩ => decide (c = "tuple") && its.isEmpty
  | _ => false
theorem unitB_ok {f : Str × Option Str} {i : Nat} {K : PySem.W.Frag} (h : unitB f i K = true) {mg : Str → Option Value} (W : Wd) : Rep K mg W (.ref (He.dflAt f i K)) (.tup []) := by
  unfold unitB at h
  cases q : K.lookup (He.dflAt f i K) with
  | none => rw [q] at h; cases h
  | some o =>
    obtain ⟨oc, od, dt, osl⟩ := o
    rw [q] at h
    cases oc with
    | type c =>
      cases od with
      | none =>
        cases dt with
        | seq its n =>
          obtain ⟨h1, h2⟩ := He.ba (show (decide (c = "tuple") && its.isEmpty) = true from h)
          have e1 : c = "tuple" := of_decide_eq_true h1
          have e2 : its = #[] := Array.isEmpty_iff.mp h2
          subst e1 e2
          exact rep_unit q rfl rfl rfl W
        | _ => cases h
      | some b => cases dt <;> cases h
    | _ => cases od <;> cases dt <;> cases h
end LL

set_option Elab.async false
set_option linter.all false
set_option maxRecDepth 100000
set_option maxHeartbeats 4000000
/-! what leaves the cells alone -/
namespace LL
def PurR {α : Type} (r : Res α) (cs : Cs) : Prop := ∀ d cs', r = .ok d cs' → cs' = cs
def PurE (f : Sem) : Prop := ∀ S cs, PurR (f S cs) cs
def PurF (r : Fl) (cs : Cs) : Prop := match r with
  | .nx _ c => c = cs
  | .rt _ c => c = cs
  | .bk _ c => c = cs
  | .ct _ c => c = cs
  | _ => True
def PurC (c : Cm) : Prop := ∀ S cs, PurF (c S cs) cs
theorem PurR.bind {α β : Type} {r : Res α} {k : α → Cs → Res β} {cs : Cs} (h : PurR r cs) (hk : ∀ d, PurR (k d cs) cs) : PurR (r.bind k) cs := fun d cs' e => by
  cases r with
  | ok a c =>
    have := h a c rfl
    subst this
    exact hk a d cs' e
  | _ => cases e
theorem PurR.opt {α : Type} {o : Option α} {cs : Cs} : PurR (Res.opt o cs) cs := fun d cs' e => by
  cases o with
  | none => cases e
  | some x => cases e; rfl
theorem PurR.ok {α : Type} {a : α} {cs : Cs} : PurR (.ok a cs) cs := fun d cs' e => by cases e; rfl
theorem PurR.asB {r : Res D} {cs : Cs} (h : PurR r cs) : PurR (asB r) cs := h.bind fun d => by cases d <;> first | exact .ok | (intro d cs' e; cases e)
theorem PurR.thenF {α : Type} {r : Res α} {k : α → Cs → Fl} {cs : Cs} (h : PurR r cs) (hk : ∀ d, PurF (k d cs) cs) : PurF (r.thenF k) cs := by
  cases r with
  | ok a c =>
    have := h a c rfl
    subst this
    exact hk a
  | _ => trivial
section
variable {f g : Sem} {c k : Cm}
theorem pur_var (i : Nat) : PurE (eVar i) := fun S cs => by
  unfold eVar
  split
  · exact .ok
  · intro d cs' e; cases e
theorem pur_c (d : D) : PurE (eC d) := fun S cs => .ok
theorem pur_fld {cl fld : PySem.Str} (h : PurE f) : PurE (eFld cl fld f) := fun S cs => (h S cs).bind fun d => .opt
theorem pur_bin {op : Cs → D → D → Option D} (h : PurE f) (h2 : PurE g) : PurE (eBin op f g) := fun S cs => (h S cs).bind fun d => (h2 S cs).bind fun d => .opt
theorem pur_and (h : PurE f) (h2 : PurE g) : PurE (eAnd f g) := fun S cs => (h S cs).asB.bind fun b => by
  cases b
  · exact .ok
  · exact h2 S cs
theorem pur_or (h : PurE f) (h2 : PurE g) : PurE (eOr f g) := fun S cs => (h S cs).asB.bind fun b => by
  cases b
  · exact h2 S cs
  · exact .ok
theorem pur_not (h : PurE f) : PurE (eNot f) := fun S cs => (h S cs).asB.bind fun b => .ok
theorem pur_tru (h : PurE f) : PurE (eTru f) := fun S cs => (h S cs).bind fun d => .opt
theorem pur_isiO {cl : PySem.Str} (h : PurE f) : PurE (eIsiO cl f) := fun S cs => (h S cs).bind fun d => .opt
theorem purc_nil : PurC sNil := fun S cs => rfl
theorem purc_ret (h : PurE f) : PurC (sRet f) := fun S cs => (h S cs).thenF fun d => rfl
theorem purc_if (h : PurE f) (h1 : PurC c) (h2 : PurC k) : PurC (sIf f c k) := fun S cs => (h S cs).asB.thenF fun b => by
  cases b
  · exact h2 S cs
  · exact h1 S cs
theorem purc_seq (h1 : PurC c) (h2 : PurC k) : PurC (sSeq c k) := fun S cs => by
  have := h1 S cs
  unfold sSeq
  cases e : c S cs with
  | nx S' c' =>
    rw [e] at this
    have e2 : c' = cs := this
    subst e2
    exact h2 S' c'
  | rt d c' => rw [e] at this; exact this
  | bk S' c' => rw [e] at this; exact this
  | ct S' c' => rw [e] at this; exact this
  | exc _ _ _ _ => trivial
  | bad => trivial
theorem pur_fn {n N : Nat} (h : PurC c) : ∀ ds cs d cs', fnSem n N c ds cs = .ok d cs' → cs' = cs := fun ds cs d cs' e => by
  unfold fnSem at e
  split at e
  · have := h (ds.map .val ++ List.replicate (N - n) .un) cs
    cases hc : c (ds.map .val ++ List.replicate (N - n) .un) cs with
    | nx S c' => rw [hc] at e this; cases e; exact this
    | rt d c' => rw [hc] at e this; cases e; exact this
    | _ => rw [hc] at e; cases e
  · cases e
end
end LL

set_option Elab.async false
set_option linter.all false
set_option maxRecDepth 100000
set_option maxHeartbeats 4000000
/-! what each def of the law is worth over plain data (printed by gen.py) -/
namespace K02
open PySem PySem.Spec PyProof.Rows L2 LL
def topS (i : Nat) : Stmt := PySem.Challenge.pw_linkloom_k02_shapes_as_they_are_told.main.body.getD i (.Pass ⟨0, 0, 0, 0⟩)
structure Tx (K : PySem.W.Frag) (mg : Str → Option Value) : Prop where
  z_all : mg "all" = none
  z_any : mg "any" = none
  z_enumerate : mg "enumerate" = none
  z_isinstance : mg "isinstance" = none
  z_len : mg "len" = none
  z_max : mg "max" = none
  z_min : mg "min" = none
  z_range : mg "range" = none
  z_repr : mg "repr" = none
  z_set : mg "set" = none
  z_str : mg "str" = none
  z_sum : mg "sum" = none
  z_tuple : mg "tuple" = none
  c_LETTERS : ∃ t, mg "LETTERS" = some (.str "abcdefghijklmnopqrstuvwxyz" t)
  c_MOST_KINDS : ∃ t, mg "MOST_KINDS" = some (.int 6 t)
  c_MOST_LINKS : ∃ t, mg "MOST_LINKS" = some (.int 12 t)
  c_MOST_LONG : ∃ t, mg "MOST_LONG" = some (.int 6 t)
  c_MOST_RULES : ∃ t, mg "MOST_RULES" = some (.int 12 t)
  c_MOST_WAYS : ∃ t, mg "MOST_WAYS" = some (.int 60 t)
  a_Shape_ends : ∀ C, mg "Shape" = some (.ref C) → Cls K C ∧ NoAttr K C "ends"
  b_Shape_ends : ∀ C c, mg c = some (.ref C) → c = "Shape" → Cls K C ∧ NoAttr K C "ends"
  a_Shape_kinds : ∀ C, mg "Shape" = some (.ref C) → Cls K C ∧ NoAttr K C "kinds"
  b_Shape_kinds : ∀ C c, mg c = some (.ref C) → c = "Shape" → Cls K C ∧ NoAttr K C "kinds"
  a_Shape_links : ∀ C, mg "Shape" = some (.ref C) → Cls K C ∧ NoAttr K C "links"
  b_Shape_links : ∀ C c, mg c = some (.ref C) → c = "Shape" → Cls K C ∧ NoAttr K C "links"
  a_Shape_pairs : ∀ C, mg "Shape" = some (.ref C) → Cls K C ∧ NoAttr K C "pairs"
  b_Shape_pairs : ∀ C c, mg c = some (.ref C) → c = "Shape" → Cls K C ∧ NoAttr K C "pairs"
  a_Shape_plains : ∀ C, mg "Shape" = some (.ref C) → Cls K C ∧ NoAttr K C "plains"
  b_Shape_plains : ∀ C c, mg c = some (.ref C) → c = "Shape" → Cls K C ∧ NoAttr K C "plains"
  a_Shape_rules : ∀ C, mg "Shape" = some (.ref C) → Cls K C ∧ NoAttr K C "rules"
  b_Shape_rules : ∀ C c, mg c = some (.ref C) → c = "Shape" → Cls K C ∧ NoAttr K C "rules"
section
variable {P : Program} {w : World} {K : PySem.W.Frag} {mg : Str → Option Value} {base : Heap}
/-! is_word -/
abbrev s_is_word : Stmt := topS 9
abbrev n_is_word : List Str := ["thing", "sign"]
abbrev p_is_word : List Str := ["thing"]
theorem sc_is_word : FnScope n_is_word p_is_word (defScope s_is_word) := ⟨rfl, rfl, rfl, by decide +kernel, rfl, by decide +kernel, by decide +kernel⟩
def b_is_word : Cm := sRet (eAnd (eIsi "str" (eVar 0)) (eAnd (eChain leD leD (eC (.int 1)) (eCall lenD (eCons (eVar 0) (eNil))) (eC (.int 8))) (eCall allD (eCons (eLc (iA (eVar 0)) (gN 1) (eC (.bl true)) (eBin inD (eVar 1) (eC (.str "abcdefghijklmnopqrstuvwxyz"))) [1]) (eNil)))))
def f_is_word : Fn := fnSem 1 2 b_is_word
theorem ok_is_word (T : Tx K mg)  {f : Addr} {fd : FuncData} {dv0 : List V} {kw0 : List (Str × V)} (F : FunD K "is_word" "is_word" (defArgs s_is_word) (defBody s_is_word) (defScope s_is_word) dv0 kw0 f fd) :
    FnOk P w K mg base CX0 1 f fd p_is_word (spF K mg 1 f_is_word) :=
  fn_okF F sc_is_word (fun cdv A outer s H E hr => (dss_one (ds_ret (de_and (de_isi (by rfl) T.z_isinstance (de_of 0 (pv 0)) (by rfl) T.z_str (by decide +kernel)) (de_and (de_chain (op_leX hr) (op_leX hr) de_int (de_callB cr_lenX (by rfl) T.z_len (by decide +kernel) (da_cons (de_of 0 (pv 0)) da_nil)) de_int) (de_one (de_callB (cr_allX (by rfl)) (by rfl) T.z_all (by decide +kernel) (da_cons (de_lc (own := [("sign", 1)]) (by rfl) sc_is_word.nd (di_any (de_of 0 (pv 0))) (blkOk_by (N := n_is_word) (sc := (defScope s_is_word)) (by decide +kernel)) (by decide) (fun _ _ _ _ _ => (dg_of (i := 1) (pg_name (i := 1) sc_is_word.nd rfl (by first | exact Or.inl rfl | exact Or.inr rfl)))) (fun _ _ _ _ _ => dts_nil) (fun _ _ _ _ _ => (de_cmp (op_inX hr) (de_of 1 (pv 1)) (de_gstr (by rfl) T.c_LETTERS) (by with_unfolding_all rfl)))) da_nil))))))))
/-! are_words -/
abbrev s_are_words : Stmt := topS 10
abbrev n_are_words : List Str := ["thing", "low", "high", "one"]
abbrev p_are_words : List Str := ["thing", "low", "high"]
theorem sc_are_words : FnScope n_are_words p_are_words (defScope s_are_words) := ⟨rfl, rfl, rfl, by decide +kernel, rfl, by decide +kernel, by decide +kernel⟩
def b_are_words : Cm := sRet (eAnd (eIsi "tuple" (eVar 0)) (eAnd (eChain leD leD (eVar 1) (eCall lenD (eCons (eVar 0) (eNil))) (eVar 2)) (eCall allD (eCons (eLc (iA (eVar 0)) (gN 3) (eC (.bl true)) (eFn (fnN 1 f_is_word) (eCons (eVar 3) (eNil)) []) [3]) (eNil)))))
def f_are_words : Fn := fnSem 3 4 b_are_words
theorem ok_are_words (T : Tx K mg) (g_is_word : FnAt P w K mg base 1 "is_word" 1 f_is_word) {f : Addr} {fd : FuncData} {dv0 : List V} {kw0 : List (Str × V)} (F : FunD K "are_words" "are_words" (defArgs s_are_words) (defBody s_are_words) (defScope s_are_words) dv0 kw0 f fd) :
    FnOk P w K mg base CX0 2 f fd p_are_words (spF K mg 3 f_are_words) :=
  fn_okF F sc_are_words (fun cdv A outer s H E hr => (dss_one (ds_ret (de_and (de_isi (by rfl) T.z_isinstance (de_of 0 (pv 0)) (by rfl) T.z_tuple (by decide +kernel)) (de_and (de_chain (op_leX hr) (op_leX hr) (de_of 1 (pv 1)) (de_callB cr_lenX (by rfl) T.z_len (by decide +kernel) (da_cons (de_of 0 (pv 0)) da_nil)) (de_of 2 (pv 2))) (de_one (de_callB (cr_allX (by rfl)) (by rfl) T.z_all (by decide +kernel) (da_cons (de_lc (own := [("one", 3)]) (by rfl) sc_are_words.nd (di_any (de_of 0 (pv 0))) (blkOk_by (N := n_are_words) (sc := (defScope s_are_words)) (by decide +kernel)) (by decide) (fun _ _ _ _ _ => (dg_of (i := 3) (pg_name (i := 3) sc_are_words.nd rfl (by first | exact Or.inl rfl | exact Or.inr rfl)))) (fun _ _ _ _ _ => dts_nil) (fun _ _ _ _ _ => (de_callG g_is_word (hr.mono (by decide)) (by rfl) (da_cons (de_of 3 (pv 3)) da_nil)))) da_nil))))))))
/-! is_rule_made -/
abbrev s_is_rule_made : Stmt := topS 11
abbrev n_is_rule_made : List Str := ["thing", "side"]
abbrev p_is_rule_made : List Str := ["thing"]
theorem sc_is_rule_made : FnScope n_is_rule_made p_is_rule_made (defScope s_is_rule_made) := ⟨rfl, rfl, rfl, by decide +kernel, rfl, by decide +kernel, by decide +kernel⟩
def b_is_rule_made : Cm := sSeq (sIf (eOr (eNot (eTru (eIsi "tuple" (eVar 0)))) (eBin neD (eCall lenD (eCons (eVar 0) (eNil))) (eC (.int 2))))
  (sRet (eC (.bl false)))
  (sNil))
  (sRet (eCall allD (eCons (eLc (iA (eVar 0)) (gN 1) (eC (.bl true)) (eFn (fnN 3 f_are_words) (eCons (eVar 1) (eCons (eC (.int 1)) (eCons (eBin addD (eC (.int 6)) (eC (.int 1))) (eNil)))) []) [1]) (eNil))))
def f_is_rule_made : Fn := fnSem 1 2 b_is_rule_made
theorem ok_is_rule_made (T : Tx K mg) (g_are_words : FnAt P w K mg base 2 "are_words" 3 f_are_words) {f : Addr} {fd : FuncData} {dv0 : List V} {kw0 : List (Str × V)} (F : FunD K "is_rule_made" "is_rule_made" (defArgs s_is_rule_made) (defBody s_is_rule_made) (defScope s_is_rule_made) dv0 kw0 f fd) :
    FnOk P w K mg base CX0 3 f fd p_is_rule_made (spF K mg 1 f_is_rule_made) :=
  fn_okF F sc_is_rule_made (fun cdv A outer s H E hr => (dss_cons (ds_if (DW.pt (dw_or (dt_not (dt_tru (de_isi (by rfl) T.z_isinstance (de_of 0 (pv 0)) (by rfl) T.z_tuple (by decide +kernel)))) (dw_or1 (dt_cmp (op_neX hr) (de_callB cr_lenX (by rfl) T.z_len (by decide +kernel) (da_cons (de_of 0 (pv 0)) da_nil)) de_int (nomark _)))))
  (dss_one (ds_ret de_bl))
  dss_nil)
  (dss_one (ds_ret (de_callB (cr_allX (by rfl)) (by rfl) T.z_all (by decide +kernel) (da_cons (de_lc (own := [("side", 1)]) (by rfl) sc_is_rule_made.nd (di_any (de_of 0 (pv 0))) (blkOk_by (N := n_is_rule_made) (sc := (defScope s_is_rule_made)) (by decide +kernel)) (by decide) (fun _ _ _ _ _ => (dg_of (i := 1) (pg_name (i := 1) sc_is_rule_made.nd rfl (by first | exact Or.inl rfl | exact Or.inr rfl)))) (fun _ _ _ _ _ => dts_nil) (fun _ _ _ _ _ => (de_callG g_are_words (hr.mono (by decide)) (by rfl) (da_cons (de_of 1 (pv 1)) (da_cons de_int (da_cons (de_bin op_addX (de_gint (by rfl) T.c_MOST_LONG) de_int) da_nil)))))) da_nil))))))
/-! is_made -/
abbrev s_is_made : Stmt := topS 12
abbrev n_is_made : List Str := ["kinds", "links", "rules", "link", "rule"]
abbrev p_is_made : List Str := ["kinds", "links", "rules"]
theorem sc_is_made : FnScope n_is_made p_is_made (defScope s_is_made) := ⟨rfl, rfl, rfl, by decide +kernel, rfl, by decide +kernel, by decide +kernel⟩
def b_is_made : Cm := sSeq (sIf (eOr (eNot (eTru (eFn (fnN 3 f_are_words) (eCons (eVar 0) (eCons (eC (.int 1)) (eCons (eC (.int 6)) (eNil)))) []))) (eOr (eNot (eTru (eIsi "tuple" (eVar 1)))) (eNot (eTru (eIsi "tuple" (eVar 2))))))
  (sRet (eC (.bl false)))
  (sNil))
  (sSeq (sIf (eOr (eBin gtD (eCall lenD (eCons (eVar 1) (eNil))) (eC (.int 12))) (eBin gtD (eCall lenD (eCons (eVar 2) (eNil))) (eC (.int 12))))
  (sRet (eC (.bl false)))
  (sNil))
  (sRet (eAnd (eCall allD (eCons (eLc (iA (eVar 1)) (gN 3) (eC (.bl true)) (eFn (fnN 3 f_are_words) (eCons (eVar 3) (eCons (eC (.int 3)) (eCons (eC (.int 3)) (eNil)))) []) [3]) (eNil))) (eCall allD (eCons (eLc (iA (eVar 2)) (gN 4) (eC (.bl true)) (eFn (fnN 1 f_is_rule_made) (eCons (eVar 4) (eNil)) []) [4]) (eNil))))))
def f_is_made : Fn := fnSem 3 5 b_is_made
theorem ok_is_made (T : Tx K mg) (g_are_words : FnAt P w K mg base 2 "are_words" 3 f_are_words) (g_is_rule_made : FnAt P w K mg base 3 "is_rule_made" 1 f_is_rule_made) {f : Addr} {fd : FuncData} {dv0 : List V} {kw0 : List (Str × V)} (F : FunD K "is_made" "is_made" (defArgs s_is_made) (defBody s_is_made) (defScope s_is_made) dv0 kw0 f fd) :
    FnOk P w K mg base CX0 4 f fd p_is_made (spF K mg 3 f_is_made) :=
  fn_okF F sc_is_made (fun cdv A outer s H E hr => (dss_cons (ds_if (DW.pt (dw_or (dt_not (dt_tru (de_callG g_are_words (hr.mono (by decide)) (by rfl) (da_cons (de_of 0 (pv 0)) (da_cons de_int (da_cons (de_gint (by rfl) T.c_MOST_KINDS) da_nil)))))) (dw_or (dt_not (dt_tru (de_isi (by rfl) T.z_isinstance (de_of 1 (pv 1)) (by rfl) T.z_tuple (by decide +kernel)))) (dw_or1 (dt_not (dt_tru (de_isi (by rfl) T.z_isinstance (de_of 2 (pv 2)) (by rfl) T.z_tuple (by decide +kernel))))))))
  (dss_one (ds_ret de_bl))
  dss_nil)
  (dss_cons (ds_if (DW.pt (dw_or (dt_cmp (op_gtX hr) (de_callB cr_lenX (by rfl) T.z_len (by decide +kernel) (da_cons (de_of 1 (pv 1)) da_nil)) (de_gint (by rfl) T.c_MOST_LINKS) (nomark _)) (dw_or1 (dt_cmp (op_gtX hr) (de_callB cr_lenX (by rfl) T.z_len (by decide +kernel) (da_cons (de_of 2 (pv 2)) da_nil)) (de_gint (by rfl) T.c_MOST_RULES) (nomark _)))))
  (dss_one (ds_ret de_bl))
  dss_nil)
  (dss_one (ds_ret (de_and (de_callB (cr_allX (by rfl)) (by rfl) T.z_all (by decide +kernel) (da_cons (de_lc (own := [("link", 3)]) (by rfl) sc_is_made.nd (di_any (de_of 1 (pv 1))) (blkOk_by (N := n_is_made) (sc := (defScope s_is_made)) (by decide +kernel)) (by decide) (fun _ _ _ _ _ => (dg_of (i := 3) (pg_name (i := 3) sc_is_made.nd rfl (by first | exact Or.inl rfl | exact Or.inr rfl)))) (fun _ _ _ _ _ => dts_nil) (fun _ _ _ _ _ => (de_callG g_are_words (hr.mono (by decide)) (by rfl) (da_cons (de_of 3 (pv 3)) (da_cons de_int (da_cons de_int da_nil)))))) da_nil)) (de_one (de_callB (cr_allX (by rfl)) (by rfl) T.z_all (by decide +kernel) (da_cons (de_lc (own := [("rule", 4)]) (by rfl) sc_is_made.nd (di_any (de_of 2 (pv 2))) (blkOk_by (N := n_is_made) (sc := (defScope s_is_made)) (by decide +kernel)) (by decide) (fun _ _ _ _ _ => (dg_of (i := 4) (pg_name (i := 4) sc_is_made.nd rfl (by first | exact Or.inl rfl | exact Or.inr rfl)))) (fun _ _ _ _ _ => dts_nil) (fun _ _ _ _ _ => (de_callG g_is_rule_made (hr.mono (by decide)) (by rfl) (da_cons (de_of 4 (pv 4)) da_nil)))) da_nil)))))))))
/-! is_named -/
abbrev s_is_named : Stmt := topS 13
abbrev n_is_named : List Str := ["kinds", "links", "words", "link"]
abbrev p_is_named : List Str := ["kinds", "links"]
theorem sc_is_named : FnScope n_is_named p_is_named (defScope s_is_named) := ⟨rfl, rfl, rfl, by decide +kernel, rfl, by decide +kernel, by decide +kernel⟩
def b_is_named : Cm := sSeq (sSet 2 (eLc (iA (eVar 1)) (gN 3) (eC (.bl true)) (eBin ixD (eVar 3) (eC (.int 0))) [3]))
  (sSeq (sIf (eOr (eBin ltD (eLenSet (eVar 0)) (eCall lenD (eCons (eVar 0) (eNil)))) (eBin ltD (eLenSet (eVar 2)) (eCall lenD (eCons (eVar 2) (eNil)))))
  (sRet (eC (.bl false)))
  (sNil))
  (sRet (eCall allD (eCons (eLc (iA (eVar 1)) (gN 3) (eC (.bl true)) (eAnd (eBin inD (eBin ixD (eVar 3) (eC (.int 1))) (eVar 0)) (eBin inD (eBin ixD (eVar 3) (eC (.int 2))) (eVar 0))) [3]) (eNil)))))
def f_is_named : Fn := fnSem 2 4 b_is_named
theorem ok_is_named (T : Tx K mg)  {f : Addr} {fd : FuncData} {dv0 : List V} {kw0 : List (Str × V)} (F : FunD K "is_named" "is_named" (defArgs s_is_named) (defBody s_is_named) (defScope s_is_named) dv0 kw0 f fd) :
    FnOk P w K mg base CX0 1 f fd p_is_named (spF K mg 2 f_is_named) :=
  fn_okF F sc_is_named (fun cdv A outer s H E hr => (dss_cons (ds_setLc (i := 2) (own := [("link", 3)]) (by rfl) sc_is_named.nd rfl rfl (sw_true rfl rfl rfl (by decide +kernel)) (di_any (de_of 1 (pv 1))) (blkOk_by (N := n_is_named) (sc := (defScope s_is_named)) (by decide +kernel)) (by decide) (fun _ _ _ _ _ => (dg_of (i := 3) (pg_name (i := 3) sc_is_named.nd rfl (by first | exact Or.inl rfl | exact Or.inr rfl)))) (fun _ _ _ _ _ => dts_nil) (fun _ _ _ _ _ => (de_ix hr (de_of 3 (pv 3)) de_int)))
  (dss_cons (ds_if (DW.pt (dw_or (dt_cmp (op_ltX hr) (de_lenSet (by rfl) (by rfl) T.z_len (by rfl) T.z_set (de_of 0 (pv 0))) (de_callB cr_lenX (by rfl) T.z_len (by decide +kernel) (da_cons (de_of 0 (pv 0)) da_nil)) (nomark _)) (dw_or1 (dt_cmp (op_ltX hr) (de_lenSet (by rfl) (by rfl) T.z_len (by rfl) T.z_set (de_of 2 (pv 2))) (de_callB cr_lenX (by rfl) T.z_len (by decide +kernel) (da_cons (de_of 2 (pv 2)) da_nil)) (nomark _)))))
  (dss_one (ds_ret de_bl))
  dss_nil)
  (dss_one (ds_ret (de_callB (cr_allX (by rfl)) (by rfl) T.z_all (by decide +kernel) (da_cons (de_lc (own := [("link", 3)]) (by rfl) sc_is_named.nd (di_any (de_of 1 (pv 1))) (blkOk_by (N := n_is_named) (sc := (defScope s_is_named)) (by decide +kernel)) (by decide) (fun _ _ _ _ _ => (dg_of (i := 3) (pg_name (i := 3) sc_is_named.nd rfl (by first | exact Or.inl rfl | exact Or.inr rfl)))) (fun _ _ _ _ _ => dts_nil) (fun _ _ _ _ _ => (de_and (de_cmp (op_inX hr) (de_ix hr (de_of 3 (pv 3)) de_int) (de_of 0 (pv 0)) (by with_unfolding_all rfl)) (de_one (de_cmp (op_inX hr) (de_ix hr (de_of 3 (pv 3)) de_int) (de_of 0 (pv 0)) (by with_unfolding_all rfl)))))) da_nil)))))))
/-! end_by -/
abbrev s_end_by : Stmt := topS 14
abbrev n_end_by : List Str := ["kinds", "ends", "way", "here", "link", "start", "end"]
abbrev p_end_by : List Str := ["kinds", "ends", "way"]
theorem sc_end_by : FnScope n_end_by p_end_by (defScope s_end_by) := ⟨rfl, rfl, rfl, by decide +kernel, rfl, by decide +kernel, by decide +kernel⟩
def b_end_by : Cm := sSeq (sSet 3 (eIf (eBin inD (eBin ixD (eVar 2) (eC (.int 0))) (eVar 0)) (eBin ixD (eVar 2) (eC (.int 0))) (eC .non)))
  (sSeq (sFor (iA (eSl (eVar 2) (oSome (eC (.int 1))) oNone)) (gN 4)
  (sSeq (sAsg (gT (gsC (gN 5) (gsC (gN 6) (gs0)))) (eGet2 (eVar 1) (eVar 4) (eTup (eCons (eC .non) (eCons (eC .non) (eNil))))))
  (sSet 3 (eIf (eAnd (eBin isNotD (eVar 5) (eC .non)) (eBin eqD (eVar 5) (eVar 3))) (eVar 6) (eC .non)))))
  (sRet (eVar 3)))
def f_end_by : Fn := fnSem 3 7 b_end_by
theorem ok_end_by (T : Tx K mg)  {f : Addr} {fd : FuncData} {dv0 : List V} {kw0 : List (Str × V)} (F : FunD K "end_by" "end_by" (defArgs s_end_by) (defBody s_end_by) (defScope s_end_by) dv0 kw0 f fd) :
    FnOk P w K mg base CX0 1 f fd p_end_by (spF K mg 3 f_end_by) :=
  fn_okF F sc_end_by (fun cdv A outer s H E hr => (dss_cons (ds_set (i := 3) sc_end_by.nd rfl (by first | exact Or.inl rfl | exact Or.inr rfl) (de_ife (dt_cmp (op_inX hr) (de_ix hr (de_of 2 (pv 2)) de_int) (de_of 0 (pv 0)) (by with_unfolding_all rfl)) (de_ix hr (de_of 2 (pv 2)) de_int) de_non))
  (dss_cons (ds_for PassesOwn.never (by rfl) (di_any (de_sl (de_of 2 (pv 2)) (do_some de_int) do_none)) (dg_of (i := 4) (pg_name (i := 4) sc_end_by.nd rfl (by first | exact Or.inl rfl | exact Or.inr rfl)))
  (dss_cons (ds_asg (de_get2 hr (de_of 1 (pv 1)) (de_of 4 (pv 4)) (de_tup (da_cons de_non (da_cons de_non da_nil))) ⟨rfl, rfl, rfl, rfl⟩) (dg_tup (by rfl) (dgs_cons (dg_of (i := 5) (pg_name (i := 5) sc_end_by.nd rfl (by first | exact Or.inl rfl | exact Or.inr rfl))) (dgs_cons (dg_of (i := 6) (pg_name (i := 6) sc_end_by.nd rfl (by first | exact Or.inl rfl | exact Or.inr rfl))) dgs_nil)) (gsC_len (gsC_len gs0_len))))
  (dss_one (ds_set (i := 3) sc_end_by.nd rfl (by first | exact Or.inl rfl | exact Or.inr rfl) (de_ife (DW.pt (dw_and (dt_cmp op_isNotX (de_of 5 (pv 5)) de_non (nomark _)) (dw_and1 (dt_cmp (op_eqX hr) (de_of 5 (pv 5)) (de_of 3 (pv 3)) (nomark _))))) (de_of 6 (pv 6)) de_non)))))
  (dss_one (ds_ret (de_of 3 (pv 3)))))))
/-! are_sides -/
abbrev s_are_sides : Stmt := topS 15
abbrev n_are_sides : List Str := ["kinds", "ends", "rule", "long", "short", "end"]
abbrev p_are_sides : List Str := ["kinds", "ends", "rule"]
theorem sc_are_sides : FnScope n_are_sides p_are_sides (defScope s_are_sides) := ⟨rfl, rfl, rfl, by decide +kernel, rfl, by decide +kernel, by decide +kernel⟩
def b_are_sides : Cm := sSeq (sAsg (gT (gsC (gN 3) (gsC (gN 4) (gs0)))) (eVar 2))
  (sSeq (sSet 5 (eFn (fnN 3 f_end_by) (eCons (eVar 0) (eCons (eVar 1) (eCons (eVar 3) (eNil)))) []))
  (sRet (eAnd (eBin isNotD (eVar 5) (eC .non)) (eAnd (eBin eqD (eBin ixD (eVar 3) (eC (.int 0))) (eBin ixD (eVar 4) (eC (.int 0)))) (eBin eqD (eVar 5) (eFn (fnN 3 f_end_by) (eCons (eVar 0) (eCons (eVar 1) (eCons (eVar 4) (eNil)))) []))))))
def f_are_sides : Fn := fnSem 3 6 b_are_sides
theorem ok_are_sides (T : Tx K mg) (g_end_by : FnAt P w K mg base 1 "end_by" 3 f_end_by) {f : Addr} {fd : FuncData} {dv0 : List V} {kw0 : List (Str × V)} (F : FunD K "are_sides" "are_sides" (defArgs s_are_sides) (defBody s_are_sides) (defScope s_are_sides) dv0 kw0 f fd) :
    FnOk P w K mg base CX0 2 f fd p_are_sides (spF K mg 3 f_are_sides) :=
  fn_okF F sc_are_sides (fun cdv A outer s H E hr => (dss_cons (ds_asg (de_of 2 (pv 2)) (dg_tup (by rfl) (dgs_cons (dg_of (i := 3) (pg_name (i := 3) sc_are_sides.nd rfl (by first | exact Or.inl rfl | exact Or.inr rfl))) (dgs_cons (dg_of (i := 4) (pg_name (i := 4) sc_are_sides.nd rfl (by first | exact Or.inl rfl | exact Or.inr rfl))) dgs_nil)) (gsC_len (gsC_len gs0_len))))
  (dss_cons (ds_set (i := 5) sc_are_sides.nd rfl (by first | exact Or.inl rfl | exact Or.inr rfl) (de_callG g_end_by (hr.mono (by decide)) (by rfl) (da_cons (de_of 0 (pv 0)) (da_cons (de_of 1 (pv 1)) (da_cons (de_of 3 (pv 3)) da_nil)))))
  (dss_one (ds_ret (de_and (de_cmp op_isNotX (de_of 5 (pv 5)) de_non (nomark _)) (de_and (de_cmp (op_eqX hr) (de_ix hr (de_of 3 (pv 3)) de_int) (de_ix hr (de_of 4 (pv 4)) de_int) (nomark _)) (de_one (de_cmp (op_eqX hr) (de_of 5 (pv 5)) (de_callG g_end_by (hr.mono (by decide)) (by rfl) (da_cons (de_of 0 (pv 0)) (da_cons (de_of 1 (pv 1)) (da_cons (de_of 4 (pv 4)) da_nil)))) (nomark _))))))))))
/-! rank_of -/
abbrev s_rank_of : Stmt := topS 16
abbrev n_rank_of : List Str := ["places", "links", "link"]
abbrev p_rank_of : List Str := ["places", "links"]
theorem sc_rank_of : FnScope n_rank_of p_rank_of (defScope s_rank_of) := ⟨rfl, rfl, rfl, by decide +kernel, rfl, by decide +kernel, by decide +kernel⟩
def b_rank_of : Cm := sRet (eTup (eCons (eCall lenD (eCons (eVar 1) (eNil))) (eCons (eCall tupleD (eCons (eLc (iA (eVar 1)) (gN 2) (eC (.bl true)) (eBin ixD (eVar 0) (eVar 2)) [2]) (eNil))) (eNil))))
def f_rank_of : Fn := fnSem 2 3 b_rank_of
theorem ok_rank_of (T : Tx K mg)  {f : Addr} {fd : FuncData} {dv0 : List V} {kw0 : List (Str × V)} (F : FunD K "rank_of" "rank_of" (defArgs s_rank_of) (defBody s_rank_of) (defScope s_rank_of) dv0 kw0 f fd) :
    FnOk P w K mg base CX0 1 f fd p_rank_of (spF K mg 2 f_rank_of) :=
  fn_okF F sc_rank_of (fun cdv A outer s H E hr => (dss_one (ds_ret (de_tup (da_cons (de_callB cr_lenX (by rfl) T.z_len (by decide +kernel) (da_cons (de_of 1 (pv 1)) da_nil)) (da_cons (de_callTy cr_tupleX (by rfl) T.z_tuple (by decide +kernel) (da_cons (de_lc (own := [("link", 2)]) (by rfl) sc_rank_of.nd (di_any (de_of 1 (pv 1))) (blkOk_by (N := n_rank_of) (sc := (defScope s_rank_of)) (by decide +kernel)) (by decide) (fun _ _ _ _ _ => (dg_of (i := 2) (pg_name (i := 2) sc_rank_of.nd rfl (by first | exact Or.inl rfl | exact Or.inr rfl)))) (fun _ _ _ _ _ => dts_nil) (fun _ _ _ _ _ => (de_ix hr (de_of 0 (pv 0)) (de_of 2 (pv 2))))) da_nil)) da_nil))))))
/-! first_long -/
abbrev s_first_long : Stmt := topS 17
abbrev n_first_long : List Str := ["pairs", "links", "at", "long", "short"]
abbrev p_first_long : List Str := ["pairs", "links"]
theorem sc_first_long : FnScope n_first_long p_first_long (defScope s_first_long) := ⟨rfl, rfl, rfl, by decide +kernel, rfl, by decide +kernel, by decide +kernel⟩
def b_first_long : Cm := sSeq (sFor (iR1 (eCons (eCall lenD (eCons (eVar 1) (eNil))) (eNil))) (gN 2)
  (sFor (iA (eVar 0)) (gT (gsC (gN 3) (gsC (gN 4) (gs0))))
  (sIf (eBin eqD (eSl (eVar 1) (oSome (eVar 2)) (oSome (eBin addD (eVar 2) (eCall lenD (eCons (eVar 3) (eNil)))))) (eVar 3))
  (sRet (eTup (eCons (eVar 2) (eCons (eVar 3) (eCons (eVar 4) (eNil))))))
  (sNil))))
  (sRet (eC .non))
def f_first_long : Fn := fnSem 2 5 b_first_long
theorem ok_first_long (T : Tx K mg)  {f : Addr} {fd : FuncData} {dv0 : List V} {kw0 : List (Str × V)} (F : FunD K "first_long" "first_long" (defArgs s_first_long) (defBody s_first_long) (defScope s_first_long) dv0 kw0 f fd) :
    FnOk P w K mg base CX0 1 f fd p_first_long (spF K mg 2 f_first_long) :=
  fn_okF F sc_first_long (fun cdv A outer s H E hr => (dss_cons (ds_for PassesOwn.never (by rfl) (di_rng1 (by rfl) T.z_range (da_cons (de_callB cr_lenX (by rfl) T.z_len (by decide +kernel) (da_cons (de_of 1 (pv 1)) da_nil)) da_nil)) (dg_of (i := 2) (pg_name (i := 2) sc_first_long.nd rfl (by first | exact Or.inl rfl | exact Or.inr rfl)))
  (dss_one (ds_for PassesOwn.never (by rfl) (di_any (de_of 0 (pv 0))) (dg_tup (by rfl) (dgs_cons (dg_of (i := 3) (pg_name (i := 3) sc_first_long.nd rfl (by first | exact Or.inl rfl | exact Or.inr rfl))) (dgs_cons (dg_of (i := 4) (pg_name (i := 4) sc_first_long.nd rfl (by first | exact Or.inl rfl | exact Or.inr rfl))) dgs_nil)) (gsC_len (gsC_len gs0_len)))
  (dss_one (ds_if (dt_cmp (op_eqX hr) (de_sl (de_of 1 (pv 1)) (do_some (de_of 2 (pv 2))) (do_some (de_bin op_addX (de_of 2 (pv 2)) (de_callB cr_lenX (by rfl) T.z_len (by decide +kernel) (da_cons (de_of 3 (pv 3)) da_nil))))) (de_of 3 (pv 3)) (nomark _))
  (dss_one (ds_ret (de_tup (da_cons (de_of 2 (pv 2)) (da_cons (de_of 3 (pv 3)) (da_cons (de_of 4 (pv 4)) da_nil))))))
  dss_nil)))))
  (dss_one (ds_ret de_non))))
/-! shortened -/
abbrev s_shortened : Stmt := topS 18
abbrev n_shortened : List Str := ["pairs", "links", "found", "at", "long", "short"]
abbrev p_shortened : List Str := ["pairs", "links"]
theorem sc_shortened : FnScope n_shortened p_shortened (defScope s_shortened) := ⟨rfl, rfl, rfl, by decide +kernel, rfl, by decide +kernel, by decide +kernel⟩
def b_shortened : Cm := sSeq (sSet 2 (eFn (fnN 2 f_first_long) (eCons (eVar 0) (eCons (eVar 1) (eNil))) []))
  (sSeq (sWhile 1000000000000000000000000000000 (eBin isNotD (eVar 2) (eC .non))
  (sSeq (sAsg (gT (gsC (gN 3) (gsC (gN 4) (gsC (gN 5) (gs0))))) (eVar 2))
  (sSeq (sSet 1 (eBin addD (eBin addD (eSl (eVar 1) oNone (oSome (eVar 3))) (eVar 5)) (eSl (eVar 1) (oSome (eBin addD (eVar 3) (eCall lenD (eCons (eVar 4) (eNil))))) oNone)))
  (sSet 2 (eFn (fnN 2 f_first_long) (eCons (eVar 0) (eCons (eVar 1) (eNil))) [])))))
  (sRet (eVar 1)))
def f_shortened : Fn := fnSem 2 6 b_shortened
theorem ok_shortened (T : Tx K mg) (g_first_long : FnAt P w K mg base 1 "first_long" 2 f_first_long) {f : Addr} {fd : FuncData} {dv0 : List V} {kw0 : List (Str × V)} (F : FunD K "shortened" "shortened" (defArgs s_shortened) (defBody s_shortened) (defScope s_shortened) dv0 kw0 f fd) :
    FnOk P w K mg base CX0 2 f fd p_shortened (spF K mg 2 f_shortened) :=
  fn_okF F sc_shortened (fun cdv A outer s H E hr => (dss_cons (ds_set (i := 2) sc_shortened.nd rfl (by first | exact Or.inl rfl | exact Or.inr rfl) (de_callG g_first_long (hr.mono (by decide)) (by rfl) (da_cons (de_of 0 (pv 0)) (da_cons (de_of 1 (pv 1)) da_nil))))
  (dss_cons (ds_while 1000000000000000000000000000000 PassesOwn.never (dt_cmp op_isNotX (de_of 2 (pv 2)) de_non (nomark _))
  (dss_cons (ds_asg (de_of 2 (pv 2)) (dg_tup (by rfl) (dgs_cons (dg_of (i := 3) (pg_name (i := 3) sc_shortened.nd rfl (by first | exact Or.inl rfl | exact Or.inr rfl))) (dgs_cons (dg_of (i := 4) (pg_name (i := 4) sc_shortened.nd rfl (by first | exact Or.inl rfl | exact Or.inr rfl))) (dgs_cons (dg_of (i := 5) (pg_name (i := 5) sc_shortened.nd rfl (by first | exact Or.inl rfl | exact Or.inr rfl))) dgs_nil))) (gsC_len (gsC_len (gsC_len gs0_len)))))
  (dss_cons (ds_set (i := 1) sc_shortened.nd rfl (by first | exact Or.inl rfl | exact Or.inr rfl) (de_bin op_addX (de_bin op_addX (de_sl (de_of 1 (pv 1)) do_none (do_some (de_of 3 (pv 3)))) (de_of 5 (pv 5))) (de_sl (de_of 1 (pv 1)) (do_some (de_bin op_addX (de_of 3 (pv 3)) (de_callB cr_lenX (by rfl) T.z_len (by decide +kernel) (da_cons (de_of 4 (pv 4)) da_nil)))) do_none)))
  (dss_one (ds_set (i := 2) sc_shortened.nd rfl (by first | exact Or.inl rfl | exact Or.inr rfl) (de_callG g_first_long (hr.mono (by decide)) (by rfl) (da_cons (de_of 0 (pv 0)) (da_cons (de_of 1 (pv 1)) da_nil))))))))
  (dss_one (ds_ret (de_of 1 (pv 1)))))))
/-! lies_open -/
abbrev s_lies_open : Stmt := topS 19
abbrev n_lies_open : List Str := ["one", "other", "pairs", "long", "short", "more", "less", "at", "many", "first", "second"]
abbrev p_lies_open : List Str := ["one", "other", "pairs"]
theorem sc_lies_open : FnScope n_lies_open p_lies_open (defScope s_lies_open) := ⟨rfl, rfl, rfl, by decide +kernel, rfl, by decide +kernel, by decide +kernel⟩
def b_lies_open : Cm := sSeq (sAsg (gT (gsC (gT (gsC (gN 3) (gsC (gN 4) (gs0)))) (gsC (gT (gsC (gN 5) (gsC (gN 6) (gs0)))) (gs0)))) (eTup (eCons (eVar 0) (eCons (eVar 1) (eNil)))))
  (sSeq (sFor (iR1 (eCons (eCall lenD (eCons (eVar 3) (eNil))) (eNil))) (gN 7)
  (sSeq (sSet 8 (eCall min2D (eCons (eBin subD (eCall lenD (eCons (eVar 3) (eNil))) (eVar 7)) (eCons (eCall lenD (eCons (eVar 5) (eNil))) (eNil)))))
  (sIf (eBin eqD (eSl (eVar 3) (oSome (eVar 7)) (oSome (eBin addD (eVar 7) (eVar 8)))) (eSl (eVar 5) oNone (oSome (eVar 8))))
  (sSeq (sSet 9 (eBin addD (eVar 4) (eSl (eVar 5) (oSome (eVar 8)) oNone)))
  (sSeq (sSet 10 (eBin addD (eBin addD (eSl (eVar 3) oNone (oSome (eVar 7))) (eVar 6)) (eSl (eVar 3) (oSome (eBin addD (eVar 7) (eCall lenD (eCons (eVar 5) (eNil))))) oNone)))
  (sIf (eBin neD (eFn (fnN 2 f_shortened) (eCons (eVar 2) (eCons (eVar 9) (eNil))) []) (eFn (fnN 2 f_shortened) (eCons (eVar 2) (eCons (eVar 10) (eNil))) []))
  (sRet (eC (.bl true)))
  (sNil))))
  (sNil))))
  (sRet (eC (.bl false))))
def f_lies_open : Fn := fnSem 3 11 b_lies_open
theorem ok_lies_open (T : Tx K mg) (g_shortened : FnAt P w K mg base 2 "shortened" 2 f_shortened) {f : Addr} {fd : FuncData} {dv0 : List V} {kw0 : List (Str × V)} (F : FunD K "lies_open" "lies_open" (defArgs s_lies_open) (defBody s_lies_open) (defScope s_lies_open) dv0 kw0 f fd) :
    FnOk P w K mg base CX0 3 f fd p_lies_open (spF K mg 3 f_lies_open) :=
  fn_okF F sc_lies_open (fun cdv A outer s H E hr => (dss_cons (ds_asg (de_tup (da_cons (de_of 0 (pv 0)) (da_cons (de_of 1 (pv 1)) da_nil))) (dg_tup (by rfl) (dgs_cons (dg_tup (by rfl) (dgs_cons (dg_of (i := 3) (pg_name (i := 3) sc_lies_open.nd rfl (by first | exact Or.inl rfl | exact Or.inr rfl))) (dgs_cons (dg_of (i := 4) (pg_name (i := 4) sc_lies_open.nd rfl (by first | exact Or.inl rfl | exact Or.inr rfl))) dgs_nil)) (gsC_len (gsC_len gs0_len))) (dgs_cons (dg_tup (by rfl) (dgs_cons (dg_of (i := 5) (pg_name (i := 5) sc_lies_open.nd rfl (by first | exact Or.inl rfl | exact Or.inr rfl))) (dgs_cons (dg_of (i := 6) (pg_name (i := 6) sc_lies_open.nd rfl (by first | exact Or.inl rfl | exact Or.inr rfl))) dgs_nil)) (gsC_len (gsC_len gs0_len))) dgs_nil)) (gsC_len (gsC_len gs0_len))))
  (dss_cons (ds_for PassesOwn.never (by rfl) (di_rng1 (by rfl) T.z_range (da_cons (de_callB cr_lenX (by rfl) T.z_len (by decide +kernel) (da_cons (de_of 3 (pv 3)) da_nil)) da_nil)) (dg_of (i := 7) (pg_name (i := 7) sc_lies_open.nd rfl (by first | exact Or.inl rfl | exact Or.inr rfl)))
  (dss_cons (ds_set (i := 8) sc_lies_open.nd rfl (by first | exact Or.inl rfl | exact Or.inr rfl) (de_callB (cr_min2X (by rfl)) (by rfl) T.z_min (by decide +kernel) (da_cons (de_bin op_subX (de_callB cr_lenX (by rfl) T.z_len (by decide +kernel) (da_cons (de_of 3 (pv 3)) da_nil)) (de_of 7 (pv 7))) (da_cons (de_callB cr_lenX (by rfl) T.z_len (by decide +kernel) (da_cons (de_of 5 (pv 5)) da_nil)) da_nil))))
  (dss_one (ds_if (dt_cmp (op_eqX hr) (de_sl (de_of 3 (pv 3)) (do_some (de_of 7 (pv 7))) (do_some (de_bin op_addX (de_of 7 (pv 7)) (de_of 8 (pv 8))))) (de_sl (de_of 5 (pv 5)) do_none (do_some (de_of 8 (pv 8)))) (nomark _))
  (dss_cons (ds_set (i := 9) sc_lies_open.nd rfl (by first | exact Or.inl rfl | exact Or.inr rfl) (de_bin op_addX (de_of 4 (pv 4)) (de_sl (de_of 5 (pv 5)) (do_some (de_of 8 (pv 8))) do_none)))
  (dss_cons (ds_set (i := 10) sc_lies_open.nd rfl (by first | exact Or.inl rfl | exact Or.inr rfl) (de_bin op_addX (de_bin op_addX (de_sl (de_of 3 (pv 3)) do_none (do_some (de_of 7 (pv 7)))) (de_of 6 (pv 6))) (de_sl (de_of 3 (pv 3)) (do_some (de_bin op_addX (de_of 7 (pv 7)) (de_callB cr_lenX (by rfl) T.z_len (by decide +kernel) (da_cons (de_of 5 (pv 5)) da_nil)))) do_none)))
  (dss_one (ds_if (dt_cmp (op_neX hr) (de_callG g_shortened (hr.mono (by decide)) (by rfl) (da_cons (de_of 2 (pv 2)) (da_cons (de_of 9 (pv 9)) da_nil))) (de_callG g_shortened (hr.mono (by decide)) (by rfl) (da_cons (de_of 2 (pv 2)) (da_cons (de_of 10 (pv 10)) da_nil))) (nomark _))
  (dss_one (ds_ret de_bl))
  dss_nil))))
  dss_nil))))
  (dss_one (ds_ret de_bl)))))
/-! is_open -/
abbrev s_is_open : Stmt := topS 20
abbrev n_is_open : List Str := ["pairs", "one", "other"]
abbrev p_is_open : List Str := ["pairs"]
theorem sc_is_open : FnScope n_is_open p_is_open (defScope s_is_open) := ⟨rfl, rfl, rfl, by decide +kernel, rfl, by decide +kernel, by decide +kernel⟩
def b_is_open : Cm := sRet (eCall anyD (eCons (eLc2 (iA (eVar 0)) (gN 1) (eC (.bl true)) (iA (eVar 0)) (gN 2) (eC (.bl true)) (eFn (fnN 3 f_lies_open) (eCons (eVar 1) (eCons (eVar 2) (eCons (eVar 0) (eNil)))) []) [1, 2] [2]) (eNil)))
def f_is_open : Fn := fnSem 1 3 b_is_open
theorem ok_is_open (T : Tx K mg) (g_lies_open : FnAt P w K mg base 3 "lies_open" 3 f_lies_open) {f : Addr} {fd : FuncData} {dv0 : List V} {kw0 : List (Str × V)} (F : FunD K "is_open" "is_open" (defArgs s_is_open) (defBody s_is_open) (defScope s_is_open) dv0 kw0 f fd) :
    FnOk P w K mg base CX0 4 f fd p_is_open (spF K mg 1 f_is_open) :=
  fn_okF F sc_is_open (fun cdv A outer s H E hr => (dss_one (ds_ret (de_callB (cr_anyX (by rfl)) (by rfl) T.z_any (by decide +kernel) (da_cons (de_lc2 (own := [("one", 1), ("other", 2)]) (vs1 := [2]) (by rfl) sc_is_open.nd (di_any (de_of 0 (pv 0))) (blkOk_by (N := n_is_open) (sc := (defScope s_is_open)) (by decide +kernel)) (by decide) (by decide) (by decide) (fun _ _ _ _ _ => (dg_of (i := 1) (pg_name (i := 1) sc_is_open.nd rfl (by first | exact Or.inl rfl | exact Or.inr rfl)))) (fun _ _ _ _ _ => dts_nil) (fun _ _ _ _ _ => (di_any (de_of 0 (pv 0)))) (fun _ _ _ _ _ => (dg_of (i := 2) (pg_name (i := 2) sc_is_open.nd rfl (by first | exact Or.inl rfl | exact Or.inr rfl)))) (fun _ _ _ _ _ => dts_nil) (fun _ _ _ _ _ => (de_callG g_lies_open (hr.mono (by decide)) (by rfl) (da_cons (de_of 1 (pv 1)) (da_cons (de_of 2 (pv 2)) (da_cons (de_of 0 (pv 0)) da_nil)))))) da_nil)))))
/-! longer_ways -/
abbrev s_longer_ways : Stmt := topS 21
abbrev n_longer_ways : List Str := ["ways", "links", "pairs", "found", "way", "end", "word", "start", "later", "row", "long", "short"]
abbrev p_longer_ways : List Str := ["ways", "links", "pairs"]
theorem sc_longer_ways : FnScope n_longer_ways p_longer_ways (defScope s_longer_ways) := ⟨rfl, rfl, rfl, by decide +kernel, rfl, by decide +kernel, by decide +kernel⟩
def b_longer_ways : Cm := sSeq (sOwn 3 (eNil))
  (sSeq (sFor (iA (eVar 0)) (gT (gsC (gN 4) (gsC (gN 5) (gs0))))
  (sFor (iA (eVar 1)) (gT (gsC (gN 6) (gsC (gN 7) (gsC (gN 8) (gs0)))))
  (sSeq (sSet 9 (eBin addD (eSl (eVar 4) (oSome (eC (.int 1))) oNone) (eTup (eCons (eVar 6) (eNil)))))
  (sIf (eAnd (eBin eqD (eVar 7) (eVar 5)) (eNot (eTru (eCall anyD (eCons (eLc (iA (eVar 2)) (gT (gsC (gN 10) (gsC (gN 11) (gs0)))) (eC (.bl true)) (eBin eqD (eSl (eVar 9) (oSome (eBin subD (eCall lenD (eCons (eVar 9) (eNil))) (eCall lenD (eCons (eVar 10) (eNil))))) oNone) (eVar 10)) [10, 11]) (eNil))))))
  (sApp 3 (eTup (eCons (eBin addD (eVar 4) (eTup (eCons (eVar 6) (eNil)))) (eCons (eVar 8) (eNil)))))
  (sNil)))))
  (sFrz [3] (sRet (eVar 3))))
def f_longer_ways : Fn := fnSem 3 12 b_longer_ways
theorem ok_longer_ways (T : Tx K mg)  {f : Addr} {fd : FuncData} {dv0 : List V} {kw0 : List (Str × V)} (F : FunD K "longer_ways" "longer_ways" (defArgs s_longer_ways) (defBody s_longer_ways) (defScope s_longer_ways) dv0 kw0 f fd) :
    FnOk P w K mg base CX0 1 f fd p_longer_ways (spF K mg 3 f_longer_ways) :=
  fn_okF F sc_longer_ways (fun cdv A outer s H E hr => (dss_cons (ds_own (i := 3) sc_longer_ways.nd rfl (by first | exact Or.inl rfl | exact Or.inr rfl) da_nil)
  (dss_cons (ds_for PassesOwn.never (by rfl) (di_any (de_of 0 (pv 0))) (dg_tup (by rfl) (dgs_cons (dg_of (i := 4) (pg_name (i := 4) sc_longer_ways.nd rfl (by first | exact Or.inl rfl | exact Or.inr rfl))) (dgs_cons (dg_of (i := 5) (pg_name (i := 5) sc_longer_ways.nd rfl (by first | exact Or.inl rfl | exact Or.inr rfl))) dgs_nil)) (gsC_len (gsC_len gs0_len)))
  (dss_one (ds_for PassesOwn.never (by rfl) (di_any (de_of 1 (pv 1))) (dg_tup (by rfl) (dgs_cons (dg_of (i := 6) (pg_name (i := 6) sc_longer_ways.nd rfl (by first | exact Or.inl rfl | exact Or.inr rfl))) (dgs_cons (dg_of (i := 7) (pg_name (i := 7) sc_longer_ways.nd rfl (by first | exact Or.inl rfl | exact Or.inr rfl))) (dgs_cons (dg_of (i := 8) (pg_name (i := 8) sc_longer_ways.nd rfl (by first | exact Or.inl rfl | exact Or.inr rfl))) dgs_nil))) (gsC_len (gsC_len (gsC_len gs0_len))))
  (dss_cons (ds_set (i := 9) sc_longer_ways.nd rfl (by first | exact Or.inl rfl | exact Or.inr rfl) (de_bin op_addX (de_sl (de_of 4 (pv 4)) (do_some de_int) do_none) (de_tup (da_cons (de_of 6 (pv 6)) da_nil))))
  (dss_one (ds_if (DW.pt (dw_and (dt_cmp (op_eqX hr) (de_of 7 (pv 7)) (de_of 5 (pv 5)) (nomark _)) (dw_and1 (dt_not (dt_tru (de_callB (cr_anyX (by rfl)) (by rfl) T.z_any (by decide +kernel) (da_cons (de_lc (own := [("long", 10), ("short", 11)]) (by rfl) sc_longer_ways.nd (di_any (de_of 2 (pv 2))) (blkOk_by (N := n_longer_ways) (sc := (defScope s_longer_ways)) (by decide +kernel)) (by decide) (fun _ _ _ _ _ => (dg_tup (by rfl) (dgs_cons (dg_of (i := 10) (pg_name (i := 10) sc_longer_ways.nd rfl (by first | exact Or.inl rfl | exact Or.inr rfl))) (dgs_cons (dg_of (i := 11) (pg_name (i := 11) sc_longer_ways.nd rfl (by first | exact Or.inl rfl | exact Or.inr rfl))) dgs_nil)) (gsC_len (gsC_len gs0_len)))) (fun _ _ _ _ _ => dts_nil) (fun _ _ _ _ _ => (de_cmp (op_eqX hr) (de_sl (de_of 9 (pv 9)) (do_some (de_bin op_subX (de_callB cr_lenX (by rfl) T.z_len (by decide +kernel) (da_cons (de_of 9 (pv 9)) da_nil)) (de_callB cr_lenX (by rfl) T.z_len (by decide +kernel) (da_cons (de_of 10 (pv 10)) da_nil)))) do_none) (de_of 10 (pv 10)) (nomark _)))) da_nil)))))))
  (dss_one (ds_app (pv 3) (de_tup (da_cons (de_bin op_addX (de_of 4 (pv 4)) (de_tup (da_cons (de_of 6 (pv 6)) da_nil))) (da_cons (de_of 8 (pv 8)) da_nil)))))
  dss_nil))))))
  (dss_one (ds_frz [3] (ds_ret (de_of 3 (pv 3))))))))
/-! plain_from -/
abbrev s_plain_from : Stmt := topS 22
abbrev n_plain_from : List Str := ["kind", "links", "pairs", "layer", "found"]
abbrev p_plain_from : List Str := ["kind", "links", "pairs"]
theorem sc_plain_from : FnScope n_plain_from p_plain_from (defScope s_plain_from) := ⟨rfl, rfl, rfl, by decide +kernel, rfl, by decide +kernel, by decide +kernel⟩
def b_plain_from : Cm := sSeq (sSet 3 (eLst (eCons (eTup (eCons (eTup (eCons (eVar 0) (eNil))) (eCons (eVar 0) (eNil)))) (eNil))))
  (sSeq (sOwn 4 (eNil))
  (sSeq (sWhile 1000000000000000000000000000000 (eAnd (eBin neD (eVar 3) (eLst (eNil))) (eBin leD (eLenV 4) (eC (.int 60))))
  (sSeq (sExt 4 (eVar 3))
  (sSet 3 (eFn (fnN 3 f_longer_ways) (eCons (eVar 3) (eCons (eVar 1) (eCons (eVar 2) (eNil)))) []))))
  (sFrz [4] (sRet (eVar 4)))))
def f_plain_from : Fn := fnSem 3 5 b_plain_from
theorem ok_plain_from (T : Tx K mg) (g_longer_ways : FnAt P w K mg base 1 "longer_ways" 3 f_longer_ways) {f : Addr} {fd : FuncData} {dv0 : List V} {kw0 : List (Str × V)} (F : FunD K "plain_from" "plain_from" (defArgs s_plain_from) (defBody s_plain_from) (defScope s_plain_from) dv0 kw0 f fd) :
    FnOk P w K mg base CX0 2 f fd p_plain_from (spF K mg 3 f_plain_from) :=
  fn_okF F sc_plain_from (fun cdv A outer s H E hr => (dss_cons (ds_set (i := 3) sc_plain_from.nd rfl (by first | exact Or.inl rfl | exact Or.inr rfl) (de_lst (da_cons (de_tup (da_cons (de_tup (da_cons (de_of 0 (pv 0)) da_nil)) (da_cons (de_of 0 (pv 0)) da_nil))) da_nil)))
  (dss_cons (ds_own (i := 4) sc_plain_from.nd rfl (by first | exact Or.inl rfl | exact Or.inr rfl) da_nil)
  (dss_cons (ds_while 1000000000000000000000000000000 PassesOwn.never (DW.pt (dw_and (dt_cmp (op_neX hr) (de_of 3 (pv 3)) (de_lst da_nil) (nomark _)) (dw_and1 (dt_cmp (op_leX hr) (de_lenV (by rfl) T.z_len (pv 4)) (de_gint (by rfl) T.c_MOST_WAYS) (nomark _)))))
  (dss_cons (ds_ext (pv 4) (de_of 3 (pv 3)))
  (dss_one (ds_set (i := 3) sc_plain_from.nd rfl (by first | exact Or.inl rfl | exact Or.inr rfl) (de_callG g_longer_ways (hr.mono (by decide)) (by rfl) (da_cons (de_of 3 (pv 3)) (da_cons (de_of 1 (pv 1)) (da_cons (de_of 2 (pv 2)) da_nil))))))))
  (dss_one (ds_frz [4] (ds_ret (de_of 4 (pv 4)))))))))
/-! why_no_shape -/
abbrev s_why_no_shape : Stmt := topS 23
abbrev n_why_no_shape : List Str := ["kinds", "links", "rules", "ends", "word", "start", "end", "rule", "places", "at", "link", "long", "short", "pairs", "kind"]
abbrev p_why_no_shape : List Str := ["kinds", "links", "rules"]
theorem sc_why_no_shape : FnScope n_why_no_shape p_why_no_shape (defScope s_why_no_shape) := ⟨rfl, rfl, rfl, by decide +kernel, rfl, by decide +kernel, by decide +kernel⟩
def b_why_no_shape : Cm := sSeq (sIf (eNot (eTru (eFn (fnN 3 f_is_made) (eCons (eVar 0) (eCons (eVar 1) (eCons (eVar 2) (eNil)))) [])))
  (sRet (eC (.str "form")))
  (sNil))
  (sSeq (sIf (eNot (eTru (eFn (fnN 2 f_is_named) (eCons (eVar 0) (eCons (eVar 1) (eNil))) [])))
  (sRet (eC (.str "names")))
  (sNil))
  (sSeq (sSet 3 (eDc (iA (eVar 1)) (gT (gsC (gN 4) (gsC (gN 5) (gsC (gN 6) (gs0))))) (eC (.bl true)) (eVar 4) (eTup (eCons (eVar 5) (eCons (eVar 6) (eNil)))) [4, 5, 6]))
  (sSeq (sIf (eNot (eTru (eCall allD (eCons (eLc (iA (eVar 2)) (gN 7) (eC (.bl true)) (eFn (fnN 3 f_are_sides) (eCons (eVar 0) (eCons (eVar 3) (eCons (eVar 7) (eNil)))) []) [7]) (eNil)))))
  (sRet (eC (.str "ends")))
  (sNil))
  (sSeq (sSet 8 (eDc (iE (eCons (eVar 1) (eNil))) (gT (gsC (gN 9) (gsC (gN 10) (gs0)))) (eC (.bl true)) (eBin ixD (eVar 10) (eC (.int 0))) (eVar 9) [9, 10]))
  (sSeq (sIf (eNot (eTru (eCall allD (eCons (eLc (iA (eVar 2)) (gT (gsC (gN 11) (gsC (gN 12) (gs0)))) (eC (.bl true)) (eBin gtD (eFn (fnN 2 f_rank_of) (eCons (eVar 8) (eCons (eSl (eVar 11) (oSome (eC (.int 1))) oNone) (eNil))) []) (eFn (fnN 2 f_rank_of) (eCons (eVar 8) (eCons (eSl (eVar 12) (oSome (eC (.int 1))) oNone) (eNil))) [])) [11, 12]) (eNil)))))
  (sRet (eC (.str "order")))
  (sNil))
  (sSeq (sSet 13 (eLc (iA (eVar 2)) (gT (gsC (gN 11) (gsC (gN 12) (gs0)))) (eC (.bl true)) (eTup (eCons (eSl (eVar 11) (oSome (eC (.int 1))) oNone) (eCons (eSl (eVar 12) (oSome (eC (.int 1))) oNone) (eNil)))) [11, 12]))
  (sSeq (sIf (eTru (eFn (fnN 1 f_is_open) (eCons (eVar 13) (eNil)) []))
  (sRet (eC (.str "open")))
  (sNil))
  (sRet (eIf (eBin gtD (eCall sumD (eCons (eLc (iA (eVar 0)) (gN 14) (eC (.bl true)) (eCall lenD (eCons (eFn (fnN 3 f_plain_from) (eCons (eVar 14) (eCons (eVar 1) (eCons (eVar 13) (eNil)))) []) (eNil))) [14]) (eNil))) (eC (.int 60))) (eC (.str "many")) (eC .non))))))))))
def f_why_no_shape : Fn := fnSem 3 15 b_why_no_shape
theorem ok_why_no_shape (T : Tx K mg) (g_are_sides : FnAt P w K mg base 2 "are_sides" 3 f_are_sides) (g_is_made : FnAt P w K mg base 4 "is_made" 3 f_is_made) (g_is_named : FnAt P w K mg base 1 "is_named" 2 f_is_named) (g_is_open : FnAt P w K mg base 4 "is_open" 1 f_is_open) (g_plain_from : FnAt P w K mg base 2 "plain_from" 3 f_plain_from) (g_rank_of : FnAt P w K mg base 1 "rank_of" 2 f_rank_of) {f : Addr} {fd : FuncData} {dv0 : List V} {kw0 : List (Str × V)} (F : FunD K "why_no_shape" "why_no_shape" (defArgs s_why_no_shape) (defBody s_why_no_shape) (defScope s_why_no_shape) dv0 kw0 f fd) :
    FnOk P w K mg base CX0 5 f fd p_why_no_shape (spF K mg 3 f_why_no_shape) :=
  fn_okF F sc_why_no_shape (fun cdv A outer s H E hr => (dss_cons (ds_if (dt_not (dt_tru (de_callG g_is_made (hr.mono (by decide)) (by rfl) (da_cons (de_of 0 (pv 0)) (da_cons (de_of 1 (pv 1)) (da_cons (de_of 2 (pv 2)) da_nil))))))
  (dss_one (ds_ret de_str))
  dss_nil)
  (dss_cons (ds_if (dt_not (dt_tru (de_callG g_is_named (hr.mono (by decide)) (by rfl) (da_cons (de_of 0 (pv 0)) (da_cons (de_of 1 (pv 1)) da_nil)))))
  (dss_one (ds_ret de_str))
  dss_nil)
  (dss_cons (ds_set (i := 3) sc_why_no_shape.nd rfl (by first | exact Or.inl rfl | exact Or.inr rfl) (de_dc (own := [("word", 4), ("start", 5), ("end", 6)]) (by rfl) sc_why_no_shape.nd (di_any (de_of 1 (pv 1))) (blkOk_by (N := n_why_no_shape) (sc := (defScope s_why_no_shape)) (by decide +kernel)) (by decide) (fun _ _ _ _ _ => (dg_tup (by rfl) (dgs_cons (dg_of (i := 4) (pg_name (i := 4) sc_why_no_shape.nd rfl (by first | exact Or.inl rfl | exact Or.inr rfl))) (dgs_cons (dg_of (i := 5) (pg_name (i := 5) sc_why_no_shape.nd rfl (by first | exact Or.inl rfl | exact Or.inr rfl))) (dgs_cons (dg_of (i := 6) (pg_name (i := 6) sc_why_no_shape.nd rfl (by first | exact Or.inl rfl | exact Or.inr rfl))) dgs_nil))) (gsC_len (gsC_len (gsC_len gs0_len))))) (fun _ _ _ _ _ => dts_nil) (fun _ _ _ _ _ => (de_of 4 (pv 4))) (fun _ _ _ _ _ => (de_tup (da_cons (de_of 5 (pv 5)) (da_cons (de_of 6 (pv 6)) da_nil))))))
  (dss_cons (ds_if (dt_not (dt_tru (de_callB (cr_allX (by rfl)) (by rfl) T.z_all (by decide +kernel) (da_cons (de_lc (own := [("rule", 7)]) (by rfl) sc_why_no_shape.nd (di_any (de_of 2 (pv 2))) (blkOk_by (N := n_why_no_shape) (sc := (defScope s_why_no_shape)) (by decide +kernel)) (by decide) (fun _ _ _ _ _ => (dg_of (i := 7) (pg_name (i := 7) sc_why_no_shape.nd rfl (by first | exact Or.inl rfl | exact Or.inr rfl)))) (fun _ _ _ _ _ => dts_nil) (fun _ _ _ _ _ => (de_callG g_are_sides (hr.mono (by decide)) (by rfl) (da_cons (de_of 0 (pv 0)) (da_cons (de_of 3 (pv 3)) (da_cons (de_of 7 (pv 7)) da_nil)))))) da_nil))))
  (dss_one (ds_ret de_str))
  dss_nil)
  (dss_cons (ds_set (i := 8) sc_why_no_shape.nd rfl (by first | exact Or.inl rfl | exact Or.inr rfl) (de_dc (own := [("at", 9), ("link", 10)]) (by rfl) sc_why_no_shape.nd (di_enum (by rfl) T.z_enumerate (da_cons (de_of 1 (pv 1)) da_nil)) (blkOk_by (N := n_why_no_shape) (sc := (defScope s_why_no_shape)) (by decide +kernel)) (by decide) (fun _ _ _ _ _ => (dg_tup (by rfl) (dgs_cons (dg_of (i := 9) (pg_name (i := 9) sc_why_no_shape.nd rfl (by first | exact Or.inl rfl | exact Or.inr rfl))) (dgs_cons (dg_of (i := 10) (pg_name (i := 10) sc_why_no_shape.nd rfl (by first | exact Or.inl rfl | exact Or.inr rfl))) dgs_nil)) (gsC_len (gsC_len gs0_len)))) (fun _ _ _ _ _ => dts_nil) (fun _ _ _ _ _ => (de_ix hr (de_of 10 (pv 10)) de_int)) (fun _ _ _ _ _ => (de_of 9 (pv 9)))))
  (dss_cons (ds_if (dt_not (dt_tru (de_callB (cr_allX (by rfl)) (by rfl) T.z_all (by decide +kernel) (da_cons (de_lc (own := [("long", 11), ("short", 12)]) (by rfl) sc_why_no_shape.nd (di_any (de_of 2 (pv 2))) (blkOk_by (N := n_why_no_shape) (sc := (defScope s_why_no_shape)) (by decide +kernel)) (by decide) (fun _ _ _ _ _ => (dg_tup (by rfl) (dgs_cons (dg_of (i := 11) (pg_name (i := 11) sc_why_no_shape.nd rfl (by first | exact Or.inl rfl | exact Or.inr rfl))) (dgs_cons (dg_of (i := 12) (pg_name (i := 12) sc_why_no_shape.nd rfl (by first | exact Or.inl rfl | exact Or.inr rfl))) dgs_nil)) (gsC_len (gsC_len gs0_len)))) (fun _ _ _ _ _ => dts_nil) (fun _ _ _ _ _ => (de_cmp (op_gtX hr) (de_callG g_rank_of (hr.mono (by decide)) (by rfl) (da_cons (de_of 8 (pv 8)) (da_cons (de_sl (de_of 11 (pv 11)) (do_some de_int) do_none) da_nil))) (de_callG g_rank_of (hr.mono (by decide)) (by rfl) (da_cons (de_of 8 (pv 8)) (da_cons (de_sl (de_of 12 (pv 12)) (do_some de_int) do_none) da_nil))) (nomark _)))) da_nil))))
  (dss_one (ds_ret de_str))
  dss_nil)
  (dss_cons (ds_set (i := 13) sc_why_no_shape.nd rfl (by first | exact Or.inl rfl | exact Or.inr rfl) (de_lc (own := [("long", 11), ("short", 12)]) (by rfl) sc_why_no_shape.nd (di_any (de_of 2 (pv 2))) (blkOk_by (N := n_why_no_shape) (sc := (defScope s_why_no_shape)) (by decide +kernel)) (by decide) (fun _ _ _ _ _ => (dg_tup (by rfl) (dgs_cons (dg_of (i := 11) (pg_name (i := 11) sc_why_no_shape.nd rfl (by first | exact Or.inl rfl | exact Or.inr rfl))) (dgs_cons (dg_of (i := 12) (pg_name (i := 12) sc_why_no_shape.nd rfl (by first | exact Or.inl rfl | exact Or.inr rfl))) dgs_nil)) (gsC_len (gsC_len gs0_len)))) (fun _ _ _ _ _ => dts_nil) (fun _ _ _ _ _ => (de_tup (da_cons (de_sl (de_of 11 (pv 11)) (do_some de_int) do_none) (da_cons (de_sl (de_of 12 (pv 12)) (do_some de_int) do_none) da_nil))))))
  (dss_cons (ds_if (dt_tru (de_callG g_is_open (hr.mono (by decide)) (by rfl) (da_cons (de_of 13 (pv 13)) da_nil)))
  (dss_one (ds_ret de_str))
  dss_nil)
  (dss_one (ds_ret (de_ife (dt_cmp (op_gtX hr) (de_callB (cr_sumX (by rfl)) (by rfl) T.z_sum (by decide +kernel) (da_cons (de_lc (own := [("kind", 14)]) (by rfl) sc_why_no_shape.nd (di_any (de_of 0 (pv 0))) (blkOk_by (N := n_why_no_shape) (sc := (defScope s_why_no_shape)) (by decide +kernel)) (by decide) (fun _ _ _ _ _ => (dg_of (i := 14) (pg_name (i := 14) sc_why_no_shape.nd rfl (by first | exact Or.inl rfl | exact Or.inr rfl)))) (fun _ _ _ _ _ => dts_nil) (fun _ _ _ _ _ => (de_callB cr_lenX (by rfl) T.z_len (by decide +kernel) (da_cons (de_callG g_plain_from (hr.mono (by decide)) (by rfl) (da_cons (de_of 14 (pv 14)) (da_cons (de_of 1 (pv 1)) (da_cons (de_of 13 (pv 13)) da_nil)))) da_nil)))) da_nil)) (de_gint (by rfl) T.c_MOST_WAYS) (nomark _)) de_str de_non))))))))))))
/-! Shape.__init__ -/
abbrev s_Shape_init : Stmt := inClass (topS 24) 0
abbrev n_Shape_init : List Str := ["self", "kinds", "links", "rules", "fault", "word", "start", "end", "long", "short", "kind"]
abbrev p_Shape_init : List Str := ["self", "kinds", "links", "rules"]
theorem sc_Shape_init : FnScope n_Shape_init p_Shape_init (defScope s_Shape_init) := ⟨rfl, rfl, rfl, by decide +kernel, rfl, by decide +kernel, by decide +kernel⟩
def b_Shape_init : Cm := sSeq (sSet 4 (eFn (fnN 3 f_why_no_shape) (eCons (eVar 1) (eCons (eVar 2) (eCons (eVar 3) (eNil)))) []))
  (sSeq (sIf (eBin isNotD (eVar 4) (eC .non))
  (sBad)
  (sNil))
  (sSeq (sFldC "Shape" 0 "kinds" (eVar 1))
  (sSeq (sFldC "Shape" 0 "links" (eVar 2))
  (sSeq (sFldC "Shape" 0 "rules" (eVar 3))
  (sSeq (sFldC "Shape" 0 "ends" (eDc (iA (eVar 2)) (gT (gsC (gN 5) (gsC (gN 6) (gsC (gN 7) (gs0))))) (eC (.bl true)) (eVar 5) (eTup (eCons (eVar 6) (eCons (eVar 7) (eNil)))) [5, 6, 7]))
  (sSeq (sFldC "Shape" 0 "pairs" (eLc (iA (eVar 3)) (gT (gsC (gN 8) (gsC (gN 9) (gs0)))) (eC (.bl true)) (eTup (eCons (eSl (eVar 8) (oSome (eC (.int 1))) oNone) (eCons (eSl (eVar 9) (oSome (eC (.int 1))) oNone) (eNil)))) [8, 9]))
  (sFldC "Shape" 0 "plains" (eDc (iA (eVar 1)) (gN 10) (eC (.bl true)) (eVar 10) (eFn (fnN 3 f_plain_from) (eCons (eVar 10) (eCons (eVar 2) (eCons (eSelfC "Shape" 0 "pairs") (eNil)))) []) [10]))))))))
def f_Shape_init : Ini := initSem "Shape" 4 11 b_Shape_init
theorem ok_Shape_init (T : Tx K mg) (g_plain_from : FnAt P w K mg base 2 "plain_from" 3 f_plain_from) (g_why_no_shape : FnAt P w K mg base 5 "why_no_shape" 3 f_why_no_shape) {f : Addr} {fd : FuncData} {dv0 : List V} {kw0 : List (Str × V)} (F : FunD K "__init__" "Shape.__init__" (defArgs s_Shape_init) (defBody s_Shape_init) (defScope s_Shape_init) dv0 kw0 f fd) :
    FnOk P w K mg base CX0 6 f fd p_Shape_init (spI K mg "Shape" 4 f_Shape_init) :=
  init_okF F sc_Shape_init (by decide) (fun cdv A outer s H E hr => (dss_cons (ds_set (i := 4) sc_Shape_init.nd rfl (by first | exact Or.inl rfl | exact Or.inr rfl) (de_callG g_why_no_shape (hr.mono (by decide)) (by rfl) (da_cons (de_of 1 (pv 1)) (da_cons (de_of 2 (pv 2)) (da_cons (de_of 3 (pv 3)) da_nil)))))
  (dss_cons (ds_if (dt_cmp op_isNotX (de_of 4 (pv 4)) de_non (nomark _))
  (dss_one ds_bad)
  dss_nil)
  (dss_cons (ds_fld T.b_Shape_kinds (pv 0) (de_of 1 (pv 1)))
  (dss_cons (ds_fld T.b_Shape_links (pv 0) (de_of 2 (pv 2)))
  (dss_cons (ds_fld T.b_Shape_rules (pv 0) (de_of 3 (pv 3)))
  (dss_cons (ds_fld T.b_Shape_ends (pv 0) (de_dc (own := [("word", 5), ("start", 6), ("end", 7)]) (by rfl) sc_Shape_init.nd (di_any (de_of 2 (pv 2))) (blkOk_by (N := n_Shape_init) (sc := (defScope s_Shape_init)) (by decide +kernel)) (by decide) (fun _ _ _ _ _ => (dg_tup (by rfl) (dgs_cons (dg_of (i := 5) (pg_name (i := 5) sc_Shape_init.nd rfl (by first | exact Or.inl rfl | exact Or.inr rfl))) (dgs_cons (dg_of (i := 6) (pg_name (i := 6) sc_Shape_init.nd rfl (by first | exact Or.inl rfl | exact Or.inr rfl))) (dgs_cons (dg_of (i := 7) (pg_name (i := 7) sc_Shape_init.nd rfl (by first | exact Or.inl rfl | exact Or.inr rfl))) dgs_nil))) (gsC_len (gsC_len (gsC_len gs0_len))))) (fun _ _ _ _ _ => dts_nil) (fun _ _ _ _ _ => (de_of 5 (pv 5))) (fun _ _ _ _ _ => (de_tup (da_cons (de_of 6 (pv 6)) (da_cons (de_of 7 (pv 7)) da_nil))))))
  (dss_cons (ds_fld T.b_Shape_pairs (pv 0) (de_lc (own := [("long", 8), ("short", 9)]) (by rfl) sc_Shape_init.nd (di_any (de_of 3 (pv 3))) (blkOk_by (N := n_Shape_init) (sc := (defScope s_Shape_init)) (by decide +kernel)) (by decide) (fun _ _ _ _ _ => (dg_tup (by rfl) (dgs_cons (dg_of (i := 8) (pg_name (i := 8) sc_Shape_init.nd rfl (by first | exact Or.inl rfl | exact Or.inr rfl))) (dgs_cons (dg_of (i := 9) (pg_name (i := 9) sc_Shape_init.nd rfl (by first | exact Or.inl rfl | exact Or.inr rfl))) dgs_nil)) (gsC_len (gsC_len gs0_len)))) (fun _ _ _ _ _ => dts_nil) (fun _ _ _ _ _ => (de_tup (da_cons (de_sl (de_of 8 (pv 8)) (do_some de_int) do_none) (da_cons (de_sl (de_of 9 (pv 9)) (do_some de_int) do_none) da_nil))))))
  (dss_one (ds_fld T.b_Shape_plains (pv 0) (de_dc (own := [("kind", 10)]) (by rfl) sc_Shape_init.nd (di_any (de_of 1 (pv 1))) (blkOk_by (N := n_Shape_init) (sc := (defScope s_Shape_init)) (by decide +kernel)) (by decide) (fun _ _ _ _ _ => (dg_of (i := 10) (pg_name (i := 10) sc_Shape_init.nd rfl (by first | exact Or.inl rfl | exact Or.inr rfl)))) (fun _ _ _ _ _ => dts_nil) (fun _ _ _ _ _ => (de_of 10 (pv 10))) (fun _ _ _ _ _ => (de_callG g_plain_from (hr.mono (by decide)) (by rfl) (da_cons (de_of 10 (pv 10)) (da_cons (de_of 2 (pv 2)) (da_cons (de_self T.b_Shape_pairs (pv 0)) da_nil))))))))))))))))
/-! Shape.__eq__ -/
abbrev s_Shape_eq : Stmt := inClass (topS 24) 1
abbrev n_Shape_eq : List Str := ["self", "other"]
abbrev p_Shape_eq : List Str := ["self", "other"]
theorem sc_Shape_eq : FnScope n_Shape_eq p_Shape_eq (defScope s_Shape_eq) := ⟨rfl, rfl, rfl, by decide +kernel, rfl, by decide +kernel, by decide +kernel⟩
def b_Shape_eq : Cm := sSeq (sIf (eNot (eTru (eIsiO "Shape" (eVar 1))))
  (sRet (eC (.bl false)))
  (sNil))
  (sRet (eAnd (eBin eqD (eFld "Shape" "kinds" (eVar 0)) (eFld "Shape" "kinds" (eVar 1))) (eAnd (eBin eqD (eFld "Shape" "links" (eVar 0)) (eFld "Shape" "links" (eVar 1))) (eBin eqD (eFld "Shape" "rules" (eVar 0)) (eFld "Shape" "rules" (eVar 1))))))
def f_Shape_eq : Fn := fnSem 2 2 b_Shape_eq
theorem ok_Shape_eq (T : Tx K mg) (gi_Shape : IsAt K mg "Shape") {f : Addr} {fd : FuncData} {dv0 : List V} {kw0 : List (Str × V)} (F : FunD K "__eq__" "Shape.__eq__" (defArgs s_Shape_eq) (defBody s_Shape_eq) (defScope s_Shape_eq) dv0 kw0 f fd) :
    FnOk P w K mg base CX0 1 f fd p_Shape_eq (spF K mg 2 f_Shape_eq) :=
  fn_okF F sc_Shape_eq (fun cdv A outer s H E hr => (dss_cons (ds_if (dt_not (dt_tru (de_isiO gi_Shape (by rfl) T.z_isinstance (de_of 1 (pv 1)) (by rfl))))
  (dss_one (ds_ret de_bl))
  dss_nil)
  (dss_one (ds_ret (de_and (de_cmp (op_eqX hr) (de_fld T.a_Shape_kinds (de_of 0 (pv 0))) (de_fld T.a_Shape_kinds (de_of 1 (pv 1))) (nomark _)) (de_and (de_cmp (op_eqX hr) (de_fld T.a_Shape_links (de_of 0 (pv 0))) (de_fld T.a_Shape_links (de_of 1 (pv 1))) (nomark _)) (de_one (de_cmp (op_eqX hr) (de_fld T.a_Shape_rules (de_of 0 (pv 0))) (de_fld T.a_Shape_rules (de_of 1 (pv 1))) (nomark _)))))))))
theorem pure_Shape_eq : ∀ x y cs d cs', f_Shape_eq [x, y] cs = .ok d cs' → cs' = cs := fun x y => pur_fn (by unfold b_Shape_eq; repeat (first | exact purc_nil | exact pur_c _ | exact pur_var _ | apply purc_seq | apply purc_if | apply purc_ret | apply pur_not | apply pur_tru | apply pur_isiO | apply pur_and | apply pur_or | apply pur_bin | apply pur_fld)) [x, y]
/-! Shape.__repr__ -/
abbrev s_Shape_repr : Stmt := inClass (topS 24) 2
abbrev n_Shape_repr : List Str := ["self"]
abbrev p_Shape_repr : List Str := ["self"]
theorem sc_Shape_repr : FnScope n_Shape_repr p_Shape_repr (defScope s_Shape_repr) := ⟨rfl, rfl, rfl, by decide +kernel, rfl, by decide +kernel, by decide +kernel⟩
def b_Shape_repr : Cm := sRet (eJn [eC (.str "Shape("), eFmtR (eFld "Shape" "kinds" (eVar 0)), eC (.str ", "), eFmtR (eFld "Shape" "links" (eVar 0)), eC (.str ", "), eFmtR (eFld "Shape" "rules" (eVar 0)), eC (.str ")")])
def f_Shape_repr : Fn := fnSem 1 1 b_Shape_repr
theorem ok_Shape_repr (T : Tx K mg)  {f : Addr} {fd : FuncData} {dv0 : List V} {kw0 : List (Str × V)} (F : FunD K "__repr__" "Shape.__repr__" (defArgs s_Shape_repr) (defBody s_Shape_repr) (defScope s_Shape_repr) dv0 kw0 f fd) :
    FnC P w K mg base 1 f fd p_Shape_repr (spF K mg 1 f_Shape_repr) :=
  fn_okC F sc_Shape_repr (fun cdv A outer s H E hr hc => (dss_one (ds_ret (de_joined (DJ.cons de_str (DJ.cons (de_fmtR hr hc (de_fld T.a_Shape_kinds (de_of 0 (pv 0)))) (DJ.cons de_str (DJ.cons (de_fmtR hr hc (de_fld T.a_Shape_links (de_of 0 (pv 0)))) (DJ.cons de_str (DJ.cons (de_fmtR hr hc (de_fld T.a_Shape_rules (de_of 0 (pv 0)))) (DJ.cons de_str DJ.nil)))))))))))
/-! _law_cell_at -/
abbrev s_law_cell_at : Stmt := topS 26
abbrev n_law_cell_at : List Str := ["_law_script", "_law_k"]
abbrev p_law_cell_at : List Str := ["_law_script", "_law_k"]
theorem sc_law_cell_at : FnScope n_law_cell_at p_law_cell_at (defScope s_law_cell_at) := ⟨rfl, rfl, rfl, by decide +kernel, rfl, by decide +kernel, by decide +kernel⟩
def b_law_cell_at : Cm := sSeq (sIf (eBin ltD (eVar 1) (eCall lenD (eCons (eVar 0) (eNil))))
  (sRet (eBin ixD (eVar 0) (eVar 1)))
  (sNil))
  (sRet (eC (.int 0)))
def f_law_cell_at : Fn := fnSem 2 2 b_law_cell_at
theorem ok_law_cell_at (T : Tx K mg)  {f : Addr} {fd : FuncData} {dv0 : List V} {kw0 : List (Str × V)} (F : FunD K "_law_cell_at" "_law_cell_at" (defArgs s_law_cell_at) (defBody s_law_cell_at) (defScope s_law_cell_at) dv0 kw0 f fd) :
    FnOk P w K mg base CX0 1 f fd p_law_cell_at (spF K mg 2 f_law_cell_at) :=
  fn_okF F sc_law_cell_at (fun cdv A outer s H E hr => (dss_cons (ds_if (dt_cmp (op_ltX hr) (de_of 1 (pv 1)) (de_callB cr_lenX (by rfl) T.z_len (by decide +kernel) (da_cons (de_of 0 (pv 0)) da_nil)) (nomark _))
  (dss_one (ds_ret (de_ix hr (de_of 0 (pv 0)) (de_of 1 (pv 1)))))
  dss_nil)
  (dss_one (ds_ret de_int))))
/-! _law_tape -/
abbrev s_law_tape : Stmt := topS 27
abbrev n_law_tape : List Str := ["_law_script", "_law_k", "_law_cell", "_law_p", "_law_one", "_law_found", "_law_turn"]
abbrev p_law_tape : List Str := ["_law_script", "_law_k"]
theorem sc_law_tape : FnScope n_law_tape p_law_tape (defScope s_law_tape) := ⟨rfl, rfl, rfl, by decide +kernel, rfl, by decide +kernel, by decide +kernel⟩
def b_law_tape : Cm := sSeq (sSet 2 (eFn (fnN 2 f_law_cell_at) (eCons (eVar 0) (eCons (eVar 1) (eNil))) []))
  (sSeq (sIf (eBin eqD (eVar 2) (eC (.int 0)))
  (sRet (eNew (eCons (eC (.int 0)) (eNil))))
  (sNil))
  (sSeq (sIf (eBin geD (eVar 2) (eBin powD (eC (.int 10)) (eC (.int 18))))
  (sRet (eNew (eCons (eBin subD (eVar 2) (eBin powD (eC (.int 10)) (eC (.int 18)))) (eNil))))
  (sNil))
  (sSeq (sSet 3 (eC (.int 2305843009213693951)))
  (sSeq (sSet 4 (eBin modD (eBin addD (eBin addD (eBin mulD (eVar 2) (eC (.int 48271))) (eBin mulD (eC (.int 40692)) (eVar 1))) (eC (.int 31))) (eVar 3)))
  (sSeq (sSet 5 (eVar 4))
  (sSeq (sFor (iR1 (eCons (eC (.int 24)) (eNil))) (gN 6)
  (sSeq (sSet 4 (eBin modD (eBin addD (eBin addD (eBin mulD (eVar 4) (eVar 4)) (eBin mulD (eBin mulD (eC (.int 69621)) (eBin addD (eVar 6) (eC (.int 1)))) (eBin addD (eVar 1) (eC (.int 1))))) (eVar 2)) (eVar 3)))
  (sSet 5 (eBin addD (eBin mulD (eVar 5) (eVar 3)) (eVar 4)))))
  (sRet (eNew (eCons (eVar 5) (eNil))))))))))
def f_law_tape : Fn := fnSem 2 7 b_law_tape
theorem ok_law_tape (T : Tx K mg) (g_law_cell_at : FnAt P w K mg base 1 "_law_cell_at" 2 f_law_cell_at) {f : Addr} {fd : FuncData} {dv0 : List V} {kw0 : List (Str × V)} (F : FunD K "_law_tape" "_law_tape" (defArgs s_law_tape) (defBody s_law_tape) (defScope s_law_tape) dv0 kw0 f fd) :
    FnOk P w K mg base CX0 2 f fd p_law_tape (spF K mg 2 f_law_tape) :=
  fn_okF F sc_law_tape (fun cdv A outer s H E hr => (dss_cons (ds_set (i := 2) sc_law_tape.nd rfl (by first | exact Or.inl rfl | exact Or.inr rfl) (de_callG g_law_cell_at (hr.mono (by decide)) (by rfl) (da_cons (de_of 0 (pv 0)) (da_cons (de_of 1 (pv 1)) da_nil))))
  (dss_cons (ds_if (dt_cmp (op_eqX hr) (de_of 2 (pv 2)) de_int (nomark _))
  (dss_one (ds_ret (de_new (da_cons de_int da_nil))))
  dss_nil)
  (dss_cons (ds_if (dt_cmp (op_geX hr) (de_of 2 (pv 2)) (de_bin op_powX de_int de_int) (nomark _))
  (dss_one (ds_ret (de_new (da_cons (de_bin op_subX (de_of 2 (pv 2)) (de_bin op_powX de_int de_int)) da_nil))))
  dss_nil)
  (dss_cons (ds_set (i := 3) sc_law_tape.nd rfl (by first | exact Or.inl rfl | exact Or.inr rfl) de_int)
  (dss_cons (ds_set (i := 4) sc_law_tape.nd rfl (by first | exact Or.inl rfl | exact Or.inr rfl) (de_bin op_modX (de_bin op_addX (de_bin op_addX (de_bin op_mulX (de_of 2 (pv 2)) de_int) (de_bin op_mulX de_int (de_of 1 (pv 1)))) de_int) (de_of 3 (pv 3))))
  (dss_cons (ds_set (i := 5) sc_law_tape.nd rfl (by first | exact Or.inl rfl | exact Or.inr rfl) (de_of 4 (pv 4)))
  (dss_cons (ds_for PassesOwn.never (by rfl) (di_rng1 (by rfl) T.z_range (da_cons de_int da_nil)) (dg_of (i := 6) (pg_name (i := 6) sc_law_tape.nd rfl (by first | exact Or.inl rfl | exact Or.inr rfl)))
  (dss_cons (ds_set (i := 4) sc_law_tape.nd rfl (by first | exact Or.inl rfl | exact Or.inr rfl) (de_bin op_modX (de_bin op_addX (de_bin op_addX (de_bin op_mulX (de_of 4 (pv 4)) (de_of 4 (pv 4))) (de_bin op_mulX (de_bin op_mulX de_int (de_bin op_addX (de_of 6 (pv 6)) de_int)) (de_bin op_addX (de_of 1 (pv 1)) de_int))) (de_of 2 (pv 2))) (de_of 3 (pv 3))))
  (dss_one (ds_set (i := 5) sc_law_tape.nd rfl (by first | exact Or.inl rfl | exact Or.inr rfl) (de_bin op_addX (de_bin op_mulX (de_of 5 (pv 5)) (de_of 3 (pv 3))) (de_of 4 (pv 4)))))))
  (dss_one (ds_ret (de_new (da_cons (de_of 5 (pv 5)) da_nil))))))))))))
/-! _law_digit -/
abbrev s_law_digit : Stmt := topS 28
abbrev n_law_digit : List Str := ["_law_tape_here", "_law_total", "_law_found"]
abbrev p_law_digit : List Str := ["_law_tape_here", "_law_total"]
theorem sc_law_digit : FnScope n_law_digit p_law_digit (defScope s_law_digit) := ⟨rfl, rfl, rfl, by decide +kernel, rfl, by decide +kernel, by decide +kernel⟩
def b_law_digit : Cm := sSeq (sSet 2 (eBin modD (eBin ixD (eVar 0) (eC (.int 0))) (eVar 1)))
  (sSeq (sCell (eVar 0) (eC (.int 0)) (eBin fdivD (eBin ixD (eVar 0) (eC (.int 0))) (eVar 1)))
  (sRet (eVar 2)))
def f_law_digit : Fn := fnSem 2 3 b_law_digit
theorem ok_law_digit (T : Tx K mg)  {f : Addr} {fd : FuncData} {dv0 : List V} {kw0 : List (Str × V)} (F : FunD K "_law_digit" "_law_digit" (defArgs s_law_digit) (defBody s_law_digit) (defScope s_law_digit) dv0 kw0 f fd) :
    FnOk P w K mg base CX0 1 f fd p_law_digit (spF K mg 2 f_law_digit) :=
  fn_okF F sc_law_digit (fun cdv A outer s H E hr => (dss_cons (ds_set (i := 2) sc_law_digit.nd rfl (by first | exact Or.inl rfl | exact Or.inr rfl) (de_bin op_modX (de_ix hr (de_of 0 (pv 0)) de_int) (de_of 1 (pv 1))))
  (dss_cons (ds_cell (de_of 0 (pv 0)) de_int (de_bin op_fdivX (de_ix hr (de_of 0 (pv 0)) de_int) (de_of 1 (pv 1))))
  (dss_one (ds_ret (de_of 2 (pv 2)))))))
/-! _law_gallery -/
abbrev s_law_gallery : Stmt := topS 29
abbrev n_law_gallery : List Str := ["_law_tape_here", "_law_option", "_law_p", "_law_q", "_law_turns", "_law_twice", "_law_loops", "_law_two", "_law_three", "_law_some", "_law_boss", "_law_rests", "_law_square", "_law_once", "_law_stay", "_law_six"]
abbrev p_law_gallery : List Str := ["_law_tape_here"]
theorem sc_law_gallery : FnScope n_law_gallery p_law_gallery (defScope s_law_gallery) := ⟨rfl, rfl, rfl, by decide +kernel, rfl, by decide +kernel, by decide +kernel⟩
def b_law_gallery : Cm := sSeq (sSet 1 (eFn (fnN 2 f_law_digit) (eCons (eVar 0) (eCons (eC (.int 17)) (eNil))) []))
  (sSeq (sPar 2 3 (eCons (eBin addD (eC (.int 2)) (eFn (fnN 2 f_law_digit) (eCons (eVar 0) (eCons (eC (.int 4)) (eNil))) [])) (eCons (eBin addD (eC (.int 2)) (eFn (fnN 2 f_law_digit) (eCons (eVar 0) (eCons (eC (.int 3)) (eNil))) [])) (eNil))))
  (sSeq (sSet 4 (eTup (eCons (eBin addD (eTup (eCons (eC (.str "A")) (eNil))) (eBin mulD (eTup (eCons (eC (.str "a")) (eNil))) (eVar 2))) (eCons (eTup (eCons (eC (.str "A")) (eNil))) (eNil)))))
  (sSeq (sSet 5 (eTup (eCons (eBin addD (eTup (eCons (eC (.str "A")) (eNil))) (eBin mulD (eTup (eCons (eC (.str "b")) (eNil))) (eVar 3))) (eCons (eTup (eCons (eC (.str "A")) (eNil))) (eNil)))))
  (sSeq (sSet 6 (eTup (eCons (eTup (eCons (eC (.str "a")) (eCons (eC (.str "A")) (eCons (eC (.str "A")) (eNil))))) (eCons (eTup (eCons (eC (.str "b")) (eCons (eC (.str "A")) (eCons (eC (.str "A")) (eNil))))) (eNil)))))
  (sSeq (sSet 7 (eTup (eCons (eTup (eCons (eC (.str "a")) (eCons (eC (.str "A")) (eCons (eC (.str "B")) (eNil))))) (eCons (eTup (eCons (eC (.str "b")) (eCons (eC (.str "A")) (eCons (eC (.str "B")) (eNil))))) (eNil)))))
  (sSeq (sIf (eBin ltD (eVar 1) (eC (.int 4)))
  (sSeq (sSet 8 (eTup (eCons (eTup (eCons (eC (.str "a")) (eCons (eC (.str "A")) (eCons (eC (.str "B")) (eNil))))) (eCons (eTup (eCons (eC (.str "b")) (eCons (eC (.str "B")) (eCons (eC (.str "C")) (eNil))))) (eCons (eTup (eCons (eC (.str "c")) (eCons (eC (.str "A")) (eCons (eC (.str "C")) (eNil))))) (eNil))))))
  (sSeq (sOwn 9 (eCons (eTup (eCons (eTup (eCons (eC (.str "A")) (eCons (eC (.str "B")) (eNil)))) (eCons (eVar 7) (eCons (eTup (eNil)) (eNil))))) (eCons (eTup (eCons (eTup (eCons (eC (.str "A")) (eCons (eC (.str "B")) (eNil)))) (eCons (eVar 7) (eCons (eTup (eCons (eTup (eCons (eTup (eCons (eC (.str "A")) (eCons (eC (.str "b")) (eNil)))) (eCons (eTup (eCons (eC (.str "A")) (eCons (eC (.str "a")) (eNil)))) (eNil)))) (eNil))) (eNil))))) (eNil))))
  (sSeq (sApp 9 (eTup (eCons (eTup (eCons (eC (.str "A")) (eCons (eC (.str "B")) (eCons (eC (.str "C")) (eNil))))) (eCons (eVar 8) (eCons (eTup (eCons (eTup (eCons (eTup (eCons (eC (.str "A")) (eCons (eC (.str "a")) (eCons (eC (.str "b")) (eNil))))) (eCons (eTup (eCons (eC (.str "A")) (eCons (eC (.str "c")) (eNil)))) (eNil)))) (eNil))) (eNil))))))
  (sFrz [9] (sRet (eBin ixD (eBin addD (eVar 9) (eLst (eCons (eTup (eCons (eTup (eCons (eC (.str "A")) (eCons (eC (.str "B")) (eNil)))) (eCons (eTup (eNil)) (eCons (eTup (eNil)) (eNil))))) (eNil)))) (eVar 1)))))))
  (sNil))
  (sSeq (sIf (eBin ltD (eVar 1) (eC (.int 8)))
  (sSeq (sSet 10 (eTup (eCons (eTup (eCons (eTup (eCons (eC (.str "A")) (eCons (eC (.str "a")) (eCons (eC (.str "a")) (eNil))))) (eCons (eTup (eCons (eC (.str "A")) (eCons (eC (.str "a")) (eNil)))) (eNil)))) (eCons (eTup (eCons (eTup (eCons (eC (.str "A")) (eCons (eC (.str "a")) (eCons (eC (.str "b")) (eNil))))) (eCons (eTup (eCons (eC (.str "A")) (eCons (eC (.str "b")) (eNil)))) (eNil)))) (eNil)))))
  (sSeq (sOwn 9 (eCons (eTup (eCons (eTup (eCons (eC (.str "A")) (eCons (eC (.str "B")) (eNil)))) (eCons (eTup (eCons (eTup (eCons (eC (.str "a")) (eCons (eC (.str "A")) (eCons (eC (.str "A")) (eNil))))) (eCons (eTup (eCons (eC (.str "b")) (eCons (eC (.str "A")) (eCons (eC (.str "B")) (eNil))))) (eNil)))) (eCons (eVar 10) (eNil))))) (eNil)))
  (sSeq (sApp 9 (eTup (eCons (eTup (eCons (eC (.str "A")) (eCons (eC (.str "B")) (eNil)))) (eCons (eTup (eCons (eTup (eCons (eC (.str "a")) (eCons (eC (.str "A")) (eCons (eC (.str "B")) (eNil))))) (eCons (eTup (eCons (eC (.str "b")) (eCons (eC (.str "B")) (eCons (eC (.str "A")) (eNil))))) (eNil)))) (eCons (eTup (eCons (eTup (eCons (eTup (eCons (eC (.str "A")) (eCons (eC (.str "a")) (eCons (eC (.str "b")) (eNil))))) (eCons (eTup (eCons (eC (.str "A")) (eNil))) (eNil)))) (eNil))) (eNil))))))
  (sSeq (sSet 11 (eTup (eCons (eTup (eCons (eTup (eCons (eC (.str "B")) (eCons (eC (.str "c")) (eCons (eC (.str "a")) (eNil))))) (eCons (eTup (eCons (eC (.str "B")) (eNil))) (eNil)))) (eCons (eTup (eCons (eTup (eCons (eC (.str "B")) (eCons (eC (.str "c")) (eCons (eC (.str "b")) (eNil))))) (eCons (eTup (eCons (eC (.str "B")) (eNil))) (eNil)))) (eNil)))))
  (sSeq (sApp 9 (eTup (eCons (eTup (eCons (eC (.str "A")) (eCons (eC (.str "B")) (eNil)))) (eCons (eBin addD (eVar 7) (eTup (eCons (eTup (eCons (eC (.str "c")) (eCons (eC (.str "B")) (eCons (eC (.str "A")) (eNil))))) (eNil)))) (eCons (eVar 11) (eNil))))))
  (sSeq (sSet 12 (eTup (eCons (eTup (eCons (eC (.str "a")) (eCons (eC (.str "A")) (eCons (eC (.str "B")) (eNil))))) (eCons (eTup (eCons (eC (.str "b")) (eCons (eC (.str "B")) (eCons (eC (.str "D")) (eNil))))) (eCons (eTup (eCons (eC (.str "c")) (eCons (eC (.str "A")) (eCons (eC (.str "C")) (eNil))))) (eCons (eTup (eCons (eC (.str "d")) (eCons (eC (.str "C")) (eCons (eC (.str "D")) (eNil))))) (eNil)))))))
  (sSeq (sApp 9 (eTup (eCons (eTup (eCons (eC (.str "A")) (eCons (eC (.str "B")) (eCons (eC (.str "C")) (eCons (eC (.str "D")) (eNil)))))) (eCons (eVar 12) (eCons (eTup (eCons (eTup (eCons (eTup (eCons (eC (.str "A")) (eCons (eC (.str "c")) (eCons (eC (.str "d")) (eNil))))) (eCons (eTup (eCons (eC (.str "A")) (eCons (eC (.str "a")) (eCons (eC (.str "b")) (eNil))))) (eNil)))) (eNil))) (eNil))))))
  (sFrz [9] (sRet (eBin ixD (eVar 9) (eBin subD (eVar 1) (eC (.int 4)))))))))))))
  (sNil))
  (sSeq (sIf (eBin ltD (eVar 1) (eC (.int 11)))
  (sRet (eTup (eCons (eTup (eCons (eC (.str "A")) (eNil))) (eCons (eSl (eVar 6) oNone (oSome (eC (.int 1)))) (eCons (eBin ixD (eLst (eCons (eTup (eCons (eVar 4) (eNil))) (eCons (eTup (eCons (eTup (eCons (eTup (eCons (eC (.str "A")) (eCons (eC (.str "a")) (eCons (eC (.str "a")) (eCons (eC (.str "a")) (eNil)))))) (eCons (eTup (eCons (eC (.str "A")) (eCons (eC (.str "a")) (eCons (eC (.str "a")) (eNil))))) (eNil)))) (eNil))) (eCons (eTup (eCons (eVar 4) (eNil))) (eNil))))) (eBin subD (eVar 1) (eC (.int 8)))) (eNil))))))
  (sNil))
  (sSeq (sIf (eBin eqD (eVar 1) (eC (.int 11)))
  (sRet (eTup (eCons (eTup (eCons (eC (.str "A")) (eNil))) (eCons (eVar 6) (eCons (eTup (eCons (eVar 4) (eCons (eVar 5) (eCons (eTup (eCons (eTup (eCons (eC (.str "A")) (eCons (eC (.str "b")) (eCons (eC (.str "a")) (eNil))))) (eCons (eTup (eCons (eC (.str "A")) (eCons (eC (.str "a")) (eCons (eC (.str "b")) (eNil))))) (eNil)))) (eNil))))) (eNil))))))
  (sNil))
  (sSeq (sIf (eBin eqD (eVar 1) (eC (.int 12)))
  (sSeq (sSet 13 (eTup (eCons (eTup (eCons (eTup (eCons (eC (.str "A")) (eCons (eC (.str "a")) (eCons (eC (.str "a")) (eNil))))) (eCons (eTup (eCons (eC (.str "A")) (eCons (eC (.str "a")) (eNil)))) (eNil)))) (eCons (eTup (eCons (eTup (eCons (eC (.str "A")) (eCons (eC (.str "b")) (eCons (eC (.str "b")) (eNil))))) (eCons (eTup (eCons (eC (.str "A")) (eCons (eC (.str "b")) (eNil)))) (eNil)))) (eNil)))))
  (sRet (eTup (eCons (eTup (eCons (eC (.str "A")) (eNil))) (eCons (eVar 6) (eCons (eBin addD (eVar 13) (eTup (eCons (eTup (eCons (eTup (eCons (eC (.str "A")) (eCons (eC (.str "b")) (eCons (eC (.str "a")) (eNil))))) (eCons (eTup (eCons (eC (.str "A")) (eCons (eC (.str "a")) (eCons (eC (.str "b")) (eNil))))) (eNil)))) (eNil)))) (eNil)))))))
  (sNil))
  (sSeq (sIf (eBin eqD (eVar 1) (eC (.int 13)))
  (sSeq (sSet 14 (eLst (eCons (eTup (eCons (eTup (eCons (eC (.str "A")) (eCons (eC (.str "a")) (eCons (eC (.str "a")) (eNil))))) (eCons (eTup (eCons (eC (.str "A")) (eCons (eC (.str "a")) (eNil)))) (eNil)))) (eCons (eTup (eCons (eTup (eCons (eC (.str "A")) (eCons (eC (.str "a")) (eCons (eC (.str "b")) (eNil))))) (eCons (eTup (eCons (eC (.str "A")) (eCons (eC (.str "a")) (eNil)))) (eNil)))) (eCons (eTup (eCons (eTup (eCons (eC (.str "A")) (eCons (eC (.str "b")) (eCons (eC (.str "a")) (eNil))))) (eCons (eTup (eCons (eC (.str "A")) (eCons (eC (.str "b")) (eNil)))) (eNil)))) (eNil))))))
  (sRet (eTup (eCons (eTup (eCons (eC (.str "A")) (eNil))) (eCons (eVar 6) (eCons (eCall tupleD (eCons (eBin addD (eVar 14) (eLst (eCons (eTup (eCons (eTup (eCons (eC (.str "A")) (eCons (eC (.str "b")) (eCons (eC (.str "b")) (eNil))))) (eCons (eTup (eCons (eC (.str "A")) (eCons (eC (.str "b")) (eNil)))) (eNil)))) (eNil)))) (eNil))) (eNil)))))))
  (sNil))
  (sSeq (sIf (eBin eqD (eVar 1) (eC (.int 14)))
  (sSeq (sSet 15 (eLst (eCons (eTup (eCons (eTup (eCons (eC (.str "A")) (eCons (eC (.str "a")) (eCons (eC (.str "a")) (eCons (eC (.str "a")) (eNil)))))) (eCons (eTup (eCons (eC (.str "A")) (eNil))) (eNil)))) (eCons (eTup (eCons (eTup (eCons (eC (.str "A")) (eCons (eC (.str "b")) (eCons (eC (.str "b")) (eNil))))) (eCons (eTup (eCons (eC (.str "A")) (eNil))) (eNil)))) (eCons (eTup (eCons (eTup (eCons (eC (.str "A")) (eCons (eC (.str "a")) (eCons (eC (.str "a")) (eCons (eC (.str "b")) (eNil)))))) (eCons (eTup (eCons (eC (.str "A")) (eCons (eC (.str "b")) (eCons (eC (.str "a")) (eNil))))) (eNil)))) (eNil))))))
  (sSeq (sSet 15 (eBin addD (eVar 15) (eLst (eCons (eTup (eCons (eTup (eCons (eC (.str "A")) (eCons (eC (.str "a")) (eCons (eC (.str "b")) (eCons (eC (.str "a")) (eNil)))))) (eCons (eTup (eCons (eC (.str "A")) (eCons (eC (.str "b")) (eNil)))) (eNil)))) (eCons (eTup (eCons (eTup (eCons (eC (.str "A")) (eCons (eC (.str "b")) (eCons (eC (.str "a")) (eCons (eC (.str "a")) (eNil)))))) (eCons (eTup (eCons (eC (.str "A")) (eCons (eC (.str "a")) (eCons (eC (.str "b")) (eNil))))) (eNil)))) (eNil))))))
  (sRet (eTup (eCons (eTup (eCons (eC (.str "A")) (eNil))) (eCons (eVar 6) (eCons (eCall tupleD (eCons (eBin addD (eVar 15) (eLst (eCons (eTup (eCons (eTup (eCons (eC (.str "A")) (eCons (eC (.str "b")) (eCons (eC (.str "a")) (eCons (eC (.str "b")) (eNil)))))) (eCons (eTup (eCons (eC (.str "A")) (eCons (eC (.str "a")) (eCons (eC (.str "a")) (eNil))))) (eNil)))) (eNil)))) (eNil))) (eNil))))))))
  (sNil))
  (sSeq (sIf (eBin eqD (eVar 1) (eC (.int 16)))
  (sRet (eTup (eCons (eTup (eCons (eC (.str "A")) (eCons (eC (.str "B")) (eNil)))) (eCons (eTup (eCons (eTup (eCons (eC (.str "a")) (eCons (eC (.str "A")) (eCons (eC (.str "B")) (eNil))))) (eCons (eTup (eCons (eC (.str "b")) (eCons (eC (.str "B")) (eCons (eC (.str "A")) (eNil))))) (eNil)))) (eCons (eTup (eCons (eTup (eCons (eTup (eCons (eC (.str "A")) (eCons (eC (.str "a")) (eCons (eC (.str "b")) (eNil))))) (eCons (eTup (eCons (eC (.str "A")) (eNil))) (eNil)))) (eCons (eTup (eCons (eTup (eCons (eC (.str "B")) (eCons (eC (.str "b")) (eCons (eC (.str "a")) (eNil))))) (eCons (eTup (eCons (eC (.str "B")) (eNil))) (eNil)))) (eNil)))) (eNil))))))
  (sNil))
  (sRet (eTup (eCons (eTup (eCons (eC (.str "A")) (eCons (eC (.str "B")) (eNil)))) (eCons (eTup (eCons (eTup (eCons (eC (.str "a")) (eCons (eC (.str "A")) (eCons (eC (.str "A")) (eNil))))) (eCons (eTup (eCons (eC (.str "b")) (eCons (eC (.str "A")) (eCons (eC (.str "B")) (eNil))))) (eNil)))) (eCons (eTup (eCons (eVar 4) (eNil))) (eNil)))))))))))))))))))
def f_law_gallery : Fn := fnSem 1 16 b_law_gallery
theorem ok_law_gallery (T : Tx K mg) (g_law_digit : FnAt P w K mg base 1 "_law_digit" 2 f_law_digit) {f : Addr} {fd : FuncData} {dv0 : List V} {kw0 : List (Str × V)} (F : FunD K "_law_gallery" "_law_gallery" (defArgs s_law_gallery) (defBody s_law_gallery) (defScope s_law_gallery) dv0 kw0 f fd) :
    FnOk P w K mg base CX0 2 f fd p_law_gallery (spF K mg 1 f_law_gallery) :=
  fn_okF F sc_law_gallery (fun cdv A outer s H E hr => (dss_cons (ds_set (i := 1) sc_law_gallery.nd rfl (by first | exact Or.inl rfl | exact Or.inr rfl) (de_callG g_law_digit (hr.mono (by decide)) (by rfl) (da_cons (de_of 0 (pv 0)) (da_cons de_int da_nil))))
  (dss_cons (ds_par (i := 2) (j := 3) (by rfl) sc_law_gallery.nd rfl rfl (by decide) rfl rfl (da_cons (de_bin op_addX de_int (de_callG g_law_digit (hr.mono (by decide)) (by rfl) (da_cons (de_of 0 (pv 0)) (da_cons de_int da_nil)))) (da_cons (de_bin op_addX de_int (de_callG g_law_digit (hr.mono (by decide)) (by rfl) (da_cons (de_of 0 (pv 0)) (da_cons de_int da_nil)))) da_nil)) (by rfl))
  (dss_cons (ds_set (i := 4) sc_law_gallery.nd rfl (by first | exact Or.inl rfl | exact Or.inr rfl) (de_tup (da_cons (de_bin op_addX (de_tup (da_cons de_str da_nil)) (de_bin op_mulX (de_tup (da_cons de_str da_nil)) (de_of 2 (pv 2)))) (da_cons (de_tup (da_cons de_str da_nil)) da_nil))))
  (dss_cons (ds_set (i := 5) sc_law_gallery.nd rfl (by first | exact Or.inl rfl | exact Or.inr rfl) (de_tup (da_cons (de_bin op_addX (de_tup (da_cons de_str da_nil)) (de_bin op_mulX (de_tup (da_cons de_str da_nil)) (de_of 3 (pv 3)))) (da_cons (de_tup (da_cons de_str da_nil)) da_nil))))
  (dss_cons (ds_set (i := 6) sc_law_gallery.nd rfl (by first | exact Or.inl rfl | exact Or.inr rfl) (de_tup (da_cons (de_tup (da_cons de_str (da_cons de_str (da_cons de_str da_nil)))) (da_cons (de_tup (da_cons de_str (da_cons de_str (da_cons de_str da_nil)))) da_nil))))
  (dss_cons (ds_set (i := 7) sc_law_gallery.nd rfl (by first | exact Or.inl rfl | exact Or.inr rfl) (de_tup (da_cons (de_tup (da_cons de_str (da_cons de_str (da_cons de_str da_nil)))) (da_cons (de_tup (da_cons de_str (da_cons de_str (da_cons de_str da_nil)))) da_nil))))
  (dss_cons (ds_if (dt_cmp (op_ltX hr) (de_of 1 (pv 1)) de_int (nomark _))
  (dss_cons (ds_set (i := 8) sc_law_gallery.nd rfl (by first | exact Or.inl rfl | exact Or.inr rfl) (de_tup (da_cons (de_tup (da_cons de_str (da_cons de_str (da_cons de_str da_nil)))) (da_cons (de_tup (da_cons de_str (da_cons de_str (da_cons de_str da_nil)))) (da_cons (de_tup (da_cons de_str (da_cons de_str (da_cons de_str da_nil)))) da_nil)))))
  (dss_cons (ds_own (i := 9) sc_law_gallery.nd rfl (by first | exact Or.inl rfl | exact Or.inr rfl) (da_cons (de_tup (da_cons (de_tup (da_cons de_str (da_cons de_str da_nil))) (da_cons (de_of 7 (pv 7)) (da_cons (de_tup da_nil) da_nil)))) (da_cons (de_tup (da_cons (de_tup (da_cons de_str (da_cons de_str da_nil))) (da_cons (de_of 7 (pv 7)) (da_cons (de_tup (da_cons (de_tup (da_cons (de_tup (da_cons de_str (da_cons de_str da_nil))) (da_cons (de_tup (da_cons de_str (da_cons de_str da_nil))) da_nil))) da_nil)) da_nil)))) da_nil)))
  (dss_cons (ds_app (pv 9) (de_tup (da_cons (de_tup (da_cons de_str (da_cons de_str (da_cons de_str da_nil)))) (da_cons (de_of 8 (pv 8)) (da_cons (de_tup (da_cons (de_tup (da_cons (de_tup (da_cons de_str (da_cons de_str (da_cons de_str da_nil)))) (da_cons (de_tup (da_cons de_str (da_cons de_str da_nil))) da_nil))) da_nil)) da_nil)))))
  (dss_one (ds_frz [9] (ds_ret (de_ix hr (de_bin op_addX (de_of 9 (pv 9)) (de_lst (da_cons (de_tup (da_cons (de_tup (da_cons de_str (da_cons de_str da_nil))) (da_cons (de_tup da_nil) (da_cons (de_tup da_nil) da_nil)))) da_nil))) (de_of 1 (pv 1)))))))))
  dss_nil)
  (dss_cons (ds_if (dt_cmp (op_ltX hr) (de_of 1 (pv 1)) de_int (nomark _))
  (dss_cons (ds_set (i := 10) sc_law_gallery.nd rfl (by first | exact Or.inl rfl | exact Or.inr rfl) (de_tup (da_cons (de_tup (da_cons (de_tup (da_cons de_str (da_cons de_str (da_cons de_str da_nil)))) (da_cons (de_tup (da_cons de_str (da_cons de_str da_nil))) da_nil))) (da_cons (de_tup (da_cons (de_tup (da_cons de_str (da_cons de_str (da_cons de_str da_nil)))) (da_cons (de_tup (da_cons de_str (da_cons de_str da_nil))) da_nil))) da_nil))))
  (dss_cons (ds_own (i := 9) sc_law_gallery.nd rfl (by first | exact Or.inl rfl | exact Or.inr rfl) (da_cons (de_tup (da_cons (de_tup (da_cons de_str (da_cons de_str da_nil))) (da_cons (de_tup (da_cons (de_tup (da_cons de_str (da_cons de_str (da_cons de_str da_nil)))) (da_cons (de_tup (da_cons de_str (da_cons de_str (da_cons de_str da_nil)))) da_nil))) (da_cons (de_of 10 (pv 10)) da_nil)))) da_nil))
  (dss_cons (ds_app (pv 9) (de_tup (da_cons (de_tup (da_cons de_str (da_cons de_str da_nil))) (da_cons (de_tup (da_cons (de_tup (da_cons de_str (da_cons de_str (da_cons de_str da_nil)))) (da_cons (de_tup (da_cons de_str (da_cons de_str (da_cons de_str da_nil)))) da_nil))) (da_cons (de_tup (da_cons (de_tup (da_cons (de_tup (da_cons de_str (da_cons de_str (da_cons de_str da_nil)))) (da_cons (de_tup (da_cons de_str da_nil)) da_nil))) da_nil)) da_nil)))))
  (dss_cons (ds_set (i := 11) sc_law_gallery.nd rfl (by first | exact Or.inl rfl | exact Or.inr rfl) (de_tup (da_cons (de_tup (da_cons (de_tup (da_cons de_str (da_cons de_str (da_cons de_str da_nil)))) (da_cons (de_tup (da_cons de_str da_nil)) da_nil))) (da_cons (de_tup (da_cons (de_tup (da_cons de_str (da_cons de_str (da_cons de_str da_nil)))) (da_cons (de_tup (da_cons de_str da_nil)) da_nil))) da_nil))))
  (dss_cons (ds_app (pv 9) (de_tup (da_cons (de_tup (da_cons de_str (da_cons de_str da_nil))) (da_cons (de_bin op_addX (de_of 7 (pv 7)) (de_tup (da_cons (de_tup (da_cons de_str (da_cons de_str (da_cons de_str da_nil)))) da_nil))) (da_cons (de_of 11 (pv 11)) da_nil)))))
  (dss_cons (ds_set (i := 12) sc_law_gallery.nd rfl (by first | exact Or.inl rfl | exact Or.inr rfl) (de_tup (da_cons (de_tup (da_cons de_str (da_cons de_str (da_cons de_str da_nil)))) (da_cons (de_tup (da_cons de_str (da_cons de_str (da_cons de_str da_nil)))) (da_cons (de_tup (da_cons de_str (da_cons de_str (da_cons de_str da_nil)))) (da_cons (de_tup (da_cons de_str (da_cons de_str (da_cons de_str da_nil)))) da_nil))))))
  (dss_cons (ds_app (pv 9) (de_tup (da_cons (de_tup (da_cons de_str (da_cons de_str (da_cons de_str (da_cons de_str da_nil))))) (da_cons (de_of 12 (pv 12)) (da_cons (de_tup (da_cons (de_tup (da_cons (de_tup (da_cons de_str (da_cons de_str (da_cons de_str da_nil)))) (da_cons (de_tup (da_cons de_str (da_cons de_str (da_cons de_str da_nil)))) da_nil))) da_nil)) da_nil)))))
  (dss_one (ds_frz [9] (ds_ret (de_ix hr (de_of 9 (pv 9)) (de_bin op_subX (de_of 1 (pv 1)) de_int))))))))))))
  dss_nil)
  (dss_cons (ds_if (dt_cmp (op_ltX hr) (de_of 1 (pv 1)) de_int (nomark _))
  (dss_one (ds_ret (de_tup (da_cons (de_tup (da_cons de_str da_nil)) (da_cons (de_sl (de_of 6 (pv 6)) do_none (do_some de_int)) (da_cons (de_ix hr (de_lst (da_cons (de_tup (da_cons (de_of 4 (pv 4)) da_nil)) (da_cons (de_tup (da_cons (de_tup (da_cons (de_tup (da_cons de_str (da_cons de_str (da_cons de_str (da_cons de_str da_nil))))) (da_cons (de_tup (da_cons de_str (da_cons de_str (da_cons de_str da_nil)))) da_nil))) da_nil)) (da_cons (de_tup (da_cons (de_of 4 (pv 4)) da_nil)) da_nil)))) (de_bin op_subX (de_of 1 (pv 1)) de_int)) da_nil))))))
  dss_nil)
  (dss_cons (ds_if (dt_cmp (op_eqX hr) (de_of 1 (pv 1)) de_int (nomark _))
  (dss_one (ds_ret (de_tup (da_cons (de_tup (da_cons de_str da_nil)) (da_cons (de_of 6 (pv 6)) (da_cons (de_tup (da_cons (de_of 4 (pv 4)) (da_cons (de_of 5 (pv 5)) (da_cons (de_tup (da_cons (de_tup (da_cons de_str (da_cons de_str (da_cons de_str da_nil)))) (da_cons (de_tup (da_cons de_str (da_cons de_str (da_cons de_str da_nil)))) da_nil))) da_nil)))) da_nil))))))
  dss_nil)
  (dss_cons (ds_if (dt_cmp (op_eqX hr) (de_of 1 (pv 1)) de_int (nomark _))
  (dss_cons (ds_set (i := 13) sc_law_gallery.nd rfl (by first | exact Or.inl rfl | exact Or.inr rfl) (de_tup (da_cons (de_tup (da_cons (de_tup (da_cons de_str (da_cons de_str (da_cons de_str da_nil)))) (da_cons (de_tup (da_cons de_str (da_cons de_str da_nil))) da_nil))) (da_cons (de_tup (da_cons (de_tup (da_cons de_str (da_cons de_str (da_cons de_str da_nil)))) (da_cons (de_tup (da_cons de_str (da_cons de_str da_nil))) da_nil))) da_nil))))
  (dss_one (ds_ret (de_tup (da_cons (de_tup (da_cons de_str da_nil)) (da_cons (de_of 6 (pv 6)) (da_cons (de_bin op_addX (de_of 13 (pv 13)) (de_tup (da_cons (de_tup (da_cons (de_tup (da_cons de_str (da_cons de_str (da_cons de_str da_nil)))) (da_cons (de_tup (da_cons de_str (da_cons de_str (da_cons de_str da_nil)))) da_nil))) da_nil))) da_nil)))))))
  dss_nil)
  (dss_cons (ds_if (dt_cmp (op_eqX hr) (de_of 1 (pv 1)) de_int (nomark _))
  (dss_cons (ds_set (i := 14) sc_law_gallery.nd rfl (by first | exact Or.inl rfl | exact Or.inr rfl) (de_lst (da_cons (de_tup (da_cons (de_tup (da_cons de_str (da_cons de_str (da_cons de_str da_nil)))) (da_cons (de_tup (da_cons de_str (da_cons de_str da_nil))) da_nil))) (da_cons (de_tup (da_cons (de_tup (da_cons de_str (da_cons de_str (da_cons de_str da_nil)))) (da_cons (de_tup (da_cons de_str (da_cons de_str da_nil))) da_nil))) (da_cons (de_tup (da_cons (de_tup (da_cons de_str (da_cons de_str (da_cons de_str da_nil)))) (da_cons (de_tup (da_cons de_str (da_cons de_str da_nil))) da_nil))) da_nil)))))
  (dss_one (ds_ret (de_tup (da_cons (de_tup (da_cons de_str da_nil)) (da_cons (de_of 6 (pv 6)) (da_cons (de_callTy cr_tupleX (by rfl) T.z_tuple (by decide +kernel) (da_cons (de_bin op_addX (de_of 14 (pv 14)) (de_lst (da_cons (de_tup (da_cons (de_tup (da_cons de_str (da_cons de_str (da_cons de_str da_nil)))) (da_cons (de_tup (da_cons de_str (da_cons de_str da_nil))) da_nil))) da_nil))) da_nil)) da_nil)))))))
  dss_nil)
  (dss_cons (ds_if (dt_cmp (op_eqX hr) (de_of 1 (pv 1)) de_int (nomark _))
  (dss_cons (ds_set (i := 15) sc_law_gallery.nd rfl (by first | exact Or.inl rfl | exact Or.inr rfl) (de_lst (da_cons (de_tup (da_cons (de_tup (da_cons de_str (da_cons de_str (da_cons de_str (da_cons de_str da_nil))))) (da_cons (de_tup (da_cons de_str da_nil)) da_nil))) (da_cons (de_tup (da_cons (de_tup (da_cons de_str (da_cons de_str (da_cons de_str da_nil)))) (da_cons (de_tup (da_cons de_str da_nil)) da_nil))) (da_cons (de_tup (da_cons (de_tup (da_cons de_str (da_cons de_str (da_cons de_str (da_cons de_str da_nil))))) (da_cons (de_tup (da_cons de_str (da_cons de_str (da_cons de_str da_nil)))) da_nil))) da_nil)))))
  (dss_cons (ds_set (i := 15) sc_law_gallery.nd rfl (by first | exact Or.inl rfl | exact Or.inr rfl) (de_bin op_addX (de_of 15 (pv 15)) (de_lst (da_cons (de_tup (da_cons (de_tup (da_cons de_str (da_cons de_str (da_cons de_str (da_cons de_str da_nil))))) (da_cons (de_tup (da_cons de_str (da_cons de_str da_nil))) da_nil))) (da_cons (de_tup (da_cons (de_tup (da_cons de_str (da_cons de_str (da_cons de_str (da_cons de_str da_nil))))) (da_cons (de_tup (da_cons de_str (da_cons de_str (da_cons de_str da_nil)))) da_nil))) da_nil)))))
  (dss_one (ds_ret (de_tup (da_cons (de_tup (da_cons de_str da_nil)) (da_cons (de_of 6 (pv 6)) (da_cons (de_callTy cr_tupleX (by rfl) T.z_tuple (by decide +kernel) (da_cons (de_bin op_addX (de_of 15 (pv 15)) (de_lst (da_cons (de_tup (da_cons (de_tup (da_cons de_str (da_cons de_str (da_cons de_str (da_cons de_str da_nil))))) (da_cons (de_tup (da_cons de_str (da_cons de_str (da_cons de_str da_nil)))) da_nil))) da_nil))) da_nil)) da_nil))))))))
  dss_nil)
  (dss_cons (ds_if (dt_cmp (op_eqX hr) (de_of 1 (pv 1)) de_int (nomark _))
  (dss_one (ds_ret (de_tup (da_cons (de_tup (da_cons de_str (da_cons de_str da_nil))) (da_cons (de_tup (da_cons (de_tup (da_cons de_str (da_cons de_str (da_cons de_str da_nil)))) (da_cons (de_tup (da_cons de_str (da_cons de_str (da_cons de_str da_nil)))) da_nil))) (da_cons (de_tup (da_cons (de_tup (da_cons (de_tup (da_cons de_str (da_cons de_str (da_cons de_str da_nil)))) (da_cons (de_tup (da_cons de_str da_nil)) da_nil))) (da_cons (de_tup (da_cons (de_tup (da_cons de_str (da_cons de_str (da_cons de_str da_nil)))) (da_cons (de_tup (da_cons de_str da_nil)) da_nil))) da_nil))) da_nil))))))
  dss_nil)
  (dss_one (ds_ret (de_tup (da_cons (de_tup (da_cons de_str (da_cons de_str da_nil))) (da_cons (de_tup (da_cons (de_tup (da_cons de_str (da_cons de_str (da_cons de_str da_nil)))) (da_cons (de_tup (da_cons de_str (da_cons de_str (da_cons de_str da_nil)))) da_nil))) (da_cons (de_tup (da_cons (de_of 4 (pv 4)) da_nil)) da_nil)))))))))))))))))))))
/-! _law_renamed -/
abbrev s_law_renamed : Stmt := topS 30
abbrev n_law_renamed : List Str := ["_law_thing", "_law_names", "_law_part"]
abbrev p_law_renamed : List Str := ["_law_thing", "_law_names"]
theorem sc_law_renamed : FnScope n_law_renamed p_law_renamed (defScope s_law_renamed) := ⟨rfl, rfl, rfl, by decide +kernel, rfl, by decide +kernel, by decide +kernel⟩
def b_law_renamed (r : Sems → Sem) : Cm := sSeq (sIf (eTru (eIsi "str" (eVar 0)))
  (sRet (eGet2 (eVar 1) (eVar 0) (eVar 0)))
  (sNil))
  (sRet (eCall tupleD (eCons (eLc (iA (eVar 0)) (gN 2) (eC (.bl true)) (r (eCons (eVar 2) (eCons (eVar 1) (eNil)))) [2]) (eNil))))
def ff_law_renamed : Nat → Fn
  | 0 => fnSem 2 3 (b_law_renamed fun _ => eBad)
  | m + 1 => fnSem 2 3 (b_law_renamed fun gs => eFn (fnN 2 (ff_law_renamed m)) gs [])
def f_law_renamed : Fn := ff_law_renamed 6
theorem ok0_law_renamed (T : Tx K mg)  {f : Addr} {fd : FuncData} {dv0 : List V} {kw0 : List (Str × V)} (F : FunD K "_law_renamed" "_law_renamed" (defArgs s_law_renamed) (defBody s_law_renamed) (defScope s_law_renamed) dv0 kw0 f fd) : FnOk P w K mg base CX0 (0 + 1) f fd p_law_renamed (spF K mg 2 (ff_law_renamed 0)) :=
  fn_okF F sc_law_renamed (fun cdv A outer s H E hr => (dss_cons (ds_if (dt_tru (de_isi (by rfl) T.z_isinstance (de_of 0 (pv 0)) (by rfl) T.z_str (by decide +kernel)))
  (dss_one (ds_ret (de_get2 hr (de_of 1 (pv 1)) (de_of 0 (pv 0)) (de_of 0 (pv 0)) ⟨rfl, rfl, rfl, rfl⟩)))
  dss_nil)
  (dss_one (ds_ret (de_callTy cr_tupleX (by rfl) T.z_tuple (by decide +kernel) (da_cons (de_lc (own := [("_law_part", 2)]) (by rfl) sc_law_renamed.nd (di_any (de_of 0 (pv 0))) (blkOk_by (N := n_law_renamed) (sc := (defScope s_law_renamed)) (by decide +kernel)) (by decide) (fun _ _ _ _ _ => (dg_of (i := 2) (pg_name (i := 2) sc_law_renamed.nd rfl (by first | exact Or.inl rfl | exact Or.inr rfl)))) (fun _ _ _ _ _ => dts_nil) (fun _ _ _ _ _ => de_bad)) da_nil))))))
theorem okS_law_renamed (T : Tx K mg) (m : Nat) (g_self : FnAt P w K mg base (0 + m + 1) "_law_renamed" 2 (ff_law_renamed m))  {f : Addr} {fd : FuncData} {dv0 : List V} {kw0 : List (Str × V)} (F : FunD K "_law_renamed" "_law_renamed" (defArgs s_law_renamed) (defBody s_law_renamed) (defScope s_law_renamed) dv0 kw0 f fd) : FnOk P w K mg base CX0 (0 + m + 1 + 1) f fd p_law_renamed (spF K mg 2 (ff_law_renamed (m + 1))) :=
  fn_okF F sc_law_renamed (fun cdv A outer s H E hr => (dss_cons (ds_if (dt_tru (de_isi (by rfl) T.z_isinstance (de_of 0 (pv 0)) (by rfl) T.z_str (by decide +kernel)))
  (dss_one (ds_ret (de_get2 hr (de_of 1 (pv 1)) (de_of 0 (pv 0)) (de_of 0 (pv 0)) ⟨rfl, rfl, rfl, rfl⟩)))
  dss_nil)
  (dss_one (ds_ret (de_callTy cr_tupleX (by rfl) T.z_tuple (by decide +kernel) (da_cons (de_lc (own := [("_law_part", 2)]) (by rfl) sc_law_renamed.nd (di_any (de_of 0 (pv 0))) (blkOk_by (N := n_law_renamed) (sc := (defScope s_law_renamed)) (by decide +kernel)) (by decide) (fun _ _ _ _ _ => (dg_of (i := 2) (pg_name (i := 2) sc_law_renamed.nd rfl (by first | exact Or.inl rfl | exact Or.inr rfl)))) (fun _ _ _ _ _ => dts_nil) (fun _ _ _ _ _ => (de_callG g_self hr (by rfl) (da_cons (de_of 2 (pv 2)) (da_cons (de_of 1 (pv 1)) da_nil))))) da_nil))))))
/-! _law_parts -/
abbrev s_law_parts : Stmt := topS 31
abbrev n_law_parts : List Str := ["_law_tape_here", "_law_sorts", "_law_roads", "_law_cuts", "_law_start", "_law_words", "_law_names", "_law_at", "_law_k", "_law_word", "_law_link"]
abbrev p_law_parts : List Str := ["_law_tape_here"]
theorem sc_law_parts : FnScope n_law_parts p_law_parts (defScope s_law_parts) := ⟨rfl, rfl, rfl, by decide +kernel, rfl, by decide +kernel, by decide +kernel⟩
def b_law_parts : Cm := sSeq (sAsg (gT (gsC (gN 1) (gsC (gN 2) (gsC (gN 3) (gs0))))) (eFn (fnN 1 f_law_gallery) (eCons (eVar 0) (eNil)) []))
  (sSeq (sIf (eBin eqD (eFn (fnN 2 f_law_digit) (eCons (eVar 0) (eCons (eC (.int 3)) (eNil))) []) (eC (.int 0)))
  (sSeq (sSet 4 (eBin ixD (eVar 1) (eFn (fnN 2 f_law_digit) (eCons (eVar 0) (eCons (eCall lenD (eCons (eVar 1) (eNil))) (eNil))) [])))
  (sPar 1 2 (eCons (eBin addD (eVar 1) (eTup (eCons (eC (.str "E")) (eNil)))) (eCons (eBin addD (eVar 2) (eTup (eCons (eTup (eCons (eC (.str "e")) (eCons (eVar 4) (eCons (eC (.str "E")) (eNil))))) (eNil)))) (eNil)))))
  (sNil))
  (sSeq (sSet 5 (eLst (eCons (eC (.str "row")) (eCons (eC (.str "man")) (eCons (eC (.str "box")) (eCons (eC (.str "a")) (eCons (eC (.str "deskdesk")) (eCons (eC (.str "zz")) (eCons (eC (.str "team")) (eCons (eC (.str "page")) (eCons (eC (.str "b")) (eCons (eC (.str "cell")) (eCons (eC (.str "e")) (eCons (eC (.str "post")) (eNil)))))))))))))))
  (sSeq (sOd 6)
  (sSeq (sSet 7 (eFn (fnN 2 f_law_digit) (eCons (eVar 0) (eCons (eC (.int 12)) (eNil))) []))
  (sSeq (sFor (iE (eCons (eBin addD (eVar 1) (eCall tupleD (eCons (eLc (iA (eVar 2)) (gN 10) (eC (.bl true)) (eBin ixD (eVar 10) (eC (.int 0))) [10]) (eNil)))) (eNil))) (gT (gsC (gN 8) (gsC (gN 9) (gs0))))
  (sOdPut 6 (eVar 9) (eBin ixD (eVar 5) (eBin modD (eBin addD (eVar 7) (eBin mulD (eC (.int 5)) (eVar 8))) (eC (.int 12))))))
  (sFrz [6] (sRet (eFn (fnN 2 f_law_renamed) (eCons (eTup (eCons (eVar 1) (eCons (eVar 2) (eCons (eVar 3) (eNil))))) (eCons (eVar 6) (eNil))) []))))))))
def f_law_parts : Fn := fnSem 1 11 b_law_parts
theorem ok_law_parts (T : Tx K mg) (g_law_digit : FnAt P w K mg base 1 "_law_digit" 2 f_law_digit) (g_law_gallery : FnAt P w K mg base 2 "_law_gallery" 1 f_law_gallery) (g_law_renamed : FnAt P w K mg base 7 "_law_renamed" 2 f_law_renamed) {f : Addr} {fd : FuncData} {dv0 : List V} {kw0 : List (Str × V)} (F : FunD K "_law_parts" "_law_parts" (defArgs s_law_parts) (defBody s_law_parts) (defScope s_law_parts) dv0 kw0 f fd) :
    FnOk P w K mg base CX0 8 f fd p_law_parts (spF K mg 1 f_law_parts) :=
  fn_okF F sc_law_parts (fun cdv A outer s H E hr => (dss_cons (ds_asg (de_callG g_law_gallery (hr.mono (by decide)) (by rfl) (da_cons (de_of 0 (pv 0)) da_nil)) (dg_tup (by rfl) (dgs_cons (dg_of (i := 1) (pg_name (i := 1) sc_law_parts.nd rfl (by first | exact Or.inl rfl | exact Or.inr rfl))) (dgs_cons (dg_of (i := 2) (pg_name (i := 2) sc_law_parts.nd rfl (by first | exact Or.inl rfl | exact Or.inr rfl))) (dgs_cons (dg_of (i := 3) (pg_name (i := 3) sc_law_parts.nd rfl (by first | exact Or.inl rfl | exact Or.inr rfl))) dgs_nil))) (gsC_len (gsC_len (gsC_len gs0_len)))))
  (dss_cons (ds_if (dt_cmp (op_eqX hr) (de_callG g_law_digit (hr.mono (by decide)) (by rfl) (da_cons (de_of 0 (pv 0)) (da_cons de_int da_nil))) de_int (nomark _))
  (dss_cons (ds_set (i := 4) sc_law_parts.nd rfl (by first | exact Or.inl rfl | exact Or.inr rfl) (de_ix hr (de_of 1 (pv 1)) (de_callG g_law_digit (hr.mono (by decide)) (by rfl) (da_cons (de_of 0 (pv 0)) (da_cons (de_callB cr_lenX (by rfl) T.z_len (by decide +kernel) (da_cons (de_of 1 (pv 1)) da_nil)) da_nil)))))
  (dss_one (ds_par (i := 1) (j := 2) (by rfl) sc_law_parts.nd rfl rfl (by decide) rfl rfl (da_cons (de_bin op_addX (de_of 1 (pv 1)) (de_tup (da_cons de_str da_nil))) (da_cons (de_bin op_addX (de_of 2 (pv 2)) (de_tup (da_cons (de_tup (da_cons de_str (da_cons (de_of 4 (pv 4)) (da_cons de_str da_nil)))) da_nil))) da_nil)) (by rfl))))
  dss_nil)
  (dss_cons (ds_set (i := 5) sc_law_parts.nd rfl (by first | exact Or.inl rfl | exact Or.inr rfl) (de_lst (da_cons de_str (da_cons de_str (da_cons de_str (da_cons de_str (da_cons de_str (da_cons de_str (da_cons de_str (da_cons de_str (da_cons de_str (da_cons de_str (da_cons de_str (da_cons de_str da_nil))))))))))))))
  (dss_cons (ds_od (i := 6) sc_law_parts.nd rfl (by first | exact Or.inl rfl | exact Or.inr rfl))
  (dss_cons (ds_set (i := 7) sc_law_parts.nd rfl (by first | exact Or.inl rfl | exact Or.inr rfl) (de_callG g_law_digit (hr.mono (by decide)) (by rfl) (da_cons (de_of 0 (pv 0)) (da_cons de_int da_nil))))
  (dss_cons (ds_for PassesOwn.never (by rfl) (di_enum (by rfl) T.z_enumerate (da_cons (de_bin op_addX (de_of 1 (pv 1)) (de_callTy cr_tupleX (by rfl) T.z_tuple (by decide +kernel) (da_cons (de_lc (own := [("_law_link", 10)]) (by rfl) sc_law_parts.nd (di_any (de_of 2 (pv 2))) (blkOk_by (N := n_law_parts) (sc := (defScope s_law_parts)) (by decide +kernel)) (by decide) (fun _ _ _ _ _ => (dg_of (i := 10) (pg_name (i := 10) sc_law_parts.nd rfl (by first | exact Or.inl rfl | exact Or.inr rfl)))) (fun _ _ _ _ _ => dts_nil) (fun _ _ _ _ _ => (de_ix hr (de_of 10 (pv 10)) de_int))) da_nil))) da_nil)) (dg_tup (by rfl) (dgs_cons (dg_of (i := 8) (pg_name (i := 8) sc_law_parts.nd rfl (by first | exact Or.inl rfl | exact Or.inr rfl))) (dgs_cons (dg_of (i := 9) (pg_name (i := 9) sc_law_parts.nd rfl (by first | exact Or.inl rfl | exact Or.inr rfl))) dgs_nil)) (gsC_len (gsC_len gs0_len)))
  (dss_one (ds_odPut hr (pv 6) (de_of 9 (pv 9)) (de_ix hr (de_of 5 (pv 5)) (de_bin op_modX (de_bin op_addX (de_of 7 (pv 7)) (de_bin op_mulX de_int (de_of 8 (pv 8)))) de_int)))))
  (dss_one (ds_frz [6] (ds_ret (de_callG g_law_renamed (hr.mono (by decide)) (by rfl) (da_cons (de_tup (da_cons (de_of 1 (pv 1)) (da_cons (de_of 2 (pv 2)) (da_cons (de_of 3 (pv 3)) da_nil)))) (da_cons (de_of 6 (pv 6)) da_nil)))))))))))))
/-! _law_others -/
abbrev s_law_others : Stmt := topS 32
abbrev n_law_others : List Str := ["_law_parts_here", "_law_a", "_law_b", "_law_c", "_law_some", "_law_at", "_law_link", "_law_kind", "_law_rule", "_law_side", "_law_found", "_law_x", "_law_y", "_law_z", "_law_one"]
abbrev p_law_others : List Str := ["_law_parts_here"]
theorem sc_law_others : FnScope n_law_others p_law_others (defScope s_law_others) := ⟨rfl, rfl, rfl, by decide +kernel, rfl, by decide +kernel, by decide +kernel⟩
def b_law_others : Cm := sSeq (sAsg (gT (gsC (gN 1) (gsC (gN 2) (gsC (gN 3) (gs0))))) (eVar 0))
  (sSeq (sSet 4 (eLst (eCons (eTup (eCons (eBin addD (eVar 1) (eTup (eCons (eC (.str "more")) (eNil)))) (eCons (eVar 2) (eCons (eVar 3) (eNil))))) (eCons (eTup (eCons (eVar 1) (eCons (eBin addD (eVar 2) (eTup (eCons (eTup (eCons (eC (.str "n")) (eCons (eBin ixD (eVar 1) (eC (.int 0))) (eCons (eBin ixD (eVar 1) (eC (.int 0))) (eNil))))) (eNil)))) (eCons (eBin addD (eVar 3) (eTup (eCons (eTup (eCons (eTup (eCons (eC (.str "x")) (eCons (eC (.str "n")) (eNil)))) (eCons (eTup (eCons (eC (.str "x")) (eNil))) (eNil)))) (eNil)))) (eNil))))) (eNil)))))
  (sSeq (sSet 4 (eBin addD (eVar 4) (eLst (eCons (eTup (eCons (eVar 1) (eCons (eVar 2) (eCons (eTup (eNil)) (eNil))))) (eCons (eTup (eCons (eVar 1) (eCons (eTup (eNil)) (eCons (eTup (eNil)) (eNil))))) (eNil))))))
  (sSeq (sOwnCat 4 (eVar 4) (eLst (eCons (eTup (eCons (eRev (eVar 1)) (eCons (eVar 2) (eCons (eVar 3) (eNil))))) (eCons (eTup (eCons (eVar 1) (eCons (eVar 2) (eCons (eRev (eVar 3)) (eNil))))) (eCons (eTup (eCons (eSl (eVar 1) oNone (oSome (eC (.int 1)))) (eCons (eTup (eNil)) (eCons (eTup (eNil)) (eNil))))) (eCons (eTup (eCons (eVar 1) (eCons (eRev (eVar 2)) (eCons (eVar 3) (eNil))))) (eNil)))))))
  (sSeq (sFor (iE (eCons (eVar 2) (eNil))) (gT (gsC (gN 5) (gsC (gN 6) (gs0))))
  (sSeq (sFrz [4] (sSet 4 (eBin addD (eVar 4) (eLc (iA (eVar 1)) (gN 7) (eC (.bl true)) (eTup (eCons (eVar 1) (eCons (eBin addD (eBin addD (eSl (eVar 2) oNone (oSome (eVar 5))) (eTup (eCons (eTup (eCons (eBin ixD (eVar 6) (eC (.int 0))) (eCons (eBin ixD (eVar 6) (eC (.int 1))) (eCons (eVar 7) (eNil))))) (eNil)))) (eSl (eVar 2) (oSome (eBin addD (eVar 5) (eC (.int 1)))) oNone)) (eCons (eVar 3) (eNil))))) [7]))))
  (sOwnCat 4 (eVar 4) (eLc (iA (eVar 1)) (gN 7) (eC (.bl true)) (eTup (eCons (eVar 1) (eCons (eBin addD (eBin addD (eSl (eVar 2) oNone (oSome (eVar 5))) (eTup (eCons (eTup (eCons (eBin ixD (eVar 6) (eC (.int 0))) (eCons (eVar 7) (eCons (eBin ixD (eVar 6) (eC (.int 2))) (eNil))))) (eNil)))) (eSl (eVar 2) (oSome (eBin addD (eVar 5) (eC (.int 1)))) oNone)) (eCons (eVar 3) (eNil))))) [7]))))
  (sSeq (sFor (iE (eCons (eVar 3) (eNil))) (gT (gsC (gN 5) (gsC (gN 8) (gs0))))
  (sFor (iA (eLst (eCons (eSl (eBin ixD (eVar 8) (eC (.int 0))) oNone (oSome (eC (.int 1)))) (eCons (eSl (eBin ixD (eVar 8) (eC (.int 0))) oNone (oSome (eC (.int 2)))) (eNil))))) (gN 9)
  (sApp 4 (eTup (eCons (eVar 1) (eCons (eVar 2) (eCons (eBin addD (eBin addD (eSl (eVar 3) oNone (oSome (eVar 5))) (eTup (eCons (eTup (eCons (eBin ixD (eVar 8) (eC (.int 0))) (eCons (eVar 9) (eNil)))) (eNil)))) (eSl (eVar 3) (oSome (eBin addD (eVar 5) (eC (.int 1)))) oNone)) (eNil))))))))
  (sSeq (sOwn 10 (eNil))
  (sSeq (sFrz [4] (sFor (iA (eVar 4)) (gT (gsC (gN 11) (gsC (gN 12) (gsC (gN 13) (gs0)))))
  (sSeq (sSet 13 (eCall tupleD (eCons (eLc (iA (eVar 13)) (gN 14) (eC (.bl true)) (eFn (fnN 2 f_law_renamed) (eCons (eVar 14) (eCons (eDisp [(eC (.str "x"), eBin ixD (eVar 1) (eC (.int 0)))]) (eNil))) []) [14]) (eNil))))
  (sIf (eBin isD (eFn (fnN 3 f_why_no_shape) (eCons (eVar 11) (eCons (eVar 12) (eCons (eVar 13) (eNil)))) []) (eC .non))
  (sApp 10 (eTup (eCons (eVar 11) (eCons (eVar 12) (eCons (eVar 13) (eNil))))))
  (sNil)))))
  (sFrz [10] (sRet (eVar 10))))))))))
def f_law_others : Fn := fnSem 1 15 b_law_others
theorem ok_law_others (T : Tx K mg) (g_law_renamed : FnAt P w K mg base 7 "_law_renamed" 2 f_law_renamed) (g_why_no_shape : FnAt P w K mg base 5 "why_no_shape" 3 f_why_no_shape) {f : Addr} {fd : FuncData} {dv0 : List V} {kw0 : List (Str × V)} (F : FunD K "_law_others" "_law_others" (defArgs s_law_others) (defBody s_law_others) (defScope s_law_others) dv0 kw0 f fd) :
    FnOk P w K mg base CX0 8 f fd p_law_others (spF K mg 1 f_law_others) :=
  fn_okF F sc_law_others (fun cdv A outer s H E hr => (dss_cons (ds_asg (de_of 0 (pv 0)) (dg_tup (by rfl) (dgs_cons (dg_of (i := 1) (pg_name (i := 1) sc_law_others.nd rfl (by first | exact Or.inl rfl | exact Or.inr rfl))) (dgs_cons (dg_of (i := 2) (pg_name (i := 2) sc_law_others.nd rfl (by first | exact Or.inl rfl | exact Or.inr rfl))) (dgs_cons (dg_of (i := 3) (pg_name (i := 3) sc_law_others.nd rfl (by first | exact Or.inl rfl | exact Or.inr rfl))) dgs_nil))) (gsC_len (gsC_len (gsC_len gs0_len)))))
  (dss_cons (ds_set (i := 4) sc_law_others.nd rfl (by first | exact Or.inl rfl | exact Or.inr rfl) (de_lst (da_cons (de_tup (da_cons (de_bin op_addX (de_of 1 (pv 1)) (de_tup (da_cons de_str da_nil))) (da_cons (de_of 2 (pv 2)) (da_cons (de_of 3 (pv 3)) da_nil)))) (da_cons (de_tup (da_cons (de_of 1 (pv 1)) (da_cons (de_bin op_addX (de_of 2 (pv 2)) (de_tup (da_cons (de_tup (da_cons de_str (da_cons (de_ix hr (de_of 1 (pv 1)) de_int) (da_cons (de_ix hr (de_of 1 (pv 1)) de_int) da_nil)))) da_nil))) (da_cons (de_bin op_addX (de_of 3 (pv 3)) (de_tup (da_cons (de_tup (da_cons (de_tup (da_cons de_str (da_cons de_str da_nil))) (da_cons (de_tup (da_cons de_str da_nil)) da_nil))) da_nil))) da_nil)))) da_nil))))
  (dss_cons (ds_set (i := 4) sc_law_others.nd rfl (by first | exact Or.inl rfl | exact Or.inr rfl) (de_bin op_addX (de_of 4 (pv 4)) (de_lst (da_cons (de_tup (da_cons (de_of 1 (pv 1)) (da_cons (de_of 2 (pv 2)) (da_cons (de_tup da_nil) da_nil)))) (da_cons (de_tup (da_cons (de_of 1 (pv 1)) (da_cons (de_tup da_nil) (da_cons (de_tup da_nil) da_nil)))) da_nil)))))
  (dss_cons (ds_ownCat (i := 4) sc_law_others.nd rfl (by first | exact Or.inl rfl | exact Or.inr rfl) (de_of 4 (pv 4)) (de_lst (da_cons (de_tup (da_cons (de_rev (de_of 1 (pv 1))) (da_cons (de_of 2 (pv 2)) (da_cons (de_of 3 (pv 3)) da_nil)))) (da_cons (de_tup (da_cons (de_of 1 (pv 1)) (da_cons (de_of 2 (pv 2)) (da_cons (de_rev (de_of 3 (pv 3))) da_nil)))) (da_cons (de_tup (da_cons (de_sl (de_of 1 (pv 1)) do_none (do_some de_int)) (da_cons (de_tup da_nil) (da_cons (de_tup da_nil) da_nil)))) (da_cons (de_tup (da_cons (de_of 1 (pv 1)) (da_cons (de_rev (de_of 2 (pv 2))) (da_cons (de_of 3 (pv 3)) da_nil)))) da_nil))))))
  (dss_cons (ds_for PassesOwn.never (by rfl) (di_enum (by rfl) T.z_enumerate (da_cons (de_of 2 (pv 2)) da_nil)) (dg_tup (by rfl) (dgs_cons (dg_of (i := 5) (pg_name (i := 5) sc_law_others.nd rfl (by first | exact Or.inl rfl | exact Or.inr rfl))) (dgs_cons (dg_of (i := 6) (pg_name (i := 6) sc_law_others.nd rfl (by first | exact Or.inl rfl | exact Or.inr rfl))) dgs_nil)) (gsC_len (gsC_len gs0_len)))
  (dss_cons (ds_frz [4] (ds_set (i := 4) sc_law_others.nd rfl (by first | exact Or.inl rfl | exact Or.inr rfl) (de_bin op_addX (de_of 4 (pv 4)) (de_lc (own := [("_law_kind", 7)]) (by rfl) sc_law_others.nd (di_any (de_of 1 (pv 1))) (blkOk_by (N := n_law_others) (sc := (defScope s_law_others)) (by decide +kernel)) (by decide) (fun _ _ _ _ _ => (dg_of (i := 7) (pg_name (i := 7) sc_law_others.nd rfl (by first | exact Or.inl rfl | exact Or.inr rfl)))) (fun _ _ _ _ _ => dts_nil) (fun _ _ _ _ _ => (de_tup (da_cons (de_of 1 (pv 1)) (da_cons (de_bin op_addX (de_bin op_addX (de_sl (de_of 2 (pv 2)) do_none (do_some (de_of 5 (pv 5)))) (de_tup (da_cons (de_tup (da_cons (de_ix hr (de_of 6 (pv 6)) de_int) (da_cons (de_ix hr (de_of 6 (pv 6)) de_int) (da_cons (de_of 7 (pv 7)) da_nil)))) da_nil))) (de_sl (de_of 2 (pv 2)) (do_some (de_bin op_addX (de_of 5 (pv 5)) de_int)) do_none)) (da_cons (de_of 3 (pv 3)) da_nil)))))))))
  (dss_one (ds_ownCat (i := 4) sc_law_others.nd rfl (by first | exact Or.inl rfl | exact Or.inr rfl) (de_of 4 (pv 4)) (de_lc (own := [("_law_kind", 7)]) (by rfl) sc_law_others.nd (di_any (de_of 1 (pv 1))) (blkOk_by (N := n_law_others) (sc := (defScope s_law_others)) (by decide +kernel)) (by decide) (fun _ _ _ _ _ => (dg_of (i := 7) (pg_name (i := 7) sc_law_others.nd rfl (by first | exact Or.inl rfl | exact Or.inr rfl)))) (fun _ _ _ _ _ => dts_nil) (fun _ _ _ _ _ => (de_tup (da_cons (de_of 1 (pv 1)) (da_cons (de_bin op_addX (de_bin op_addX (de_sl (de_of 2 (pv 2)) do_none (do_some (de_of 5 (pv 5)))) (de_tup (da_cons (de_tup (da_cons (de_ix hr (de_of 6 (pv 6)) de_int) (da_cons (de_of 7 (pv 7)) (da_cons (de_ix hr (de_of 6 (pv 6)) de_int) da_nil)))) da_nil))) (de_sl (de_of 2 (pv 2)) (do_some (de_bin op_addX (de_of 5 (pv 5)) de_int)) do_none)) (da_cons (de_of 3 (pv 3)) da_nil))))))))))
  (dss_cons (ds_for PassesOwn.never (by rfl) (di_enum (by rfl) T.z_enumerate (da_cons (de_of 3 (pv 3)) da_nil)) (dg_tup (by rfl) (dgs_cons (dg_of (i := 5) (pg_name (i := 5) sc_law_others.nd rfl (by first | exact Or.inl rfl | exact Or.inr rfl))) (dgs_cons (dg_of (i := 8) (pg_name (i := 8) sc_law_others.nd rfl (by first | exact Or.inl rfl | exact Or.inr rfl))) dgs_nil)) (gsC_len (gsC_len gs0_len)))
  (dss_one (ds_for PassesOwn.never (by rfl) (di_any (de_lst (da_cons (de_sl (de_ix hr (de_of 8 (pv 8)) de_int) do_none (do_some de_int)) (da_cons (de_sl (de_ix hr (de_of 8 (pv 8)) de_int) do_none (do_some de_int)) da_nil)))) (dg_of (i := 9) (pg_name (i := 9) sc_law_others.nd rfl (by first | exact Or.inl rfl | exact Or.inr rfl)))
  (dss_one (ds_app (pv 4) (de_tup (da_cons (de_of 1 (pv 1)) (da_cons (de_of 2 (pv 2)) (da_cons (de_bin op_addX (de_bin op_addX (de_sl (de_of 3 (pv 3)) do_none (do_some (de_of 5 (pv 5)))) (de_tup (da_cons (de_tup (da_cons (de_ix hr (de_of 8 (pv 8)) de_int) (da_cons (de_of 9 (pv 9)) da_nil))) da_nil))) (de_sl (de_of 3 (pv 3)) (do_some (de_bin op_addX (de_of 5 (pv 5)) de_int)) do_none)) da_nil)))))))))
  (dss_cons (ds_own (i := 10) sc_law_others.nd rfl (by first | exact Or.inl rfl | exact Or.inr rfl) da_nil)
  (dss_cons (ds_frz [4] (ds_for PassesOwn.never (by rfl) (di_any (de_of 4 (pv 4))) (dg_tup (by rfl) (dgs_cons (dg_of (i := 11) (pg_name (i := 11) sc_law_others.nd rfl (by first | exact Or.inl rfl | exact Or.inr rfl))) (dgs_cons (dg_of (i := 12) (pg_name (i := 12) sc_law_others.nd rfl (by first | exact Or.inl rfl | exact Or.inr rfl))) (dgs_cons (dg_of (i := 13) (pg_name (i := 13) sc_law_others.nd rfl (by first | exact Or.inl rfl | exact Or.inr rfl))) dgs_nil))) (gsC_len (gsC_len (gsC_len gs0_len))))
  (dss_cons (ds_set (i := 13) sc_law_others.nd rfl (by first | exact Or.inl rfl | exact Or.inr rfl) (de_callTy cr_tupleX (by rfl) T.z_tuple (by decide +kernel) (da_cons (de_lc (own := [("_law_one", 14)]) (by rfl) sc_law_others.nd (di_any (de_of 13 (pv 13))) (blkOk_by (N := n_law_others) (sc := (defScope s_law_others)) (by decide +kernel)) (by decide) (fun _ _ _ _ _ => (dg_of (i := 14) (pg_name (i := 14) sc_law_others.nd rfl (by first | exact Or.inl rfl | exact Or.inr rfl)))) (fun _ _ _ _ _ => dts_nil) (fun _ _ _ _ _ => (de_callG g_law_renamed (hr.mono (by decide)) (by rfl) (da_cons (de_of 14 (pv 14)) (da_cons (de_disp (dps_cons de_str (de_ix hr (de_of 1 (pv 1)) de_int) dps_nil)) da_nil))))) da_nil)))
  (dss_one (ds_if (dt_cmp op_isX (de_callG g_why_no_shape (hr.mono (by decide)) (by rfl) (da_cons (de_of 11 (pv 11)) (da_cons (de_of 12 (pv 12)) (da_cons (de_of 13 (pv 13)) da_nil)))) de_non (nomark _))
  (dss_one (ds_app (pv 10) (de_tup (da_cons (de_of 11 (pv 11)) (da_cons (de_of 12 (pv 12)) (da_cons (de_of 13 (pv 13)) da_nil))))))
  dss_nil)))))
  (dss_one (ds_frz [10] (ds_ret (de_of 10 (pv 10))))))))))))))
/-! _law_apart_right -/
abbrev s_law_apart_right : Stmt := topS 33
abbrev n_law_apart_right : List Str := ["_law_some", "_law_loop", "_law_side", "_law_drawn", "_law_a", "_law_b", "_law_c", "_law_at", "_law_one", "_law_other", "_law_place"]
abbrev p_law_apart_right : List Str := []
theorem sc_law_apart_right : FnScope n_law_apart_right p_law_apart_right (defScope s_law_apart_right) := ⟨rfl, rfl, rfl, by decide +kernel, rfl, by decide +kernel, by decide +kernel⟩
def b_law_apart_right : Cm := sSeq (sSet 0 (eLst (eCons (eTup (eCons (eTup (eCons (eC (.str "a")) (eCons (eC (.str "b")) (eCons (eC (.str "c")) (eNil))))) (eCons (eTup (eCons (eTup (eCons (eC (.str "f")) (eCons (eC (.str "a")) (eCons (eC (.str "c")) (eNil))))) (eNil))) (eCons (eTup (eNil)) (eNil))))) (eCons (eTup (eCons (eTup (eCons (eC (.str "a")) (eCons (eC (.str "b")) (eCons (eC (.str "c")) (eNil))))) (eCons (eTup (eCons (eTup (eCons (eC (.str "f")) (eCons (eC (.str "b")) (eCons (eC (.str "c")) (eNil))))) (eNil))) (eCons (eTup (eNil)) (eNil))))) (eNil)))))
  (sSeq (sSet 0 (eBin addD (eVar 0) (eLst (eCons (eTup (eCons (eTup (eCons (eC (.str "a")) (eCons (eC (.str "b")) (eCons (eC (.str "c")) (eNil))))) (eCons (eTup (eCons (eTup (eCons (eC (.str "f")) (eCons (eC (.str "a")) (eCons (eC (.str "b")) (eNil))))) (eNil))) (eCons (eTup (eNil)) (eNil))))) (eCons (eTup (eCons (eTup (eCons (eC (.str "a")) (eCons (eC (.str "b")) (eCons (eC (.str "c")) (eNil))))) (eCons (eTup (eCons (eTup (eCons (eC (.str "f")) (eCons (eC (.str "c")) (eCons (eC (.str "a")) (eNil))))) (eNil))) (eCons (eTup (eNil)) (eNil))))) (eNil))))))
  (sSeq (sSet 1 (eTup (eCons (eTup (eCons (eC (.str "s")) (eCons (eC (.str "a")) (eCons (eC (.str "a")) (eNil))))) (eNil))))
  (sSeq (sSet 0 (eBin addD (eVar 0) (eLc (iA (eLst (eCons (eTup (eCons (eC (.str "a")) (eNil))) (eCons (eTup (eCons (eC (.str "a")) (eCons (eC (.str "s")) (eNil)))) (eNil))))) (gN 2) (eC (.bl true)) (eTup (eCons (eTup (eCons (eC (.str "a")) (eNil))) (eCons (eVar 1) (eCons (eTup (eCons (eTup (eCons (eTup (eCons (eC (.str "a")) (eCons (eC (.str "s")) (eCons (eC (.str "s")) (eNil))))) (eCons (eVar 2) (eNil)))) (eNil))) (eNil))))) [2])))
  (sSeq (sSet 3 (eLc (iA (eVar 0)) (gT (gsC (gN 4) (gsC (gN 5) (gsC (gN 6) (gs0))))) (eC (.bl true)) (eMk "Shape" f_Shape_init (eCons (eVar 4) (eCons (eVar 5) (eCons (eVar 6) (eNil)))) [] 4) [4, 5, 6]))
  (sSeq (sFor (iE (eCons (eVar 3) (eNil))) (gT (gsC (gN 7) (gsC (gN 8) (gs0))))
  (sSeq (sIf (eO (neA "Shape" f_Shape_eq) (eLc (iA (eVar 3)) (gN 9) (eC (.bl true)) (eO (eqA "Shape" f_Shape_eq) (eVar 8) (eVar 9)) [9]) (eLc (iR1 (eCons (eC (.int 6)) (eNil))) (gN 10) (eC (.bl true)) (eO (eqA "Shape" f_Shape_eq) (eVar 7) (eVar 10)) [10]))
  (sRet (eC (.bl false)))
  (sNil))
  (sIf (eO (neA "Shape" f_Shape_eq) (eLc (iA (eVar 3)) (gN 9) (eC (.bl true)) (eO (neA "Shape" f_Shape_eq) (eVar 8) (eVar 9)) [9]) (eLc (iR1 (eCons (eC (.int 6)) (eNil))) (gN 10) (eC (.bl true)) (eO (neA "Shape" f_Shape_eq) (eVar 7) (eVar 10)) [10]))
  (sRet (eC (.bl false)))
  (sNil))))
  (sRet (eC (.bl true))))))))
def f_law_apart_right : Fn := fnSem 0 11 b_law_apart_right
theorem ok_law_apart_right (T : Tx K mg) (g_Shape : MkAt P w K mg base 6 "Shape" 4 f_Shape_init) (ge_Shape : EqAt P w K mg base 1 "Shape" f_Shape_eq) {f : Addr} {fd : FuncData} {dv0 : List V} {kw0 : List (Str × V)} (F : FunD K "_law_apart_right" "_law_apart_right" (defArgs s_law_apart_right) (defBody s_law_apart_right) (defScope s_law_apart_right) dv0 kw0 f fd) :
    FnOk P w K mg base CX0 8 f fd p_law_apart_right (spF K mg 0 f_law_apart_right) :=
  fn_okF F sc_law_apart_right (fun cdv A outer s H E hr => (dss_cons (ds_set (i := 0) sc_law_apart_right.nd rfl (by first | exact Or.inl rfl | exact Or.inr rfl) (de_lst (da_cons (de_tup (da_cons (de_tup (da_cons de_str (da_cons de_str (da_cons de_str da_nil)))) (da_cons (de_tup (da_cons (de_tup (da_cons de_str (da_cons de_str (da_cons de_str da_nil)))) da_nil)) (da_cons (de_tup da_nil) da_nil)))) (da_cons (de_tup (da_cons (de_tup (da_cons de_str (da_cons de_str (da_cons de_str da_nil)))) (da_cons (de_tup (da_cons (de_tup (da_cons de_str (da_cons de_str (da_cons de_str da_nil)))) da_nil)) (da_cons (de_tup da_nil) da_nil)))) da_nil))))
  (dss_cons (ds_set (i := 0) sc_law_apart_right.nd rfl (by first | exact Or.inl rfl | exact Or.inr rfl) (de_bin op_addX (de_of 0 (pv 0)) (de_lst (da_cons (de_tup (da_cons (de_tup (da_cons de_str (da_cons de_str (da_cons de_str da_nil)))) (da_cons (de_tup (da_cons (de_tup (da_cons de_str (da_cons de_str (da_cons de_str da_nil)))) da_nil)) (da_cons (de_tup da_nil) da_nil)))) (da_cons (de_tup (da_cons (de_tup (da_cons de_str (da_cons de_str (da_cons de_str da_nil)))) (da_cons (de_tup (da_cons (de_tup (da_cons de_str (da_cons de_str (da_cons de_str da_nil)))) da_nil)) (da_cons (de_tup da_nil) da_nil)))) da_nil)))))
  (dss_cons (ds_set (i := 1) sc_law_apart_right.nd rfl (by first | exact Or.inl rfl | exact Or.inr rfl) (de_tup (da_cons (de_tup (da_cons de_str (da_cons de_str (da_cons de_str da_nil)))) da_nil)))
  (dss_cons (ds_set (i := 0) sc_law_apart_right.nd rfl (by first | exact Or.inl rfl | exact Or.inr rfl) (de_bin op_addX (de_of 0 (pv 0)) (de_lc (own := [("_law_side", 2)]) (by rfl) sc_law_apart_right.nd (di_any (de_lst (da_cons (de_tup (da_cons de_str da_nil)) (da_cons (de_tup (da_cons de_str (da_cons de_str da_nil))) da_nil)))) (blkOk_by (N := n_law_apart_right) (sc := (defScope s_law_apart_right)) (by decide +kernel)) (by decide) (fun _ _ _ _ _ => (dg_of (i := 2) (pg_name (i := 2) sc_law_apart_right.nd rfl (by first | exact Or.inl rfl | exact Or.inr rfl)))) (fun _ _ _ _ _ => dts_nil) (fun _ _ _ _ _ => (de_tup (da_cons (de_tup (da_cons de_str da_nil)) (da_cons (de_of 1 (pv 1)) (da_cons (de_tup (da_cons (de_tup (da_cons (de_tup (da_cons de_str (da_cons de_str (da_cons de_str da_nil)))) (da_cons (de_of 2 (pv 2)) da_nil))) da_nil)) da_nil))))))))
  (dss_cons (ds_setLc (i := 3) (own := [("_law_a", 4), ("_law_b", 5), ("_law_c", 6)]) (by rfl) sc_law_apart_right.nd rfl rfl (sw_true rfl rfl rfl (by decide +kernel)) (di_any (de_of 0 (pv 0))) (blkOk_by (N := n_law_apart_right) (sc := (defScope s_law_apart_right)) (by decide +kernel)) (by decide) (fun _ _ _ _ _ => (dg_tup (by rfl) (dgs_cons (dg_of (i := 4) (pg_name (i := 4) sc_law_apart_right.nd rfl (by first | exact Or.inl rfl | exact Or.inr rfl))) (dgs_cons (dg_of (i := 5) (pg_name (i := 5) sc_law_apart_right.nd rfl (by first | exact Or.inl rfl | exact Or.inr rfl))) (dgs_cons (dg_of (i := 6) (pg_name (i := 6) sc_law_apart_right.nd rfl (by first | exact Or.inl rfl | exact Or.inr rfl))) dgs_nil))) (gsC_len (gsC_len (gsC_len gs0_len))))) (fun _ _ _ _ _ => dts_nil) (fun _ _ _ _ _ => (de_makeG g_Shape (hr.mono (by decide)) (by rfl) (da_cons (de_of 4 (pv 4)) (da_cons (de_of 5 (pv 5)) (da_cons (de_of 6 (pv 6)) da_nil))))))
  (dss_cons (ds_for PassesOwn.never (by rfl) (di_enum (by rfl) T.z_enumerate (da_cons (de_of 3 (pv 3)) da_nil)) (dg_tup (by rfl) (dgs_cons (dg_of (i := 7) (pg_name (i := 7) sc_law_apart_right.nd rfl (by first | exact Or.inl rfl | exact Or.inr rfl))) (dgs_cons (dg_of (i := 8) (pg_name (i := 8) sc_law_apart_right.nd rfl (by first | exact Or.inl rfl | exact Or.inr rfl))) dgs_nil)) (gsC_len (gsC_len gs0_len)))
  (dss_cons (ds_if (dt_cmpO (op_neA ge_Shape (hr.mono (by decide)) hr) (de_lc (own := [("_law_other", 9)]) (by rfl) sc_law_apart_right.nd (di_any (de_of 3 (pv 3))) (blkOk_by (N := n_law_apart_right) (sc := (defScope s_law_apart_right)) (by decide +kernel)) (by decide) (fun _ _ _ _ _ => (dg_of (i := 9) (pg_name (i := 9) sc_law_apart_right.nd rfl (by first | exact Or.inl rfl | exact Or.inr rfl)))) (fun _ _ _ _ _ => dts_nil) (fun _ _ _ _ _ => (de_cmpO (op_eqA ge_Shape (hr.mono (by decide)) hr) (de_of 8 (pv 8)) (de_of 9 (pv 9)) (nomark _)))) (de_lc (own := [("_law_place", 10)]) (by rfl) sc_law_apart_right.nd (di_rng1 (by rfl) T.z_range (da_cons de_int da_nil)) (blkOk_by (N := n_law_apart_right) (sc := (defScope s_law_apart_right)) (by decide +kernel)) (by decide) (fun _ _ _ _ _ => (dg_of (i := 10) (pg_name (i := 10) sc_law_apart_right.nd rfl (by first | exact Or.inl rfl | exact Or.inr rfl)))) (fun _ _ _ _ _ => dts_nil) (fun _ _ _ _ _ => (de_cmpO (op_eqA ge_Shape (hr.mono (by decide)) hr) (de_of 7 (pv 7)) (de_of 10 (pv 10)) (nomark _)))) (nomark _))
  (dss_one (ds_ret de_bl))
  dss_nil)
  (dss_one (ds_if (dt_cmpO (op_neA ge_Shape (hr.mono (by decide)) hr) (de_lc (own := [("_law_other", 9)]) (by rfl) sc_law_apart_right.nd (di_any (de_of 3 (pv 3))) (blkOk_by (N := n_law_apart_right) (sc := (defScope s_law_apart_right)) (by decide +kernel)) (by decide) (fun _ _ _ _ _ => (dg_of (i := 9) (pg_name (i := 9) sc_law_apart_right.nd rfl (by first | exact Or.inl rfl | exact Or.inr rfl)))) (fun _ _ _ _ _ => dts_nil) (fun _ _ _ _ _ => (de_cmpO (op_neA ge_Shape (hr.mono (by decide)) hr) (de_of 8 (pv 8)) (de_of 9 (pv 9)) (nomark _)))) (de_lc (own := [("_law_place", 10)]) (by rfl) sc_law_apart_right.nd (di_rng1 (by rfl) T.z_range (da_cons de_int da_nil)) (blkOk_by (N := n_law_apart_right) (sc := (defScope s_law_apart_right)) (by decide +kernel)) (by decide) (fun _ _ _ _ _ => (dg_of (i := 10) (pg_name (i := 10) sc_law_apart_right.nd rfl (by first | exact Or.inl rfl | exact Or.inr rfl)))) (fun _ _ _ _ _ => dts_nil) (fun _ _ _ _ _ => (de_cmpO (op_neA ge_Shape (hr.mono (by decide)) hr) (de_of 7 (pv 7)) (de_of 10 (pv 10)) (nomark _)))) (nomark _))
  (dss_one (ds_ret de_bl))
  dss_nil))))
  (dss_one (ds_ret de_bl)))))))))
end
end K02

set_option Elab.async false
set_option linter.all false
set_option maxRecDepth 100000
set_option maxHeartbeats 4000000
namespace K02
open PySem PySem.Spec PyProof.Rows L2 LL
theorem atI0 {α : Type} (x : α) (xs : List α) : L2.atI (x :: xs) 0 = some x := by
  exact L2.atI_nat (j := 0) rfl
theorem digit {n : Nat} {cs : Cs} {t m : Int} (h : cs[n]? = some [.int t]) (hm : 0 < m) (hb : m < 1000) : f_law_digit [.cell n, .int m] cs = .ok (.int (t % m)) (cs.set n [.int (t / m)]) := by
  have hl : m.natAbs.log2 < 9000 := by
    have h2 : m.natAbs < 1000 := by omega
    have : m.natAbs.log2 ≤ m.natAbs := Nat.log2_le_self _
    omega
  have hi : ixN 1 0 = some 0 := by decide +kernel
  simp [f_law_digit, fnSem, b_law_digit, sSeq, sSet, eBin, eVar, eC, ixD, modD, fdivD, sCell, sRet, h, atI0, hm, hl, Res.opt, hi]
theorem cell_at (ns : List Int) (k : Nat) (hk : k < 100) (cs : Cs) : ∃ v : Int, f_law_cell_at [.scr (ns.map .int), .int k] cs = .ok (.int v) cs := by
  by_cases h : k < ns.length
  · refine ⟨ns[k], ?_⟩
    have e : L2.atI (ns.map D.int) (k : Int) = some (.int ns[k]) := by
      exact L2.atI_nat (by simp [h])
    simp [f_law_cell_at, fnSem, b_law_cell_at, sSeq, sIf, eBin, eVar, eCall, lenD, eCons, eNil, ordD, sRet, ixD, Res.opt, asB, h, e]
  · refine ⟨0, ?_⟩
    simp [f_law_cell_at, fnSem, b_law_cell_at, sSeq, sIf, eBin, eVar, eCall, lenD, eCons, eNil, ordD, sRet, ixD, Res.opt, asB, h, eC, sNil]
theorem small1 {a : Int} (h0 : 0 ≤ a) : -18446744073709551616 < a := by omega
theorem small2 {p a : Int} (h0 : a < p) (hp2 : p < 4000000000000000002) : a < 18446744073709551616 := by omega
theorem small3 {i : Nat} (hi : i < 24) : (69621 * ((i : Int) + 1)) < 18446744073709551616 := by omega
theorem step1 (p : Int) (hp : 0 < p) (hp2 : p < 4000000000000000000) (a b : Int) (k : Nat) (v : Int) (h0 : 0 ≤ a) (h1 : a < p) (i : Nat) (hi : i < 24) (hk : k < 100) (cs : Cs) (S : List Sl) (e1 : S[1]? = some (.val (.int k))) (e2 : S[2]? = some (.val (.int v))) (e3 : S[3]? = some (.val (.int p))) (e4 : S[4]? = some (.val (.int a))) (e6 : S[6]? = some (.val (.int i))) :
   (eBin modD (eBin addD (eBin addD (eBin mulD (eVar 4) (eVar 4)) (eBin mulD (eBin mulD (eC (.int 69621)) (eBin addD (eVar 6) (eC (.int 1)))) (eBin addD (eVar 1) (eC (.int 1))))) (eVar 2)) (eVar 3)) S cs = .ok (.int ((a * a + 69621 * ((i : Int) + 1) * ((k : Int) + 1) + v) % p)) cs :=
  eBin_ok (eBin_ok (eBin_ok (eBin_ok (eVar_ok e4) (eVar_ok e4) (mulD_intL cs a a (small1 h0) (small2 h1 (Int.lt_trans hp2 (by decide))))) (eBin_ok (eBin_ok rfl (eBin_ok (eVar_ok e6) rfl (addD_int cs _ _)) (mulD_intL cs _ _ (by decide) (by decide))) (eBin_ok (eVar_ok e1) rfl (addD_int cs _ _)) (mulD_intL cs _ _ (small1 (by omega)) (small3 hi))) (addD_int cs _ _)) (eVar_ok e2) (addD_int cs _ _)) (eVar_ok e3) (modD_int cs _ _ hp)
theorem step2 (p a b : Int) (h1 : -18446744073709551616 < p) (h2 : p < 18446744073709551616) (cs : Cs) (S : List Sl) (e3 : S[3]? = some (.val (.int p))) (e4 : S[4]? = some (.val (.int a))) (e5 : S[5]? = some (.val (.int b))) :
    eBin addD (eBin mulD (eVar 5) (eVar 3)) (eVar 4) S cs = .ok (.int (b * p + a)) cs :=
  eBin_ok (eBin_ok (eVar_ok e5) (eVar_ok e3) (mulD_intR cs _ _ h1 h2)) (eVar_ok e4) (addD_int cs _ _)
theorem mill (p : Int) (hp : 0 < p) (hp2 : p < 4000000000000000000) (a b : Int) (k : Nat) (v : Int) (x6 : Sl) (h0 : 0 ≤ a) (h1 : a < p) (i : Nat) (hi : i < 24) (hk : k < 100) (sc : D) (cs : Cs) :
    ∃ a' b' : Int, 0 ≤ a' ∧ a' < p ∧ (sSeq (sSet 4 (eBin modD (eBin addD (eBin addD (eBin mulD (eVar 4) (eVar 4)) (eBin mulD (eBin mulD (eC (.int 69621)) (eBin addD (eVar 6) (eC (.int 1)))) (eBin addD (eVar 1) (eC (.int 1))))) (eVar 2)) (eVar 3)))
      (sSet 5 (eBin addD (eBin mulD (eVar 5) (eVar 3)) (eVar 4)))) [.val sc, .val (.int k), .val (.int v), .val (.int p), .val (.int a), .val (.int b), .val (.int i)] cs =
      .nx [.val sc, .val (.int k), .val (.int v), .val (.int p), .val (.int a'), .val (.int b'), .val (.int i)] cs := by
  have h2 : -18446744073709551616 < p := small1 (Int.le_of_lt hp)
  have h3 : p < 18446744073709551616 := small2 (Int.lt_succ p) (Int.lt_of_le_of_lt (Int.add_one_le_of_lt hp2) (by decide))
  refine ⟨(a * a + 69621 * ((i : Int) + 1) * ((k : Int) + 1) + v) % p, b * p + (a * a + 69621 * ((i : Int) + 1) * ((k : Int) + 1) + v) % p, Int.emod_nonneg _ (Int.ne_of_gt hp), Int.emod_lt_of_pos _ hp, ?_⟩
  rw [sSeq_nx (sSet_ok (step1 p hp hp2 a b k v h0 h1 i hi hk cs _ rfl rfl rfl rfl rfl))]
  exact sSet_ok (step2 p _ b h2 h3 cs _ rfl rfl rfl)
theorem tape (ns : List Int) (k : Nat) (hk : k < 100) (cs : Cs) : ∃ t : Int, f_law_tape [.scr (ns.map .int), .int k] cs = .ok (.cell cs.length) (cs ++ [[.int t]]) := by
  obtain ⟨v, hv⟩ := cell_at ns k hk cs
  have hp : powD cs (.int 10) (.int 18) = some (.int 1000000000000000000) := by simp [powD]
  have hv' : eFn (fnN 2 f_law_cell_at) (eCons (eVar 0) (eCons (eVar 1) (eNil))) [] [.val (.scr (ns.map .int)), .val (.int k), .un, .un, .un, .un, .un] cs = .ok (.int v) cs := by
    refine eFn_ok (ds := [.scr (ns.map .int), .int k]) (cs1 := cs) rfl ?_
    exact (fnN_ok (n := 2) rfl).trans hv
  show ∃ t : Int, fnRes (b_law_tape [.val (.scr (ns.map .int)), .val (.int k), .un, .un, .un, .un, .un] cs) = _
  unfold b_law_tape
  rw [sSeq_nx (sSet_ok hv')]
  simp only [List.set_cons_succ, List.set_cons_zero]
  have test0 : eBin eqD (eVar 2) (eC (.int 0)) [.val (.scr (ns.map .int)), .val (.int k), .val (.int v), .un, .un, .un, .un] cs = .ok (.bl (decide (v = 0))) cs := eBin_ok (eVar_ok rfl) rfl (eqD_int cs v 0)
  by_cases h0 : v = 0
  · refine ⟨0, ?_⟩
    rw [decide_eq_true h0] at test0
    rw [sSeq_rt (d := .cell cs.length) (cs' := cs ++ [[.int 0]]) (by rw [sIf_t test0]; rfl)]
    rfl
  rw [decide_eq_false h0] at test0
  rw [sSeq_nx (by rw [sIf_f test0]; rfl)]
  have test1 : eBin geD (eVar 2) (eBin powD (eC (.int 10)) (eC (.int 18))) [.val (.scr (ns.map .int)), .val (.int k), .val (.int v), .un, .un, .un, .un] cs = .ok (.bl (decide (1000000000000000000 ≤ v))) cs :=
    eBin_ok (eVar_ok rfl) (eBin_ok rfl rfl hp) (geD_int cs v _)
  by_cases h1 : 1000000000000000000 ≤ v
  · refine ⟨v - 1000000000000000000, ?_⟩
    rw [decide_eq_true h1] at test1
    rw [sSeq_rt (d := .cell cs.length) (cs' := cs ++ [[.int (v - 1000000000000000000)]]) (by
      rw [sIf_t test1]
      refine sRet_ok ?_
      have e : eCons (eBin subD (eVar 2) (eBin powD (eC (.int 10)) (eC (.int 18)))) eNil [.val (.scr (ns.map .int)), .val (.int k), .val (.int v), .un, .un, .un, .un] cs = .ok [.int (v - 1000000000000000000)] cs :=
        eCons_ok (eBin_ok (eVar_ok rfl) (eBin_ok rfl rfl hp) (subD_int cs v _)) rfl
      simp [eNew, e])]
    rfl
  rw [decide_eq_false h1] at test1
  rw [sSeq_nx (by rw [sIf_f test1]; rfl)]
  obtain ⟨p, hpe⟩ : ∃ p : Int, p = 2305843009213693951 := ⟨_, rfl⟩
  have hp0 : 0 < p := by omega
  have hp2 : p < 4000000000000000000 := by omega
  rw [← hpe]
  rw [sSeq_nx (sSet_ok rfl)]
  simp only [List.set_cons_succ, List.set_cons_zero]
  have m1 : mulD cs (.int v) (.int 48271) = some (.int (v * 48271)) := mulD_intR cs _ _ (by omega) (by omega)
  have m2 : mulD cs (.int 40692) (.int (k : Int)) = some (.int (40692 * (k : Int))) := mulD_intL cs _ _ (by omega) (by omega)
  rw [sSeq_nx (sSet_ok (eBin_ok (eBin_ok (eBin_ok (eBin_ok (eVar_ok rfl) rfl m1) (eBin_ok rfl (eVar_ok rfl) m2) (addD_int cs _ _)) rfl (addD_int cs _ _)) (eVar_ok rfl) (modD_int cs _ _ hp0)))]
  rw [sSeq_nx (sSet_ok (eVar_ok rfl))]
  simp only [List.set_cons_succ, List.set_cons_zero]
  obtain ⟨S', cs', e1, e2, a', b', x, hS, _⟩ := forLoop_inv (g := gN 6) (c := sSeq (sSet 4 (eBin modD (eBin addD (eBin addD (eBin mulD (eVar 4) (eVar 4)) (eBin mulD (eBin mulD (eC (.int 69621)) (eBin addD (eVar 6) (eC (.int 1)))) (eBin addD (eVar 1) (eC (.int 1))))) (eVar 2)) (eVar 3)))
      (sSet 5 (eBin addD (eBin mulD (eVar 5) (eVar 3)) (eVar 4))))
    (fun i S cs1 => cs1 = cs ∧ ∃ (a b : Int) (x : Sl), S = [.val (.scr (ns.map .int)), .val (.int k), .val (.int v), .val (.int p), .val (.int a), .val (.int b), x] ∧ 0 ≤ a ∧ a < p)
    (ds := rngD 0 24) (k := 0) (S := [.val (.scr (ns.map .int)), .val (.int k), .val (.int v), .val (.int p), .val (.int ((v * 48271 + 40692 * (k : Int) + 31) % p)), .val (.int ((v * 48271 + 40692 * (k : Int) + 31) % p)), .un]) (cs := cs)
    ⟨rfl, _, _, _, rfl, Int.emod_nonneg _ (by omega), Int.emod_lt_of_pos _ hp0⟩ (by
      rintro i d S cs1 hd ⟨rfl, a, b, x, rfl, h2, h3⟩
      rw [rngD_get] at hd
      split at hd
      · rename_i hi
        cases hd
        obtain ⟨a', b', h4, h5, e⟩ := mill p hp0 hp2 a b k v x h2 h3 i hi hk (.scr (ns.map .int)) cs1
        refine ⟨_, [.val (.scr (ns.map .int)), .val (.int k), .val (.int v), .val (.int p), .val (.int a'), .val (.int b'), .val (.int i)], cs1, rfl, ?_, rfl, a', b', _, rfl, h4, h5⟩
        rw [show (0 : Int) + (i : Nat) = (i : Int) from Int.zero_add _]
        exact e
      · cases hd)
  subst e2 hS
  refine ⟨b', ?_⟩
  rw [sSeq_nx (by rw [sFor_ok (ds := rngD 0 24) (cs' := cs') rfl]; exact e1)]
  rfl
end K02

set_option Elab.async false
set_option linter.all false
set_option maxRecDepth 100000
set_option maxHeartbeats 4000000
namespace K02
open PySem PySem.Spec PyProof.Rows L2 LL
theorem digitT {n : Nat} {cs : Cs} (m : Nat) (h : Tape cs n) (hm : 0 < m) (hb : m < 1000) : ∃ (d : Nat) (cs' : Cs), f_law_digit [.cell n, .int m] cs = .ok (.int d) cs' ∧ d < m ∧ Tape cs' n := by
  obtain ⟨t, ht⟩ := h
  have e := digit (m := (m : Int)) ht (by omega) (by omega)
  have h0 : 0 ≤ t % (m : Int) := Int.emod_nonneg _ (by omega)
  have h1 : t % (m : Int) < m := Int.emod_lt_of_pos _ (by omega)
  refine ⟨(t % (m : Int)).toNat, cs.set n [.int (t / m)], ?_, by omega, ⟨t / m, ?_⟩⟩
  · rw [e]
    congr 2
    omega
  · have hl : n < cs.length := (List.getElem?_eq_some_iff.mp ht).1
    simp [hl]
/-- digit(tape, m) as it stands in a text -/
theorem digitE {n m : Nat} {cs : Cs} {S : List Sl} {f g : Sem} (h : Tape cs n) (hm : 0 < m) (hb : m < 1000) (hf : f S cs = .ok (.cell n) cs) (hg : g S cs = .ok (.int m) cs) :
    ∃ (d : Nat) (cs' : Cs), eFn (fnN 2 f_law_digit) (eCons f (eCons g eNil)) [] S cs = .ok (.int d) cs' ∧ d < m ∧ Tape cs' n := by
  obtain ⟨d, cs', e, h1, h2⟩ := digitT m h hm hb
  exact ⟨d, cs', eFn_ok (eCons_ok hf (eCons_ok hg rfl)) ((fnN_ok (n := 2) rfl).trans e), h1, h2⟩
end K02

set_option Elab.async false
set_option linter.all false
set_option maxRecDepth 100000
set_option maxHeartbeats 4000000
/-! the program's shapes as functions of lists of words -/
namespace K02
open PySem PySem.Spec PyProof.Rows L2 LL
/-- how often a while may turn -/
abbrev fu : Nat := 1000000000000000000000000000000
section
variable {α : Type} [DecidableEq α]
def firstL (pairs : List (List α × List α)) (ls : List α) : Option (Nat × List α × List α) := (List.range ls.length).findSome? fun i => pairs.findSome? fun p => if (ls.take (i + p.1.length)).drop i = p.1 then some (i, p.1, p.2) else none
end
abbrev tv (xs : List Str) : D := .tup (xs.map .str)
def prD (p : List Str × List Str) : D := .tup [tv p.1, tv p.2]
abbrev prs (pairs : List (List Str × List Str)) : D := .lst (pairs.map prD)
def foundD : Option (Nat × List Str × List Str) → D
  | none => .non
  | some (i, l, s) => .tup [.int (i : Nat), tv l, tv s]
structure PrOk (pairs : List (List Str × List Str)) : Prop where
  w1 : ∀ p ∈ pairs, ∀ x ∈ p.1, Wrd x
  w2 : ∀ p ∈ pairs, ∀ x ∈ p.2, Wrd x
  l1 : ∀ p ∈ pairs, p.1.length < 1000
  l2 : ∀ p ∈ pairs, p.2.length < 1000
theorem findSome_map {α β γ : Type} (f : α → Option β) (g : β → γ) : ∀ l : List α, (l.findSome? fun a => (f a).map g) = (l.findSome? f).map g
  | [] => rfl
  | a :: l => by
    rw [List.findSome?_cons, List.findSome?_cons]
    cases f a with
    | some b => rfl
    | none => exact findSome_map f g l
theorem cut_sv (ls : List Str) (i j : Nat) : slD (tv ls) (some (i : Int)) (some (j : Int)) = some (tv ((ls.take j).drop i)) := by
  show some (D.tup (LL.cutD _ _ _)) = _
  rw [cut_nat]
  simp [tv]
theorem first_long_ok {pairs : List (List Str × List Str)} (hp : PrOk pairs) {ls : List Str} (hl : ∀ x ∈ ls, Wrd x) (hn : ls.length < 1000) (cs : Cs) : f_first_long [prs pairs, tv ls] cs = .ok (foundD (firstL pairs ls)) cs := by
  show fnRes (b_first_long [.val (prs pairs), .val (tv ls), .un, .un, .un] cs) = _
  unfold b_first_long
  have elen : eCall lenD (eCons (eVar 1) eNil) [.val (prs pairs), .val (tv ls), .un, .un, .un] cs = .ok (.int (ls.length : Nat)) cs := eCall_ok (eCons_ok (eVar_ok rfl) rfl) (by simp [lenD])
  have er := iR1_ok (g := eCons (eCall lenD (eCons (eVar 1) eNil)) eNil) (eCons_ok elen rfl) hn
  have out := forLoop_find (g := gN 2) (c := sFor (iA (eVar 0)) (gT (gsC (gN 3) (gsC (gN 4) (gs0))))
      (sIf (eBin eqD (eSl (eVar 1) (oSome (eVar 2)) (oSome (eBin addD (eVar 2) (eCall lenD (eCons (eVar 3) (eNil)))))) (eVar 3))
      (sRet (eTup (eCons (eVar 2) (eCons (eVar 3) (eCons (eVar 4) (eNil)))))) (sNil)))
    (fun S => ∃ a2 a3 a4, S = [.val (prs pairs), .val (tv ls), a2, a3, a4]) (fun i : Nat => D.int (0 + (i : Nat)))
    (fun i => pairs.findSome? fun p => if (ls.take (i + p.1.length)).drop i = p.1 then some (foundD (some (i, p.1, p.2))) else none) cs (ds := List.range ls.length)
    (S := [.val (prs pairs), .val (tv ls), .un, .un, .un]) ⟨_, _, _, rfl⟩ (by
      rintro i hi S ⟨a2, a3, a4, rfl⟩
      refine ⟨[.val (prs pairs), .val (tv ls), .val (.int i), a3, a4], by rw [show (0 : Int) + (i : Nat) = (i : Int) from Int.zero_add _]; rfl, ?_⟩
      have inn := forLoop_find (g := gT (gsC (gN 3) (gsC (gN 4) (gs0)))) (c := sIf (eBin eqD (eSl (eVar 1) (oSome (eVar 2)) (oSome (eBin addD (eVar 2) (eCall lenD (eCons (eVar 3) (eNil)))))) (eVar 3))
          (sRet (eTup (eCons (eVar 2) (eCons (eVar 3) (eCons (eVar 4) (eNil)))))) (sNil))
        (fun S => ∃ a3 a4, S = [.val (prs pairs), .val (tv ls), .val (.int i), a3, a4]) prD
        (fun p => if (ls.take (i + p.1.length)).drop i = p.1 then some (foundD (some (i, p.1, p.2))) else none) cs (ds := pairs)
        (S := [.val (prs pairs), .val (tv ls), .val (.int i), a3, a4]) ⟨_, _, rfl⟩ (by
          rintro p hm S ⟨a3, a4, rfl⟩
          refine ⟨[.val (prs pairs), .val (tv ls), .val (.int i), .val (tv p.1), .val (tv p.2)], rfl, ?_⟩
          have e1 : eCall lenD (eCons (eVar 3) eNil) [.val (prs pairs), .val (tv ls), .val (.int i), .val (tv p.1), .val (tv p.2)] cs = .ok (.int (p.1.length : Nat)) cs := eCall_ok (eCons_ok (eVar_ok rfl) rfl) (by simp [lenD])
          have e2 : eSl (eVar 1) (oSome (eVar 2)) (oSome (eBin addD (eVar 2) (eCall lenD (eCons (eVar 3) (eNil))))) [.val (prs pairs), .val (tv ls), .val (.int i), .val (tv p.1), .val (tv p.2)] cs = .ok (tv ((ls.take (i + p.1.length)).drop i)) cs :=
            eSl_ok (eVar_ok rfl) (oSome_ok (eVar_ok rfl)) (oSome_ok (eBin_ok (eVar_ok rfl) e1 (addD_int cs _ _))) (cut_sv ls i (i + p.1.length))
          have e3 := eBin_ok (op := eqD) e2 (eVar_ok (i := 3) rfl) (eqD_sv cs (xs := (ls.take (i + p.1.length)).drop i) (ys := p.1) (fun x hx => hl x (List.mem_of_mem_take (List.mem_of_mem_drop hx))) (hp.w1 p hm))
          by_cases h : (ls.take (i + p.1.length)).drop i = p.1
          · rw [if_pos h]
            rw [decide_eq_true h] at e3
            dsimp only
            rw [sIf_t e3]
            exact sRet_ok (eTup_ok (eCons_ok (eVar_ok rfl) (eCons_ok (eVar_ok rfl) (eCons_ok (eVar_ok rfl) rfl))) (by simp))
          · rw [if_neg h]
            rw [decide_eq_false h] at e3
            exact ⟨_, (sIf_f e3).trans rfl, _, _, rfl⟩)
      have ei : iA (eVar 0) [.val (prs pairs), .val (tv ls), .val (.int i), a3, a4] cs = .ok (pairs.map prD) cs := rfl
      rw [sFor_ok ei]
      cases hq : pairs.findSome? fun p => if (ls.take (i + p.1.length)).drop i = p.1 then some (foundD (some (i, p.1, p.2))) else none with
      | some r => rw [hq] at inn; exact inn
      | none =>
        rw [hq] at inn
        obtain ⟨S', e, a3, a4, hS⟩ := inn
        exact ⟨S', e, _, _, _, hS⟩)
  have key : ((List.range ls.length).findSome? fun i => pairs.findSome? fun p => if (ls.take (i + p.1.length)).drop i = p.1 then some (foundD (some (i, p.1, p.2))) else none) = (firstL pairs ls).map fun r => foundD (some r) := by
    unfold firstL
    refine Eq.trans ?_ (findSome_map _ _ _)
    refine congrArg (fun f => List.findSome? f (List.range ls.length)) (funext fun i => ?_)
    refine Eq.trans ?_ (findSome_map _ _ _)
    refine congrArg (fun f => List.findSome? f pairs) (funext fun p => ?_)
    by_cases h : (ls.take (i + p.1.length)).drop i = p.1
    · rw [if_pos h, if_pos h]; rfl
    · rw [if_neg h, if_neg h]; rfl
  rw [key] at out
  cases hf : firstL pairs ls with
  | none =>
    rw [hf] at out
    obtain ⟨S', e, a2, a3, a4, hS⟩ := out
    rw [sSeq_nx (by rw [sFor_ok er]; exact e)]
    rfl
  | some r =>
    rw [hf] at out
    rw [sSeq_rt (by rw [sFor_ok er]; exact out)]
    rfl
end K02

set_option Elab.async false
set_option linter.all false
set_option maxRecDepth 100000
set_option maxHeartbeats 4000000
namespace K02
open PySem PySem.Spec PyProof.Rows L2 LL
section
variable {α : Type} [DecidableEq α]
def cutL (ls : List α) (r : Nat × List α × List α) : List α := ls.take r.1 ++ r.2.2 ++ ls.drop (r.1 + r.2.1.length)
def shortL (pairs : List (List α × List α)) : Nat → List α → Option (List α)
  | 0, _ => none
  | n + 1, ls => match firstL pairs ls with
    | none => some ls
    | some r => shortL pairs n (cutL ls r)
theorem firstL_mem {pairs : List (List α × List α)} {ls : List α} {r : Nat × List α × List α} (h : firstL pairs ls = some r) : r.1 < ls.length ∧ (r.2.1, r.2.2) ∈ pairs ∧ (ls.take (r.1 + r.2.1.length)).drop r.1 = r.2.1 := by
  unfold firstL at h
  obtain ⟨i, hi, h⟩ := List.exists_of_findSome?_eq_some h
  obtain ⟨p, hp, h⟩ := List.exists_of_findSome?_eq_some h
  split at h
  · rename_i e
    cases h
    exact ⟨List.mem_range.mp hi, hp, e⟩
  · cases h
theorem cutL_length {pairs : List (List α × List α)} {ls : List α} {r : Nat × List α × List α} (h : firstL pairs ls = some r) (hs : ∀ p ∈ pairs, p.2.length ≤ p.1.length) : (cutL ls r).length ≤ ls.length := by
  obtain ⟨h1, h2, h3⟩ := firstL_mem h
  have e := congrArg List.length h3
  have hle := hs _ h2
  simp only [List.length_drop, List.length_take] at e
  simp only [cutL, List.length_append, List.length_take, List.length_drop]
  dsimp only at hle
  omega
theorem cutL_mem {pairs : List (List α × List α)} {ls : List α} {r : Nat × List α × List α} (h : firstL pairs ls = some r) {P : α → Prop} (hl : ∀ x ∈ ls, P x) (hp : ∀ p ∈ pairs, ∀ x ∈ p.2, P x) : ∀ x ∈ cutL ls r, P x := by
  obtain ⟨h1, h2, h3⟩ := firstL_mem h
  intro x hx
  unfold cutL at hx
  rcases List.mem_append.mp hx with hx | hx
  · rcases List.mem_append.mp hx with hx | hx
    · exact hl x (List.mem_of_mem_take hx)
    · exact hp _ h2 x hx
  · exact hl x (List.mem_of_mem_drop hx)
end
def shortT : Sem := eBin isNotD (eVar 2) (eC .non)
def shortC : Cm := sSeq (sAsg (gT (gsC (gN 3) (gsC (gN 4) (gsC (gN 5) (gs0))))) (eVar 2))
  (sSeq (sSet 1 (eBin addD (eBin addD (eSl (eVar 1) oNone (oSome (eVar 3))) (eVar 5)) (eSl (eVar 1) (oSome (eBin addD (eVar 3) (eCall lenD (eCons (eVar 4) (eNil))))) oNone)))
  (sSet 2 (eFn (fnN 2 f_first_long) (eCons (eVar 0) (eCons (eVar 1) (eNil))) [])))
theorem to_sv (ls : List Str) (j : Nat) : slD (tv ls) none (some (j : Int)) = some (tv (ls.take j)) := by
  show some (D.tup (LL.cutD _ _ _)) = _
  rw [cut_to]
  simp [tv]
theorem from_sv (ls : List Str) (i : Nat) : slD (tv ls) (some (i : Int)) none = some (tv (ls.drop i)) := by
  show some (D.tup (LL.cutD _ _ _)) = _
  rw [cut_from]
  simp [tv]
theorem add_sv (cs : Cs) (a b : List Str) (h : a.length + b.length ≤ 1000000) : addD cs (tv a) (tv b) = some (tv (a ++ b)) := by
  rw [addD_tup _ _ _ (by simpa using h)]
  simp [tv]
theorem short_loop {pairs : List (List Str × List Str)} (hp : PrOk pairs) (hs : ∀ p ∈ pairs, p.2.length ≤ p.1.length) (cs : Cs) : ∀ (n : Nat) {ls r : List Str}, shortL pairs n ls = some r → (∀ x ∈ ls, Wrd x) → ls.length < 1000 → ∀ a3 a4 a5 : Sl,
    ∃ a2 b3 b4 b5, whileLoop shortT shortC n [.val (prs pairs), .val (tv ls), .val (foundD (firstL pairs ls)), a3, a4, a5] cs = .nx [.val (prs pairs), .val (tv r), a2, b3, b4, b5] cs
  | 0, ls, r, h, _, _, _, _, _ => by cases h
  | n + 1, ls, r, h, hl, hn, a3, a4, a5 => by
    unfold shortL at h
    cases hf : firstL pairs ls with
    | none =>
      rw [hf] at h
      cases h
      exact ⟨_, a3, a4, a5, rfl⟩
    | some z =>
      rw [hf] at h
      obtain ⟨i, l, s⟩ := z
      have h : shortL pairs n (cutL ls (i, l, s)) = some r := h
      have hlen := cutL_length hf hs
      have hw := cutL_mem hf hl hp.w2
      obtain ⟨m1, m2, m3⟩ := firstL_mem hf
      obtain ⟨a2, b3, b4, b5, e⟩ := short_loop hp hs cs n h hw (by omega) (.val (.int i)) (.val (tv l)) (.val (tv s))
      refine ⟨a2, b3, b4, b5, ?_⟩
      have body : shortC [.val (prs pairs), .val (tv ls), .val (foundD (some (i, l, s))), a3, a4, a5] cs = .nx [.val (prs pairs), .val (tv (cutL ls (i, l, s))), .val (foundD (firstL pairs (cutL ls (i, l, s)))), .val (.int i), .val (tv l), .val (tv s)] cs := by
        unfold shortC
        have q0 : sAsg (gT (gsC (gN 3) (gsC (gN 4) (gsC (gN 5) (gs0))))) (eVar 2) [.val (prs pairs), .val (tv ls), .val (foundD (some (i, l, s))), a3, a4, a5] cs = .nx [.val (prs pairs), .val (tv ls), .val (foundD (some (i, l, s))), .val (.int i), .val (tv l), .val (tv s)] cs := rfl
        rw [sSeq_nx q0]
        have l2 := hp.l2 _ m2
        have q1 : eSl (eVar 1) oNone (oSome (eVar 3)) [.val (prs pairs), .val (tv ls), .val (foundD (some (i, l, s))), .val (.int i), .val (tv l), .val (tv s)] cs = .ok (tv (ls.take i)) cs := eSl_ok (eVar_ok rfl) rfl (oSome_ok (eVar_ok rfl)) (to_sv ls i)
        have q2 := eBin_ok (op := addD) q1 (eVar_ok (i := 5) rfl) (add_sv cs (ls.take i) s (by simp only [List.length_take]; dsimp only at l2; omega))
        have q3 : eCall lenD (eCons (eVar 4) eNil) [.val (prs pairs), .val (tv ls), .val (foundD (some (i, l, s))), .val (.int i), .val (tv l), .val (tv s)] cs = .ok (.int (l.length : Nat)) cs := eCall_ok (eCons_ok (eVar_ok rfl) rfl) (by simp [lenD])
        have q4 : eSl (eVar 1) (oSome (eBin addD (eVar 3) (eCall lenD (eCons (eVar 4) (eNil))))) oNone [.val (prs pairs), .val (tv ls), .val (foundD (some (i, l, s))), .val (.int i), .val (tv l), .val (tv s)] cs = .ok (tv (ls.drop (i + l.length))) cs :=
          eSl_ok (eVar_ok rfl) (oSome_ok (eBin_ok (eVar_ok rfl) q3 (addD_int cs _ _))) rfl (from_sv ls (i + l.length))
        have q5 := eBin_ok (op := addD) q2 q4 (add_sv cs (ls.take i ++ s) (ls.drop (i + l.length)) (by simp only [List.length_append, List.length_take, List.length_drop]; dsimp only at l2; omega))
        rw [sSeq_nx (sSet_ok q5)]
        simp only [List.set_cons_succ, List.set_cons_zero]
        exact sSet_ok (eFn_ok (eCons_ok (eVar_ok rfl) (eCons_ok (eVar_ok rfl) rfl)) ((fnN_ok (n := 2) rfl).trans (first_long_ok hp (ls := cutL ls (i, l, s)) hw (by omega) cs)))
      have test : shortT [.val (prs pairs), .val (tv ls), .val (foundD (some (i, l, s))), a3, a4, a5] cs = .ok (.bl true) cs := rfl
      simp only [whileLoop, test, asB_ok, Res.thenF_ok, if_true, body]
      exact e
theorem shortened_ok {pairs : List (List Str × List Str)} (hp : PrOk pairs) (hs : ∀ p ∈ pairs, p.2.length ≤ p.1.length) {ls r : List Str} (hl : ∀ x ∈ ls, Wrd x) (hn : ls.length < 1000) (h : shortL pairs fu ls = some r) (cs : Cs) : f_shortened [prs pairs, tv ls] cs = .ok (tv r) cs := by
  show fnRes (b_shortened [.val (prs pairs), .val (tv ls), .un, .un, .un, .un] cs) = _
  unfold b_shortened
  rw [sSeq_nx (sSet_ok (eFn_ok (eCons_ok (eVar_ok rfl) (eCons_ok (eVar_ok rfl) rfl)) ((fnN_ok (n := 2) rfl).trans (first_long_ok hp hl hn cs))))]
  simp only [List.set_cons_succ, List.set_cons_zero]
  obtain ⟨a2, b3, b4, b5, e⟩ := short_loop hp hs cs fu h hl hn .un .un .un
  show fnRes (sSeq (sWhile fu shortT shortC) (sRet (eVar 1)) [.val (prs pairs), .val (tv ls), .val (foundD (firstL pairs ls)), .un, .un, .un] cs) = _
  have e' : sWhile fu shortT shortC [.val (prs pairs), .val (tv ls), .val (foundD (firstL pairs ls)), .un, .un, .un] cs = .nx [.val (prs pairs), .val (tv r), a2, b3, b4, b5] cs := e
  rw [sSeq_nx e']
  rfl
end K02

set_option Elab.async false
set_option linter.all false
set_option maxRecDepth 100000
set_option maxHeartbeats 4000000
namespace K02
open PySem PySem.Spec PyProof.Rows L2 LL
section
variable {α : Type} [DecidableEq α]
theorem shortL_length {pairs : List (List α × List α)} (hs : ∀ p ∈ pairs, p.2.length ≤ p.1.length) : ∀ {n : Nat} {ls r : List α}, shortL pairs n ls = some r → r.length ≤ ls.length
  | 0, ls, r, h => by cases h
  | n + 1, ls, r, h => by
    unfold shortL at h
    cases hf : firstL pairs ls with
    | none => rw [hf] at h; cases h; exact Nat.le_refl _
    | some z => rw [hf] at h; exact Nat.le_trans (shortL_length hs h) (cutL_length hf hs)
theorem shortL_mem {pairs : List (List α × List α)} {P : α → Prop} (hp : ∀ p ∈ pairs, ∀ x ∈ p.2, P x) : ∀ {n : Nat} {ls r : List α}, shortL pairs n ls = some r → (∀ x ∈ ls, P x) → ∀ x ∈ r, P x
  | 0, ls, r, h, _ => by cases h
  | n + 1, ls, r, h, hl => by
    unfold shortL at h
    cases hf : firstL pairs ls with
    | none => rw [hf] at h; cases h; exact hl
    | some z => rw [hf] at h; exact shortL_mem hp h (cutL_mem hf hl hp)
def plainL (pairs : List (List α × List α)) : List α → List α → Option (List α)
  | acc, [] => some acc
  | acc, l :: r => (shortL pairs fu (acc ++ [l])).bind fun a => plainL pairs a r
end
def plC : Cm := sSet 2 (eFn (fnN 2 f_shortened) (eCons (eFld "Shape" "pairs" (eVar 0)) (eCons (eBin addD (eVar 2) (eTup (eCons (eVar 3) (eNil)))) (eNil))) [])
end K02

set_option Elab.async false
set_option linter.all false
set_option maxRecDepth 100000
set_option maxHeartbeats 4000000
namespace K02
open PySem PySem.Spec PyProof.Rows L2 LL
theorem forLoop_fold {α τ : Type} {g : Tg} {c : Cm} (enc : α → D) (I : τ → List Sl → Prop) (step : τ → α → τ) (cs : Cs) : ∀ {l : List α} {s : τ} {S : List Sl}, I s S → (∀ d ∈ l, ∀ s S, I s S → ∃ S2 S', g (enc d) S = some S2 ∧ c S2 cs = .nx S' cs ∧ I (step s d) S') →
    ∃ S', forLoop g c (l.map enc) S cs = .nx S' cs ∧ I (l.foldl step s) S'
  | [], s, S, h, _ => ⟨S, rfl, h⟩
  | d :: l, s, S, h, st => by
    obtain ⟨S2, S', e1, e2, h'⟩ := st d List.mem_cons_self s S h
    obtain ⟨S3, e3, h3⟩ := forLoop_fold enc I step cs (l := l) h' fun d hd => st d (List.mem_cons_of_mem _ hd)
    refine ⟨S3, ?_, h3⟩
    simp only [List.map_cons, forLoop, e1, e2]
    exact e3
section
variable {α : Type} [DecidableEq α]
def endsIn (row l : List α) : Bool := decide (row.drop (row.length - l.length) = l)
def okStep (pairs : List (List α × List α)) (w : List α × α) (k : α × α × α) : Bool := decide (k.2.1 = w.2) && !(pairs.any fun p => endsIn (w.1.tail ++ [k.1]) p.1)
def stepL (pairs : List (List α × List α)) (w : List α × α) (found : List (List α × α)) (k : α × α × α) : List (List α × α) := if okStep pairs w k = true then found ++ [(w.1 ++ [k.1], k.2.2)] else found
def longerL (ways : List (List α × α)) (links : List (α × α × α)) (pairs : List (List α × List α)) : List (List α × α) := ways.foldl (fun found w => links.foldl (stepL pairs w) found) []
end
def wyD (w : List Str × Str) : D := .tup [tv w.1, .str w.2]
def lkD (k : Str × Str × Str) : D := tv [k.1, k.2.1, k.2.2]
/-- row[len(row) - len(long):] == long -/
theorem ends_sv (cs : Cs) {row l : List Str} (hr : ∀ x ∈ row, Wrd x) (hl : ∀ x ∈ l, Wrd x) : ∃ ys, slD (tv row) (some ((row.length : Int) - (l.length : Int))) none = some (tv ys) ∧ eqD cs (tv ys) (tv l) = some (.bl (endsIn row l)) := by
  by_cases h : l.length ≤ row.length
  · refine ⟨row.drop (row.length - l.length), ?_, ?_⟩
    · rw [show (row.length : Int) - (l.length : Int) = ((row.length - l.length : Nat) : Int) by omega]
      exact from_sv row _
    · rw [eqD_sv cs (fun x hx => hr x (List.mem_of_mem_drop hx)) hl]
      rfl
  · have hz : ∃ j, slD (tv row) (some ((row.length : Int) - (l.length : Int))) none = some (tv (row.drop j)) := by
      refine ⟨HT.sIx row.length 0 (some ((row.length : Int) - (l.length : Int))), ?_⟩
      have s2 : HT.sIx row.length row.length none = row.length := HT.sIx_none _ _
      show some (D.tup (LL.cutD (row.map D.str) _ _)) = _
      simp only [LL.cutD, List.length_map, s2]
      rw [List.take_of_length_le (by simp)]
      simp [tv]
    obtain ⟨j, e⟩ := hz
    refine ⟨row.drop j, e, ?_⟩
    rw [eqD_sv cs (fun x hx => hr x (List.mem_of_mem_drop hx)) hl]
    have h1 : ¬ row.drop j = l := fun z => by
      have := congrArg List.length z
      simp only [List.length_drop] at this
      omega
    have h2 : ¬ row.drop (row.length - l.length) = l := fun z => by
      have := congrArg List.length z
      simp only [List.length_drop] at this
      omega
    rw [decide_eq_false h1]
    unfold endsIn
    rw [decide_eq_false h2]
theorem boolsD_map {α : Type} (f : α → Bool) : ∀ l : List α, boolsD (l.map fun x => .bl (f x)) = some (l.map f)
  | [] => rfl
  | x :: l => by simp [boolsD, boolsD_map f l]
theorem any_of {α : Type} (f : α → Bool) (cs : Cs) (l : List α) : anyD cs [.lst (l.map fun x => .bl (f x))] = some (.bl (l.any f)) := by
  simp only [anyD, boolsD_map, Option.map_some]
  congr 2
  rw [List.any_map]
  rfl
/-- one link behind a way -/
def longC : Cm := sSeq (sSet 9 (eBin addD (eSl (eVar 4) (oSome (eC (.int 1))) oNone) (eTup (eCons (eVar 6) (eNil)))))
  (sIf (eAnd (eBin eqD (eVar 7) (eVar 5)) (eNot (eTru (eCall anyD (eCons (eLc (iA (eVar 2)) (gT (gsC (gN 10) (gsC (gN 11) (gs0)))) (eC (.bl true)) (eBin eqD (eSl (eVar 9) (oSome (eBin subD (eCall lenD (eCons (eVar 9) (eNil))) (eCall lenD (eCons (eVar 10) (eNil))))) oNone) (eVar 10)) [10, 11]) (eNil))))))
  (sApp 3 (eTup (eCons (eBin addD (eVar 4) (eTup (eCons (eVar 6) (eNil)))) (eCons (eVar 8) (eNil)))))
  (sNil))
theorem eAnd_ff {f g : Sem} {S : List Sl} {cs cs1 : Cs} (h : f S cs = .ok (.bl false) cs1) : eAnd f g S cs = .ok (.bl false) cs1 := by simp [eAnd, h, asB]
theorem eAnd_t {f g : Sem} {S : List Sl} {cs cs1 : Cs} (h : f S cs = .ok (.bl true) cs1) : eAnd f g S cs = g S cs1 := by simp [eAnd, h, asB]
theorem eNot_b {f : Sem} {b : Bool} {S : List Sl} {cs cs1 : Cs} (h : f S cs = .ok (.bl b) cs1) : eNot (eTru f) S cs = .ok (.bl (!b)) cs1 := by simp [eNot, eTru, h, truD, asB]
theorem long_turn {a0 a1 : Sl} {pairs : List (List Str × List Str)} (hp : PrOk pairs) (hn : pairs.length < 1000) {w : List Str × Str} (hw : ∀ x ∈ w.1, Wrd x) (hw2 : Wrd w.2) (hl : w.1.length < 1000) {k : Str × Str × Str} (hk : Wrd k.1 ∧ Wrd k.2.1 ∧ Wrd k.2.2) (found : List (List Str × Str)) (hf : found.length < 900000) (a9 a10 a11 : Sl) (cs : Cs) :
    ∃ b9 b10 b11, longC [a0, a1, .val (prs pairs), .own (found.map wyD), .val (tv w.1), .val (.str w.2), .val (.str k.1), .val (.str k.2.1), .val (.str k.2.2), a9, a10, a11] cs =
      .nx [a0, a1, .val (prs pairs), .own ((stepL pairs w found k).map wyD), .val (tv w.1), .val (.str w.2), .val (.str k.1), .val (.str k.2.1), .val (.str k.2.2), b9, b10, b11] cs := by
  unfold longC
  have hrow : ∀ x ∈ w.1.tail ++ [k.1], Wrd x := fun x hx => by
    rcases List.mem_append.mp hx with hx | hx
    · exact hw x (List.mem_of_mem_tail hx)
    · rw [List.mem_singleton.mp hx]; exact hk.1
  have q1 : eBin addD (eSl (eVar 4) (oSome (eC (.int 1))) oNone) (eTup (eCons (eVar 6) (eNil))) [a0, a1, .val (prs pairs), .own (found.map wyD), .val (tv w.1), .val (.str w.2), .val (.str k.1), .val (.str k.2.1), .val (.str k.2.2), a9, a10, a11] cs = .ok (tv (w.1.tail ++ [k.1])) cs := by
    refine eBin_ok (eSl_ok (eVar_ok rfl) (oSome_ok (i := ((1 : Nat) : Int)) rfl) rfl (from_sv w.1 1)) (eTup_ok (eCons_ok (eVar_ok rfl) rfl) (by simp)) ?_
    rw [List.drop_one]
    exact add_sv cs w.1.tail [k.1] (by simp; omega)
  rw [sSeq_nx (sSet_ok q1)]
  simp only [List.set_cons_succ, List.set_cons_zero]
  have q2 : eBin eqD (eVar 7) (eVar 5) [a0, a1, .val (prs pairs), .own (found.map wyD), .val (tv w.1), .val (.str w.2), .val (.str k.1), .val (.str k.2.1), .val (.str k.2.2), .val (tv (w.1.tail ++ [k.1])), a10, a11] cs = .ok (.bl (k.2.1 == w.2)) cs :=
    eBin_ok (eVar_ok rfl) (eVar_ok rfl) (eqD_str cs _ _ hk.2.1 hw2)
  by_cases he : k.2.1 = w.2
  · have ht : (k.2.1 == w.2) = true := by simpa using he
    rw [ht] at q2
    have hloop : lcLoop (gT (gsC (gN 10) (gsC (gN 11) (gs0)))) (eC (.bl true)) (eBin eqD (eSl (eVar 9) (oSome (eBin subD (eCall lenD (eCons (eVar 9) (eNil))) (eCall lenD (eCons (eVar 10) (eNil))))) oNone) (eVar 10))
        [a0, a1, .val (prs pairs), .own (found.map wyD), .val (tv w.1), .val (.str w.2), .val (.str k.1), .val (.str k.2.1), .val (.str k.2.2), .val (tv (w.1.tail ++ [k.1])), .un, .un] (pairs.map prD) cs = .ok (pairs.filterMap fun p => some (.bl (endsIn (w.1.tail ++ [k.1]) p.1))) cs :=
      lcLoop_filterMap prD _ cs fun p hm => by
        refine ⟨[a0, a1, .val (prs pairs), .own (found.map wyD), .val (tv w.1), .val (.str w.2), .val (.str k.1), .val (.str k.2.1), .val (.str k.2.2), .val (tv (w.1.tail ++ [k.1])), .val (tv p.1), .val (tv p.2)], rfl, rfl, ?_⟩
        obtain ⟨ys, y1, y2⟩ := ends_sv cs hrow (hp.w1 p hm)
        have l9 : eCall lenD (eCons (eVar 9) eNil) [a0, a1, .val (prs pairs), .own (found.map wyD), .val (tv w.1), .val (.str w.2), .val (.str k.1), .val (.str k.2.1), .val (.str k.2.2), .val (tv (w.1.tail ++ [k.1])), .val (tv p.1), .val (tv p.2)] cs = .ok (.int ((w.1.tail ++ [k.1]).length : Nat)) cs := eCall_ok (eCons_ok (eVar_ok rfl) rfl) (by simp [lenD])
        have l10 : eCall lenD (eCons (eVar 10) eNil) [a0, a1, .val (prs pairs), .own (found.map wyD), .val (tv w.1), .val (.str w.2), .val (.str k.1), .val (.str k.2.1), .val (.str k.2.2), .val (tv (w.1.tail ++ [k.1])), .val (tv p.1), .val (tv p.2)] cs = .ok (.int (p.1.length : Nat)) cs := eCall_ok (eCons_ok (eVar_ok rfl) rfl) (by simp [lenD])
        exact eBin_ok (eSl_ok (eVar_ok rfl) (oSome_ok (eBin_ok l9 l10 (subD_int cs _ _))) rfl y1) (eVar_ok rfl) y2
    rw [List.filterMap_eq_map'] at hloop
    have qc : eLc (iA (eVar 2)) (gT (gsC (gN 10) (gsC (gN 11) (gs0)))) (eC (.bl true)) (eBin eqD (eSl (eVar 9) (oSome (eBin subD (eCall lenD (eCons (eVar 9) (eNil))) (eCall lenD (eCons (eVar 10) (eNil))))) oNone) (eVar 10)) [10, 11]
        [a0, a1, .val (prs pairs), .own (found.map wyD), .val (tv w.1), .val (.str w.2), .val (.str k.1), .val (.str k.2.1), .val (.str k.2.2), .val (tv (w.1.tail ++ [k.1])), a10, a11] cs = .ok (.lst (pairs.map fun p => .bl (endsIn (w.1.tail ++ [k.1]) p.1))) cs :=
      eLc_ok (ds := pairs.map prD) (cs := cs) rfl (by simp; omega) hloop
    have qa := eAnd_t (g := eNot (eTru (eCall anyD (eCons (eLc (iA (eVar 2)) (gT (gsC (gN 10) (gsC (gN 11) (gs0)))) (eC (.bl true)) (eBin eqD (eSl (eVar 9) (oSome (eBin subD (eCall lenD (eCons (eVar 9) (eNil))) (eCall lenD (eCons (eVar 10) (eNil))))) oNone) (eVar 10)) [10, 11]) (eNil))))) q2
    rw [eNot_b (eCall_ok (eCons_ok qc rfl) (any_of _ cs pairs))] at qa
    cases hb : pairs.any fun p => endsIn (w.1.tail ++ [k.1]) p.1 with
    | true =>
      have h0 : stepL pairs w found k = found := by
        unfold stepL okStep
        rw [hb]
        simp
      rw [hb] at qa
      rw [h0, sIf_f qa]
      exact ⟨_, a10, a11, rfl⟩
    | false =>
      have h0 : stepL pairs w found k = found ++ [(w.1 ++ [k.1], k.2.2)] := by
        unfold stepL okStep
        rw [hb, decide_eq_true he]
        rfl
      rw [hb] at qa
      rw [h0, sIf_t qa]
      have qt : eTup (eCons (eBin addD (eVar 4) (eTup (eCons (eVar 6) (eNil)))) (eCons (eVar 8) (eNil))) [a0, a1, .val (prs pairs), .own (found.map wyD), .val (tv w.1), .val (.str w.2), .val (.str k.1), .val (.str k.2.1), .val (.str k.2.2), .val (tv (w.1.tail ++ [k.1])), a10, a11] cs = .ok (wyD (w.1 ++ [k.1], k.2.2)) cs :=
        eTup_ok (eCons_ok (eBin_ok (eVar_ok rfl) (eTup_ok (eCons_ok (eVar_ok rfl) rfl) (by simp)) (add_sv cs w.1 [k.1] (by simp; omega))) (eCons_ok (eVar_ok rfl) rfl)) (by simp)
      refine ⟨.val (tv (w.1.tail ++ [k.1])), a10, a11, ?_⟩
      unfold sApp
      simp only [List.getElem?_cons_succ, List.getElem?_cons_zero, qt, Res.thenF_ok]
      rw [if_pos (by simp; omega)]
      simp
  · have h0 : stepL pairs w found k = found := by
      unfold stepL okStep
      rw [decide_eq_false he]
      rfl
    rw [h0]
    have : (k.2.1 == w.2) = false := by simpa using he
    rw [this] at q2
    rw [sIf_f (eAnd_ff q2)]
    exact ⟨_, a10, a11, rfl⟩
end K02

set_option Elab.async false
set_option linter.all false
set_option maxRecDepth 100000
set_option maxHeartbeats 4000000
namespace K02
open PySem PySem.Spec PyProof.Rows L2 LL
theorem forLoop_foldI {α τ : Type} {g : Tg} {c : Cm} (enc : α → D) (I : Nat → τ → List Sl → Prop) (step : τ → α → τ) (cs : Cs) : ∀ {l : List α} {k : Nat} {s : τ} {S : List Sl}, I k s S → (∀ i d, l[i]? = some d → ∀ s S, I (k + i) s S → ∃ S2 S', g (enc d) S = some S2 ∧ c S2 cs = .nx S' cs ∧ I (k + i + 1) (step s d) S') →
    ∃ S', forLoop g c (l.map enc) S cs = .nx S' cs ∧ I (k + l.length) (l.foldl step s) S'
  | [], k, s, S, h, _ => ⟨S, rfl, h⟩
  | d :: l, k, s, S, h, st => by
    obtain ⟨S2, S', e1, e2, h'⟩ := st 0 d rfl s S h
    obtain ⟨S3, e3, h3⟩ := forLoop_foldI enc I step cs (l := l) (k := k + 1) h' fun i d hd s S h => by
      have q := st (i + 1) d (by simpa using hd) s S (by rw [show k + (i + 1) = k + 1 + i by omega]; exact h)
      rw [show k + (i + 1) + 1 = k + 1 + i + 1 by omega] at q
      exact q
    refine ⟨S3, ?_, by rw [List.length_cons, show k + (l.length + 1) = k + 1 + l.length by omega]; exact h3⟩
    simp only [List.map_cons, forLoop, e1, e2]
    exact e3
theorem stepL_length {α : Type} [DecidableEq α] (pairs : List (List α × List α)) (w : List α × α) (f : List (List α × α)) (k : α × α × α) : (stepL pairs w f k).length ≤ f.length + 1 := by
  unfold stepL
  split <;> simp
/-- words of a way, of a link -/
def WyOk (w : List Str × Str) : Prop := (∀ x ∈ w.1, Wrd x) ∧ Wrd w.2 ∧ w.1.length < 1000
def LkOk (k : Str × Str × Str) : Prop := Wrd k.1 ∧ Wrd k.2.1 ∧ Wrd k.2.2
theorem longer_ok {pairs : List (List Str × List Str)} (hp : PrOk pairs) (hn : pairs.length < 1000) {ways : List (List Str × Str)} (hw : ∀ w ∈ ways, WyOk w) {links : List (Str × Str × Str)} (hk : ∀ k ∈ links, LkOk k) (hb : ways.length * links.length < 800000) (cs : Cs) :
    f_longer_ways [.lst (ways.map wyD), .tup (links.map lkD), prs pairs] cs = .ok (.lst ((longerL ways links pairs).map wyD)) cs := by
  show fnRes (b_longer_ways [.val (.lst (ways.map wyD)), .val (.tup (links.map lkD)), .val (prs pairs), .un, .un, .un, .un, .un, .un, .un, .un, .un] cs) = _
  unfold b_longer_ways
  have q0 : sOwn 3 eNil [.val (.lst (ways.map wyD)), .val (.tup (links.map lkD)), .val (prs pairs), .un, .un, .un, .un, .un, .un, .un, .un, .un] cs = .nx [.val (.lst (ways.map wyD)), .val (.tup (links.map lkD)), .val (prs pairs), .own [], .un, .un, .un, .un, .un, .un, .un, .un] cs := rfl
  rw [sSeq_nx q0]
  obtain ⟨S', e, hlen, b4, b5, b6, b7, b8, b9, b10, b11, hS⟩ := forLoop_foldI (g := gT (gsC (gN 4) (gsC (gN 5) (gs0)))) (c := sFor (iA (eVar 1)) (gT (gsC (gN 6) (gsC (gN 7) (gsC (gN 8) (gs0))))) longC) wyD
    (fun i (f : List (List Str × Str)) S => f.length ≤ i * links.length ∧ ∃ b4 b5 b6 b7 b8 b9 b10 b11, S = [.val (.lst (ways.map wyD)), .val (.tup (links.map lkD)), .val (prs pairs), .own (f.map wyD), b4, b5, b6, b7, b8, b9, b10, b11])
    (fun f w => links.foldl (stepL pairs w) f) cs (l := ways) (k := 0) (s := []) (S := [.val (.lst (ways.map wyD)), .val (.tup (links.map lkD)), .val (prs pairs), .own [], .un, .un, .un, .un, .un, .un, .un, .un])
    ⟨by simp, _, _, _, _, _, _, _, _, rfl⟩ (by
      rintro i w hi f S ⟨hf, b4, b5, b6, b7, b8, b9, b10, b11, rfl⟩
      rw [Nat.zero_add] at hf ⊢
      have hilt : i < ways.length := (List.getElem?_eq_some_iff.mp hi).1
      have hm := List.mem_of_getElem? hi
      obtain ⟨w1, w2, w3⟩ := hw w hm
      have hib : (i + 1) * links.length ≤ ways.length * links.length := Nat.mul_le_mul_right _ hilt
      rw [Nat.succ_mul] at hib
      refine ⟨[.val (.lst (ways.map wyD)), .val (.tup (links.map lkD)), .val (prs pairs), .own (f.map wyD), .val (tv w.1), .val (.str w.2), b6, b7, b8, b9, b10, b11], ?_⟩
      obtain ⟨S', e, hlen, c6, c7, c8, c9, c10, c11, hS⟩ := forLoop_foldI (g := gT (gsC (gN 6) (gsC (gN 7) (gsC (gN 8) (gs0))))) (c := longC) lkD
        (fun j (f' : List (List Str × Str)) S => f'.length ≤ f.length + j ∧ ∃ c6 c7 c8 c9 c10 c11, S = [.val (.lst (ways.map wyD)), .val (.tup (links.map lkD)), .val (prs pairs), .own (f'.map wyD), .val (tv w.1), .val (.str w.2), c6, c7, c8, c9, c10, c11])
        (stepL pairs w) cs (l := links) (k := 0) (s := f) (S := [.val (.lst (ways.map wyD)), .val (.tup (links.map lkD)), .val (prs pairs), .own (f.map wyD), .val (tv w.1), .val (.str w.2), b6, b7, b8, b9, b10, b11])
        ⟨Nat.le_refl _, _, _, _, _, _, _, rfl⟩ (by
          rintro j k hj f' S ⟨hf', c6, c7, c8, c9, c10, c11, rfl⟩
          rw [Nat.zero_add] at hf' ⊢
          have hjlt : j < links.length := (List.getElem?_eq_some_iff.mp hj).1
          obtain ⟨d9, d10, d11, e⟩ := long_turn (a0 := .val (.lst (ways.map wyD))) (a1 := .val (.tup (links.map lkD))) hp hn w1 w2 w3 (hk k (List.mem_of_getElem? hj)) f' (by omega) c9 c10 c11 cs
          refine ⟨_, _, rfl, e, ?_, _, _, _, _, _, _, rfl⟩
          have := stepL_length pairs w f' k
          omega)
      subst hS
      rw [Nat.zero_add] at hlen
      refine ⟨[.val (.lst (ways.map wyD)), .val (.tup (links.map lkD)), .val (prs pairs), .own ((links.foldl (stepL pairs w) f).map wyD), .val (tv w.1), .val (.str w.2), c6, c7, c8, c9, c10, c11], rfl, ?_, ?_, _, _, _, _, _, _, _, _, rfl⟩
      · have ei : iA (eVar 1) [.val (.lst (ways.map wyD)), .val (.tup (links.map lkD)), .val (prs pairs), .own (f.map wyD), .val (tv w.1), .val (.str w.2), b6, b7, b8, b9, b10, b11] cs = .ok (links.map lkD) cs := rfl
        rw [sFor_ok ei]
        exact e
      · rw [Nat.succ_mul]
        omega)
  subst hS
  have ei : iA (eVar 0) [.val (.lst (ways.map wyD)), .val (.tup (links.map lkD)), .val (prs pairs), .own [], .un, .un, .un, .un, .un, .un, .un, .un] cs = .ok (ways.map wyD) cs := rfl
  unfold longC at e
  rw [sSeq_nx (by rw [sFor_ok ei]; exact e)]
  rfl
end K02

set_option Elab.async false
set_option linter.all false
set_option maxRecDepth 100000
set_option maxHeartbeats 4000000
namespace K02
open PySem PySem.Spec PyProof.Rows L2 LL
section
variable {α : Type} [DecidableEq α]
def fromL (links : List (α × α × α)) (pairs : List (List α × List α)) : Nat → List (List α × α) → List (List α × α) → Option (List (List α × α))
  | 0, _, _ => none
  | n + 1, layer, found => if layer.isEmpty || decide (60 < found.length) then some found else fromL links pairs n (longerL layer links pairs) (found ++ layer)
theorem foldl_stepL_length (pairs : List (List α × List α)) (w : List α × α) : ∀ (links : List (α × α × α)) (f : List (List α × α)), (links.foldl (stepL pairs w) f).length ≤ f.length + links.length
  | [], f => by simp
  | k :: links, f => by
    have h1 := foldl_stepL_length pairs w links (stepL pairs w f k)
    have h2 := stepL_length pairs w f k
    simp only [List.foldl_cons, List.length_cons]
    omega
theorem longerL_length (links : List (α × α × α)) (pairs : List (List α × List α)) : ∀ (ways f : List (List α × α)), (ways.foldl (fun found w => links.foldl (stepL pairs w) found) f).length ≤ f.length + ways.length * links.length
  | [], f => by simp
  | w :: ways, f => by
    have h1 := longerL_length links pairs ways (links.foldl (stepL pairs w) f)
    have h2 := foldl_stepL_length pairs w links f
    simp only [List.foldl_cons, List.length_cons, Nat.succ_mul]
    omega
theorem stepL_mem {pairs : List (List α × List α)} {w : List α × α} {P : List α × α → Prop} {f : List (List α × α)} {k : α × α × α} (hf : ∀ x ∈ f, P x) (hk : P (w.1 ++ [k.1], k.2.2)) : ∀ x ∈ stepL pairs w f k, P x := by
  unfold stepL
  split
  · intro x hx
    rcases List.mem_append.mp hx with hx | hx
    · exact hf x hx
    · rw [List.mem_singleton.mp hx]; exact hk
  · exact hf
theorem longerL_mem {links : List (α × α × α)} {pairs : List (List α × List α)} {P : List α × α → Prop} : ∀ {ways f : List (List α × α)}, (∀ x ∈ f, P x) → (∀ w ∈ ways, ∀ k ∈ links, P (w.1 ++ [k.1], k.2.2)) → ∀ x ∈ ways.foldl (fun found w => links.foldl (stepL pairs w) found) f, P x
  | [], f, hf, _ => hf
  | w :: ways, f, hf, h => by
    have inner : ∀ (ls : List (α × α × α)) (f : List (List α × α)), (∀ k ∈ ls, k ∈ links) → (∀ x ∈ f, P x) → ∀ x ∈ ls.foldl (stepL pairs w) f, P x := by
      intro ls
      induction ls with
      | nil => exact fun f _ hf => hf
      | cons k ls ih => exact fun f hk hf => ih _ (fun k' hk' => hk k' (List.mem_cons_of_mem _ hk')) (stepL_mem hf (h w List.mem_cons_self k (hk k List.mem_cons_self)))
    rw [List.foldl_cons]
    exact longerL_mem (inner links f (fun _ h => h) hf) fun w' hw' => h w' (List.mem_cons_of_mem _ hw')
end
def fromT : Sem := eAnd (eBin neD (eVar 3) (eLst (eNil))) (eBin leD (eLenV 4) (eC (.int 60)))
def fromC : Cm := sSeq (sExt 4 (eVar 3)) (sSet 3 (eFn (fnN 3 f_longer_ways) (eCons (eVar 3) (eCons (eVar 1) (eCons (eVar 2) (eNil)))) []))
theorem plain_ways {n : Nat} : ∀ {ways : List (List Str × Str)}, (∀ w ∈ ways, WyOk w) → plainDs (n + 2) (ways.map wyD) = true
  | [], _ => rfl
  | w :: ways, h => by
    obtain ⟨h1, h2, h3⟩ := h w List.mem_cons_self
    show (plainD (n + 2) (wyD w) && plainDs (n + 2) (ways.map wyD)) = true
    rw [plain_ways fun w hw => h w (List.mem_cons_of_mem _ hw)]
    have e1 : plainDs n (w.1.map .str) = true := plain_sv h1
    have e2 : PyData.strOk w.2 = true := h2
    simp only [wyD, tv, plainD, plainDs, e1, e2, Bool.and_self]
theorem ne_nil (cs : Cs) {ways : List (List Str × Str)} (h : ∀ w ∈ ways, WyOk w) : neD cs (.lst (ways.map wyD)) (.lst []) = some (.bl (!ways.isEmpty)) := by
  have p1 : plainD 20 (.lst (ways.map wyD)) = true := plain_ways (n := 17) h
  unfold neD
  rw [p1]
  cases ways with
  | nil => rfl
  | cons w ways => simp [plainD, plainDs, toP, toPs, PyData.eqv, PyData.eqvAll]
theorem from_loop {pairs : List (List Str × List Str)} (hp : PrOk pairs) (hn : pairs.length < 1000) {links : List (Str × Str × Str)} (hk : ∀ k ∈ links, LkOk k) (hl : links.length < 100) (a0 : Sl) (cs : Cs) : ∀ (n : Nat) {layer found r : List (List Str × Str)}, fromL links pairs n layer found = some r →
    (∀ w ∈ layer, WyOk w ∧ w.1.length ≤ found.length + 1) → (found.length ≤ 60 → layer.length ≤ 60 * links.length + 1) → found.length < 100000 →
    ∃ b3, whileLoop fromT fromC n [a0, .val (.tup (links.map lkD)), .val (prs pairs), .val (.lst (layer.map wyD)), .own (found.map wyD)] cs = .nx [a0, .val (.tup (links.map lkD)), .val (prs pairs), b3, .own (r.map wyD)] cs
  | 0, layer, found, r, h, _, _, _ => by cases h
  | n + 1, layer, found, r, h, hw, hc, hf => by
    unfold fromL at h
    have t1 : eBin neD (eVar 3) (eLst eNil) [a0, .val (.tup (links.map lkD)), .val (prs pairs), .val (.lst (layer.map wyD)), .own (found.map wyD)] cs = .ok (.bl (!layer.isEmpty)) cs := eBin_ok (eVar_ok rfl) rfl (ne_nil cs fun w hm => (hw w hm).1)
    have t2 : eBin leD (eLenV 4) (eC (.int 60)) [a0, .val (.tup (links.map lkD)), .val (prs pairs), .val (.lst (layer.map wyD)), .own (found.map wyD)] cs = .ok (.bl (decide ((found.length : Int) ≤ 60))) cs :=
      eBin_ok (x := .int (found.length : Nat)) (cs1 := cs) (by simp [eLenV]) rfl rfl
    by_cases h1 : layer.isEmpty = true
    · rw [h1] at h t1
      cases h
      have t3 : fromT [a0, .val (.tup (links.map lkD)), .val (prs pairs), .val (.lst (layer.map wyD)), .own (found.map wyD)] cs = .ok (.bl false) cs := eAnd_ff t1
      exact ⟨.val (.lst (layer.map wyD)), by simp [whileLoop, t3]⟩
    · have h1 : layer.isEmpty = false := by simpa using h1
      rw [h1] at h t1
      have t3 := (eAnd_t (g := eBin leD (eLenV 4) (eC (.int 60))) t1).trans t2
      by_cases h2 : 60 < found.length
      · rw [decide_eq_true h2] at h
        cases h
        rw [decide_eq_false (by omega)] at t3
        have t4 : fromT [a0, .val (.tup (links.map lkD)), .val (prs pairs), .val (.lst (layer.map wyD)), .own (found.map wyD)] cs = .ok (.bl false) cs := t3
        exact ⟨.val (.lst (layer.map wyD)), by simp [whileLoop, t4]⟩
      · rw [decide_eq_false h2] at h
        have h : fromL links pairs n (longerL layer links pairs) (found ++ layer) = some r := h
        rw [decide_eq_true (by omega)] at t3
        have t4 : fromT [a0, .val (.tup (links.map lkD)), .val (prs pairs), .val (.lst (layer.map wyD)), .own (found.map wyD)] cs = .ok (.bl true) cs := t3
        have hc' := hc (by omega)
        have hlay : layer.length ≤ 6001 := Nat.le_trans hc' (by omega)
        have hmul : layer.length * links.length < 800000 := by
          have : layer.length * links.length ≤ 6001 * 100 := Nat.mul_le_mul hlay (by omega)
          omega
        have hlen := longerL_length links pairs layer []
        simp only [List.length_nil, Nat.zero_add] at hlen
        have hpos : 0 < layer.length := by
          cases layer with
          | nil => cases h1
          | cons _ _ => simp
        obtain ⟨b3, e⟩ := from_loop hp hn hk hl a0 cs n (layer := longerL layer links pairs) (found := found ++ layer) h
          (longerL_mem (P := fun w => WyOk w ∧ w.1.length ≤ (found ++ layer).length + 1) (by simp) fun w hm k hk' => by
            obtain ⟨⟨w1, w2, w3⟩, w4⟩ := hw w hm
            obtain ⟨k1, k2, k3⟩ := hk k hk'
            refine ⟨⟨fun x hx => ?_, k3, ?_⟩, ?_⟩
            · rcases List.mem_append.mp hx with hx | hx
              · exact w1 x hx
              · rw [List.mem_singleton.mp hx]; exact k1
            · simp; omega
            · simp; omega)
          (fun hle => by
            simp only [List.length_append] at hle
            have : layer.length * links.length ≤ 60 * links.length := Nat.mul_le_mul_right _ (by omega)
            unfold longerL
            omega) (by simp; omega)
        refine ⟨b3, ?_⟩
        have q1 : sExt 4 (eVar 3) [a0, .val (.tup (links.map lkD)), .val (prs pairs), .val (.lst (layer.map wyD)), .own (found.map wyD)] cs = .nx [a0, .val (.tup (links.map lkD)), .val (prs pairs), .val (.lst (layer.map wyD)), .own ((found ++ layer).map wyD)] cs := by
          unfold sExt
          simp only [List.getElem?_cons_succ, List.getElem?_cons_zero]
          rw [eVar_ok (d := .lst (layer.map wyD)) rfl]
          simp only [Res.thenF_ok]
          rw [if_pos (by simp; omega)]
          simp
        have body : fromC [a0, .val (.tup (links.map lkD)), .val (prs pairs), .val (.lst (layer.map wyD)), .own (found.map wyD)] cs = .nx [a0, .val (.tup (links.map lkD)), .val (prs pairs), .val (.lst ((longerL layer links pairs).map wyD)), .own ((found ++ layer).map wyD)] cs := by
          unfold fromC
          rw [sSeq_nx q1]
          exact sSet_ok (eFn_ok (eCons_ok (eVar_ok rfl) (eCons_ok (eVar_ok rfl) (eCons_ok (eVar_ok rfl) rfl))) ((fnN_ok (n := 3) rfl).trans (longer_ok hp hn (fun w hm => (hw w hm).1) hk hmul cs)))
        simp only [whileLoop, t4, asB_ok, Res.thenF_ok, if_true, body]
        exact e
theorem plain_from_ok {pairs : List (List Str × List Str)} (hp : PrOk pairs) (hn : pairs.length < 1000) {links : List (Str × Str × Str)} (hk : ∀ k ∈ links, LkOk k) (hl : links.length < 100) {kind : Str} (hkd : Wrd kind) {r : List (List Str × Str)} (h : fromL links pairs fu [([kind], kind)] [] = some r) (cs : Cs) :
    f_plain_from [.str kind, .tup (links.map lkD), prs pairs] cs = .ok (.lst (r.map wyD)) cs := by
  show fnRes (b_plain_from [.val (.str kind), .val (.tup (links.map lkD)), .val (prs pairs), .un, .un] cs) = _
  unfold b_plain_from
  have q0 : sSet 3 (eLst (eCons (eTup (eCons (eTup (eCons (eVar 0) (eNil))) (eCons (eVar 0) (eNil)))) (eNil))) [.val (.str kind), .val (.tup (links.map lkD)), .val (prs pairs), .un, .un] cs = .nx [.val (.str kind), .val (.tup (links.map lkD)), .val (prs pairs), .val (.lst ([([kind], kind)].map wyD)), .un] cs := rfl
  have q1 : sOwn 4 eNil [.val (.str kind), .val (.tup (links.map lkD)), .val (prs pairs), .val (.lst ([([kind], kind)].map wyD)), .un] cs = .nx [.val (.str kind), .val (.tup (links.map lkD)), .val (prs pairs), .val (.lst ([([kind], kind)].map wyD)), .own []] cs := rfl
  rw [sSeq_nx q0, sSeq_nx q1]
  obtain ⟨b3, e⟩ := from_loop hp hn hk hl (.val (.str kind)) cs fu h (fun w hw => by
    rw [List.mem_singleton.mp hw]
    exact ⟨⟨by simpa using hkd, hkd, by simp⟩, by simp⟩) (fun _ => by simp) (by simp)
  have e' : sWhile fu fromT fromC [.val (.str kind), .val (.tup (links.map lkD)), .val (prs pairs), .val (.lst ([([kind], kind)].map wyD)), .own []] cs = .nx [.val (.str kind), .val (.tup (links.map lkD)), .val (prs pairs), b3, .own (r.map wyD)] cs := e
  clear e
  unfold fromT fromC at e'
  rw [sSeq_nx e']
  rfl
end K02

set_option Elab.async false
set_option linter.all false
set_option maxRecDepth 100000
set_option maxHeartbeats 4000000
namespace K02
open PySem PySem.Spec PyProof.Rows L2 LL
section
variable {α : Type} [DecidableEq α]
def openAt (pairs : List (List α × List α)) (one other : List α × List α) (i : Nat) : Option Bool :=
  if (one.1.take (i + min (one.1.length - i) other.1.length)).drop i = other.1.take (min (one.1.length - i) other.1.length) then
    (shortL pairs fu (one.2 ++ other.1.drop (min (one.1.length - i) other.1.length))).bind fun a => (shortL pairs fu (one.1.take i ++ other.2 ++ one.1.drop (i + other.1.length))).map fun b => !decide (a = b)
  else some false
end
theorem min_nat (cs : Cs) (i j : Nat) : min2D cs [.int (i : Nat), .int (j : Nat)] = some (.int (min i j : Nat)) := by
  show some (D.int (if (j : Int) < (i : Int) then (j : Int) else (i : Int))) = _
  by_cases h : j < i
  · rw [if_pos (by omega), Nat.min_eq_right (by omega)]
  · rw [if_neg (by omega), Nat.min_eq_left (by omega)]
def openC : Cm := sSeq (sSet 8 (eCall min2D (eCons (eBin subD (eCall lenD (eCons (eVar 3) (eNil))) (eVar 7)) (eCons (eCall lenD (eCons (eVar 5) (eNil))) (eNil)))))
  (sIf (eBin eqD (eSl (eVar 3) (oSome (eVar 7)) (oSome (eBin addD (eVar 7) (eVar 8)))) (eSl (eVar 5) oNone (oSome (eVar 8))))
  (sSeq (sSet 9 (eBin addD (eVar 4) (eSl (eVar 5) (oSome (eVar 8)) oNone)))
  (sSeq (sSet 10 (eBin addD (eBin addD (eSl (eVar 3) oNone (oSome (eVar 7))) (eVar 6)) (eSl (eVar 3) (oSome (eBin addD (eVar 7) (eCall lenD (eCons (eVar 5) (eNil))))) oNone)))
  (sIf (eBin neD (eFn (fnN 2 f_shortened) (eCons (eVar 2) (eCons (eVar 9) (eNil))) []) (eFn (fnN 2 f_shortened) (eCons (eVar 2) (eCons (eVar 10) (eNil))) []))
  (sRet (eC (.bl true)))
  (sNil))))
  (sNil))
def PW (p : List Str × List Str) : Prop := (∀ x ∈ p.1, Wrd x) ∧ (∀ x ∈ p.2, Wrd x) ∧ p.1.length < 300 ∧ p.2.length < 300
theorem open_turn {pairs : List (List Str × List Str)} (hp : PrOk pairs) (hs : ∀ p ∈ pairs, p.2.length ≤ p.1.length) {one other : List Str × List Str} (w1 : PW one) (w2 : PW other) {i : Nat} (hi : i < one.1.length) {b : Bool} (hb : openAt pairs one other i = some b) (a0 a1 a8 a9 a10 : Sl) (cs : Cs) :
    if b = true then openC [a0, a1, .val (prs pairs), .val (tv one.1), .val (tv one.2), .val (tv other.1), .val (tv other.2), .val (.int i), a8, a9, a10] cs = .rt (.bl true) cs
    else ∃ b8 b9 b10, openC [a0, a1, .val (prs pairs), .val (tv one.1), .val (tv one.2), .val (tv other.1), .val (tv other.2), .val (.int i), a8, a9, a10] cs = .nx [a0, a1, .val (prs pairs), .val (tv one.1), .val (tv one.2), .val (tv other.1), .val (tv other.2), .val (.int i), b8, b9, b10] cs := by
  obtain ⟨o1, o2, o3, o4⟩ := w1
  obtain ⟨t1, t2, t3, t4⟩ := w2
  have l3 : ∀ (S : List Sl), S[3]? = some (.val (tv one.1)) → eCall lenD (eCons (eVar 3) eNil) S cs = .ok (.int (one.1.length : Nat)) cs := fun S h => eCall_ok (eCons_ok (eVar_ok h) rfl) (by simp [lenD])
  have l5 : ∀ (S : List Sl), S[5]? = some (.val (tv other.1)) → eCall lenD (eCons (eVar 5) eNil) S cs = .ok (.int (other.1.length : Nat)) cs := fun S h => eCall_ok (eCons_ok (eVar_ok h) rfl) (by simp [lenD])
  unfold openC
  have q8 : eCall min2D (eCons (eBin subD (eCall lenD (eCons (eVar 3) (eNil))) (eVar 7)) (eCons (eCall lenD (eCons (eVar 5) (eNil))) (eNil))) [a0, a1, .val (prs pairs), .val (tv one.1), .val (tv one.2), .val (tv other.1), .val (tv other.2), .val (.int i), a8, a9, a10] cs = .ok (.int (min (one.1.length - i) other.1.length : Nat)) cs := by
    refine eCall_ok (eCons_ok (eBin_ok (z := .int (one.1.length - i : Nat)) (l3 _ rfl) (eVar_ok rfl) ?_) (eCons_ok (l5 _ rfl) rfl)) (min_nat cs _ _)
    rw [subD_int]
    congr 2
    omega
  rw [sSeq_nx (sSet_ok q8)]
  simp only [List.set_cons_succ, List.set_cons_zero]
  unfold openAt at hb
  generalize min (one.1.length - i) other.1.length = m at hb ⊢
  have qt : eBin eqD (eSl (eVar 3) (oSome (eVar 7)) (oSome (eBin addD (eVar 7) (eVar 8)))) (eSl (eVar 5) oNone (oSome (eVar 8))) [a0, a1, .val (prs pairs), .val (tv one.1), .val (tv one.2), .val (tv other.1), .val (tv other.2), .val (.int i), .val (.int m), a9, a10] cs = .ok (.bl (decide ((one.1.take (i + m)).drop i = other.1.take m))) cs :=
    eBin_ok (eSl_ok (eVar_ok rfl) (oSome_ok (eVar_ok rfl)) (oSome_ok (eBin_ok (eVar_ok rfl) (eVar_ok rfl) (addD_int cs _ _))) (cut_sv one.1 i (i + m))) (eSl_ok (eVar_ok rfl) rfl (oSome_ok (eVar_ok rfl)) (to_sv other.1 m))
      (eqD_sv cs (fun x hx => o1 x (List.mem_of_mem_take (List.mem_of_mem_drop hx))) (fun x hx => t1 x (List.mem_of_mem_take hx)))
  by_cases h : (one.1.take (i + m)).drop i = other.1.take m
  · rw [if_pos h] at hb
    rw [decide_eq_true h] at qt
    rw [sIf_t qt]
    cases ha : shortL pairs fu (one.2 ++ other.1.drop m) with
    | none => rw [ha] at hb; cases hb
    | some a =>
      cases hc : shortL pairs fu (one.1.take i ++ other.2 ++ one.1.drop (i + other.1.length)) with
      | none => rw [ha, hc] at hb; cases hb
      | some c =>
        rw [ha, hc] at hb
        have hb : (!decide (a = c)) = b := Option.some.inj hb
        have wa : ∀ x ∈ one.2 ++ other.1.drop m, Wrd x := fun x hx => by
          rcases List.mem_append.mp hx with hx | hx
          · exact o2 x hx
          · exact t1 x (List.mem_of_mem_drop hx)
        have wc : ∀ x ∈ one.1.take i ++ other.2 ++ one.1.drop (i + other.1.length), Wrd x := fun x hx => by
          rcases List.mem_append.mp hx with hx | hx
          · rcases List.mem_append.mp hx with hx | hx
            · exact o1 x (List.mem_of_mem_take hx)
            · exact t2 x hx
          · exact o1 x (List.mem_of_mem_drop hx)
        have q9 : eBin addD (eVar 4) (eSl (eVar 5) (oSome (eVar 8)) oNone) [a0, a1, .val (prs pairs), .val (tv one.1), .val (tv one.2), .val (tv other.1), .val (tv other.2), .val (.int i), .val (.int m), a9, a10] cs = .ok (tv (one.2 ++ other.1.drop m)) cs :=
          eBin_ok (eVar_ok rfl) (eSl_ok (eVar_ok rfl) (oSome_ok (eVar_ok rfl)) rfl (from_sv other.1 m)) (add_sv cs _ _ (by simp only [List.length_drop]; omega))
        rw [sSeq_nx (sSet_ok q9)]
        simp only [List.set_cons_succ, List.set_cons_zero]
        have q10 : eBin addD (eBin addD (eSl (eVar 3) oNone (oSome (eVar 7))) (eVar 6)) (eSl (eVar 3) (oSome (eBin addD (eVar 7) (eCall lenD (eCons (eVar 5) (eNil))))) oNone) [a0, a1, .val (prs pairs), .val (tv one.1), .val (tv one.2), .val (tv other.1), .val (tv other.2), .val (.int i), .val (.int m), .val (tv (one.2 ++ other.1.drop m)), a10] cs = .ok (tv (one.1.take i ++ other.2 ++ one.1.drop (i + other.1.length))) cs :=
          eBin_ok (eBin_ok (eSl_ok (eVar_ok rfl) rfl (oSome_ok (eVar_ok rfl)) (to_sv one.1 i)) (eVar_ok rfl) (add_sv cs _ _ (by simp only [List.length_take]; omega))) (eSl_ok (eVar_ok rfl) (oSome_ok (eBin_ok (eVar_ok rfl) (l5 _ rfl) (addD_int cs _ _))) rfl (from_sv one.1 (i + other.1.length)))
            (add_sv cs _ _ (by simp only [List.length_append, List.length_take, List.length_drop]; omega))
        rw [sSeq_nx (sSet_ok q10)]
        simp only [List.set_cons_succ, List.set_cons_zero]
        have na : (one.2 ++ other.1.drop m).length < 1000 := by simp only [List.length_append, List.length_drop]; omega
        have nc : (one.1.take i ++ other.2 ++ one.1.drop (i + other.1.length)).length < 1000 := by simp only [List.length_append, List.length_take, List.length_drop]; omega
        have qn : eBin neD (eFn (fnN 2 f_shortened) (eCons (eVar 2) (eCons (eVar 9) (eNil))) []) (eFn (fnN 2 f_shortened) (eCons (eVar 2) (eCons (eVar 10) (eNil))) []) [a0, a1, .val (prs pairs), .val (tv one.1), .val (tv one.2), .val (tv other.1), .val (tv other.2), .val (.int i), .val (.int m), .val (tv (one.2 ++ other.1.drop m)), .val (tv (one.1.take i ++ other.2 ++ one.1.drop (i + other.1.length)))] cs = .ok (.bl (!decide (a = c))) cs :=
          eBin_ok (eFn_ok (eCons_ok (eVar_ok rfl) (eCons_ok (eVar_ok rfl) rfl)) ((fnN_ok (n := 2) rfl).trans (shortened_ok hp hs wa na ha cs))) (eFn_ok (eCons_ok (eVar_ok rfl) (eCons_ok (eVar_ok rfl) rfl)) ((fnN_ok (n := 2) rfl).trans (shortened_ok hp hs wc nc hc cs)))
            (neD_sv cs (shortL_mem hp.w2 ha wa) (shortL_mem hp.w2 hc wc))
        rw [hb] at qn
        cases b with
        | true =>
          rw [if_pos rfl, sIf_t qn]
          rfl
        | false =>
          rw [if_neg (by decide), sIf_f qn]
          exact ⟨_, _, _, rfl⟩
  · rw [if_neg h] at hb
    cases hb
    rw [decide_eq_false h] at qt
    rw [if_neg (by decide), sIf_f qt]
    exact ⟨_, a9, a10, rfl⟩
section
variable {α : Type} [DecidableEq α]
def liesL (pairs : List (List α × List α)) (one other : List α × List α) : Bool := (List.range one.1.length).any fun i => openAt pairs one other i == some true
/-- each shortening that is asked for comes to its end -/
def liesEnds (pairs : List (List α × List α)) (one other : List α × List α) : Bool := (List.range one.1.length).all fun i => (openAt pairs one other i).isSome
end
theorem lies_ok {pairs : List (List Str × List Str)} (hp : PrOk pairs) (hs : ∀ p ∈ pairs, p.2.length ≤ p.1.length) {one other : List Str × List Str} (w1 : PW one) (w2 : PW other) (he : liesEnds pairs one other = true) (cs : Cs) :
    f_lies_open [prD one, prD other, prs pairs] cs = .ok (.bl (liesL pairs one other)) cs := by
  show fnRes (b_lies_open [.val (prD one), .val (prD other), .val (prs pairs), .un, .un, .un, .un, .un, .un, .un, .un] cs) = _
  unfold b_lies_open
  have q0 : sAsg (gT (gsC (gT (gsC (gN 3) (gsC (gN 4) (gs0)))) (gsC (gT (gsC (gN 5) (gsC (gN 6) (gs0)))) (gs0)))) (eTup (eCons (eVar 0) (eCons (eVar 1) (eNil)))) [.val (prD one), .val (prD other), .val (prs pairs), .un, .un, .un, .un, .un, .un, .un, .un] cs =
      .nx [.val (prD one), .val (prD other), .val (prs pairs), .val (tv one.1), .val (tv one.2), .val (tv other.1), .val (tv other.2), .un, .un, .un, .un] cs := rfl
  rw [sSeq_nx q0]
  have l3 : eCall lenD (eCons (eVar 3) eNil) [.val (prD one), .val (prD other), .val (prs pairs), .val (tv one.1), .val (tv one.2), .val (tv other.1), .val (tv other.2), .un, .un, .un, .un] cs = .ok (.int (one.1.length : Nat)) cs := eCall_ok (eCons_ok (eVar_ok rfl) rfl) (by simp [lenD])
  have er := iR1_ok (g := eCons (eCall lenD (eCons (eVar 3) eNil)) eNil) (eCons_ok l3 rfl) (by have := w1.2.2.1; omega)
  have out := forLoop_find (g := gN 7) (c := openC) (fun S => ∃ a7 a8 a9 a10, S = [.val (prD one), .val (prD other), .val (prs pairs), .val (tv one.1), .val (tv one.2), .val (tv other.1), .val (tv other.2), a7, a8, a9, a10]) (fun i : Nat => D.int (0 + (i : Nat)))
    (fun i => if openAt pairs one other i = some true then some (D.bl true) else none) cs (ds := List.range one.1.length)
    (S := [.val (prD one), .val (prD other), .val (prs pairs), .val (tv one.1), .val (tv one.2), .val (tv other.1), .val (tv other.2), .un, .un, .un, .un]) ⟨_, _, _, _, rfl⟩ (by
      rintro i hi S ⟨a7, a8, a9, a10, rfl⟩
      refine ⟨[.val (prD one), .val (prD other), .val (prs pairs), .val (tv one.1), .val (tv one.2), .val (tv other.1), .val (tv other.2), .val (.int i), a8, a9, a10], by rw [show (0 : Int) + (i : Nat) = (i : Int) from Int.zero_add _]; rfl, ?_⟩
      have h1 := List.all_eq_true.mp he i hi
      obtain ⟨b, hb⟩ := Option.isSome_iff_exists.mp h1
      have z := open_turn hp hs w1 w2 (List.mem_range.mp hi) hb (.val (prD one)) (.val (prD other)) a8 a9 a10 cs
      cases b with
      | true =>
        rw [if_pos rfl] at z
        rw [if_pos hb]
        exact z
      | false =>
        rw [if_neg (by decide)] at z
        obtain ⟨b8, b9, b10, z⟩ := z
        rw [if_neg (by rw [hb]; simp)]
        exact ⟨_, z, _, _, _, _, rfl⟩)
  unfold openC at out
  cases hf : (List.range one.1.length).findSome? fun i => if openAt pairs one other i = some true then some (D.bl true) else none with
  | some r =>
    rw [hf] at out
    obtain ⟨i, hi, e⟩ := List.exists_of_findSome?_eq_some hf
    split at e
    · rename_i ho
      cases e
      rw [sSeq_rt (by rw [sFor_ok er]; exact out)]
      have : liesL pairs one other = true := List.any_eq_true.mpr ⟨i, hi, by rw [ho]; rfl⟩
      rw [this]
      rfl
    · cases e
  | none =>
    rw [hf] at out
    obtain ⟨S', e, a7, a8, a9, a10, rfl⟩ := out
    rw [sSeq_nx (by rw [sFor_ok er]; exact e)]
    have : liesL pairs one other = false := by
      unfold liesL
      rw [List.any_eq_false]
      intro i hi hc
      have := List.findSome?_eq_none_iff.mp hf i hi
      rw [if_pos (by simpa using hc)] at this
      cases this
    rw [this]
    rfl
end K02

set_option Elab.async false
set_option linter.all false
set_option maxRecDepth 100000
set_option maxHeartbeats 4000000
namespace K02
open PySem PySem.Spec PyProof.Rows L2 LL
theorem lcLoop2_map {α β : Type} {g g1 : Tg} {c c1 f : Sem} {its1 : LL.Its} {vs1 : List Nat} {S : List Sl} (enc : α → D) (enc1 : β → D) (f0 : α → β → D) (l1 : List β) (cs : Cs) : ∀ {l : List α},
    (∀ d ∈ l, ∃ S2, g (enc d) S = some S2 ∧ c S2 cs = .ok (.bl true) cs ∧ its1 S2 cs = .ok (l1.map enc1) cs ∧ ∀ e ∈ l1, ∃ S3, g1 (enc1 e) (wipeS S2 vs1) = some S3 ∧ c1 S3 cs = .ok (.bl true) cs ∧ f S3 cs = .ok (f0 d e) cs) →
    lcLoop2 g c its1 g1 c1 f vs1 S (l.map enc) cs = .ok (l.flatMap fun d => l1.map (f0 d)) cs
  | [], _ => rfl
  | d :: l, st => by
    obtain ⟨S2, e1, e2, e3, h⟩ := st d List.mem_cons_self
    have ih := lcLoop2_map enc enc1 f0 l1 cs (l := l) fun d hd => st d (List.mem_cons_of_mem _ hd)
    have hi : lcLoop g1 c1 f (wipeS S2 vs1) (l1.map enc1) cs = .ok (l1.filterMap fun e => some (f0 d e)) cs := lcLoop_filterMap enc1 _ cs fun e he => by
      obtain ⟨S3, a1, a2, a3⟩ := h e he
      exact ⟨S3, a1, a2, a3⟩
    rw [List.filterMap_eq_map'] at hi
    simp only [List.map_cons, lcLoop2, e1, Res.opt_some, Res.bind_ok, e2, asB_ok, if_true, e3, hi, ih, List.flatMap_cons]
def isOpenL {α : Type} [DecidableEq α] (pairs : List (List α × List α)) : Bool := pairs.any fun one => pairs.any fun other => liesL pairs one other
def openEnds {α : Type} [DecidableEq α] (pairs : List (List α × List α)) : Bool := pairs.all fun one => pairs.all fun other => liesEnds pairs one other
theorem is_open_ok {pairs : List (List Str × List Str)} (hp : PrOk pairs) (hs : ∀ p ∈ pairs, p.2.length ≤ p.1.length) (hw : ∀ p ∈ pairs, PW p) (hn : pairs.length < 1000) (he : openEnds pairs = true) (cs : Cs) : f_is_open [prs pairs] cs = .ok (.bl (isOpenL pairs)) cs := by
  show fnRes (b_is_open [.val (prs pairs), .un, .un] cs) = _
  unfold b_is_open
  have hl := lcLoop2_map (g := gN 1) (c := eC (.bl true)) (its1 := iA (eVar 0)) (g1 := gN 2) (c1 := eC (.bl true)) (f := eFn (fnN 3 f_lies_open) (eCons (eVar 1) (eCons (eVar 2) (eCons (eVar 0) (eNil)))) []) (vs1 := [2]) (S := [.val (prs pairs), .un, .un]) prD prD (fun one other => .bl (liesL pairs one other)) pairs cs (l := pairs) (fun one h1 =>
    ⟨[.val (prs pairs), .val (prD one), .un], rfl, rfl, rfl, fun other h2 => ⟨[.val (prs pairs), .val (prD one), .val (prD other)], rfl, rfl,
      eFn_ok (eCons_ok (eVar_ok rfl) (eCons_ok (eVar_ok rfl) (eCons_ok (eVar_ok rfl) rfl))) ((fnN_ok (n := 3) rfl).trans (lies_ok hp hs (hw one h1) (hw other h2) (List.all_eq_true.mp (List.all_eq_true.mp he one h1) other h2) cs))⟩⟩)
  have hb : (pairs.flatMap fun one => pairs.map fun other => D.bl (liesL pairs one other)) = (pairs.flatMap fun one => pairs.map fun other => liesL pairs one other).map fun b => D.bl b := by
    rw [List.map_flatMap]
    simp only [List.map_map]
    rfl
  have hlen : (pairs.flatMap fun one => pairs.map fun other => D.bl (liesL pairs one other)).length ≤ 1000000 := by
    have : ∀ l : List (List Str × List Str), (l.flatMap fun one => pairs.map fun other => D.bl (liesL pairs one other)).length = l.length * pairs.length := by
      intro l
      induction l with
      | nil => simp
      | cons a l ih => rw [List.flatMap_cons, List.length_append, ih, List.length_map, List.length_cons, Nat.succ_mul, Nat.add_comm]
    rw [this]
    exact Nat.le_trans (Nat.mul_le_mul (Nat.le_of_lt hn) (Nat.le_of_lt hn)) (by decide)
  have qc : eLc2 (iA (eVar 0)) (gN 1) (eC (.bl true)) (iA (eVar 0)) (gN 2) (eC (.bl true)) (eFn (fnN 3 f_lies_open) (eCons (eVar 1) (eCons (eVar 2) (eCons (eVar 0) (eNil)))) []) [1, 2] [2] [.val (prs pairs), .un, .un] cs = .ok (.lst (pairs.flatMap fun one => pairs.map fun other => D.bl (liesL pairs one other))) cs := by
    have ei : iA (eVar 0) [.val (prs pairs), .un, .un] cs = .ok (pairs.map prD) cs := rfl
    have ew : wipeS [.val (prs pairs), .un, .un] [1, 2] = [.val (prs pairs), .un, .un] := rfl
    simp only [eLc2, ei, Res.bind_ok, ew, hl, noX_ok]
    rw [if_pos hlen]
  rw [hb] at qc
  rw [sRet_ok (eCall_ok (eCons_ok qc rfl) (any_of (fun b => b) cs _))]
  have : ((pairs.flatMap fun one => pairs.map fun other => liesL pairs one other).any fun b => b) = isOpenL pairs := by
    unfold isOpenL
    rw [List.any_flatMap]
    congr 1
    funext one
    rw [List.any_map]
    rfl
  rw [this]
  rfl
end K02

set_option Elab.async false
set_option linter.all false
set_option maxRecDepth 100000
set_option maxHeartbeats 4000000
namespace K02
open PySem PySem.Spec PyProof.Rows L2 LL
section
variable {α : Type} [DecidableEq α]
def stepE (links : List (α × α × α)) (here : Option α) (l : α) : Option α := match links.find? fun k => decide (k.1 = l) with
  | none => none
  | some k => if here = some k.2.1 then some k.2.2 else none
def endL (kinds : List α) (links : List (α × α × α)) (w : α) (ls : List α) : Option α := ls.foldl (stepE links) (if w ∈ kinds then some w else none)
end
def oD : Option Str → D
  | none => .non
  | some x => .str x
def endsD (links : List (Str × Str × Str)) : D := .dct (links.map fun k => .str k.1) (links.map fun k => tv [k.2.1, k.2.2])
theorem keyEq_str (a b : Str) : keyEq (.str a) (.str b) = decide (a = b) := by
  show (a == b) = decide (a = b)
  rw [Bool.eq_iff_iff]
  simp
theorem ends_get (l : Str) : ∀ links : List (Str × Str × Str), dgetD (links.map fun k => .str k.1) (links.map fun k => tv [k.2.1, k.2.2]) (.str l) = (links.find? fun k => decide (k.1 = l)).map fun k => tv [k.2.1, k.2.2]
  | [] => by simp [dgetD]
  | k :: links => by
    have ih := ends_get l links
    by_cases h : k.1 = l
    · simp [dgetD, keyEq_str, h]
    · have h2 : decide (k.1 = l) = false := decide_eq_false h
      rw [List.find?_cons, h2, ← ih]
      simp [dgetD, keyEq_str, h]
def endC : Cm := sSeq (sAsg (gT (gsC (gN 5) (gsC (gN 6) (gs0)))) (eGet2 (eVar 1) (eVar 4) (eTup (eCons (eC .non) (eCons (eC .non) (eNil))))))
  (sSet 3 (eIf (eAnd (eBin isNotD (eVar 5) (eC .non)) (eBin eqD (eVar 5) (eVar 3))) (eVar 6) (eC .non)))
theorem eIf_t' {t f g : Sem} {S : List Sl} {cs cs' : Cs} (h : t S cs = .ok (.bl true) cs') : eIf t f g S cs = f S cs' := by simp [eIf, h, asB]
theorem eIf_f' {t f g : Sem} {S : List Sl} {cs cs' : Cs} (h : t S cs = .ok (.bl false) cs') : eIf t f g S cs = g S cs' := by simp [eIf, h, asB]
theorem end_turn {links : List (Str × Str × Str)} (hk : ∀ k ∈ links, LkOk k) {here : Option Str} (hh : ∀ x, here = some x → Wrd x) (a0 a2 a5 a6 : Sl) (l : Str) (cs : Cs) : ∃ b5 b6, endC [a0, .val (endsD links), a2, .val (oD here), .val (.str l), a5, a6] cs = .nx [a0, .val (endsD links), a2, .val (oD (stepE links here l)), .val (.str l), b5, b6] cs := by
  have qg : eGet2 (eVar 1) (eVar 4) (eTup (eCons (eC .non) (eCons (eC .non) (eNil)))) [a0, .val (endsD links), a2, .val (oD here), .val (.str l), a5, a6] cs = .ok (((links.find? fun k => decide (k.1 = l)).map fun k => tv [k.2.1, k.2.2]).getD (.tup [.non, .non])) cs := by
    unfold eGet2
    rw [eVar_ok (d := endsD links) rfl, Res.bind_ok]
    show ((eVar 4 _ cs).bind fun k cs => (eTup (eCons (eC .non) (eCons (eC .non) eNil)) _ cs).bind fun z cs => if keyD k = true then Res.ok ((dgetD (links.map fun k => D.str k.1) (links.map fun k => tv [k.2.1, k.2.2]) k).getD z) cs else .bad) = _
    rw [eVar_ok (d := .str l) rfl, Res.bind_ok]
    have ez : eTup (eCons (eC .non) (eCons (eC .non) eNil)) [a0, .val (endsD links), a2, .val (oD here), .val (.str l), a5, a6] cs = .ok (.tup [.non, .non]) cs := rfl
    rw [ez, Res.bind_ok, if_pos (show keyD (.str l) = true from rfl), ends_get]
  unfold endC
  cases hf : links.find? fun k => decide (k.1 = l) with
  | none =>
    rw [hf] at qg
    have q0 : sAsg (gT (gsC (gN 5) (gsC (gN 6) (gs0)))) (eGet2 (eVar 1) (eVar 4) (eTup (eCons (eC .non) (eCons (eC .non) (eNil))))) [a0, .val (endsD links), a2, .val (oD here), .val (.str l), a5, a6] cs = .nx [a0, .val (endsD links), a2, .val (oD here), .val (.str l), .val .non, .val .non] cs := by
      unfold sAsg
      rw [qg]
      rfl
    rw [sSeq_nx q0]
    have : stepE links here l = none := by unfold stepE; rw [hf]
    rw [this]
    exact ⟨_, _, rfl⟩
  | some k =>
    rw [hf] at qg
    have hm := List.mem_of_find?_eq_some hf
    obtain ⟨k1, k2, k3⟩ := hk k hm
    have q0 : sAsg (gT (gsC (gN 5) (gsC (gN 6) (gs0)))) (eGet2 (eVar 1) (eVar 4) (eTup (eCons (eC .non) (eCons (eC .non) (eNil))))) [a0, .val (endsD links), a2, .val (oD here), .val (.str l), a5, a6] cs = .nx [a0, .val (endsD links), a2, .val (oD here), .val (.str l), .val (.str k.2.1), .val (.str k.2.2)] cs := by
      unfold sAsg
      rw [qg]
      rfl
    rw [sSeq_nx q0]
    have q1 : eBin isNotD (eVar 5) (eC .non) [a0, .val (endsD links), a2, .val (oD here), .val (.str l), .val (.str k.2.1), .val (.str k.2.2)] cs = .ok (.bl true) cs := rfl
    have q2 : eBin eqD (eVar 5) (eVar 3) [a0, .val (endsD links), a2, .val (oD here), .val (.str l), .val (.str k.2.1), .val (.str k.2.2)] cs = .ok (.bl (decide (here = some k.2.1))) cs := by
      refine eBin_ok (eVar_ok rfl) (eVar_ok rfl) ?_
      cases here with
      | none =>
        unfold eqD plainD
        rw [show PyData.strOk k.2.1 = true from k2]
        rfl
      | some x =>
        show eqD cs (.str k.2.1) (.str x) = _
        rw [eqD_str cs _ _ k2 (hh x rfl)]
        congr 2
        rw [Bool.eq_iff_iff]
        simp only [beq_iff_eq, decide_eq_true_eq, Option.some.injEq]
        exact eq_comm
    have q3 := (eAnd_t (g := eBin eqD (eVar 5) (eVar 3)) q1).trans q2
    have hst : stepE links here l = if here = some k.2.1 then some k.2.2 else none := by unfold stepE; rw [hf]
    rw [hst]
    by_cases h : here = some k.2.1
    · rw [decide_eq_true h] at q3
      rw [if_pos h]
      exact ⟨_, _, sSet_ok ((eIf_t' q3).trans rfl)⟩
    · rw [decide_eq_false h] at q3
      rw [if_neg h]
      exact ⟨_, _, sSet_ok ((eIf_f' q3).trans rfl)⟩
end K02

set_option Elab.async false
set_option linter.all false
set_option maxRecDepth 100000
set_option maxHeartbeats 4000000
namespace K02
open PySem PySem.Spec PyProof.Rows L2 LL
theorem in_tv (w : Str) (xs : List Str) : inB (.str w) (tv xs) = some (decide (w ∈ xs)) := by
  have h1 : (xs.map D.str).all flatD = true := by simp [flatD]
  have h2 : ((xs.map D.str).any fun y => PyData.eqv (toP y) (toP (.str w))) = decide (w ∈ xs) := by
    rw [List.any_map, Bool.eq_iff_iff]
    have e : ∀ a : Str, PyData.eqv (toP (.str a)) (toP (.str w)) = (a == w) := fun _ => rfl
    simp [Function.comp_def, e]
  show inSeq (.str w) (xs.map D.str) = _
  unfold inSeq
  rw [h1, h2]
  rfl
theorem stepE_wrd {links : List (Str × Str × Str)} (hk : ∀ k ∈ links, LkOk k) (here : Option Str) (l : Str) : ∀ x, stepE links here l = some x → Wrd x := by
  intro x h
  unfold stepE at h
  cases hf : links.find? fun k => decide (k.1 = l) with
  | none => rw [hf] at h; cases h
  | some k =>
    rw [hf] at h
    have h : (if here = some k.2.1 then some k.2.2 else none) = some x := h
    split at h
    · cases h; exact (hk k (List.mem_of_find?_eq_some hf)).2.2
    · cases h
theorem end_by_ok {kinds : List Str} {links : List (Str × Str × Str)} (hk : ∀ k ∈ links, LkOk k) {w : Str} (hw : Wrd w) (ls : List Str) (cs : Cs) : f_end_by [tv kinds, endsD links, tv (w :: ls)] cs = .ok (oD (endL kinds links w ls)) cs := by
  show fnRes (b_end_by [.val (tv kinds), .val (endsD links), .val (tv (w :: ls)), .un, .un, .un, .un] cs) = _
  unfold b_end_by
  have h0 : eBin ixD (eVar 2) (eC (.int 0)) [.val (tv kinds), .val (endsD links), .val (tv (w :: ls)), .un, .un, .un, .un] cs = .ok (.str w) cs := eBin_ok (x := tv (w :: ls)) (cs1 := cs) rfl rfl (L2.atI_nat (j := 0) rfl)
  have h1 : eBin inD (eBin ixD (eVar 2) (eC (.int 0))) (eVar 0) [.val (tv kinds), .val (endsD links), .val (tv (w :: ls)), .un, .un, .un, .un] cs = .ok (.bl (decide (w ∈ kinds))) cs :=
    eBin_ok h0 (eVar_ok rfl) (by show (inB (.str w) (tv kinds)).map _ = _; rw [in_tv]; rfl)
  have q3 : eIf (eBin inD (eBin ixD (eVar 2) (eC (.int 0))) (eVar 0)) (eBin ixD (eVar 2) (eC (.int 0))) (eC .non) [.val (tv kinds), .val (endsD links), .val (tv (w :: ls)), .un, .un, .un, .un] cs = .ok (oD (if w ∈ kinds then some w else none)) cs := by
    by_cases h : w ∈ kinds
    · rw [decide_eq_true h] at h1
      rw [if_pos h, eIf_t' h1]
      exact h0
    · rw [decide_eq_false h] at h1
      rw [if_neg h, eIf_f' h1]
      rfl
  rw [sSeq_nx (sSet_ok q3)]
  simp only [List.set_cons_succ, List.set_cons_zero]
  have q1 : eSl (eVar 2) (oSome (eC (.int 1))) oNone [.val (tv kinds), .val (endsD links), .val (tv (w :: ls)), .val (oD (if w ∈ kinds then some w else none)), .un, .un, .un] cs = .ok (tv ls) cs := eSl_ok (eVar_ok rfl) (oSome_ok (i := ((1 : Nat) : Int)) rfl) rfl (from_sv (w :: ls) 1)
  have qi : iA (eSl (eVar 2) (oSome (eC (.int 1))) oNone) [.val (tv kinds), .val (endsD links), .val (tv (w :: ls)), .val (oD (if w ∈ kinds then some w else none)), .un, .un, .un] cs = .ok (ls.map .str) cs := by
    unfold iA
    rw [q1]
    rfl
  obtain ⟨S', e, hh, b4, b5, b6, hS⟩ := forLoop_fold (g := gN 4) (c := endC) D.str
    (fun (here : Option Str) S => (∀ x, here = some x → Wrd x) ∧ ∃ b4 b5 b6, S = [.val (tv kinds), .val (endsD links), .val (tv (w :: ls)), .val (oD here), b4, b5, b6])
    (stepE links) cs (l := ls) (s := if w ∈ kinds then some w else none) (S := [.val (tv kinds), .val (endsD links), .val (tv (w :: ls)), .val (oD (if w ∈ kinds then some w else none)), .un, .un, .un])
    ⟨fun x hx => by split at hx <;> cases hx; exact hw, _, _, _, rfl⟩ (by
      rintro l hl here S ⟨hh, b4, b5, b6, rfl⟩
      obtain ⟨c5, c6, e⟩ := end_turn hk hh (.val (tv kinds)) (.val (tv (w :: ls))) b5 b6 l cs
      exact ⟨_, _, rfl, e, stepE_wrd hk here l, _, _, _, rfl⟩)
  subst hS
  unfold endC at e
  rw [sSeq_nx (by rw [sFor_ok qi]; exact e)]
  rfl
def sidesL {α : Type} [DecidableEq α] (kinds : List α) (links : List (α × α × α)) (r : (α × List α) × (α × List α)) : Bool := match endL kinds links r.1.1 r.1.2 with
  | none => false
  | some e => decide (r.1.1 = r.2.1) && decide (endL kinds links r.2.1 r.2.2 = some e)
/-- a rule: two ways, each its start and its links -/
def ruD (r : (Str × List Str) × (Str × List Str)) : D := .tup [tv (r.1.1 :: r.1.2), tv (r.2.1 :: r.2.2)]
def RuOk (r : (Str × List Str) × (Str × List Str)) : Prop := (∀ x ∈ r.1.1 :: r.1.2, Wrd x) ∧ (∀ x ∈ r.2.1 :: r.2.2, Wrd x) ∧ r.1.2.length < 200 ∧ r.2.2.length < 200
theorem endL_wrd {kinds : List Str} {links : List (Str × Str × Str)} (hk : ∀ k ∈ links, LkOk k) {w : Str} (hw : Wrd w) : ∀ (ls : List Str) (x : Str), endL kinds links w ls = some x → Wrd x := by
  intro ls x h
  unfold endL at h
  rcases List.eq_nil_or_concat ls with rfl | ⟨l', a, rfl⟩
  · simp only [List.foldl_nil] at h
    split at h
    · cases h; exact hw
    · cases h
  · rw [List.concat_eq_append, List.foldl_append] at h
    exact stepE_wrd hk _ a x h
theorem sides_ok {kinds : List Str} {links : List (Str × Str × Str)} (hk : ∀ k ∈ links, LkOk k) {r : (Str × List Str) × (Str × List Str)} (hr : RuOk r) (cs : Cs) : f_are_sides [tv kinds, endsD links, ruD r] cs = .ok (.bl (sidesL kinds links r)) cs := by
  obtain ⟨h1, h2, _, _⟩ := hr
  have w1 := h1 _ List.mem_cons_self
  have w2 := h2 _ List.mem_cons_self
  show fnRes (b_are_sides [.val (tv kinds), .val (endsD links), .val (ruD r), .un, .un, .un] cs) = _
  unfold b_are_sides
  have q0 : sAsg (gT (gsC (gN 3) (gsC (gN 4) (gs0)))) (eVar 2) [.val (tv kinds), .val (endsD links), .val (ruD r), .un, .un, .un] cs = .nx [.val (tv kinds), .val (endsD links), .val (ruD r), .val (tv (r.1.1 :: r.1.2)), .val (tv (r.2.1 :: r.2.2)), .un] cs := rfl
  rw [sSeq_nx q0]
  rw [sSeq_nx (sSet_ok (eFn_ok (eCons_ok (eVar_ok rfl) (eCons_ok (eVar_ok rfl) (eCons_ok (eVar_ok rfl) rfl))) ((fnN_ok (n := 3) rfl).trans (end_by_ok hk w1 r.1.2 cs))))]
  simp only [List.set_cons_succ, List.set_cons_zero]
  unfold sidesL
  cases he : endL kinds links r.1.1 r.1.2 with
  | none =>
    have q1 : eBin isNotD (eVar 5) (eC .non) [.val (tv kinds), .val (endsD links), .val (ruD r), .val (tv (r.1.1 :: r.1.2)), .val (tv (r.2.1 :: r.2.2)), .val (oD none)] cs = .ok (.bl false) cs := rfl
    rw [sRet_ok (eAnd_ff q1)]
    rfl
  | some e =>
    have q1 : eBin isNotD (eVar 5) (eC .non) [.val (tv kinds), .val (endsD links), .val (ruD r), .val (tv (r.1.1 :: r.1.2)), .val (tv (r.2.1 :: r.2.2)), .val (oD (some e))] cs = .ok (.bl true) cs := rfl
    have q2 : eBin eqD (eBin ixD (eVar 3) (eC (.int 0))) (eBin ixD (eVar 4) (eC (.int 0))) [.val (tv kinds), .val (endsD links), .val (ruD r), .val (tv (r.1.1 :: r.1.2)), .val (tv (r.2.1 :: r.2.2)), .val (oD (some e))] cs = .ok (.bl (decide (r.1.1 = r.2.1))) cs := by
      refine eBin_ok (eBin_ok (x := tv (r.1.1 :: r.1.2)) (cs1 := cs) rfl rfl (L2.atI_nat (j := 0) rfl)) (eBin_ok (x := tv (r.2.1 :: r.2.2)) (cs1 := cs) rfl rfl (L2.atI_nat (j := 0) rfl)) ?_
      refine (eqD_str cs _ _ w1 w2).trans ?_
      congr 2
    have we := endL_wrd hk w1 r.1.2 e he
    have q3 : eBin eqD (eVar 5) (eFn (fnN 3 f_end_by) (eCons (eVar 0) (eCons (eVar 1) (eCons (eVar 4) (eNil)))) []) [.val (tv kinds), .val (endsD links), .val (ruD r), .val (tv (r.1.1 :: r.1.2)), .val (tv (r.2.1 :: r.2.2)), .val (oD (some e))] cs = .ok (.bl (decide (endL kinds links r.2.1 r.2.2 = some e))) cs := by
      refine eBin_ok (eVar_ok rfl) (eFn_ok (eCons_ok (eVar_ok rfl) (eCons_ok (eVar_ok rfl) (eCons_ok (eVar_ok rfl) rfl))) ((fnN_ok (n := 3) rfl).trans (end_by_ok hk w2 r.2.2 cs))) ?_
      cases hq : endL kinds links r.2.1 r.2.2 with
      | none =>
        show eqD cs (.str e) .non = _
        unfold eqD plainD
        rw [show PyData.strOk e = true from we]
        rfl
      | some x =>
        show eqD cs (.str e) (.str x) = _
        rw [eqD_str cs _ _ we (endL_wrd hk w2 r.2.2 x hq)]
        congr 2
        rw [Bool.eq_iff_iff]
        simp only [beq_iff_eq, decide_eq_true_eq, Option.some.injEq]
        exact eq_comm
    rw [sRet_ok (d := .bl (decide (r.1.1 = r.2.1) && decide (endL kinds links r.2.1 r.2.2 = some e))) (cs' := cs) ?_]
    · rfl
    · rw [eAnd_t q1]
      cases hd : decide (r.1.1 = r.2.1) with
      | true =>
        rw [hd] at q2
        rw [eAnd_t q2]
        simpa using q3
      | false =>
        rw [hd] at q2
        rw [eAnd_ff q2]
        rfl
end K02

set_option Elab.async false
set_option linter.all false
set_option maxRecDepth 100000
set_option maxHeartbeats 4000000
namespace K02
open PySem PySem.Spec PyProof.Rows L2 LL
def placeL {α : Type} [DecidableEq α] (links : List (α × α × α)) (l : α) : Nat := links.findIdx fun k => decide (k.1 = l)
def placesD (links : List (Str × Str × Str)) : D := .dct (links.map fun k => .str k.1) ((List.range links.length).map fun i => .int (i : Nat))
theorem dget_idx (l : Str) : ∀ (links : List (Str × Str × Str)) (vs : List D), vs.length = links.length → dgetD (links.map fun k => .str k.1) vs (.str l) = vs[placeL links l]?
  | [], [], _ => rfl
  | [], _ :: _, h => by cases h
  | _ :: _, [], h => by cases h
  | k :: links, v :: vs, h => by
    have ih := dget_idx l links vs (by simpa using h)
    by_cases hk : k.1 = l
    · simp [dgetD, keyEq_str, hk, placeL, List.findIdx_cons]
    · have e : placeL (k :: links) l = placeL links l + 1 := by simp [placeL, List.findIdx_cons, hk]
      rw [e]
      simp only [List.map_cons, dgetD, keyEq_str, hk, decide_false, Bool.false_eq_true, if_false, ih, List.getElem?_cons_succ]
def rankD (xs : List Nat) : D := .tup [.int (xs.length : Nat), .tup (xs.map fun i => .int (i : Nat))]
theorem rank_ok {links : List (Str × Str × Str)} {ls : List Str} (hl : ∀ l ∈ ls, placeL links l < links.length) (hn : ls.length < 1000) (cs : Cs) : f_rank_of [placesD links, tv ls] cs = .ok (rankD (ls.map (placeL links))) cs := by
  show fnRes (b_rank_of [.val (placesD links), .val (tv ls), .un] cs) = _
  unfold b_rank_of
  have q1 : eCall lenD (eCons (eVar 1) eNil) [.val (placesD links), .val (tv ls), .un] cs = .ok (.int (ls.length : Nat)) cs := eCall_ok (eCons_ok (eVar_ok rfl) rfl) (by simp [lenD])
  have hlp : lcLoop (gN 2) (eC (.bl true)) (eBin ixD (eVar 0) (eVar 2)) [.val (placesD links), .val (tv ls), .un] (ls.map .str) cs = .ok (ls.filterMap fun l => some (.int (placeL links l : Nat))) cs :=
    lcLoop_filterMap D.str _ cs fun l hm => by
      refine ⟨[.val (placesD links), .val (tv ls), .val (.str l)], rfl, rfl, ?_⟩
      refine eBin_ok (x := placesD links) (y := .str l) (cs1 := cs) rfl rfl ?_
      show (if keyD (.str l) = true then dgetD (links.map fun k => D.str k.1) ((List.range links.length).map fun i => D.int (i : Nat)) (.str l) else none) = _
      rw [if_pos (show keyD (.str l) = true from rfl), dget_idx l links _ (by simp)]
      simp [hl l hm]
  rw [List.filterMap_eq_map'] at hlp
  have qc : eLc (iA (eVar 1)) (gN 2) (eC (.bl true)) (eBin ixD (eVar 0) (eVar 2)) [2] [.val (placesD links), .val (tv ls), .un] cs = .ok (.lst (ls.map fun l => .int (placeL links l : Nat))) cs := eLc_ok (ds := ls.map .str) (cs := cs) rfl (by simp; omega) hlp
  have qt : eCall tupleD (eCons (eLc (iA (eVar 1)) (gN 2) (eC (.bl true)) (eBin ixD (eVar 0) (eVar 2)) [2]) eNil) [.val (placesD links), .val (tv ls), .un] cs = .ok (.tup (ls.map fun l => .int (placeL links l : Nat))) cs := eCall_ok (eCons_ok qc rfl) (by simp [tupleD])
  rw [sRet_ok (eTup_ok (eCons_ok q1 (eCons_ok qt rfl)) (by simp))]
  simp [rankD, Function.comp_def]
end K02

set_option Elab.async false
set_option linter.all false
set_option maxRecDepth 100000
set_option maxHeartbeats 4000000
namespace K02
open PySem PySem.Spec PyProof.Rows L2 LL
/-- a word that is_word takes -/
def Isw (x : Str) : Prop := ∀ cs, f_is_word [.str x] cs = .ok (.bl true) cs
theorem all_of {α : Type} (f : α → Bool) (cs : Cs) (l : List α) : allD cs [.lst (l.map fun x => .bl (f x))] = some (.bl (l.all f)) := by
  simp only [allD, boolsD_map, Option.map_some]
  congr 2
  rw [List.all_map]
  rfl
theorem le_int (cs : Cs) (i j : Int) : leD cs (.int i) (.int j) = some (.bl (decide (i ≤ j))) := rfl
theorem eChain_t {op op' : Cs → D → D → Option D} {f g h : Sem} {S : List Sl} {cs cs1 cs2 cs3 : Cs} {x y z r : D} (h1 : f S cs = .ok x cs1) (h2 : g S cs1 = .ok y cs2) (o : op cs2 x y = some (.bl true)) (h3 : h S cs2 = .ok z cs3) (o' : op' cs3 y z = some r) : eChain op op' f g h S cs = .ok r cs3 := by
  simp [eChain, h1, h2, o, asB, h3, o']
theorem words_ok {xs : List Str} {lo hi : Nat} (hx : ∀ x ∈ xs, Isw x) (h1 : lo ≤ xs.length) (h2 : xs.length ≤ hi) (hn : xs.length < 1000) (cs : Cs) : f_are_words [tv xs, .int lo, .int hi] cs = .ok (.bl true) cs := by
  show fnRes (b_are_words [.val (tv xs), .val (.int lo), .val (.int hi), .un] cs) = _
  unfold b_are_words
  have q1 : eIsi "tuple" (eVar 0) [.val (tv xs), .val (.int lo), .val (.int hi), .un] cs = .ok (.bl true) cs := rfl
  have ql : eCall lenD (eCons (eVar 0) eNil) [.val (tv xs), .val (.int lo), .val (.int hi), .un] cs = .ok (.int (xs.length : Nat)) cs := eCall_ok (eCons_ok (eVar_ok rfl) rfl) (by simp [lenD])
  have q2 : eChain leD leD (eVar 1) (eCall lenD (eCons (eVar 0) (eNil))) (eVar 2) [.val (tv xs), .val (.int lo), .val (.int hi), .un] cs = .ok (.bl true) cs :=
    eChain_t (eVar_ok rfl) ql (by rw [le_int, decide_eq_true (by omega)]) (eVar_ok rfl) (by rw [le_int, decide_eq_true (by omega)])
  have hlp : lcLoop (gN 3) (eC (.bl true)) (eFn (fnN 1 f_is_word) (eCons (eVar 3) (eNil)) []) [.val (tv xs), .val (.int lo), .val (.int hi), .un] (xs.map .str) cs = .ok (xs.filterMap fun _ => some (.bl true)) cs :=
    lcLoop_filterMap D.str _ cs fun x hm => ⟨[.val (tv xs), .val (.int lo), .val (.int hi), .val (.str x)], rfl, rfl, eFn_ok (eCons_ok (eVar_ok rfl) rfl) ((fnN_ok (n := 1) rfl).trans (hx x hm cs))⟩
  rw [List.filterMap_eq_map'] at hlp
  have qc := eLc_ok (its := iA (eVar 0)) (vs := [3]) (S := [.val (tv xs), .val (.int lo), .val (.int hi), .un]) (ds := xs.map .str) (cs := cs) rfl (by simp; omega) hlp
  have q3 := eCall_ok (eCons_ok (g := eNil) qc rfl) (all_of (fun _ => true) cs xs)
  have e : (xs.all fun _ => true) = true := by simp
  rw [e] at q3
  rw [sRet_ok ((eAnd_t q1).trans ((eAnd_t q2).trans q3))]
  rfl
theorem or_ff {f g : Sem} {S : List Sl} {cs cs1 cs2 : Cs} (h : f S cs = .ok (.bl false) cs1) (h2 : g S cs1 = .ok (.bl false) cs2) : eOr f g S cs = .ok (.bl false) cs2 := by simp [eOr, h, h2, asB]
def RuIs (r : (Str × List Str) × (Str × List Str)) : Prop := (∀ x ∈ r.1.1 :: r.1.2, Isw x) ∧ (∀ x ∈ r.2.1 :: r.2.2, Isw x) ∧ r.1.2.length ≤ 6 ∧ r.2.2.length ≤ 6
theorem rule_made_ok {r : (Str × List Str) × (Str × List Str)} (h : RuIs r) (cs : Cs) : f_is_rule_made [ruD r] cs = .ok (.bl true) cs := by
  obtain ⟨h1, h2, h3, h4⟩ := h
  show fnRes (b_is_rule_made [.val (ruD r), .un] cs) = _
  unfold b_is_rule_made
  have q1 : eOr (eNot (eTru (eIsi "tuple" (eVar 0)))) (eBin neD (eCall lenD (eCons (eVar 0) (eNil))) (eC (.int 2))) [.val (ruD r), .un] cs = .ok (.bl false) cs := rfl
  rw [sSeq_nx (by rw [sIf_f q1]; rfl)]
  have six : ∀ (S : List Sl), eBin addD (eC (.int 6)) (eC (.int 1)) S cs = .ok (.int (7 : Nat)) cs := fun S => rfl
  have side : ∀ (x : Str) (xs : List Str), (∀ y ∈ x :: xs, Isw y) → xs.length ≤ 6 → eFn (fnN 3 f_are_words) (eCons (eVar 1) (eCons (eC (.int 1)) (eCons (eBin addD (eC (.int 6)) (eC (.int 1))) (eNil)))) [] [.val (ruD r), .val (tv (x :: xs))] cs = .ok (.bl true) cs := fun x xs hx hn =>
    eFn_ok (ds := [tv (x :: xs), .int (1 : Nat), .int (7 : Nat)]) (cs1 := cs) (eCons_ok (eVar_ok rfl) (eCons_ok rfl (eCons_ok (six _) rfl))) ((fnN_ok (n := 3) rfl).trans (words_ok (lo := 1) (hi := 7) hx (by simp) (by simp; omega) (by simp; omega) cs))
  have hlp : lcLoop (gN 1) (eC (.bl true)) (eFn (fnN 3 f_are_words) (eCons (eVar 1) (eCons (eC (.int 1)) (eCons (eBin addD (eC (.int 6)) (eC (.int 1))) (eNil)))) []) [.val (ruD r), .un] ([r.1, r.2].map fun p => tv (p.1 :: p.2)) cs = .ok ([r.1, r.2].filterMap fun _ => some (.bl true)) cs :=
    lcLoop_filterMap (fun p : Str × List Str => tv (p.1 :: p.2)) _ cs fun p hm => by
      refine ⟨[.val (ruD r), .val (tv (p.1 :: p.2))], rfl, rfl, ?_⟩
      simp only [List.mem_cons, List.not_mem_nil, or_false] at hm
      rcases hm with rfl | rfl
      · exact side _ _ h1 h3
      · exact side _ _ h2 h4
  have qc := eLc_ok (its := iA (eVar 0)) (vs := [1]) (S := [.val (ruD r), .un]) (ds := [r.1, r.2].map fun p => tv (p.1 :: p.2)) (cs := cs) rfl (by simp) hlp
  rw [sRet_ok (eCall_ok (eCons_ok qc rfl) (all_of (fun _ : Str × List Str => true) cs [r.1, r.2]))]
  rfl
end K02

set_option Elab.async false
set_option linter.all false
set_option maxRecDepth 100000
set_option maxHeartbeats 4000000
namespace K02
open PySem PySem.Spec PyProof.Rows L2 LL
theorem gt_int (cs : Cs) (i j : Int) : gtD cs (.int i) (.int j) = some (.bl (decide (j < i))) := rfl
theorem made_ok {kinds : List Str} {links : List (Str × Str × Str)} {rules : List ((Str × List Str) × (Str × List Str))} (h1 : ∀ x ∈ kinds, Isw x) (h2 : 1 ≤ kinds.length) (h3 : kinds.length ≤ 6) (h4 : ∀ k ∈ links, Isw k.1 ∧ Isw k.2.1 ∧ Isw k.2.2) (h5 : links.length ≤ 12) (h6 : ∀ r ∈ rules, RuIs r) (h7 : rules.length ≤ 12) (cs : Cs) :
    f_is_made [tv kinds, .tup (links.map lkD), .tup (rules.map ruD)] cs = .ok (.bl true) cs := by
  show fnRes (b_is_made [.val (tv kinds), .val (.tup (links.map lkD)), .val (.tup (rules.map ruD)), .un, .un] cs) = _
  unfold b_is_made
  have qw : eFn (fnN 3 f_are_words) (eCons (eVar 0) (eCons (eC (.int 1)) (eCons (eC (.int 6)) (eNil)))) [] [.val (tv kinds), .val (.tup (links.map lkD)), .val (.tup (rules.map ruD)), .un, .un] cs = .ok (.bl true) cs :=
    eFn_ok (ds := [tv kinds, .int (1 : Nat), .int (6 : Nat)]) (cs1 := cs) rfl ((fnN_ok (n := 3) rfl).trans (words_ok (lo := 1) (hi := 6) h1 h2 h3 (by omega) cs))
  have qn1 : eNot (eTru (eFn (fnN 3 f_are_words) (eCons (eVar 0) (eCons (eC (.int 1)) (eCons (eC (.int 6)) (eNil)))) [])) [.val (tv kinds), .val (.tup (links.map lkD)), .val (.tup (rules.map ruD)), .un, .un] cs = .ok (.bl false) cs := eNot_b qw
  have qn2 : eOr (eNot (eTru (eIsi "tuple" (eVar 1)))) (eNot (eTru (eIsi "tuple" (eVar 2)))) [.val (tv kinds), .val (.tup (links.map lkD)), .val (.tup (rules.map ruD)), .un, .un] cs = .ok (.bl false) cs := rfl
  rw [sSeq_nx (by rw [sIf_f (or_ff qn1 qn2)]; rfl)]
  have l1 : eCall lenD (eCons (eVar 1) eNil) [.val (tv kinds), .val (.tup (links.map lkD)), .val (.tup (rules.map ruD)), .un, .un] cs = .ok (.int (links.length : Nat)) cs := eCall_ok (eCons_ok (eVar_ok rfl) rfl) (by simp [lenD])
  have l2 : eCall lenD (eCons (eVar 2) eNil) [.val (tv kinds), .val (.tup (links.map lkD)), .val (.tup (rules.map ruD)), .un, .un] cs = .ok (.int (rules.length : Nat)) cs := eCall_ok (eCons_ok (eVar_ok rfl) rfl) (by simp [lenD])
  have g1 : eBin gtD (eCall lenD (eCons (eVar 1) (eNil))) (eC (.int 12)) [.val (tv kinds), .val (.tup (links.map lkD)), .val (.tup (rules.map ruD)), .un, .un] cs = .ok (.bl false) cs := eBin_ok l1 rfl (by rw [gt_int, decide_eq_false (by omega)])
  have g2 : eBin gtD (eCall lenD (eCons (eVar 2) (eNil))) (eC (.int 12)) [.val (tv kinds), .val (.tup (links.map lkD)), .val (.tup (rules.map ruD)), .un, .un] cs = .ok (.bl false) cs := eBin_ok l2 rfl (by rw [gt_int, decide_eq_false (by omega)])
  rw [sSeq_nx (by rw [sIf_f (or_ff g1 g2)]; rfl)]
  have hl1 : lcLoop (gN 3) (eC (.bl true)) (eFn (fnN 3 f_are_words) (eCons (eVar 3) (eCons (eC (.int 3)) (eCons (eC (.int 3)) (eNil)))) []) [.val (tv kinds), .val (.tup (links.map lkD)), .val (.tup (rules.map ruD)), .un, .un] (links.map lkD) cs = .ok (links.filterMap fun _ => some (.bl true)) cs :=
    lcLoop_filterMap lkD _ cs fun k hm => by
      obtain ⟨k1, k2, k3⟩ := h4 k hm
      refine ⟨[.val (tv kinds), .val (.tup (links.map lkD)), .val (.tup (rules.map ruD)), .val (lkD k), .un], rfl, rfl, ?_⟩
      exact eFn_ok (ds := [lkD k, .int (3 : Nat), .int (3 : Nat)]) (cs1 := cs) rfl ((fnN_ok (n := 3) rfl).trans (words_ok (xs := [k.1, k.2.1, k.2.2]) (lo := 3) (hi := 3) (fun x hx => by
        simp only [List.mem_cons, List.not_mem_nil, or_false] at hx
        rcases hx with rfl | rfl | rfl <;> assumption) (by simp) (by simp) (by simp) cs))
  rw [List.filterMap_eq_map'] at hl1
  have c1 := eLc_ok (its := iA (eVar 1)) (vs := [3]) (S := [.val (tv kinds), .val (.tup (links.map lkD)), .val (.tup (rules.map ruD)), .un, .un]) (ds := links.map lkD) (cs := cs) rfl (by simp; omega) hl1
  have a1 := eCall_ok (eCons_ok (g := eNil) c1 rfl) (all_of (fun _ => true) cs links)
  have hl2 : lcLoop (gN 4) (eC (.bl true)) (eFn (fnN 1 f_is_rule_made) (eCons (eVar 4) (eNil)) []) [.val (tv kinds), .val (.tup (links.map lkD)), .val (.tup (rules.map ruD)), .un, .un] (rules.map ruD) cs = .ok (rules.filterMap fun _ => some (.bl true)) cs :=
    lcLoop_filterMap ruD _ cs fun r hm => ⟨[.val (tv kinds), .val (.tup (links.map lkD)), .val (.tup (rules.map ruD)), .un, .val (ruD r)], rfl, rfl, eFn_ok (eCons_ok (eVar_ok rfl) rfl) ((fnN_ok (n := 1) rfl).trans (rule_made_ok (h6 r hm) cs))⟩
  rw [List.filterMap_eq_map'] at hl2
  have c2 := eLc_ok (its := iA (eVar 2)) (vs := [4]) (S := [.val (tv kinds), .val (.tup (links.map lkD)), .val (.tup (rules.map ruD)), .un, .un]) (ds := rules.map ruD) (cs := cs) rfl (by simp; omega) hl2
  have a2 := eCall_ok (eCons_ok (g := eNil) c2 rfl) (all_of (fun _ => true) cs rules)
  have e1 : (links.all fun _ => true) = true := by simp
  have e2 : (rules.all fun _ => true) = true := by simp
  rw [e1] at a1
  rw [e2] at a2
  rw [sRet_ok ((eAnd_t a1).trans a2)]
  rfl
end K02

set_option Elab.async false
set_option linter.all false
set_option maxRecDepth 100000
set_option maxHeartbeats 4000000
namespace K02
open PySem PySem.Spec PyProof.Rows L2 LL
theorem cS_nodup {xs : List Str} (h : xs.Nodup) : ∀ i, i ≤ xs.length → cS xs i = i
  | 0, _ => rfl
  | i + 1, hi => by
    have ih := cS_nodup h i (by omega)
    have hlt : i < xs.length := by omega
    have e : xs.getD i Str.empty = xs[i] := by rw [List.getD_eq_getElem?_getD, List.getElem?_eq_getElem hlt]; rfl
    have hn : (xs.take i).any (· == xs.getD i Str.empty) = false := by
      rw [e, List.any_eq_false]
      intro y hy hc
      have hy2 : y = xs[i] := by simpa using hc
      subst hy2
      obtain ⟨j, hj, ej⟩ := List.mem_iff_getElem.mp hy
      rw [List.getElem_take] at ej
      have hj2 : j < i := by simp at hj; omega
      exact (List.pairwise_iff_getElem.mp h) j i (by omega) hlt hj2 ej
    unfold cS
    rw [hn, ih]
    rfl
theorem strsD_sv : ∀ xs : List Str, strsD (xs.map .str) = some xs
  | [] => rfl
  | x :: xs => by simp [strsD, strsD_sv xs]
theorem lenSet_tup {xs : List Str} (h : xs.Nodup) (hn : xs.length < 4000) : lenSetD (tv xs) = some (.int (xs.length : Nat)) := by
  show (strsD (xs.map D.str)).bind _ = _
  rw [strsD_sv]
  show (if xs.length < 4000 then some (D.int (cS xs xs.length : Nat)) else none) = _
  rw [if_pos hn, cS_nodup h _ (Nat.le_refl _)]
theorem lenSet_lst {xs : List Str} (h : xs.Nodup) (hn : xs.length < 4000) : lenSetD (.lst (xs.map .str)) = some (.int (xs.length : Nat)) := by
  show (strsD (xs.map D.str)).bind _ = _
  rw [strsD_sv]
  show (if xs.length < 4000 then some (D.int (cS xs xs.length : Nat)) else none) = _
  rw [if_pos hn, cS_nodup h _ (Nat.le_refl _)]
theorem eLenSet_ok {f : Sem} {S : List Sl} {cs cs1 : Cs} {d z : D} (h : f S cs = .ok d cs1) (hz : lenSetD d = some z) : eLenSet f S cs = .ok z cs1 := by simp [eLenSet, h, hz]
theorem named_ok {kinds : List Str} {links : List (Str × Str × Str)} (h1 : kinds.Nodup) (h2 : (links.map (·.1)).Nodup) (h3 : ∀ k ∈ links, k.2.1 ∈ kinds ∧ k.2.2 ∈ kinds) (h4 : kinds.length < 1000) (h5 : links.length < 1000) (cs : Cs) :
    f_is_named [tv kinds, .tup (links.map lkD)] cs = .ok (.bl true) cs := by
  show fnRes (b_is_named [.val (tv kinds), .val (.tup (links.map lkD)), .un, .un] cs) = _
  unfold b_is_named
  have hl : lcLoop (gN 3) (eC (.bl true)) (eBin ixD (eVar 3) (eC (.int 0))) [.val (tv kinds), .val (.tup (links.map lkD)), .un, .un] (links.map lkD) cs = .ok (links.filterMap fun k => some (.str k.1)) cs :=
    lcLoop_filterMap lkD _ cs fun k hm => ⟨[.val (tv kinds), .val (.tup (links.map lkD)), .un, .val (lkD k)], rfl, rfl, eBin_ok (x := lkD k) (cs1 := cs) rfl rfl (L2.atI_nat (j := 0) rfl)⟩
  rw [List.filterMap_eq_map'] at hl
  have c1 := eLc_ok (its := iA (eVar 1)) (vs := [3]) (S := [.val (tv kinds), .val (.tup (links.map lkD)), .un, .un]) (ds := links.map lkD) (cs := cs) rfl (by simp; omega) hl
  have ew : (links.map fun k => D.str k.1) = (links.map (·.1)).map .str := by simp
  rw [ew] at c1
  rw [sSeq_nx (sSet_ok c1)]
  simp only [List.set_cons_succ, List.set_cons_zero]
  have n1 : eBin ltD (eLenSet (eVar 0)) (eCall lenD (eCons (eVar 0) (eNil))) [.val (tv kinds), .val (.tup (links.map lkD)), .val (.lst ((links.map (·.1)).map .str)), .un] cs = .ok (.bl false) cs :=
    eBin_ok (eLenSet_ok (eVar_ok rfl) (lenSet_tup h1 (by omega))) (eCall_ok (d := .int (kinds.length : Nat)) (eCons_ok (eVar_ok rfl) rfl) (by simp [lenD])) (by rw [ltD_int, decide_eq_false (by omega)])
  have n2 : eBin ltD (eLenSet (eVar 2)) (eCall lenD (eCons (eVar 2) (eNil))) [.val (tv kinds), .val (.tup (links.map lkD)), .val (.lst ((links.map (·.1)).map .str)), .un] cs = .ok (.bl false) cs :=
    eBin_ok (eLenSet_ok (eVar_ok rfl) (lenSet_lst h2 (by simp; omega))) (eCall_ok (d := .int ((links.map (·.1)).length : Nat)) (eCons_ok (eVar_ok rfl) rfl) (by simp [lenD])) (by rw [ltD_int, decide_eq_false (by omega)])
  rw [sSeq_nx (by rw [sIf_f (or_ff n1 n2)]; rfl)]
  have hl2 : lcLoop (gN 3) (eC (.bl true)) (eAnd (eBin inD (eBin ixD (eVar 3) (eC (.int 1))) (eVar 0)) (eBin inD (eBin ixD (eVar 3) (eC (.int 2))) (eVar 0))) [.val (tv kinds), .val (.tup (links.map lkD)), .val (.lst ((links.map (·.1)).map .str)), .un] (links.map lkD) cs = .ok (links.filterMap fun _ => some (.bl true)) cs :=
    lcLoop_filterMap lkD _ cs fun k hm => by
      obtain ⟨k1, k2⟩ := h3 k hm
      refine ⟨[.val (tv kinds), .val (.tup (links.map lkD)), .val (.lst ((links.map (·.1)).map .str)), .val (lkD k)], rfl, rfl, ?_⟩
      have i1 : eBin inD (eBin ixD (eVar 3) (eC (.int 1))) (eVar 0) [.val (tv kinds), .val (.tup (links.map lkD)), .val (.lst ((links.map (·.1)).map .str)), .val (lkD k)] cs = .ok (.bl true) cs :=
        eBin_ok (x := .str k.2.1) (cs1 := cs) (eBin_ok (x := lkD k) (cs1 := cs) rfl rfl (L2.atI_nat (j := 1) rfl)) (eVar_ok rfl) (by show (inB (.str k.2.1) (tv kinds)).map _ = _; rw [in_tv, decide_eq_true k1]; rfl)
      have i2 : eBin inD (eBin ixD (eVar 3) (eC (.int 2))) (eVar 0) [.val (tv kinds), .val (.tup (links.map lkD)), .val (.lst ((links.map (·.1)).map .str)), .val (lkD k)] cs = .ok (.bl true) cs :=
        eBin_ok (x := .str k.2.2) (cs1 := cs) (eBin_ok (x := lkD k) (cs1 := cs) rfl rfl (L2.atI_nat (j := 2) rfl)) (eVar_ok rfl) (by show (inB (.str k.2.2) (tv kinds)).map _ = _; rw [in_tv, decide_eq_true k2]; rfl)
      exact (eAnd_t i1).trans i2
  rw [List.filterMap_eq_map'] at hl2
  have c2 := eLc_ok (its := iA (eVar 1)) (vs := [3]) (S := [.val (tv kinds), .val (.tup (links.map lkD)), .val (.lst ((links.map (·.1)).map .str)), .un]) (ds := links.map lkD) (cs := cs) rfl (by simp; omega) hl2
  have a2 := eCall_ok (eCons_ok (g := eNil) c2 rfl) (all_of (fun _ => true) cs links)
  have e2 : (links.all fun _ => true) = true := by simp
  rw [e2] at a2
  rw [sRet_ok a2]
  rfl
end K02

set_option Elab.async false
set_option linter.all false
set_option maxRecDepth 100000
set_option maxHeartbeats 4000000
namespace K02
open PySem PySem.Spec PyProof.Rows L2 LL
theorem dput_new (x : Str) (y : D) : ∀ (ks : List Str) (vs : List D), ks.length = vs.length → x ∉ ks → dputD (ks.map .str) vs (.str x) y = (ks.map .str ++ [.str x], vs ++ [y])
  | [], [], _, _ => rfl
  | [], _ :: _, h, _ => by cases h
  | _ :: _, [], h, _ => by cases h
  | k :: ks, v :: vs, h, hx => by
    have ih := dput_new x y ks vs (by simpa using h) (fun z => hx (List.mem_cons_of_mem _ z))
    have hk : ¬ k = x := fun z => hx (by rw [z]; exact List.mem_cons_self)
    simp only [List.map_cons, dputD, keyEq_str, decide_eq_false hk, Bool.false_eq_true, if_false, ih, List.cons_append]
theorem dcLoop_map {α : Type} {g : Tg} {c fk fv : Sem} {S : List Sl} (enc : α → D) (kf : α → Str) (vf : α → D) (cs : Cs) : ∀ {l : List α} {ks : List Str} {vs : List D}, ks.length = vs.length → (ks ++ l.map kf).Nodup →
    (∀ d ∈ l, ∃ S2, g (enc d) S = some S2 ∧ c S2 cs = .ok (.bl true) cs ∧ fk S2 cs = .ok (.str (kf d)) cs ∧ fv S2 cs = .ok (vf d) cs) →
    dcLoop g c fk fv S (l.map enc) (ks.map .str, vs) cs = .ok ((ks ++ l.map kf).map .str, vs ++ l.map vf) cs
  | [], ks, vs, _, _, _ => by simp [dcLoop]
  | d :: l, ks, vs, hl, nd, st => by
    obtain ⟨S2, e1, e2, e3, e4⟩ := st d List.mem_cons_self
    have hx : kf d ∉ ks := fun z => by
      have := (List.nodup_append.mp nd).2.2 _ z _ (List.mem_cons_self)
      exact this rfl
    have hp := dput_new (kf d) (vf d) ks vs hl hx
    have ih := dcLoop_map (g := g) (c := c) (fk := fk) (fv := fv) (S := S) enc kf vf cs (l := l) (ks := ks ++ [kf d]) (vs := vs ++ [vf d]) (by simp [hl]) (by rw [List.append_assoc]; exact nd) fun d' hd => st d' (List.mem_cons_of_mem _ hd)
    have e : dcLoop g c fk fv S ((d :: l).map enc) (ks.map .str, vs) cs = dcLoop g c fk fv S (l.map enc) ((ks ++ [kf d]).map .str, vs ++ [vf d]) cs := by
      simp only [List.map_cons, dcLoop, e1, Res.opt_some, Res.bind_ok, e2, asB_ok, if_true, e3, e4]
      rw [if_pos (show keyD (.str (kf d)) = true from rfl), hp]
      simp
    rw [e, ih]
    simp
theorem eDc_ok {its : LL.Its} {g : Tg} {c fk fv : Sem} {vs : List Nat} {S : List Sl} {cs : Cs} {ds : List D} {r : List D × List D} (h : its S cs = .ok ds cs) (hl : ds.length ≤ 1000000) (hy : dcLoop g c fk fv (wipeS S vs) ds ([], []) cs = .ok r cs) : eDc its g c fk fv vs S cs = .ok (.dct r.1 r.2) cs := by
  simp only [eDc, h, Res.bind_ok, if_pos hl, hy, noX_ok]
theorem enum_map {α : Type} (enc : α → D) : ∀ (l : List α) (n : Nat), enumFrom n (l.map enc) = (l.zipIdx n).map fun p => .tup [.int (p.2 : Nat), enc p.1]
  | [], n => rfl
  | a :: l, n => by
    have ih := enum_map enc l (n + 1)
    simp only [List.map_cons, enumFrom, List.zipIdx_cons, ih]
/-- the dict of a link's ends, as it stands in two places -/
theorem ends_comp {links : List (Str × Str × Str)} (h : (links.map (·.1)).Nodup) {i a b c : Nat} {S : List Sl} (cs : Cs) (hi : S[i]? = some (.val (.tup (links.map lkD)))) (hn : links.length < 1000)
    (hS : ∀ k ∈ links, ∃ S2, gT (gsC (gN a) (gsC (gN b) (gsC (gN c) gs0))) (lkD k) (wipeS S [a, b, c]) = some S2 ∧ S2[a]? = some (.val (.str k.1)) ∧ S2[b]? = some (.val (.str k.2.1)) ∧ S2[c]? = some (.val (.str k.2.2))) :
    eDc (iA (eVar i)) (gT (gsC (gN a) (gsC (gN b) (gsC (gN c) (gs0))))) (eC (.bl true)) (eVar a) (eTup (eCons (eVar b) (eCons (eVar c) (eNil)))) [a, b, c] S cs = .ok (endsD links) cs := by
  have hl := dcLoop_map (g := gT (gsC (gN a) (gsC (gN b) (gsC (gN c) gs0)))) (c := eC (.bl true)) (fk := eVar a) (fv := eTup (eCons (eVar b) (eCons (eVar c) eNil))) (S := wipeS S [a, b, c]) lkD (fun k => k.1) (fun k => tv [k.2.1, k.2.2]) cs (l := links) (ks := []) (vs := []) rfl (by simpa using h) (fun k hk => by
    obtain ⟨S2, e1, e2, e3, e4⟩ := hS k hk
    exact ⟨S2, e1, rfl, eVar_ok e2, eTup_ok (eCons_ok (eVar_ok e3) (eCons_ok (eVar_ok e4) rfl)) (by simp)⟩)
  have hi2 : iA (eVar i) S cs = .ok (links.map lkD) cs := by
    unfold iA
    rw [eVar_ok hi]
    rfl
  have z := eDc_ok hi2 (by simp; omega) hl
  rw [z]
  simp [endsD]
end K02

set_option Elab.async false
set_option linter.all false
set_option maxRecDepth 100000
set_option maxHeartbeats 4000000
namespace K02
open PySem PySem.Spec PyProof.Rows L2 LL
abbrev Ru := (Str × List Str) × (Str × List Str)
abbrev prsOf (rules : List Ru) : List (List Str × List Str) := rules.map fun r => (r.1.2, r.2.2)
/-- parts that make a shape; fr k: the plain ways from k -/
structure ShOk (kinds : List Str) (links : List (Str × Str × Str)) (rules : List Ru) (fr : Str → List (List Str × Str)) : Prop where
  k1 : ∀ x ∈ kinds, Isw x ∧ Wrd x
  k2 : 1 ≤ kinds.length
  k3 : kinds.length ≤ 6
  l1 : ∀ k ∈ links, (Isw k.1 ∧ Isw k.2.1 ∧ Isw k.2.2) ∧ LkOk k
  l2 : links.length ≤ 12
  r1 : ∀ r ∈ rules, RuIs r ∧ RuOk r
  r2 : rules.length ≤ 12
  n1 : kinds.Nodup
  n2 : (links.map (·.1)).Nodup
  n3 : ∀ k ∈ links, k.2.1 ∈ kinds ∧ k.2.2 ∈ kinds
  sd : ∀ r ∈ rules, sidesL kinds links r = true
  pl : ∀ r ∈ rules, (∀ l ∈ r.1.2, placeL links l < links.length) ∧ ∀ l ∈ r.2.2, placeL links l < links.length
  od : ∀ r ∈ rules, gtD [] (rankD (r.1.2.map (placeL links))) (rankD (r.2.2.map (placeL links))) = some (.bl true)
  le : ∀ r ∈ rules, r.2.2.length ≤ r.1.2.length
  oe : openEnds (prsOf rules) = true
  op : isOpenL (prsOf rules) = false
  fm : ∀ k ∈ kinds, fromL links (prsOf rules) fu [([k], k)] [] = some (fr k)
  mn : (kinds.map fun k => ((fr k).length : Int)).sum ≤ 60
section
variable {kinds : List Str} {links : List (Str × Str × Str)} {rules : List Ru} {fr : Str → List (List Str × Str)}
theorem ShOk.pr (h : ShOk kinds links rules fr) : PrOk (prsOf rules) where
  w1 := fun p hp => by
    obtain ⟨r, hr, rfl⟩ := List.mem_map.mp hp
    exact fun x hx => (h.r1 r hr).2.1 x (List.mem_cons_of_mem _ hx)
  w2 := fun p hp => by
    obtain ⟨r, hr, rfl⟩ := List.mem_map.mp hp
    exact fun x hx => (h.r1 r hr).2.2.1 x (List.mem_cons_of_mem _ hx)
  l1 := fun p hp => by
    obtain ⟨r, hr, rfl⟩ := List.mem_map.mp hp
    have := (h.r1 r hr).1.2.2.1
    show r.1.2.length < 1000
    omega
  l2 := fun p hp => by
    obtain ⟨r, hr, rfl⟩ := List.mem_map.mp hp
    have := (h.r1 r hr).1.2.2.2
    show r.2.2.length < 1000
    omega
theorem ShOk.le' (h : ShOk kinds links rules fr) : ∀ p ∈ prsOf rules, p.2.length ≤ p.1.length := fun p hp => by
  obtain ⟨r, hr, rfl⟩ := List.mem_map.mp hp
  exact h.le r hr
theorem ShOk.pw (h : ShOk kinds links rules fr) : ∀ p ∈ prsOf rules, PW p := fun p hp => by
  obtain ⟨r, hr, rfl⟩ := List.mem_map.mp hp
  have h3 := (h.r1 r hr).1.2.2.1
  have h4 := (h.r1 r hr).1.2.2.2
  exact ⟨fun x hx => (h.r1 r hr).2.1 x (List.mem_cons_of_mem _ hx), fun x hx => (h.r1 r hr).2.2.1 x (List.mem_cons_of_mem _ hx), by show r.1.2.length < 300; omega, by show r.2.2.length < 300; omega⟩
/-- pairs = [(long[1:], short[1:]) for long, short in rules] -/
theorem pairs_comp {rules : List Ru} (hn : rules.length < 1000) {i a b : Nat} {S : List Sl} (cs : Cs) (hi : S[i]? = some (.val (.tup (rules.map ruD))))
    (hS : ∀ r ∈ rules, ∃ S2, gT (gsC (gN a) (gsC (gN b) gs0)) (ruD r) (wipeS S [a, b]) = some S2 ∧ S2[a]? = some (.val (tv (r.1.1 :: r.1.2))) ∧ S2[b]? = some (.val (tv (r.2.1 :: r.2.2)))) :
    eLc (iA (eVar i)) (gT (gsC (gN a) (gsC (gN b) (gs0)))) (eC (.bl true)) (eTup (eCons (eSl (eVar a) (oSome (eC (.int 1))) oNone) (eCons (eSl (eVar b) (oSome (eC (.int 1))) oNone) (eNil)))) [a, b] S cs = .ok (prs (prsOf rules)) cs := by
  have hl := lcLoop_filterMap (g := gT (gsC (gN a) (gsC (gN b) gs0))) (c := eC (.bl true)) (f := eTup (eCons (eSl (eVar a) (oSome (eC (.int 1))) oNone) (eCons (eSl (eVar b) (oSome (eC (.int 1))) oNone) (eNil)))) (S := wipeS S [a, b]) ruD (fun r => some (prD (r.1.2, r.2.2))) cs (ds := rules) (fun r hr => by
    obtain ⟨S2, e1, e2, e3⟩ := hS r hr
    exact ⟨S2, e1, rfl, eTup_ok (eCons_ok (eSl_ok (eVar_ok e2) (oSome_ok (i := ((1 : Nat) : Int)) rfl) rfl (from_sv (r.1.1 :: r.1.2) 1)) (eCons_ok (eSl_ok (eVar_ok e3) (oSome_ok (i := ((1 : Nat) : Int)) rfl) rfl (from_sv (r.2.1 :: r.2.2) 1)) rfl)) (by simp)⟩)
  rw [List.filterMap_eq_map'] at hl
  have hi2 : iA (eVar i) S cs = .ok (rules.map ruD) cs := by
    unfold iA
    rw [eVar_ok hi]
    rfl
  rw [eLc_ok hi2 (by simp; omega) hl]
  simp [prs, prsOf, Function.comp_def]
end
end K02

set_option Elab.async false
set_option linter.all false
set_option maxRecDepth 100000
set_option maxHeartbeats 4000000
namespace K02
open PySem PySem.Spec PyProof.Rows L2 LL
theorem intsD_map {α : Type} (f : α → Int) : ∀ l : List α, intsD (l.map fun x => .int (f x)) = some (l.map f)
  | [] => rfl
  | x :: l => by simp [intsD, intsD_map f l]
theorem sum_of {α : Type} (f : α → Int) (cs : Cs) (l : List α) : sumD cs [.lst (l.map fun x => .int (f x))] = some (.int (l.map f).sum) := by
  simp only [sumD, intsD_map, Option.map_some]
theorem tru_b {f : Sem} {b : Bool} {S : List Sl} {cs cs1 : Cs} (h : f S cs = .ok (.bl b) cs1) : eTru f S cs = .ok (.bl b) cs1 := by simp [eTru, h, truD]
section
variable {kinds : List Str} {links : List (Str × Str × Str)} {rules : List Ru} {fr : Str → List (List Str × Str)}
theorem why_ok (h : ShOk kinds links rules fr) (cs : Cs) : f_why_no_shape [tv kinds, .tup (links.map lkD), .tup (rules.map ruD)] cs = .ok .non cs := by
  have hk : ∀ k ∈ links, LkOk k := fun k m => (h.l1 k m).2
  have rl := h.r2
  have ll := h.l2
  have kl := h.k3
  show fnRes (b_why_no_shape [.val (tv kinds), .val (.tup (links.map lkD)), .val (.tup (rules.map ruD)), .un, .un, .un, .un, .un, .un, .un, .un, .un, .un, .un, .un] cs) = _
  unfold b_why_no_shape
  have q1 : eNot (eTru (eFn (fnN 3 f_is_made) (eCons (eVar 0) (eCons (eVar 1) (eCons (eVar 2) (eNil)))) [])) [.val (tv kinds), .val (.tup (links.map lkD)), .val (.tup (rules.map ruD)), .un, .un, .un, .un, .un, .un, .un, .un, .un, .un, .un, .un] cs = .ok (.bl false) cs :=
    eNot_b (eFn_ok (eCons_ok (eVar_ok rfl) (eCons_ok (eVar_ok rfl) (eCons_ok (eVar_ok rfl) rfl))) ((fnN_ok (n := 3) rfl).trans (made_ok (fun x m => (h.k1 x m).1) h.k2 h.k3 (fun k m => (h.l1 k m).1) h.l2 (fun r m => (h.r1 r m).1) h.r2 cs)))
  rw [sSeq_nx (by rw [sIf_f q1]; rfl)]
  have q2 : eNot (eTru (eFn (fnN 2 f_is_named) (eCons (eVar 0) (eCons (eVar 1) (eNil))) [])) [.val (tv kinds), .val (.tup (links.map lkD)), .val (.tup (rules.map ruD)), .un, .un, .un, .un, .un, .un, .un, .un, .un, .un, .un, .un] cs = .ok (.bl false) cs :=
    eNot_b (eFn_ok (eCons_ok (eVar_ok rfl) (eCons_ok (eVar_ok rfl) rfl)) ((fnN_ok (n := 2) rfl).trans (named_ok h.n1 h.n2 h.n3 (by omega) (by omega) cs)))
  rw [sSeq_nx (by rw [sIf_f q2]; rfl)]
  rw [sSeq_nx (sSet_ok (ends_comp h.n2 (i := 1) (a := 4) (b := 5) (c := 6) cs rfl (by omega) (fun k hk => ⟨_, rfl, rfl, rfl, rfl⟩)))]
  simp only [List.set_cons_succ, List.set_cons_zero]
  have hs : lcLoop (gN 7) (eC (.bl true)) (eFn (fnN 3 f_are_sides) (eCons (eVar 0) (eCons (eVar 3) (eCons (eVar 7) (eNil)))) []) [.val (tv kinds), .val (.tup (links.map lkD)), .val (.tup (rules.map ruD)), .val (endsD links), .un, .un, .un, .un, .un, .un, .un, .un, .un, .un, .un] (rules.map ruD) cs = .ok (rules.filterMap fun _ => some (.bl true)) cs :=
    lcLoop_filterMap ruD _ cs fun r hr => by
      refine ⟨[.val (tv kinds), .val (.tup (links.map lkD)), .val (.tup (rules.map ruD)), .val (endsD links), .un, .un, .un, .val (ruD r), .un, .un, .un, .un, .un, .un, .un], rfl, rfl, ?_⟩
      have := sides_ok (kinds := kinds) hk (h.r1 r hr).2 cs
      rw [h.sd r hr] at this
      exact eFn_ok (eCons_ok (eVar_ok rfl) (eCons_ok (eVar_ok rfl) (eCons_ok (eVar_ok rfl) rfl))) ((fnN_ok (n := 3) rfl).trans this)
  rw [List.filterMap_eq_map'] at hs
  have cs1 := eLc_ok (its := iA (eVar 2)) (vs := [7]) (S := [.val (tv kinds), .val (.tup (links.map lkD)), .val (.tup (rules.map ruD)), .val (endsD links), .un, .un, .un, .un, .un, .un, .un, .un, .un, .un, .un]) (ds := rules.map ruD) (cs := cs) rfl (by simp; omega) hs
  have al := eCall_ok (eCons_ok (g := eNil) cs1 rfl) (all_of (fun _ => true) cs rules)
  have e1 : (rules.all fun _ => true) = true := by simp
  rw [e1] at al
  rw [sSeq_nx (by rw [sIf_f (eNot_b al)]; rfl)]
  have hpl := dcLoop_map (g := gT (gsC (gN 9) (gsC (gN 10) gs0))) (c := eC (.bl true)) (fk := eBin ixD (eVar 10) (eC (.int 0))) (fv := eVar 9) (S := [.val (tv kinds), .val (.tup (links.map lkD)), .val (.tup (rules.map ruD)), .val (endsD links), .un, .un, .un, .un, .un, .un, .un, .un, .un, .un, .un])
    (fun p : (Str × Str × Str) × Nat => .tup [.int (p.2 : Nat), lkD p.1]) (fun p => p.1.1) (fun p => .int (p.2 : Nat)) cs (l := links.zipIdx 0) (ks := []) (vs := []) rfl (by
      have : (links.zipIdx 0).map (fun p => p.1.1) = links.map (·.1) := by
        rw [show (fun p : (Str × Str × Str) × Nat => p.1.1) = (fun k => k.1) ∘ Prod.fst from rfl, ← List.map_map, List.zipIdx_map_fst]
      rw [this]
      simpa using h.n2) (fun p hp => ⟨[.val (tv kinds), .val (.tup (links.map lkD)), .val (.tup (rules.map ruD)), .val (endsD links), .un, .un, .un, .un, .un, .val (.int (p.2 : Nat)), .val (lkD p.1), .un, .un, .un, .un], rfl, rfl, eBin_ok (x := lkD p.1) (cs1 := cs) rfl rfl (L2.atI_nat (j := 0) rfl), rfl⟩)
  have qp : eDc (iE (eCons (eVar 1) (eNil))) (gT (gsC (gN 9) (gsC (gN 10) (gs0)))) (eC (.bl true)) (eBin ixD (eVar 10) (eC (.int 0))) (eVar 9) [9, 10] [.val (tv kinds), .val (.tup (links.map lkD)), .val (.tup (rules.map ruD)), .val (endsD links), .un, .un, .un, .un, .un, .un, .un, .un, .un, .un, .un] cs = .ok (placesD links) cs := by
    have ei : iE (eCons (eVar 1) eNil) [.val (tv kinds), .val (.tup (links.map lkD)), .val (.tup (rules.map ruD)), .val (endsD links), .un, .un, .un, .un, .un, .un, .un, .un, .un, .un, .un] cs = .ok ((links.zipIdx 0).map fun p => .tup [.int (p.2 : Nat), lkD p.1]) cs := by
      rw [← enum_map]
      rfl
    rw [eDc_ok ei (by simp; omega) hpl]
    have f1 : (links.zipIdx 0).map (fun p => D.str p.1.1) = links.map fun k => D.str k.1 := by
      rw [show (fun p : (Str × Str × Str) × Nat => D.str p.1.1) = (fun k => D.str k.1) ∘ Prod.fst from rfl, ← List.map_map, List.zipIdx_map_fst]
    have f2 : (links.zipIdx 0).map (fun p => D.int (p.2 : Nat)) = (List.range links.length).map fun i => D.int (i : Nat) := by
      rw [show (fun p : (Str × Str × Str) × Nat => D.int (p.2 : Nat)) = (fun i : Nat => D.int (i : Nat)) ∘ Prod.snd from rfl, ← List.map_map, List.zipIdx_map_snd, List.range_eq_range']
    simp only [List.nil_append, List.map_map, placesD]
    rw [← f1, ← f2]
    rfl
  rw [sSeq_nx (sSet_ok qp)]
  simp only [List.set_cons_succ, List.set_cons_zero]
  have hord : lcLoop (gT (gsC (gN 11) (gsC (gN 12) (gs0)))) (eC (.bl true)) (eBin gtD (eFn (fnN 2 f_rank_of) (eCons (eVar 8) (eCons (eSl (eVar 11) (oSome (eC (.int 1))) oNone) (eNil))) []) (eFn (fnN 2 f_rank_of) (eCons (eVar 8) (eCons (eSl (eVar 12) (oSome (eC (.int 1))) oNone) (eNil))) []))
      [.val (tv kinds), .val (.tup (links.map lkD)), .val (.tup (rules.map ruD)), .val (endsD links), .un, .un, .un, .un, .val (placesD links), .un, .un, .un, .un, .un, .un] (rules.map ruD) cs = .ok (rules.filterMap fun _ => some (.bl true)) cs :=
    lcLoop_filterMap ruD _ cs fun r hr => by
      refine ⟨[.val (tv kinds), .val (.tup (links.map lkD)), .val (.tup (rules.map ruD)), .val (endsD links), .un, .un, .un, .un, .val (placesD links), .un, .un, .val (tv (r.1.1 :: r.1.2)), .val (tv (r.2.1 :: r.2.2)), .un, .un], rfl, rfl, ?_⟩
      have b1 := (h.r1 r hr).1.2.2.1
      have b2 := (h.r1 r hr).1.2.2.2
      exact eBin_ok (eFn_ok (eCons_ok (eVar_ok rfl) (eCons_ok (eSl_ok (eVar_ok rfl) (oSome_ok (i := ((1 : Nat) : Int)) rfl) rfl (from_sv (r.1.1 :: r.1.2) 1)) rfl)) ((fnN_ok (n := 2) rfl).trans (rank_ok (h.pl r hr).1 (by omega) cs)))
        (eFn_ok (eCons_ok (eVar_ok rfl) (eCons_ok (eSl_ok (eVar_ok rfl) (oSome_ok (i := ((1 : Nat) : Int)) rfl) rfl (from_sv (r.2.1 :: r.2.2) 1)) rfl)) ((fnN_ok (n := 2) rfl).trans (rank_ok (h.pl r hr).2 (by omega) cs))) (h.od r hr)
  rw [List.filterMap_eq_map'] at hord
  have co := eLc_ok (its := iA (eVar 2)) (vs := [11, 12]) (S := [.val (tv kinds), .val (.tup (links.map lkD)), .val (.tup (rules.map ruD)), .val (endsD links), .un, .un, .un, .un, .val (placesD links), .un, .un, .un, .un, .un, .un]) (ds := rules.map ruD) (cs := cs) rfl (by simp; omega) hord
  have ao := eCall_ok (eCons_ok (g := eNil) co rfl) (all_of (fun _ => true) cs rules)
  rw [e1] at ao
  rw [sSeq_nx (by rw [sIf_f (eNot_b ao)]; rfl)]
  rw [sSeq_nx (sSet_ok (pairs_comp (rules := rules) (by omega) (i := 2) (a := 11) (b := 12) cs rfl (fun r hr => ⟨_, rfl, rfl, rfl⟩)))]
  simp only [List.set_cons_succ, List.set_cons_zero]
  have qo : eTru (eFn (fnN 1 f_is_open) (eCons (eVar 13) (eNil)) []) [.val (tv kinds), .val (.tup (links.map lkD)), .val (.tup (rules.map ruD)), .val (endsD links), .un, .un, .un, .un, .val (placesD links), .un, .un, .un, .un, .val (prs (prsOf rules)), .un] cs = .ok (.bl false) cs := by
    have := is_open_ok h.pr h.le' h.pw (by simp; omega) h.oe cs
    rw [h.op] at this
    exact tru_b (eFn_ok (eCons_ok (eVar_ok rfl) rfl) ((fnN_ok (n := 1) rfl).trans this))
  rw [sSeq_nx (by rw [sIf_f qo]; rfl)]
  have hm : lcLoop (gN 14) (eC (.bl true)) (eCall lenD (eCons (eFn (fnN 3 f_plain_from) (eCons (eVar 14) (eCons (eVar 1) (eCons (eVar 13) (eNil)))) []) (eNil)))
      [.val (tv kinds), .val (.tup (links.map lkD)), .val (.tup (rules.map ruD)), .val (endsD links), .un, .un, .un, .un, .val (placesD links), .un, .un, .un, .un, .val (prs (prsOf rules)), .un] (kinds.map .str) cs = .ok (kinds.filterMap fun k => some (.int ((fr k).length : Nat))) cs :=
    lcLoop_filterMap D.str _ cs fun k hkm => by
      refine ⟨[.val (tv kinds), .val (.tup (links.map lkD)), .val (.tup (rules.map ruD)), .val (endsD links), .un, .un, .un, .un, .val (placesD links), .un, .un, .un, .un, .val (prs (prsOf rules)), .val (.str k)], rfl, rfl, ?_⟩
      exact eCall_ok (eCons_ok (eFn_ok (eCons_ok (eVar_ok rfl) (eCons_ok (eVar_ok rfl) (eCons_ok (eVar_ok rfl) rfl))) ((fnN_ok (n := 3) rfl).trans (plain_from_ok h.pr (by simp; omega) hk (by omega) (h.k1 k hkm).2 (h.fm k hkm) cs))) rfl) (by simp [lenD])
  rw [List.filterMap_eq_map'] at hm
  have cm := eLc_ok (its := iA (eVar 0)) (vs := [14]) (S := [.val (tv kinds), .val (.tup (links.map lkD)), .val (.tup (rules.map ruD)), .val (endsD links), .un, .un, .un, .un, .val (placesD links), .un, .un, .un, .un, .val (prs (prsOf rules)), .un]) (ds := kinds.map .str) (cs := cs) rfl (by simp; omega) hm
  have sm := eCall_ok (eCons_ok (g := eNil) cm rfl) (sum_of (fun k => ((fr k).length : Int)) cs kinds)
  have g := eBin_ok (op := gtD) (g := eC (.int 60)) sm rfl (by rw [gt_int, decide_eq_false (by have := h.mn; omega)])
  rw [sRet_ok ((eIf_f' g).trans rfl)]
  rfl
end
end K02

set_option Elab.async false
set_option linter.all false
set_option maxRecDepth 100000
set_option maxHeartbeats 4000000
namespace K02
open PySem PySem.Spec PyProof.Rows L2 LL
theorem sFldC_ok {cls fld : Str} {fv : Sem} {S : List Sl} {cs cs1 : Cs} {d : D} {ns ns' : List Str} {vs vs' : List D} (h : fv S cs = .ok d cs1) (h0 : S[0]? = some (.self cls ns vs)) (hn : ns.length < 900) (hp : putFD fld d ns vs = (ns', vs')) : sFldC cls 0 fld fv S cs = .nx (S.set 0 (.self cls ns' vs')) cs1 := by
  unfold sFldC LL.sFld
  simp only [h0, if_true, h, Res.thenF_ok, if_pos hn, hp]
def shapeVs (kinds : List Str) (links : List (Str × Str × Str)) (rules : List Ru) (fr : Str → List (List Str × Str)) : List D :=
  [tv kinds, .tup (links.map lkD), .tup (rules.map ruD), endsD links, prs (prsOf rules), .dct (kinds.map .str) (kinds.map fun k => .lst ((fr k).map wyD))]
def shapeNs : List Str := ["kinds", "links", "rules", "ends", "pairs", "plains"]
section
variable {kinds : List Str} {links : List (Str × Str × Str)} {rules : List Ru} {fr : Str → List (List Str × Str)}
theorem init_ok (h : ShOk kinds links rules fr) (cs : Cs) : f_Shape_init [tv kinds, .tup (links.map lkD), .tup (rules.map ruD)] cs = .ok (shapeNs, shapeVs kinds links rules fr) cs := by
  have rl := h.r2
  have ll := h.l2
  have kl := h.k3
  have hk : ∀ k ∈ links, LkOk k := fun k m => (h.l1 k m).2
  show initRes "Shape" (b_Shape_init [.self "Shape" [] [], .val (tv kinds), .val (.tup (links.map lkD)), .val (.tup (rules.map ruD)), .un, .un, .un, .un, .un, .un, .un] cs) = _
  unfold b_Shape_init
  rw [sSeq_nx (sSet_ok (eFn_ok (eCons_ok (eVar_ok rfl) (eCons_ok (eVar_ok rfl) (eCons_ok (eVar_ok rfl) rfl))) ((fnN_ok (n := 3) rfl).trans (why_ok h cs))))]
  simp only [List.set_cons_succ, List.set_cons_zero]
  have q1 : eBin isNotD (eVar 4) (eC .non) [.self "Shape" [] [], .val (tv kinds), .val (.tup (links.map lkD)), .val (.tup (rules.map ruD)), .val .non, .un, .un, .un, .un, .un, .un] cs = .ok (.bl false) cs := rfl
  rw [sSeq_nx (by rw [sIf_f q1]; rfl)]
  rw [sSeq_nx (sFldC_ok (fld := "kinds") (ns' := ["kinds"]) (vs' := [tv kinds]) (eVar_ok (i := 1) rfl) rfl (by simp) (by kernel_rfl))]
  simp only [List.set_cons_succ, List.set_cons_zero]
  rw [sSeq_nx (sFldC_ok (fld := "links") (ns' := ["kinds", "links"]) (vs' := [tv kinds, .tup (links.map lkD)]) (eVar_ok (i := 2) rfl) rfl (by simp) (by kernel_rfl))]
  simp only [List.set_cons_succ, List.set_cons_zero]
  rw [sSeq_nx (sFldC_ok (fld := "rules") (ns' := ["kinds", "links", "rules"]) (vs' := [tv kinds, .tup (links.map lkD), .tup (rules.map ruD)]) (eVar_ok (i := 3) rfl) rfl (by simp) (by kernel_rfl))]
  simp only [List.set_cons_succ, List.set_cons_zero]
  rw [sSeq_nx (sFldC_ok (fld := "ends") (ns' := ["kinds", "links", "rules", "ends"]) (vs' := [tv kinds, .tup (links.map lkD), .tup (rules.map ruD), endsD links]) (ends_comp h.n2 (i := 2) (a := 5) (b := 6) (c := 7) cs rfl (by omega) (fun k hk => ⟨_, rfl, rfl, rfl, rfl⟩)) rfl (by simp) (by kernel_rfl))]
  simp only [List.set_cons_succ, List.set_cons_zero]
  rw [sSeq_nx (sFldC_ok (fld := "pairs") (ns' := ["kinds", "links", "rules", "ends", "pairs"]) (vs' := [tv kinds, .tup (links.map lkD), .tup (rules.map ruD), endsD links, prs (prsOf rules)]) (pairs_comp (rules := rules) (by omega) (i := 3) (a := 8) (b := 9) cs rfl (fun r hr => ⟨_, rfl, rfl, rfl⟩)) rfl (by simp) (by kernel_rfl))]
  simp only [List.set_cons_succ, List.set_cons_zero]
  have hself : ∀ (k : Str), eSelfC "Shape" 0 "pairs" [.self "Shape" ["kinds", "links", "rules", "ends", "pairs"] [tv kinds, .tup (links.map lkD), .tup (rules.map ruD), endsD links, prs (prsOf rules)], .val (tv kinds), .val (.tup (links.map lkD)), .val (.tup (rules.map ruD)), .val .non, .un, .un, .un, .un, .un, .val (.str k)] cs = .ok (prs (prsOf rules)) cs := fun k => by kernel_rfl
  have hd := dcLoop_map (g := gN 10) (c := eC (.bl true)) (fk := eVar 10) (fv := eFn (fnN 3 f_plain_from) (eCons (eVar 10) (eCons (eVar 2) (eCons (eSelfC "Shape" 0 "pairs") (eNil)))) [])
    (S := [.self "Shape" ["kinds", "links", "rules", "ends", "pairs"] [tv kinds, .tup (links.map lkD), .tup (rules.map ruD), endsD links, prs (prsOf rules)], .val (tv kinds), .val (.tup (links.map lkD)), .val (.tup (rules.map ruD)), .val .non, .un, .un, .un, .un, .un, .un]) D.str (fun k => k) (fun k => .lst ((fr k).map wyD)) cs (l := kinds) (ks := []) (vs := []) rfl (by simpa using h.n1) (fun k m =>
      ⟨_, rfl, rfl, eVar_ok rfl, eFn_ok (eCons_ok (eVar_ok rfl) (eCons_ok (eVar_ok rfl) (eCons_ok (hself k) rfl))) ((fnN_ok (n := 3) rfl).trans (plain_from_ok h.pr (by simp; omega) hk (by omega) (h.k1 k m).2 (h.fm k m) cs))⟩)
  have qd := eDc_ok (its := iA (eVar 1)) (vs := [10]) (S := [.self "Shape" ["kinds", "links", "rules", "ends", "pairs"] [tv kinds, .tup (links.map lkD), .tup (rules.map ruD), endsD links, prs (prsOf rules)], .val (tv kinds), .val (.tup (links.map lkD)), .val (.tup (rules.map ruD)), .val .non, .un, .un, .un, .un, .un, .un]) (ds := kinds.map .str) (cs := cs) rfl (by simp; omega) hd
  rw [sFldC_ok (fld := "plains") (ns' := shapeNs) (vs' := shapeVs kinds links rules fr) qd rfl (by simp) (by simp only [List.map_id', List.nil_append]; kernel_rfl)]
  rfl
end
end K02

set_option Elab.async false
set_option linter.all false
set_option maxRecDepth 100000
set_option maxHeartbeats 4000000
namespace K02
open PySem PySem.Spec PyProof.Rows L2 LL
theorem dget_map (k : Str) (f : Str → D) : ∀ ks : List Str, k ∈ ks → dgetD (ks.map .str) (ks.map f) (.str k) = some (f k)
  | [], h => by cases h
  | x :: ks, h => by
    by_cases e : x = k
    · simp [dgetD, keyEq_str, e]
    · have := dget_map k f ks (by
        rcases List.mem_cons.mp h with h | h
        · exact absurd h.symm e
        · exact h)
      simp only [List.map_cons, dgetD, keyEq_str, decide_eq_false e, Bool.false_eq_true, if_false, this]
abbrev shapeD (kinds : List Str) (links : List (Str × Str × Str)) (rules : List Ru) (fr : Str → List (List Str × Str)) : D := .obj "Shape" shapeNs (shapeVs kinds links rules fr)
section
variable {kinds : List Str} {links : List (Str × Str × Str)} {rules : List Ru} {fr : Str → List (List Str × Str)}
theorem fd_kinds : fieldD "Shape" "kinds" (shapeD kinds links rules fr) = some (tv kinds) := by kernel_rfl
theorem fd_links : fieldD "Shape" "links" (shapeD kinds links rules fr) = some (.tup (links.map lkD)) := by kernel_rfl
theorem fd_pairs : fieldD "Shape" "pairs" (shapeD kinds links rules fr) = some (prs (prsOf rules)) := by kernel_rfl
theorem fd_plains : fieldD "Shape" "plains" (shapeD kinds links rules fr) = some (.dct (kinds.map .str) (kinds.map fun k => .lst ((fr k).map wyD))) := by kernel_rfl
def waysL (fr : Str → List (List Str × Str)) (a b : Str) : List (List Str) := ((fr a).filter fun w => decide (w.2 = b)).map (·.1)
end
end K02

set_option Elab.async false
set_option linter.all false
set_option maxRecDepth 100000
set_option maxHeartbeats 4000000
/-! shortening comes to one end: what lies_open looks at is enough -/
namespace K02
open PySem PySem.Spec PyProof.Rows L2 LL
section
variable {α : Type} [DecidableEq α]
abbrev Prs (α : Type) := List (List α × List α)
/-- one shortening, anywhere -/
def Step (ps : Prs α) (x y : List α) : Prop := ∃ a b l s, (l, s) ∈ ps ∧ x = a ++ l ++ b ∧ y = a ++ s ++ b
inductive Star (ps : Prs α) : List α → List α → Prop
  | rfl {x} : Star ps x x
  | head {x y z} : Step ps x y → Star ps y z → Star ps x z
theorem Step.ctx {ps : Prs α} {x y : List α} (h : Step ps x y) (a b : List α) : Step ps (a ++ x ++ b) (a ++ y ++ b) := by
  obtain ⟨c, d, l, s, m, rfl, rfl⟩ := h
  exact ⟨a ++ c, d ++ b, l, s, m, by simp [List.append_assoc], by simp [List.append_assoc]⟩
theorem Star.ctx {ps : Prs α} {x y : List α} (h : Star ps x y) (a b : List α) : Star ps (a ++ x ++ b) (a ++ y ++ b) := by
  induction h with
  | rfl => exact .rfl
  | head h _ ih => exact .head (h.ctx a b) ih
theorem cut_step {ps : Prs α} {x : List α} {z : Nat × List α × List α} (h : firstL ps x = some z) : Step ps x (cutL x z) := by
  obtain ⟨h1, h2, h3⟩ := firstL_mem h
  refine ⟨x.take z.1, x.drop (z.1 + z.2.1.length), z.2.1, z.2.2, h2, ?_, rfl⟩
  have e : x.take z.1 ++ z.2.1 = x.take (z.1 + z.2.1.length) := by
    have q : (x.take (z.1 + z.2.1.length)).take z.1 = x.take z.1 := by
      rw [List.take_take, Nat.min_eq_left (Nat.le_add_right _ _)]
    have w := List.take_append_drop z.1 (x.take (z.1 + z.2.1.length))
    rw [q, h3] at w
    exact w
  rw [e, List.take_append_drop]
theorem no_step {ps : Prs α} (ne : ∀ p ∈ ps, p.1 ≠ []) {x : List α} (h : firstL ps x = none) {y : List α} : ¬ Step ps x y := by
  rintro ⟨a, b, l, s, m, rfl, rfl⟩
  unfold firstL at h
  rw [List.findSome?_eq_none_iff] at h
  have hl : 0 < l.length := List.length_pos_iff.mpr (ne _ m)
  have h1 := h a.length (List.mem_range.mpr (by simp only [List.length_append]; omega))
  rw [List.findSome?_eq_none_iff] at h1
  have h2 := h1 (l, s) m
  have e : ((a ++ l ++ b).take (a.length + l.length)).drop a.length = l := by
    rw [List.take_append_of_le_length (by simp), List.take_of_length_le (by simp)]
    simp
  dsimp only at h2
  rw [if_pos e] at h2
  cases h2
theorem first_none {ps : Prs α} {x : List α} (h : ∀ y, ¬ Step ps x y) : firstL ps x = none := by
  cases e : firstL ps x with
  | none => rfl
  | some z => exact absurd (cut_step e) (h _)
/-- each shortening makes μ less; no long lies over another and comes to another end -/
structure Conf (ps : Prs α) (μ : List α → Nat) : Prop where
  dec : ∀ x y, Step ps x y → μ y < μ x
  ne : ∀ p ∈ ps, p.1 ≠ []
  oe : openEnds ps = true
  op : isOpenL ps = false
variable {ps : Prs α} {μ : List α → Nat}
theorem shortL_up : ∀ {n k : Nat} {x r : List α}, shortL ps n x = some r → n ≤ k → shortL ps k x = some r
  | 0, _, _, _, h, _ => by cases h
  | n + 1, 0, _, _, _, hk => by omega
  | n + 1, k + 1, x, r, h, hk => by
    unfold shortL at h ⊢
    cases e : firstL ps x with
    | none => rw [e] at h; exact h
    | some z => rw [e] at h; exact shortL_up (n := n) h (by omega)
theorem Conf.short (C : Conf ps μ) : ∀ (n : Nat) (x : List α), μ x < n → ∃ r, shortL ps n x = some r
  | 0, _, h => by omega
  | n + 1, x, h => by
    unfold shortL
    cases e : firstL ps x with
    | none => exact ⟨x, rfl⟩
    | some z =>
      have := C.dec _ _ (cut_step e)
      exact C.short n (cutL x z) (by omega)
/-- where all shortening ends -/
def nf (ps : Prs α) (μ : List α → Nat) (x : List α) : List α := (shortL ps (μ x + 1) x).getD []
theorem Conf.nf_of (C : Conf ps μ) {n : Nat} {x r : List α} (h : shortL ps n x = some r) : nf ps μ x = r := by
  obtain ⟨q, e⟩ := C.short (μ x + 1) x (Nat.lt_succ_self _)
  unfold nf
  rw [e]
  have h1 := shortL_up h (Nat.le_max_left n (μ x + 1))
  have h2 := shortL_up e (Nat.le_max_right n (μ x + 1))
  exact Option.some.inj (h2.symm.trans h1)
theorem Conf.short_nf (C : Conf ps μ) {n : Nat} {x : List α} (h : μ x < n) : shortL ps n x = some (nf ps μ x) := by
  obtain ⟨r, e⟩ := C.short n x h
  rw [C.nf_of e]
  exact e
theorem Conf.nf_irr (C : Conf ps μ) {x : List α} (h : firstL ps x = none) : nf ps μ x = x :=
  C.nf_of (n := 1) (by unfold shortL; rw [h])
theorem Conf.nf_cut (C : Conf ps μ) {x : List α} {z : Nat × List α × List α} (h : firstL ps x = some z) : nf ps μ x = nf ps μ (cutL x z) := by
  refine C.nf_of (n := μ (cutL x z) + 1 + 1) ?_
  unfold shortL
  rw [h]
  exact C.short_nf (Nat.lt_succ_self _)
theorem Conf.star (C : Conf ps μ) : ∀ (n : Nat) (x : List α), μ x < n → Star ps x (nf ps μ x)
  | 0, _, h => by omega
  | n + 1, x, h => by
    cases e : firstL ps x with
    | none => rw [C.nf_irr e]; exact .rfl
    | some z =>
      have hs := cut_step e
      have := C.dec _ _ hs
      rw [C.nf_cut e]
      exact .head hs (C.star n _ (by omega))
theorem Conf.irr_nf (C : Conf ps μ) : ∀ (n : Nat) (x : List α), μ x < n → firstL ps (nf ps μ x) = none
  | 0, _, h => by omega
  | n + 1, x, h => by
    cases e : firstL ps x with
    | none => rw [C.nf_irr e]; exact e
    | some z =>
      have := C.dec _ _ (cut_step e)
      rw [C.nf_cut e]
      exact C.irr_nf n _ (by omega)
/-- what lies_open asked of two longs, the second one begins within the first one -/
theorem Conf.over (C : Conf ps μ) {l s l' s' t : List α} (m : (l, s) ∈ ps) (m' : (l', s') ∈ ps) (ht : t.length < l.length) {k : Nat} (hk : k = min (l.length - t.length) l'.length) (hq : (l.take (t.length + k)).drop t.length = l'.take k) :
    nf ps μ (s ++ l'.drop k) = nf ps μ (l.take t.length ++ s' ++ l.drop (t.length + l'.length)) := by
  have h1 := List.all_eq_true.mp (List.all_eq_true.mp C.oe _ m) _ m'
  have h2 := List.all_eq_true.mp h1 t.length (List.mem_range.mpr ht)
  have h3 := C.op
  unfold isOpenL at h3
  rw [List.any_eq_false] at h3
  have h4 := h3 _ m
  have h4 : (ps.any fun other => liesL ps (l, s) other) = false := by simpa using h4
  rw [List.any_eq_false] at h4
  have h5 := h4 _ m'
  have h5 : liesL ps (l, s) (l', s') = false := by simpa using h5
  unfold liesL at h5
  rw [List.any_eq_false] at h5
  have h6 := h5 t.length (List.mem_range.mpr ht)
  unfold openAt at h2 h6
  dsimp only at h2 h6
  rw [← hk, if_pos hq] at h2 h6
  cases e1 : shortL ps fu (s ++ l'.drop k) with
  | none => rw [e1] at h2; cases h2
  | some a =>
    cases e2 : shortL ps fu (l.take t.length ++ s' ++ l.drop (t.length + l'.length)) with
    | none => rw [e1, e2] at h2; cases h2
    | some b =>
      rw [e1, e2] at h6
      rw [C.nf_of e1, C.nf_of e2]
      by_cases hab : a = b
      · exact hab
      · exfalso
        apply h6
        simp [hab]
/-- below x all is known -/
def Below (ps : Prs α) (μ : List α → Nat) (x : List α) : Prop := ∀ w, μ w < μ x → ∀ w', Step ps w w' → nf ps μ w' = nf ps μ w
theorem Conf.below_star (C : Conf ps μ) {x : List α} (B : Below ps μ x) {u v : List α} (h : Star ps u v) : μ u < μ x → nf ps μ v = nf ps μ u := by
  induction h with
  | rfl => exact fun _ => rfl
  | head h _ ih =>
    intro hu
    have := C.dec _ _ h
    rw [ih (by omega)]
    exact B _ hu _ h
theorem Conf.peak (C : Conf ps μ) {x a l b s a' l' b' s' : List α} (B : Below ps μ x) (m : (l, s) ∈ ps) (m' : (l', s') ∈ ps) (e : x = a ++ l ++ b) (e' : x = a' ++ l' ++ b') (hle : a.length ≤ a'.length) :
    nf ps μ (a ++ s ++ b) = nf ps μ (a' ++ s' ++ b') := by
  have hy : μ (a ++ s ++ b) < μ x := C.dec _ _ ⟨a, b, l, s, m, e, rfl⟩
  have hy' : μ (a' ++ s' ++ b') < μ x := C.dec _ _ ⟨a', b', l', s', m', e', rfl⟩
  have ee : a ++ (l ++ b) = a' ++ (l' ++ b') := by rw [← List.append_assoc, ← e, e', List.append_assoc]
  obtain ⟨t, ht, hb⟩ : ∃ t, a' = a ++ t ∧ l ++ b = t ++ (l' ++ b') := by
    rcases List.append_eq_append_iff.mp ee with ⟨t, h1, h2⟩ | ⟨t, h1, h2⟩
    · exact ⟨t, h1, h2⟩
    · have : t = [] := by
        have := congrArg List.length h1
        simp only [List.length_append] at this
        exact List.eq_nil_of_length_eq_zero (by omega)
      subst this
      exact ⟨[], by simpa using h1.symm, by simpa using h2.symm⟩
  subst ht
  have mid : ∀ u v : List α, ∀ c d : List α, nf ps μ u = nf ps μ v → μ (c ++ u ++ d) < μ x → μ (c ++ v ++ d) < μ x → nf ps μ (c ++ u ++ d) = nf ps μ (c ++ v ++ d) := by
    intro u v c d huv h1 h2
    have s1 := C.below_star B ((C.star (μ u + 1) u (Nat.lt_succ_self _)).ctx c d) h1
    have s2 := C.below_star B ((C.star (μ v + 1) v (Nat.lt_succ_self _)).ctx c d) h2
    rw [← s1, ← s2, huv]
  rcases List.append_eq_append_iff.mp hb with ⟨t', h1, h2⟩ | ⟨q, h1, h2⟩
  · -- apart
    subst h1 h2
    have z1 : Step ps (a ++ s ++ (t' ++ (l' ++ b'))) (a ++ s ++ t' ++ s' ++ b') := ⟨a ++ s ++ t', b', l', s', m', by simp [List.append_assoc], rfl⟩
    have z2 : Step ps (a ++ (l ++ t') ++ s' ++ b') (a ++ s ++ t' ++ s' ++ b') := ⟨a, t' ++ s' ++ b', l, s, m, by simp [List.append_assoc], by simp [List.append_assoc]⟩
    rw [← B _ hy _ z1, ← B _ hy' _ z2]
  · subst h1
    by_cases hq0 : q = []
    · -- they meet
      subst hq0
      rw [List.nil_append] at h2
      subst h2
      have z1 : Step ps (a ++ s ++ (l' ++ b')) (a ++ s ++ s' ++ b') := ⟨a ++ s, b', l', s', m', by simp [List.append_assoc], rfl⟩
      have z2 : Step ps (a ++ t ++ s' ++ b') (a ++ s ++ s' ++ b') := ⟨a, s' ++ b', t, s, by simpa using m, by simp [List.append_assoc], by simp [List.append_assoc]⟩
      rw [← B _ hy _ z1, ← B _ hy' _ z2]
    · have hqp : 0 < q.length := List.length_pos_iff.mpr hq0
      have htl : t.length < (t ++ q).length := by simp only [List.length_append]; omega
      rcases List.append_eq_append_iff.mp h2 with ⟨q2, g1, g2⟩ | ⟨q2, g1, g2⟩
      · subst g1 g2
        have ov := C.over (k := l'.length) m m' htl (by simp only [List.length_append]; omega) (by
          rw [List.take_of_length_le (Nat.le_refl _), List.take_length_add_append]
          simp)
        have e1 : l'.drop l'.length = [] := by simp
        have e2 : (t ++ (l' ++ q2)).take t.length = t := by simp
        have e3 : (t ++ (l' ++ q2)).drop (t.length + l'.length) = q2 := by rw [List.drop_length_add_append]; simp
        rw [e1, e2, e3, List.append_nil] at ov
        have g := mid _ _ a b ov (by simpa [List.append_assoc] using hy) (by simpa [List.append_assoc] using hy')
        simpa [List.append_assoc] using g
      · -- q ends within l'
        subst g1 g2
        have ov := C.over (k := q.length) m m' htl (by simp only [List.length_append]; omega) (by
          rw [List.take_of_length_le (by simp)]
          simp)
        have e1 : (q ++ q2).drop q.length = q2 := by simp
        have e2 : (t ++ q).take t.length = t := by simp
        have e3 : (t ++ q).drop (t.length + (q ++ q2).length) = [] := List.drop_of_length_le (by simp only [List.length_append]; omega)
        rw [e1, e2, e3, List.append_nil] at ov
        have g := mid _ _ a b' ov (by simpa [List.append_assoc] using hy) (by simpa [List.append_assoc] using hy')
        simpa [List.append_assoc] using g
theorem Conf.step_lt (C : Conf ps μ) : ∀ (n : Nat) (x y : List α), μ x < n → Step ps x y → nf ps μ y = nf ps μ x
  | 0, _, _, h, _ => by omega
  | n + 1, x, y, h, hs => by
    have B : Below ps μ x := fun w hw w' hs' => C.step_lt n w w' (by omega) hs'
    cases e : firstL ps x with
    | none => exact absurd hs (no_step C.ne e)
    | some z =>
      rw [C.nf_cut e]
      obtain ⟨a, b, l, s, m, ex, ey⟩ := hs
      obtain ⟨a', b', l', s', m', ex', ey'⟩ := cut_step e
      rw [ey, ey']
      rcases Nat.le_total a.length a'.length with hle | hle
      · exact C.peak B m m' ex ex' hle
      · exact (C.peak B m' m ex' ex hle).symm
theorem Conf.step (C : Conf ps μ) {x y : List α} (h : Step ps x y) : nf ps μ y = nf ps μ x := C.step_lt (μ x + 1) x y (Nat.lt_succ_self _) h
theorem Conf.star_nf (C : Conf ps μ) {x y : List α} (h : Star ps x y) : nf ps μ y = nf ps μ x := by
  induction h with
  | rfl => rfl
  | head h _ ih => rw [ih, C.step h]
/-- within: what is shortened already -/
theorem Conf.ctx (C : Conf ps μ) (a x b : List α) : nf ps μ (a ++ nf ps μ x ++ b) = nf ps μ (a ++ x ++ b) :=
  C.star_nf ((C.star (μ x + 1) x (Nat.lt_succ_self _)).ctx a b)
theorem Conf.pre (C : Conf ps μ) (x b : List α) : nf ps μ (nf ps μ x ++ b) = nf ps μ (x ++ b) := C.ctx [] x b
theorem Conf.suf (C : Conf ps μ) (a x : List α) : nf ps μ (a ++ nf ps μ x) = nf ps μ (a ++ x) := by
  have := C.ctx a x []
  rwa [List.append_nil, List.append_nil] at this
theorem nf_length (hs : ∀ p ∈ ps, p.2.length ≤ p.1.length) (C : Conf ps μ) (x : List α) : (nf ps μ x).length ≤ x.length := shortL_length hs (C.short_nf (Nat.lt_succ_self _))
/-- plain's own way of going -/
theorem Conf.plainL (C : Conf ps μ) (hs : ∀ p ∈ ps, p.2.length ≤ p.1.length) {N : Nat} (hb : ∀ x : List α, x.length ≤ N → μ x < fu) : ∀ (ls a : List α), a.length + ls.length ≤ N → plainL ps (nf ps μ a) ls = some (nf ps μ (a ++ ls))
  | [], a, _ => by rw [List.append_nil]; rfl
  | l :: ls, a, h => by
    unfold K02.plainL
    simp only [List.length_cons] at h
    have hl := nf_length hs C a
    rw [C.short_nf (hb _ (by simp only [List.length_append, List.length_cons, List.length_nil]; omega)), C.pre a [l]]
    show K02.plainL ps (nf ps μ (a ++ [l])) ls = _
    rw [C.plainL hs hb ls (a ++ [l]) (by simp only [List.length_append, List.length_cons, List.length_nil]; omega)]
    simp [List.append_assoc]
theorem irr_part (ne : ∀ p ∈ ps, p.1 ≠ []) {a x b : List α} (h : firstL ps (a ++ x ++ b) = none) : firstL ps x = none :=
  first_none fun y hs => no_step ne h (hs.ctx a b)
end
end K02

set_option Elab.async false
set_option linter.all false
set_option maxRecDepth 100000
set_option maxHeartbeats 4000000
/-! other words: all that is looked at goes along -/
namespace K02
open PySem PySem.Spec PyProof.Rows L2 LL
section
variable {α β : Type} [DecidableEq α] [DecidableEq β] {f : α → β}
abbrev Inj (f : α → β) : Prop := ∀ a b, f a = f b → a = b
theorem map_eq (hf : Inj f) : ∀ xs ys : List α, xs.map f = ys.map f ↔ xs = ys
  | [], [] => by simp
  | [], _ :: _ => by simp
  | _ :: _, [] => by simp
  | x :: xs, y :: ys => by
    rw [List.map_cons, List.map_cons, List.cons.injEq, List.cons.injEq, map_eq hf xs ys]
    exact ⟨fun h => ⟨hf _ _ h.1, h.2⟩, fun h => ⟨congrArg f h.1, h.2⟩⟩
def mpP (f : α → β) (p : List α × List α) : List β × List β := (p.1.map f, p.2.map f)
def mpK (f : α → β) (k : α × α × α) : β × β × β := (f k.1, f k.2.1, f k.2.2)
def mpW (f : α → β) (w : List α × α) : List β × β := (w.1.map f, f w.2)
def mpR (f : α → β) (r : (α × List α) × (α × List α)) : (β × List β) × (β × List β) := ((f r.1.1, r.1.2.map f), (f r.2.1, r.2.2.map f))
theorem findSome_map2 {γ δ ε : Type} (g : γ → δ) (p : δ → Option ε) : ∀ l : List γ, (l.map g).findSome? p = l.findSome? fun x => p (g x)
  | [] => rfl
  | x :: l => by rw [List.map_cons, List.findSome?_cons, List.findSome?_cons, findSome_map2 g p l]
theorem firstL_map (hf : Inj f) (ps : Prs α) (ls : List α) : firstL (ps.map (mpP f)) (ls.map f) = (firstL ps ls).map fun r => (r.1, r.2.1.map f, r.2.2.map f) := by
  unfold firstL
  rw [List.length_map]
  refine Eq.trans ?_ (findSome_map _ _ _)
  refine congrArg (fun g => List.findSome? g (List.range ls.length)) (funext fun i => ?_)
  rw [findSome_map2]
  refine Eq.trans ?_ (findSome_map _ _ _)
  refine congrArg (fun g => List.findSome? g ps) (funext fun p => ?_)
  have e : ((ls.map f).take (i + (mpP f p).1.length)).drop i = (mpP f p).1 ↔ (ls.take (i + p.1.length)).drop i = p.1 := by
    show ((ls.map f).take (i + (p.1.map f).length)).drop i = p.1.map f ↔ _
    rw [List.length_map, ← List.map_take, ← List.map_drop]
    exact map_eq hf _ _
  by_cases h : (ls.take (i + p.1.length)).drop i = p.1
  · rw [if_pos h, if_pos (e.mpr h)]; rfl
  · rw [if_neg h, if_neg (fun z => h (e.mp z))]; rfl
theorem shortL_map (hf : Inj f) (ps : Prs α) : ∀ (n : Nat) (ls : List α), shortL (ps.map (mpP f)) n (ls.map f) = (shortL ps n ls).map (List.map f)
  | 0, _ => rfl
  | n + 1, ls => by
    unfold shortL
    rw [firstL_map hf]
    cases firstL ps ls with
    | none => rfl
    | some r =>
      show shortL (ps.map (mpP f)) n (cutL (ls.map f) (r.1, r.2.1.map f, r.2.2.map f)) = (shortL ps n (cutL ls r)).map (List.map f)
      rw [← shortL_map hf ps n (cutL ls r)]
      congr 1
      simp [cutL, List.map_take, List.map_drop]
theorem openAt_map (hf : Inj f) (ps : Prs α) (one other : List α × List α) (i : Nat) : openAt (ps.map (mpP f)) (mpP f one) (mpP f other) i = openAt ps one other i := by
  unfold openAt
  have e1 : (mpP f one).1.length = one.1.length := List.length_map _
  have e2 : (mpP f other).1.length = other.1.length := List.length_map _
  rw [e1, e2]
  generalize min (one.1.length - i) other.1.length = m
  have e : ((mpP f one).1.take (i + m)).drop i = (mpP f other).1.take m ↔ (one.1.take (i + m)).drop i = other.1.take m := by
    show ((one.1.map f).take (i + m)).drop i = (other.1.map f).take m ↔ _
    rw [← List.map_take, ← List.map_drop, ← List.map_take]
    exact map_eq hf _ _
  have h1 : (mpP f one).2 ++ (mpP f other).1.drop m = (one.2 ++ other.1.drop m).map f := by simp [mpP, List.map_drop]
  have h2 : (mpP f one).1.take i ++ (mpP f other).2 ++ (mpP f one).1.drop (i + other.1.length) = (one.1.take i ++ other.2 ++ one.1.drop (i + other.1.length)).map f := by simp [mpP, List.map_drop, List.map_take]
  by_cases h : (one.1.take (i + m)).drop i = other.1.take m
  · rw [if_pos h, if_pos (e.mpr h), h1, h2, shortL_map hf, shortL_map hf]
    cases shortL ps fu (one.2 ++ other.1.drop m) with
    | none => rfl
    | some a =>
      cases shortL ps fu (one.1.take i ++ other.2 ++ one.1.drop (i + other.1.length)) with
      | none => rfl
      | some b =>
        show some (!decide (a.map f = b.map f)) = some (!decide (a = b))
        rw [decide_eq_decide.mpr (map_eq hf a b)]
  · rw [if_neg h, if_neg (fun z => h (e.mp z))]
theorem openEnds_map (hf : Inj f) (ps : Prs α) : openEnds (ps.map (mpP f)) = openEnds ps := by
  unfold openEnds
  rw [List.all_map]
  congr 1
  funext one
  show (List.all (ps.map (mpP f)) fun other => liesEnds (ps.map (mpP f)) (mpP f one) other) = _
  rw [List.all_map]
  congr 1
  funext other
  show liesEnds (ps.map (mpP f)) (mpP f one) (mpP f other) = _
  unfold liesEnds
  rw [show (mpP f one).1.length = one.1.length from List.length_map _]
  congr 1
  funext i
  rw [openAt_map hf]
theorem isOpenL_map (hf : Inj f) (ps : Prs α) : isOpenL (ps.map (mpP f)) = isOpenL ps := by
  unfold isOpenL
  rw [List.any_map]
  congr 1
  funext one
  show (List.any (ps.map (mpP f)) fun other => liesL (ps.map (mpP f)) (mpP f one) other) = _
  rw [List.any_map]
  congr 1
  funext other
  show liesL (ps.map (mpP f)) (mpP f one) (mpP f other) = _
  unfold liesL
  rw [show (mpP f one).1.length = one.1.length from List.length_map _]
  congr 1
  funext i
  rw [openAt_map hf]
theorem okStep_map (hf : Inj f) (ps : Prs α) (w : List α × α) (k : α × α × α) : okStep (ps.map (mpP f)) (mpW f w) (mpK f k) = okStep ps w k := by
  unfold okStep
  have e1 : decide ((mpK f k).2.1 = (mpW f w).2) = decide (k.2.1 = w.2) := decide_eq_decide.mpr ⟨fun h => hf _ _ h, fun h => congrArg f h⟩
  rw [e1]
  congr 2
  rw [List.any_map]
  congr 1
  funext p
  show endsIn ((w.1.map f).tail ++ [f k.1]) (p.1.map f) = endsIn (w.1.tail ++ [k.1]) p.1
  have e2 : (w.1.map f).tail ++ [f k.1] = (w.1.tail ++ [k.1]).map f := by simp [List.map_tail]
  rw [e2]
  unfold endsIn
  rw [List.length_map, List.length_map, ← List.map_drop]
  exact decide_eq_decide.mpr (map_eq hf _ _)
theorem stepL_map (hf : Inj f) (ps : Prs α) (w : List α × α) (fd : List (List α × α)) (k : α × α × α) : stepL (ps.map (mpP f)) (mpW f w) (fd.map (mpW f)) (mpK f k) = (stepL ps w fd k).map (mpW f) := by
  unfold stepL
  rw [okStep_map hf]
  split
  · simp [mpW, mpK]
  · rfl
theorem longerL_map (hf : Inj f) (ps : Prs α) (ways : List (List α × α)) (links : List (α × α × α)) : longerL (ways.map (mpW f)) (links.map (mpK f)) (ps.map (mpP f)) = (longerL ways links ps).map (mpW f) := by
  have inner : ∀ (w : List α × α) (ls : List (α × α × α)) (fd : List (List α × α)), (ls.map (mpK f)).foldl (stepL (ps.map (mpP f)) (mpW f w)) (fd.map (mpW f)) = (ls.foldl (stepL ps w) fd).map (mpW f) := by
    intro w ls
    induction ls with
    | nil => exact fun _ => rfl
    | cons k ls ih =>
      intro fd
      rw [List.map_cons, List.foldl_cons, List.foldl_cons, stepL_map hf, ih]
  have outer : ∀ (ws fd : List (List α × α)), (ws.map (mpW f)).foldl (fun found w => (links.map (mpK f)).foldl (stepL (ps.map (mpP f)) w) found) (fd.map (mpW f)) = (ws.foldl (fun found w => links.foldl (stepL ps w) found) fd).map (mpW f) := by
    intro ws
    induction ws with
    | nil => exact fun _ => rfl
    | cons w ws ih =>
      intro fd
      rw [List.map_cons, List.foldl_cons, List.foldl_cons, inner, ih]
  exact outer ways []
theorem fromL_map (hf : Inj f) (links : List (α × α × α)) (ps : Prs α) : ∀ (n : Nat) (layer found : List (List α × α)), fromL (links.map (mpK f)) (ps.map (mpP f)) n (layer.map (mpW f)) (found.map (mpW f)) = (fromL links ps n layer found).map (List.map (mpW f))
  | 0, _, _ => rfl
  | n + 1, layer, found => by
    unfold fromL
    rw [List.length_map, longerL_map hf, show (layer.map (mpW f)).isEmpty = layer.isEmpty by cases layer <;> rfl, ← List.map_append, fromL_map hf links ps n]
    split <;> rfl
theorem find_map (hf : Inj f) (l : α) : ∀ links : List (α × α × α), ((links.map (mpK f)).find? fun k => decide (k.1 = f l)) = (links.find? fun k => decide (k.1 = l)).map (mpK f)
  | [] => rfl
  | k :: links => by
    have e : decide ((mpK f k).1 = f l) = decide (k.1 = l) := decide_eq_decide.mpr ⟨fun h => hf _ _ h, fun h => congrArg f h⟩
    rw [List.map_cons, List.find?_cons, List.find?_cons, e, find_map hf l links]
    cases decide (k.1 = l) <;> rfl
theorem stepE_map (hf : Inj f) (links : List (α × α × α)) (here : Option α) (l : α) : stepE (links.map (mpK f)) (here.map f) (f l) = (stepE links here l).map f := by
  unfold stepE
  rw [find_map hf]
  cases links.find? fun k => decide (k.1 = l) with
  | none => rfl
  | some k =>
    show (if here.map f = some (f k.2.1) then some (f k.2.2) else none) = (if here = some k.2.1 then some k.2.2 else none).map f
    have e : here.map f = some (f k.2.1) ↔ here = some k.2.1 := by
      cases here with
      | none => simp
      | some x => simp only [Option.map_some, Option.some.injEq]; exact ⟨fun h => hf _ _ h, fun h => congrArg f h⟩
    by_cases h : here = some k.2.1
    · rw [if_pos h, if_pos (e.mpr h)]; rfl
    · rw [if_neg h, if_neg (fun z => h (e.mp z))]; rfl
theorem mem_map (hf : Inj f) (w : α) (ks : List α) : f w ∈ ks.map f ↔ w ∈ ks := by
  rw [List.mem_map]
  exact ⟨fun ⟨a, h, e⟩ => hf _ _ e ▸ h, fun h => ⟨w, h, rfl⟩⟩
theorem endL_map (hf : Inj f) (kinds : List α) (links : List (α × α × α)) (w : α) (ls : List α) : endL (kinds.map f) (links.map (mpK f)) (f w) (ls.map f) = (endL kinds links w ls).map f := by
  have go : ∀ (ls : List α) (h : Option α), (ls.map f).foldl (stepE (links.map (mpK f))) (h.map f) = (ls.foldl (stepE links) h).map f := by
    intro ls
    induction ls with
    | nil => exact fun _ => rfl
    | cons l ls ih =>
      intro h
      rw [List.map_cons, List.foldl_cons, List.foldl_cons, stepE_map hf, ih]
  unfold endL
  rw [← go]
  congr 1
  by_cases h : w ∈ kinds
  · rw [if_pos h, if_pos ((mem_map hf w kinds).mpr h)]; rfl
  · rw [if_neg h, if_neg (fun z => h ((mem_map hf w kinds).mp z))]; rfl
theorem sidesL_map (hf : Inj f) (kinds : List α) (links : List (α × α × α)) (r : (α × List α) × (α × List α)) : sidesL (kinds.map f) (links.map (mpK f)) (mpR f r) = sidesL kinds links r := by
  unfold sidesL
  show (match endL (kinds.map f) (links.map (mpK f)) (f r.1.1) (r.1.2.map f) with
    | none => false
    | some e => decide (f r.1.1 = f r.2.1) && decide (endL (kinds.map f) (links.map (mpK f)) (f r.2.1) (r.2.2.map f) = some e)) = _
  rw [endL_map hf, endL_map hf]
  cases endL kinds links r.1.1 r.1.2 with
  | none => rfl
  | some e =>
    show (decide (f r.1.1 = f r.2.1) && decide ((endL kinds links r.2.1 r.2.2).map f = some (f e))) = (decide (r.1.1 = r.2.1) && decide (endL kinds links r.2.1 r.2.2 = some e))
    congr 1
    · exact decide_eq_decide.mpr ⟨fun h => hf _ _ h, fun h => congrArg f h⟩
    · refine decide_eq_decide.mpr ?_
      cases endL kinds links r.2.1 r.2.2 with
      | none => simp
      | some x => simp only [Option.map_some, Option.some.injEq]; exact ⟨fun h => hf _ _ h, fun h => congrArg f h⟩
theorem placeL_map (hf : Inj f) (l : α) : ∀ links : List (α × α × α), placeL (links.map (mpK f)) (f l) = placeL links l
  | [] => rfl
  | k :: links => by
    have ih := placeL_map hf l links
    unfold placeL at ih ⊢
    have e : decide ((mpK f k).1 = f l) = decide (k.1 = l) := decide_eq_decide.mpr ⟨fun h => hf _ _ h, fun h => congrArg f h⟩
    rw [List.map_cons, List.findIdx_cons, List.findIdx_cons, e, ih]
theorem map_nodup (hf : Inj f) {xs : List α} (h : xs.Nodup) : (xs.map f).Nodup := by
  induction xs with
  | nil => exact List.nodup_nil
  | cons x xs ih =>
    rw [List.map_cons, List.nodup_cons]
    rw [List.nodup_cons] at h
    exact ⟨fun z => h.1 ((mem_map hf x xs).mp z), ih h.2⟩
end
end K02

set_option Elab.async false
set_option linter.all false
set_option maxRecDepth 100000
set_option maxHeartbeats 4000000
/-! weights: each shortening makes them less; the plain ways can't be shortened -/
namespace K02
open PySem PySem.Spec PyProof.Rows L2 LL
section
variable {α : Type}
def tot (ω : α → Nat) : List α → Nat
  | [] => 0
  | a :: x => ω a + tot ω x
def wsum (ω : α → Nat) : List α → Nat
  | [] => 0
  | a :: x => (x.length + 1) * ω a + wsum ω x
def mu (c : Nat) (ω : α → Nat) (x : List α) : Nat := c * x.length + wsum ω x
theorem tot_app (ω : α → Nat) : ∀ a b : List α, tot ω (a ++ b) = tot ω a + tot ω b
  | [], b => by simp [tot]
  | x :: a, b => by
    have := tot_app ω a b
    simp only [List.cons_append, tot]
    omega
theorem wsum_app (ω : α → Nat) : ∀ a b : List α, wsum ω (a ++ b) = wsum ω a + b.length * tot ω a + wsum ω b
  | [], b => by simp [wsum, tot]
  | x :: a, b => by
    have ih := wsum_app ω a b
    simp only [List.cons_append, wsum, tot, List.length_append, ih]
    have e1 : (a.length + b.length + 1) * ω x = (a.length + 1) * ω x + b.length * ω x := by
      rw [← Nat.add_mul]
      congr 1
      omega
    rw [e1, Nat.mul_add]
    omega
theorem wsum_le (ω : α → Nat) (M : Nat) (h : ∀ a, ω a ≤ M) : ∀ x : List α, 2 * wsum ω x ≤ x.length * (x.length + 1) * M
  | [] => by simp [wsum]
  | a :: x => by
    have ih := wsum_le ω M h x
    have h1 : (x.length + 1) * ω a ≤ (x.length + 1) * M := Nat.mul_le_mul_left _ (h a)
    simp only [wsum, List.length_cons]
    have e : (x.length + 1) * (x.length + 1 + 1) * M = x.length * (x.length + 1) * M + 2 * ((x.length + 1) * M) := by
      rw [show (x.length + 1) * (x.length + 1 + 1) = x.length * (x.length + 1) + 2 * (x.length + 1) by
        rw [Nat.mul_comm (x.length + 1) (x.length + 1 + 1), ← Nat.add_mul]]
      rw [Nat.add_mul, Nat.mul_assoc 2]
    rw [e]
    omega
def wOk (c : Nat) (ω : α → Nat) (ps : List (List α × List α)) : Bool := ps.all fun p => decide (p.2.length ≤ p.1.length) && decide (tot ω p.2 ≤ tot ω p.1) && decide (mu c ω p.2 < mu c ω p.1)
theorem mu_dec [DecidableEq α] {c : Nat} {ω : α → Nat} {ps : List (List α × List α)} (h : wOk c ω ps = true) (x y : List α) (hs : Step ps x y) : mu c ω y < mu c ω x := by
  obtain ⟨a, b, l, s, m, rfl, rfl⟩ := hs
  have h1 := List.all_eq_true.mp h _ m
  simp only [Bool.and_eq_true, decide_eq_true_eq] at h1
  obtain ⟨⟨h2, h3⟩, h4⟩ := h1
  simp only [mu] at h4
  have g1 : s.length * tot ω a ≤ l.length * tot ω a := Nat.mul_le_mul_right _ h2
  have g2 : b.length * tot ω s ≤ b.length * tot ω l := Nat.mul_le_mul_left _ h3
  simp only [mu, wsum_app, tot_app, List.length_append, Nat.mul_add]
  omega
theorem mu_bd {c M N K : Nat} {ω : α → Nat} (h : ∀ a, ω a ≤ M) (hK : c * N + N * (N + 1) * M / 2 < K) (x : List α) (hx : x.length ≤ N) : mu c ω x < K := by
  have h1 := wsum_le ω M h x
  have h2 : c * x.length ≤ c * N := Nat.mul_le_mul_left _ hx
  have h3 : x.length * (x.length + 1) * M ≤ N * (N + 1) * M := Nat.mul_le_mul_right _ (Nat.mul_le_mul hx (by omega))
  unfold mu
  omega
end
section
variable {α : Type} [DecidableEq α]
/-- a row in which no long stands, with one link more behind -/
theorem irr_snoc {ps : Prs α} {x : List α} {l : α} (h : firstL ps x = none) (ne : ∀ p ∈ ps, p.1 ≠ []) (he : ¬ ∃ p ∈ ps, endsIn (x ++ [l]) p.1 = true) : firstL ps (x ++ [l]) = none := by
  refine first_none fun y hs => ?_
  obtain ⟨a, b, lo, s, m, e, rfl⟩ := hs
  rcases List.eq_nil_or_concat b with rfl | ⟨b', z, rfl⟩
  · apply he
    refine ⟨(lo, s), m, ?_⟩
    rw [List.append_nil] at e
    unfold endsIn
    rw [e]
    simp
  · have e2 : x ++ [l] = (a ++ lo ++ b') ++ [z] := by rw [e]; simp [List.append_assoc]
    have e3 := List.append_inj_left' e2 (by simp)
    exact no_step ne h ⟨a, b', lo, s, m, e3, rfl⟩
/-- each way that plain_from finds: its start ahead, no long within, links of the shape -/
def Wy (ps : Prs α) (links : List (α × α × α)) (k : α) (w : List α × α) : Prop := ∃ ls, w.1 = k :: ls ∧ firstL ps ls = none ∧ (∀ l ∈ ls, l ∈ links.map (·.1)) ∧ (w.2 = k ∨ w.2 ∈ links.map (·.2.2))
theorem stepL_cases {ps : Prs α} {w : List α × α} {P : List α × α → Prop} {fd : List (List α × α)} {k : α × α × α} (hf : ∀ x ∈ fd, P x) (hk : okStep ps w k = true → P (w.1 ++ [k.1], k.2.2)) : ∀ x ∈ stepL ps w fd k, P x := by
  unfold stepL
  split
  · rename_i h
    intro x hx
    rcases List.mem_append.mp hx with hx | hx
    · exact hf x hx
    · rw [List.mem_singleton.mp hx]; exact hk h
  · exact hf
theorem longerL_cases {links : List (α × α × α)} {ps : Prs α} {P : List α × α → Prop} : ∀ {ways fd : List (List α × α)}, (∀ x ∈ fd, P x) → (∀ w ∈ ways, ∀ k ∈ links, okStep ps w k = true → P (w.1 ++ [k.1], k.2.2)) → ∀ x ∈ ways.foldl (fun found w => links.foldl (stepL ps w) found) fd, P x
  | [], fd, hf, _ => hf
  | w :: ways, fd, hf, h => by
    have inner : ∀ (ls : List (α × α × α)) (fd : List (List α × α)), (∀ k ∈ ls, k ∈ links) → (∀ x ∈ fd, P x) → ∀ x ∈ ls.foldl (stepL ps w) fd, P x := by
      intro ls
      induction ls with
      | nil => exact fun fd _ hf => hf
      | cons k ls ih => exact fun fd hk hf => ih _ (fun k' hk' => hk k' (List.mem_cons_of_mem _ hk')) (stepL_cases hf (h w List.mem_cons_self k (hk k List.mem_cons_self)))
    rw [List.foldl_cons]
    exact longerL_cases (inner links fd (fun _ h => h) hf) fun w' hw' => h w' (List.mem_cons_of_mem _ hw')
theorem Wy.longer {ps : Prs α} {links : List (α × α × α)} {k : α} (ne : ∀ p ∈ ps, p.1 ≠ []) {w : List α × α} (h : Wy ps links k w) {x : α × α × α} (hx : x ∈ links) (ho : okStep ps w x = true) : Wy ps links k (w.1 ++ [x.1], x.2.2) := by
  obtain ⟨ls, e, h1, h2, h3⟩ := h
  refine ⟨ls ++ [x.1], by rw [e]; rfl, ?_, ?_, .inr (List.mem_map.mpr ⟨x, hx, rfl⟩)⟩
  · unfold okStep at ho
    rw [Bool.and_eq_true] at ho
    have h4 := ho.2
    rw [e] at h4
    simp only [List.tail_cons, Bool.not_eq_true', List.any_eq_false] at h4
    exact irr_snoc h1 ne fun ⟨p, hp, he⟩ => h4 p hp he
  · intro l hl
    rcases List.mem_append.mp hl with hl | hl
    · exact h2 l hl
    · rw [List.mem_singleton.mp hl]; exact List.mem_map.mpr ⟨x, hx, rfl⟩
theorem fromL_wy {ps : Prs α} {links : List (α × α × α)} {k : α} (ne : ∀ p ∈ ps, p.1 ≠ []) : ∀ {n : Nat} {layer found r : List (List α × α)}, fromL links ps n layer found = some r → (∀ w ∈ layer, Wy ps links k w) → (∀ w ∈ found, Wy ps links k w) → ∀ w ∈ r, Wy ps links k w
  | 0, _, _, _, h, _, _ => by cases h
  | n + 1, layer, found, r, h, hl, hf => by
    unfold fromL at h
    split at h
    · cases h; exact hf
    · refine fromL_wy ne h (longerL_cases (by simp) fun w hw x hx ho => (hl w hw).longer ne hx ho) fun w hw => ?_
      rcases List.mem_append.mp hw with hw | hw
      · exact hf w hw
      · exact hl w hw
/-- what is found stays found -/
theorem fromL_sub {ps : Prs α} {links : List (α × α × α)} : ∀ {n : Nat} {layer found r : List (List α × α)}, fromL links ps n layer found = some r → ∀ w ∈ found, w ∈ r
  | 0, _, _, _, h => by cases h
  | n + 1, layer, found, r, h => by
    unfold fromL at h
    split at h
    · cases h; exact fun w h => h
    · exact fun w hw => fromL_sub h w (List.mem_append_left _ hw)
theorem fromL_rest {ps : Prs α} {links : List (α × α × α)} {k : α} {n : Nat} {r : List (List α × α)} (h : fromL links ps n [([k], k)] [] = some r) : ([k], k) ∈ r := by
  cases n with
  | zero => cases h
  | succ n =>
    unfold fromL at h
    simp only [List.isEmpty_cons, List.length_nil, Bool.false_or] at h
    rw [if_neg (by simp)] at h
    exact fromL_sub h _ (by simp)
theorem firstL_nil (ps : Prs α) : firstL ps [] = none := rfl
theorem from_wy {ps : Prs α} {links : List (α × α × α)} {k : α} (ne : ∀ p ∈ ps, p.1 ≠ []) {n : Nat} {r : List (List α × α)} (h : fromL links ps n [([k], k)] [] = some r) : ∀ w ∈ r, Wy ps links k w :=
  fromL_wy ne h (fun w hw => by rw [List.mem_singleton.mp hw]; exact ⟨[], rfl, rfl, by simp, .inl rfl⟩) (by simp)
end
end K02

set_option Elab.async false
set_option linter.all false
set_option maxRecDepth 100000
set_option maxHeartbeats 4000000
/-! shapes of which shortening is known to come to one end -/
namespace K02
open PySem PySem.Spec PyProof.Rows L2 LL
abbrev partsD (kinds : List Str) (links : List (Str × Str × Str)) (rules : List Ru) : D := .tup [tv kinds, .tup (links.map lkD), .tup (rules.map ruD)]
structure Sha (kinds : List Str) (links : List (Str × Str × Str)) (rules : List Ru) (fr : Str → List (List Str × Str)) (μ : List Str → Nat) (N : Nat) : Prop where
  ok : ShOk kinds links rules fr
  cf : Conf (prsOf rules) μ
  bd : ∀ x : List Str, x.length ≤ N → μ x < fu
  n1 : 18 ≤ N
  n2 : N ≤ 80
  ln : ∀ k ∈ kinds, ∀ w ∈ fr k, 3 * (w.1.length - 1) ≤ N
section
variable {kinds : List Str} {links : List (Str × Str × Str)} {rules : List Ru} {fr : Str → List (List Str × Str)} {μ : List Str → Nat} {N : Nat}
abbrev Nm (links : List (Str × Str × Str)) (ls : List Str) : Prop := ∀ l ∈ ls, l ∈ links.map (·.1)
theorem nm_nil (links : List (Str × Str × Str)) : Nm links [] := fun l h => (List.not_mem_nil h).elim
theorem ShOk.wrdK (h : ShOk kinds links rules fr) {k : Str} (hk : k ∈ kinds) : Wrd k := (h.k1 k hk).2
theorem ShOk.wrdL (h : ShOk kinds links rules fr) {ls : List Str} (hl : Nm links ls) : ∀ l ∈ ls, Wrd l := fun l m => by
  obtain ⟨k, hk, e⟩ := List.mem_map.mp (hl l m)
  rw [← e]
  exact (h.l1 k hk).2.1
theorem ShOk.fr60 (h : ShOk kinds links rules fr) : ∀ k ∈ kinds, (fr k).length ≤ 60 := by
  have key : ∀ ks : List Str, (∀ k ∈ ks, ((fr k).length : Int) ≤ (ks.map fun k => ((fr k).length : Int)).sum) ∧ 0 ≤ (ks.map fun k => ((fr k).length : Int)).sum := by
    intro ks
    induction ks with
    | nil => exact ⟨by simp, by simp⟩
    | cons a ks ih =>
      rw [List.map_cons, List.sum_cons]
      refine ⟨fun k hk => ?_, by have := ih.2; omega⟩
      rcases List.mem_cons.mp hk with rfl | hk
      · have := ih.2; omega
      · have := ih.1 k hk; omega
  intro k hk
  have h1 := (key kinds).1 k hk
  have h2 := h.mn
  omega
theorem ShOk.wy (h : ShOk kinds links rules fr) (ne : ∀ p ∈ prsOf rules, p.1 ≠ []) {k : Str} (hk : k ∈ kinds) : ∀ w ∈ fr k, Wy (prsOf rules) links k w := from_wy ne (h.fm k hk)
theorem ShOk.frEnd (h : ShOk kinds links rules fr) (ne : ∀ p ∈ prsOf rules, p.1 ≠ []) {k : Str} (hk : k ∈ kinds) {w : List Str × Str} (hw : w ∈ fr k) : w.2 ∈ kinds := by
  obtain ⟨ls, _, _, _, h3⟩ := h.wy ne hk w hw
  rcases h3 with e | e
  · rw [e]; exact hk
  · obtain ⟨q, hq, e⟩ := List.mem_map.mp e
    rw [← e]
    exact (h.n3 q hq).2
theorem find_names : ∀ {links : List (Str × Str × Str)} {l : Str}, l ∈ links.map (·.1) → ∃ k, (links.find? fun k => decide (k.1 = l)) = some k ∧ k ∈ links
  | [], l, h => by cases h
  | k :: links, l, h => by
    rw [List.find?_cons]
    by_cases e : k.1 = l
    · rw [decide_eq_true e]; exact ⟨k, rfl, List.mem_cons_self⟩
    · rw [decide_eq_false e]
      rw [List.map_cons] at h
      rcases List.mem_cons.mp h with h | h
      · exact absurd h.symm e
      · obtain ⟨q, e1, e2⟩ := find_names h
        exact ⟨q, e1, List.mem_cons_of_mem _ e2⟩
theorem ix_parts0 (cs : Cs) : ixD cs (partsD kinds links rules) (.int 0) = some (tv kinds) := L2.atI_nat (j := 0) rfl
theorem ix_parts1 (cs : Cs) : ixD cs (partsD kinds links rules) (.int 1) = some (.tup (links.map lkD)) := L2.atI_nat (j := 1) rfl
theorem ix_parts2 (cs : Cs) : ixD cs (partsD kinds links rules) (.int 2) = some (.tup (rules.map ruD)) := L2.atI_nat (j := 2) rfl
theorem ix_lk0 (cs : Cs) (k : Str × Str × Str) : ixD cs (lkD k) (.int 0) = some (.str k.1) := L2.atI_nat (j := 0) rfl
theorem ix_lk1 (cs : Cs) (k : Str × Str × Str) : ixD cs (lkD k) (.int 1) = some (.str k.2.1) := L2.atI_nat (j := 1) rfl
theorem ix_lk2 (cs : Cs) (k : Str × Str × Str) : ixD cs (lkD k) (.int 2) = some (.str k.2.2) := L2.atI_nat (j := 2) rfl
theorem ix_tv0 (cs : Cs) (k : Str) (ls : List Str) : ixD cs (tv (k :: ls)) (.int 0) = some (.str k) := L2.atI_nat (j := 0) rfl
theorem waysL_length (fr : Str → List (List Str × Str)) (a b : Str) : (waysL fr a b).length ≤ (fr a).length := by
  unfold waysL
  rw [List.length_map]
  exact List.length_filter_le _ _
theorem waysL_mem {fr : Str → List (List Str × Str)} {a b : Str} {x : List Str} (h : x ∈ waysL fr a b) : ∃ w ∈ fr a, x = w.1 ∧ w.2 = b := by
  unfold waysL at h
  obtain ⟨w, hw, e⟩ := List.mem_map.mp h
  rw [List.mem_filter] at hw
  exact ⟨w, hw.1, e.symm, by simpa using hw.2⟩
theorem waysL_rest (h : ShOk kinds links rules fr) {k : Str} (hk : k ∈ kinds) : [k] ∈ waysL fr k k := by
  unfold waysL
  exact List.mem_map.mpr ⟨([k], k), List.mem_filter.mpr ⟨fromL_rest (h.fm k hk), by simp⟩, rfl⟩
theorem ext_ok {f : Sem} {S : List Sl} {cs : Cs} {xs : List D} {ys : List D} {i : Nat} (h : S[i]? = some (.own xs)) (e : f S cs = .ok (.lst ys) cs) (hl : xs.length + ys.length ≤ 1000000) : sExt i f S cs = .nx (S.set i (.own (xs ++ ys))) cs := by
  unfold sExt
  rw [h]
  simp only [e, Res.thenF_ok, if_pos hl]
theorem ne_nil_strs (cs : Cs) {xs : List Str} (h : ∀ x ∈ xs, Wrd x) : neD cs (.lst (xs.map .str)) (.lst []) = some (.bl (!xs.isEmpty)) := by
  have p1 : plainD 20 (.lst (xs.map .str)) = true := plain_sv (n := 19) h
  unfold neD
  rw [p1]
  cases xs with
  | nil => rfl
  | cons w xs => simp [plainD, plainDs, toP, toPs, PyData.eqv, PyData.eqvAll]
theorem placeL_mem {links : List (Str × Str × Str)} {l : Str} (h : placeL links l < links.length) : l ∈ links.map (·.1) := by
  unfold placeL at h
  have := List.findIdx_getElem (w := h)
  exact List.mem_map.mpr ⟨_, List.getElem_mem h, by simpa using this⟩
theorem ShOk.nmL (h : ShOk kinds links rules fr) {r : Ru} (hr : r ∈ rules) : Nm links r.1.2 := fun l m => placeL_mem ((h.pl r hr).1 l m)
theorem ShOk.nmS (h : ShOk kinds links rules fr) {r : Ru} (hr : r ∈ rules) : Nm links r.2.2 := fun l m => placeL_mem ((h.pl r hr).2 l m)
theorem stepE_none {links : List (Str × Str × Str)} (l : Str) : stepE links none l = none := by
  unfold stepE
  split
  · rfl
  · rw [if_neg (by simp)]
theorem ShOk.head (h : ShOk kinds links rules fr) {r : Ru} (hr : r ∈ rules) : r.1.1 ∈ kinds ∧ r.2.1 = r.1.1 := by
  have hs := h.sd r hr
  unfold sidesL at hs
  split at hs
  · cases hs
  · rename_i e he
    rw [Bool.and_eq_true, decide_eq_true_eq] at hs
    refine ⟨?_, hs.1.symm⟩
    unfold endL at he
    by_cases hm : r.1.1 ∈ kinds
    · exact hm
    · rw [if_neg hm] at he
      exfalso
      have : ∀ ls : List Str, ls.foldl (stepE links) none = none := by
        intro ls
        induction ls with
        | nil => rfl
        | cons l ls ih => rw [List.foldl_cons, stepE_none, ih]
      rw [this] at he
      cases he
theorem nf_mem (h : ShOk kinds links rules fr) (C : Conf (prsOf rules) μ) {ls : List Str} (hl : Nm links ls) : Nm links (nf (prsOf rules) μ ls) := by
  refine shortL_mem (P := fun l => l ∈ links.map (·.1)) (fun p hp x hx => ?_) (C.short_nf (Nat.lt_succ_self _)) hl
  obtain ⟨r, hr, rfl⟩ := List.mem_map.mp hp
  exact h.nmS hr x hx
variable (S : Sha kinds links rules fr μ N)
include S
theorem tail_sv {f : Sem} {T : List Sl} {cs : Cs} {k : Str} {ls : List Str} (h : f T cs = .ok (tv (k :: ls)) cs) : eSl f (oSome (eC (.int 1))) oNone T cs = .ok (tv ls) cs := eSl_ok h (oSome_ok (i := ((1 : Nat) : Int)) rfl) rfl (from_sv (k :: ls) 1)
theorem Sha.wrd {k : Str} (hk : k ∈ kinds) {ls : List Str} (hl : Nm links ls) : ∀ x ∈ k :: ls, Wrd x := fun x hx => by
  rcases List.mem_cons.mp hx with rfl | hx
  · exact S.ok.wrdK hk
  · exact S.ok.wrdL hl x hx
theorem Sha.same {k : Str} (hk : k ∈ kinds) {a b : List Str} (ha : Nm links a) (hab : a = b) {f g : Sem} {T : List Sl} {cs cs1 cs2 : Cs} (h1 : f T cs = .ok (tv (k :: a)) cs1) (h2 : g T cs1 = .ok (tv (k :: b)) cs2) : eBin neD f g T cs = .ok (.bl false) cs2 := by
  subst hab
  refine eBin_ok h1 h2 ?_
  rw [neD_sv cs2 (S.wrd hk ha) (S.wrd hk ha)]
  simp
theorem Sha.wy {k : Str} (hk : k ∈ kinds) {w : List Str × Str} (hw : w ∈ fr k) : ∃ ls, w.1 = k :: ls ∧ nf (prsOf rules) μ ls = ls ∧ firstL (prsOf rules) ls = none ∧ Nm links ls ∧ 3 * ls.length ≤ N := by
  obtain ⟨ls, e, h1, h2, _⟩ := S.ok.wy S.cf.ne hk w hw
  have hl := S.ln k hk w hw
  rw [e] at hl
  exact ⟨ls, e, S.cf.nf_irr h1, h1, h2, by simpa using hl⟩
theorem nm_app {a b : List Str} (ha : Nm links a) (hb : Nm links b) : Nm links (a ++ b) := fun l h => (List.mem_append.mp h).elim (ha l) (hb l)
end
end K02

set_option Elab.async false
set_option linter.all false
set_option maxRecDepth 100000
set_option maxHeartbeats 4000000
/-! all ways that can't be shortened are found, and no others -/
namespace K02
open PySem PySem.Spec PyProof.Rows L2 LL
section
variable {α : Type} [DecidableEq α] {ps : Prs α} {links : List (α × α × α)} {kinds : List α}
theorem stepE_none' (links : List (α × α × α)) (l : α) : stepE links none l = none := by
  unfold stepE
  split
  · rfl
  · rw [if_neg (by simp)]
theorem foldE_none (links : List (α × α × α)) : ∀ ls : List α, ls.foldl (stepE links) none = none
  | [] => rfl
  | l :: ls => by rw [List.foldl_cons, stepE_none', foldE_none links ls]
theorem stepE_some {h e l : α} (q : stepE links (some h) l = some e) : ∃ k, (links.find? fun k => decide (k.1 = l)) = some k ∧ k ∈ links ∧ k.1 = l ∧ k.2.1 = h ∧ k.2.2 = e := by
  unfold stepE at q
  cases hf : links.find? fun k => decide (k.1 = l) with
  | none => rw [hf] at q; cases q
  | some k =>
    rw [hf] at q
    dsimp only at q
    split at q
    · rename_i hh
      cases q
      have hk := List.find?_some hf
      exact ⟨k, rfl, List.mem_of_find?_eq_some hf, by simpa using hk, by simpa using hh.symm, rfl⟩
    · cases q
theorem find_self : ∀ {links : List (α × α × α)}, (links.map (·.1)).Nodup → ∀ k ∈ links, (links.find? fun q => decide (q.1 = k.1)) = some k
  | [], _, k, h => by cases h
  | q :: links, nd, k, h => by
    rw [List.map_cons, List.nodup_cons] at nd
    rw [List.find?_cons]
    by_cases e : q.1 = k.1
    · rw [decide_eq_true e]
      rcases List.mem_cons.mp h with rfl | h
      · rfl
      · exact absurd (e ▸ List.mem_map.mpr ⟨k, h, rfl⟩) nd.1
    · rw [decide_eq_false e]
      rcases List.mem_cons.mp h with rfl | h
      · exact absurd rfl e
      · exact find_self nd.2 k h
theorem stepE_of (nd : (links.map (·.1)).Nodup) {k : α × α × α} (h : k ∈ links) : stepE links (some k.2.1) k.1 = some k.2.2 := by
  unfold stepE
  rw [find_self nd k h]
  exact if_pos rfl
theorem endL_snoc (k : α) (ls : List α) (l : α) : endL kinds links k (ls ++ [l]) = stepE links (endL kinds links k ls) l := by
  unfold endL
  rw [List.foldl_append]
  rfl
/-! ### layers -/
def layL (links : List (α × α × α)) (ps : Prs α) : Nat → List (List α × α) → List (List α × α)
  | 0, layer => layer
  | n + 1, layer => layL links ps n (longerL layer links ps)
theorem mem_step {ps : Prs α} {w : List α × α} {x : List α × α} : ∀ (ls : List (α × α × α)) (fd : List (List α × α)), (x ∈ fd ∨ ∃ k ∈ ls, okStep ps w k = true ∧ x = (w.1 ++ [k.1], k.2.2)) → x ∈ ls.foldl (stepL ps w) fd
  | [], fd, h => by
    rcases h with h | ⟨k, hk, _⟩
    · exact h
    · cases hk
  | k :: ls, fd, h => by
    rw [List.foldl_cons]
    refine mem_step ls _ ?_
    rcases h with h | ⟨q, hq, ho, e⟩
    · left
      unfold stepL
      split
      · exact List.mem_append_left _ h
      · exact h
    · rcases List.mem_cons.mp hq with rfl | hq
      · left
        unfold stepL
        rw [if_pos ho, e]
        simp
      · exact .inr ⟨q, hq, ho, e⟩
theorem mem_longer {ps : Prs α} {links : List (α × α × α)} {x w : List α × α} {k : α × α × α} (hk : k ∈ links) (ho : okStep ps w k = true) (e : x = (w.1 ++ [k.1], k.2.2)) : ∀ (ways fd : List (List α × α)), (x ∈ fd ∨ w ∈ ways) → x ∈ ways.foldl (fun found w => links.foldl (stepL ps w) found) fd
  | [], fd, h => h.resolve_right (by simp)
  | v :: ways, fd, h => by
    rw [List.foldl_cons]
    refine mem_longer hk ho e ways _ ?_
    rcases h with h | h
    · exact .inl (mem_step links fd (.inl h))
    · rcases List.mem_cons.mp h with rfl | h
      · exact .inl (mem_step links fd (.inr ⟨k, hk, ho, e⟩))
      · exact .inr h
theorem layL_nil (links : List (α × α × α)) (ps : Prs α) : ∀ n, layL links ps n [] = []
  | 0 => rfl
  | n + 1 => layL_nil links ps n
theorem layL_succ (links : List (α × α × α)) (ps : Prs α) : ∀ (n : Nat) (layer : List (List α × α)), layL links ps (n + 1) layer = longerL (layL links ps n layer) links ps
  | 0, _ => rfl
  | n + 1, layer => layL_succ links ps n (longerL layer links ps)
theorem okStep_of (ne : ∀ p ∈ ps, p.1 ≠ []) {k : α} {ls : List α} {x : α × α × α} (h : firstL ps (ls ++ [x.1]) = none) : okStep ps (k :: ls, x.2.1) x = true := by
  unfold okStep
  rw [Bool.and_eq_true]
  refine ⟨decide_eq_true rfl, ?_⟩
  simp only [List.tail_cons, Bool.not_eq_true', List.any_eq_false]
  intro p hp he
  unfold endsIn at he
  have he := of_decide_eq_true he
  refine no_step ne h ⟨(ls ++ [x.1]).take ((ls ++ [x.1]).length - p.1.length), [], p.1, p.2, hp, ?_, rfl⟩
  rw [List.append_nil]
  conv => rhs; rw [← he]
  rw [he, ]
  have := List.take_append_drop ((ls ++ [x.1]).length - p.1.length) (ls ++ [x.1])
  rw [he] at this
  exact this.symm
theorem lay_mem (ne : ∀ p ∈ ps, p.1 ≠ []) {k : α} : ∀ (n : Nat) (ls : List α), ls.length = n → ∀ e, endL kinds links k ls = some e → firstL ps ls = none → (k :: ls, e) ∈ layL links ps n [([k], k)]
  | 0, ls, hl, e, he, _ => by
    have : ls = [] := List.eq_nil_of_length_eq_zero hl
    subst this
    unfold endL at he
    by_cases hk : k ∈ kinds
    · rw [if_pos hk] at he
      cases he
      simp [layL]
    · rw [if_neg hk] at he
      cases he
  | n + 1, ls, hl, e, he, hf => by
    rcases List.eq_nil_or_concat ls with rfl | ⟨l', w, rfl⟩
    · cases hl
    · rw [List.concat_eq_append] at he hf hl ⊢
      rw [endL_snoc] at he
      cases h1 : endL kinds links k l' with
      | none => rw [h1, stepE_none'] at he; cases he
      | some h =>
        rw [h1] at he
        obtain ⟨q, q1, q2, q3, q4, q5⟩ := stepE_some he
        subst q3 q4 q5
        have hf' : firstL ps l' = none := irr_part ne (a := []) (b := [q.1]) (by simpa using hf)
        have ih := lay_mem ne n l' (by simpa using hl) _ h1 hf'
        rw [layL_succ]
        exact mem_longer q2 (okStep_of ne hf) rfl _ [] (.inr ih)
theorem fromL_len {n : Nat} : ∀ {layer found r : List (List α × α)}, fromL links ps n layer found = some r → found.length ≤ r.length := by
  induction n with
  | zero => intro _ _ _ h; cases h
  | succ n ih =>
    intro layer found r h
    unfold fromL at h
    split at h
    · cases h; exact Nat.le_refl _
    · have := ih h
      rw [List.length_append] at this
      omega
theorem fromL_all : ∀ {n : Nat} {layer found r : List (List α × α)}, fromL links ps n layer found = some r → r.length ≤ 60 → ∀ m, ∀ w ∈ layL links ps m layer, w ∈ r
  | 0, _, _, _, h, _ => by cases h
  | n + 1, layer, found, r, h, hr => by
    unfold fromL at h
    split at h
    · rename_i hc
      rw [Bool.or_eq_true] at hc
      rcases hc with hc | hc
      · have : layer = [] := by simpa using hc
        subst this
        intro m w hw
        rw [layL_nil] at hw
        cases hw
      · cases h
        have := of_decide_eq_true hc
        omega
    · intro m w hw
      cases m with
      | zero => exact fromL_sub h w (List.mem_append_right _ hw)
      | succ m => exact fromL_all h hr m w hw
/-- what is found: with the end that end_by tells -/
theorem longer_end (nd : (links.map (·.1)).Nodup) {k : α} {w : List α × α} (h : ∃ ls, w.1 = k :: ls ∧ endL kinds links k ls = some w.2) {x : α × α × α} (hx : x ∈ links) (ho : okStep ps w x = true) : ∃ ls, w.1 ++ [x.1] = k :: ls ∧ endL kinds links k ls = some x.2.2 := by
  obtain ⟨ls, e, h1⟩ := h
  unfold okStep at ho
  rw [Bool.and_eq_true] at ho
  have h2 := of_decide_eq_true ho.1
  refine ⟨ls ++ [x.1], by rw [e]; rfl, ?_⟩
  rw [endL_snoc, h1, ← h2, stepE_of nd hx]
theorem fromL_end (nd : (links.map (·.1)).Nodup) {k : α} : ∀ {n : Nat} {layer found r : List (List α × α)}, fromL links ps n layer found = some r → (∀ w ∈ layer, ∃ ls, w.1 = k :: ls ∧ endL kinds links k ls = some w.2) → (∀ w ∈ found, ∃ ls, w.1 = k :: ls ∧ endL kinds links k ls = some w.2) → ∀ w ∈ r, ∃ ls, w.1 = k :: ls ∧ endL kinds links k ls = some w.2
  | 0, _, _, _, h, _, _ => by cases h
  | n + 1, layer, found, r, h, hl, hf => by
    unfold fromL at h
    split at h
    · cases h; exact hf
    · refine fromL_end nd h (longerL_cases (P := fun w => ∃ ls, w.1 = k :: ls ∧ endL kinds links k ls = some w.2) (by simp) fun w hw x hx ho => longer_end nd (hl w hw) hx ho) fun w hw => ?_
      rcases List.mem_append.mp hw with hw | hw
      · exact hf w hw
      · exact hl w hw
end
section
variable {kinds : List Str} {links : List (Str × Str × Str)} {rules : List Ru} {fr : Str → List (List Str × Str)} {μ : List Str → Nat} {N : Nat}
theorem endL_head {k : Str} (hk : k ∈ kinds) : endL kinds links k [] = some k := by
  unfold endL
  rw [if_pos hk]
  rfl
theorem ShOk.ends (h : ShOk kinds links rules fr) {k : Str} (hk : k ∈ kinds) {w : List Str × Str} (hw : w ∈ fr k) : ∃ ls, w.1 = k :: ls ∧ endL kinds links k ls = some w.2 :=
  fromL_end h.n2 (h.fm k hk) (fun w hw => by rw [List.mem_singleton.mp hw]; exact ⟨[], rfl, endL_head hk⟩) (by simp) w hw
theorem ShOk.all (h : ShOk kinds links rules fr) (ne : ∀ p ∈ prsOf rules, p.1 ≠ []) {k : Str} (hk : k ∈ kinds) {ls : List Str} {e : Str} (he : endL kinds links k ls = some e) (hf : firstL (prsOf rules) ls = none) : (k :: ls, e) ∈ fr k :=
  fromL_all (h.fm k hk) (h.fr60 k hk) ls.length _ (lay_mem ne ls.length ls rfl e he hf)
/-- a shortening leads to the same end -/
theorem step_end (h : ShOk kinds links rules fr) (ne : ∀ p ∈ prsOf rules, p.1 ≠ []) {k e : Str} {x y : List Str} (hs : Step (prsOf rules) x y) (he : endL kinds links k x = some e) : endL kinds links k y = some e := by
  obtain ⟨a, b, l, s, m, rfl, rfl⟩ := hs
  have hn := ne _ m
  obtain ⟨r, hr, er⟩ := List.mem_map.mp m
  cases er
  have hs := h.sd r hr
  unfold sidesL at hs
  split at hs
  · cases hs
  · rename_i z hz
    rw [Bool.and_eq_true] at hs
    have h1 := of_decide_eq_true hs.1
    have h2 := of_decide_eq_true hs.2
    obtain ⟨hk, _⟩ := h.head hr
    rw [← h1] at h2
    unfold endL at he hz h2 ⊢
    rw [if_pos hk] at hz h2
    rw [List.foldl_append, List.foldl_append] at he ⊢
    generalize hst : a.foldl (stepE links) (if k ∈ kinds then some k else none) = st at he ⊢
    cases st with
    | none => rw [foldE_none, foldE_none] at he; cases he
    | some g =>
      have hg : g = r.1.1 := by
        cases hl : r.1.2 with
        | nil => exact absurd hl hn
        | cons l0 l1 =>
          rw [hl, List.foldl_cons] at hz he
          cases q1 : stepE links (some r.1.1) l0 with
          | none => rw [q1, foldE_none] at hz; cases hz
          | some z1 =>
            cases q2 : stepE links (some g) l0 with
            | none => rw [q2, foldE_none, foldE_none] at he; cases he
            | some z2 =>
              obtain ⟨k1, f1, _, _, g1, _⟩ := stepE_some q1
              obtain ⟨k2, f2, _, _, g2, _⟩ := stepE_some q2
              rw [f1] at f2
              cases f2
              exact g2.symm.trans g1
      subst hg
      rw [hz] at he
      rw [h2]
      exact he
theorem star_end (h : ShOk kinds links rules fr) (ne : ∀ p ∈ prsOf rules, p.1 ≠ []) {k e : Str} {x y : List Str} (hs : Star (prsOf rules) x y) (he : endL kinds links k x = some e) : endL kinds links k y = some e := by
  induction hs with
  | rfl => exact he
  | head s _ ih => exact ih (step_end h ne s he)
theorem nf_end (h : ShOk kinds links rules fr) (C : Conf (prsOf rules) μ) {k e : Str} {x : List Str} (he : endL kinds links k x = some e) : endL kinds links k (nf (prsOf rules) μ x) = some e := star_end h C.ne (C.star (μ x + 1) x (Nat.lt_succ_self _)) he
theorem endL_nm : ∀ {ls : List Str} {k e : Str}, endL kinds links k ls = some e → Nm links ls := by
  have go : ∀ (ls : List Str) (h : Option Str) (e : Str), ls.foldl (stepE links) h = some e → Nm links ls := by
    intro ls
    induction ls with
    | nil => exact fun _ _ _ => nm_nil links
    | cons l ls ih =>
      intro h e he
      rw [List.foldl_cons] at he
      cases h with
      | none => rw [stepE_none', foldE_none] at he; cases he
      | some g =>
        cases q : stepE links (some g) l with
        | none => rw [q, foldE_none] at he; cases he
        | some z =>
          obtain ⟨k, _, hk, e1, _, _⟩ := stepE_some q
          intro x hx
          rcases List.mem_cons.mp hx with rfl | hx
          · exact List.mem_map.mpr ⟨k, hk, e1⟩
          · exact ih (stepE links (some g) l) e he x hx
  exact fun {ls k e} he => go ls _ e he
/-- the plain way of a way is one of all -/
theorem Sha.nf_mem (S : Sha kinds links rules fr μ N) {k e : Str} (hk : k ∈ kinds) {x : List Str} (he : endL kinds links k x = some e) : (k :: nf (prsOf rules) μ x, e) ∈ fr k :=
  S.ok.all S.cf.ne hk (nf_end S.ok S.cf he) (S.cf.irr_nf (μ x + 1) x (Nat.lt_succ_self _))
end
end K02

set_option Elab.async false
set_option linter.all false
set_option maxRecDepth 100000
set_option maxHeartbeats 4000000
/-! rows as numbers: a short comes ahead of its long, so that each shortening makes a row less -/
namespace K02
open PySem PySem.Spec PyProof.Rows L2 LL
def valD (B : Nat) : List Nat → Nat
  | [] => 0
  | d :: ds => (d + 1) * B ^ ds.length + valD B ds
theorem valD_lt (B : Nat) : ∀ ds : List Nat, (∀ d ∈ ds, d + 1 < B) → valD B ds < B ^ ds.length
  | [], _ => by simp [valD]
  | d :: ds, h => by
    have ih := valD_lt B ds fun x hx => h x (List.mem_cons_of_mem _ hx)
    have h1 := h d List.mem_cons_self
    have h2 : (d + 1 + 1) * B ^ ds.length ≤ B * B ^ ds.length := Nat.mul_le_mul_right _ (by omega)
    have h3 : (d + 1 + 1) * B ^ ds.length = (d + 1) * B ^ ds.length + B ^ ds.length := Nat.succ_mul _ _
    simp only [valD, List.length_cons, Nat.pow_succ]
    rw [Nat.mul_comm (B ^ ds.length) B]
    omega
theorem valD_app (B : Nat) : ∀ a b : List Nat, valD B (a ++ b) = valD B a * B ^ b.length + valD B b
  | [], b => by simp [valD]
  | d :: a, b => by
    have e : (d + 1) * B ^ (a.length + b.length) = (d + 1) * B ^ a.length * B ^ b.length := by rw [Nat.pow_add, Nat.mul_assoc]
    have ih := valD_app B a b
    have e2 := Nat.add_mul ((d + 1) * B ^ a.length) (valD B a) (B ^ b.length)
    simp only [valD, List.cons_append, List.length_append]
    rw [e, ih, e2]
    omega
theorem valD_ge (B : Nat) (d : Nat) (ds : List Nat) : B ^ ds.length ≤ valD B (d :: ds) := by
  have : 1 * B ^ ds.length ≤ (d + 1) * B ^ ds.length := Nat.mul_le_mul_right _ (by omega)
  simp only [valD]
  omega
/-- ys comes ahead of xs -/
def Bef (B : Nat) (ys xs : List Nat) : Prop := ys.length < xs.length ∨ ys.length = xs.length ∧ valD B ys < valD B xs
theorem bef_ctx {B : Nat} (hB : 0 < B) {ys xs : List Nat} (hy : ∀ d ∈ ys, d + 1 < B) (h : Bef B ys xs) (a b : List Nat) : valD B (a ++ ys ++ b) < valD B (a ++ xs ++ b) := by
  have hp : 0 < B ^ b.length := Nat.pow_pos hB
  have key : valD B (a ++ ys) < valD B (a ++ xs) := by
    rw [valD_app B a ys, valD_app B a xs]
    rcases h with h | ⟨h1, h2⟩
    · have l1 := valD_lt B ys hy
      cases xs with
      | nil => simp at h
      | cons x xs =>
        have l2 := valD_ge B x xs
        have l3 : B ^ ys.length ≤ B ^ xs.length := Nat.pow_le_pow_right hB (by simp at h; omega)
        have l4 : valD B a * B ^ ys.length ≤ valD B a * B ^ (x :: xs).length := Nat.mul_le_mul_left _ (Nat.pow_le_pow_right hB (by omega))
        omega
    · rw [h1]; omega
  rw [valD_app B (a ++ ys) b, valD_app B (a ++ xs) b]
  have := Nat.mul_lt_mul_of_pos_right key hp
  omega
/-! ### what > says of ranks -/
def natsP (l : List Nat) : List PyData := l.map fun i => .int (i : Nat)
theorem toPs_ints : ∀ l : List Nat, toPs (l.map fun i => D.int (i : Nat)) = natsP l
  | [] => rfl
  | i :: l => by
    show toP (.int (i : Nat)) :: toPs (l.map fun i => D.int (i : Nat)) = _
    rw [toPs_ints l]
    rfl
theorem plain_ints (n : Nat) : ∀ l : List Nat, plainDs n (l.map fun i => D.int (i : Nat)) = true
  | [] => by simp [plainDs]
  | i :: l => by
    rw [List.map_cons, plainDs, plain_ints n l]
    cases n <;> simp [plainD]
theorem alike_ints : ∀ a b : List Nat, PySem.W.alikeAll (natsP a) (natsP b) = true
  | [], b => by cases b <;> rfl
  | _ :: _, [] => rfl
  | x :: a, y :: b => by
    show (PySem.W.alike (.int (x : Nat)) (.int (y : Nat)) && PySem.W.alikeAll (natsP a) (natsP b)) = true
    rw [alike_ints a b]
    rfl
theorem eqv_int (a b : Int) : PyData.eqv (.int a) (.int b) = decide (a = b) := by
  rw [Bool.eq_iff_iff]
  simp [PyData.eqv]
theorem lex_val {B : Nat} : ∀ {ys xs : List Nat}, ys.length = xs.length → (∀ d ∈ ys, d + 1 < B) → PyProof.Rows.lexLt itemOrd (PySem.W.keyToksAll (natsP ys)) (PySem.W.keyToksAll (natsP xs)) = true → valD B ys < valD B xs
  | [], [], _, _, h => by simp [natsP, PySem.W.keyToksAll, lex_irrefl] at h
  | [], _ :: _, e, _, _ => by simp at e
  | _ :: _, [], e, _, _ => by simp at e
  | y :: ys, x :: xs, e, hy, h => by
    have e2 : ys.length = xs.length := by simpa using e
    have ha : PySem.W.alike (.int (y : Nat)) (.int (x : Nat)) = true := rfl
    cases hq : PyData.eqv (.int (y : Nat)) (.int (x : Nat)) with
    | true =>
      rw [eqv_int, decide_eq_true_eq] at hq
      have hq : y = x := by omega
      subst hq
      have h2 := (PySem.W.dataLt_all_yes (xs := natsP ys) (ys := natsP xs) ha (by rw [eqv_int]; simp)).symm.trans h
      have ih := lex_val e2 (fun d hd => hy d (List.mem_cons_of_mem _ hd)) h2
      simp only [valD, e2]
      omega
    | false =>
      have h2 := (PySem.W.dataLt_all_no (xs := natsP ys) (ys := natsP xs) ha hq).symm.trans h
      rw [PySem.W.dataLt_int, decide_eq_true_eq] at h2
      have h3 : y < x := by omega
      have l1 := valD_lt B ys fun d hd => hy d (List.mem_cons_of_mem _ hd)
      have l2 : (y + 1 + 1) * B ^ ys.length ≤ (x + 1) * B ^ ys.length := Nat.mul_le_mul_right _ (by omega)
      have l3 : (y + 1 + 1) * B ^ ys.length = (y + 1) * B ^ ys.length + B ^ ys.length := Nat.succ_mul _ _
      simp only [valD, ← e2]
      omega
theorem gt_rank {B : Nat} (xs ys : List Nat) (hy : ∀ d ∈ ys, d + 1 < B) : ∃ b, gtD [] (rankD xs) (rankD ys) = some (.bl b) ∧ (b = true → Bef B ys xs) := by
  have hp : ∀ l : List Nat, plainD 20 (rankD l) = true := fun l => by
    show plainDs 19 [.int (l.length : Nat), .tup (l.map fun i => D.int (i : Nat))] = true
    rw [plainDs, plainDs, plainDs]
    have : plainD 19 (.tup (l.map fun i => D.int (i : Nat))) = true := plain_ints 18 l
    rw [this]
    rfl
  have ht : ∀ l : List Nat, toP (rankD l) = .tuple [.int (l.length : Nat), .tuple (natsP l)] := fun l => by
    show PyData.tuple [.int (l.length : Nat), toP (.tup (l.map fun i => D.int (i : Nat)))] = _
    rw [show toP (.tup (l.map fun i => D.int (i : Nat))) = .tuple (toPs (l.map fun i => D.int (i : Nat))) from rfl, toPs_ints]
  have hal : PySem.W.alike (toP (rankD xs)) (toP (rankD ys)) = true := by
    rw [ht, ht]
    show (true && (PySem.W.alikeAll (natsP xs) (natsP ys) && true)) = true
    rw [alike_ints]
    rfl
  refine ⟨PySem.W.dataLt (toP (rankD ys)) (toP (rankD xs)), ?_, fun h => ?_⟩
  · show (if plainD 20 (rankD xs) && plainD 20 (rankD ys) && PySem.W.alike (toP (rankD xs)) (toP (rankD ys)) && !noneD (rankD xs) then some (D.bl (PySem.W.dataLt (toP (rankD ys)) (toP (rankD xs)))) else none) = _
    rw [hp, hp, hal]
    rfl
  · rw [ht, ht] at h
    have h : PyProof.Rows.lexLt itemOrd (PySem.W.keyToksAll [.int (ys.length : Nat), .tuple (natsP ys)]) (PySem.W.keyToksAll [.int (xs.length : Nat), .tuple (natsP xs)]) = true := h
    have ha : PySem.W.alike (.int (ys.length : Nat)) (.int (xs.length : Nat)) = true := rfl
    cases hq : PyData.eqv (.int (ys.length : Nat)) (.int (xs.length : Nat)) with
    | false =>
      have h2 := (PySem.W.dataLt_all_no (xs := [.tuple (natsP ys)]) (ys := [.tuple (natsP xs)]) ha hq).symm.trans h
      rw [PySem.W.dataLt_int, decide_eq_true_eq] at h2
      exact .inl (by omega)
    | true =>
      have h2 := (PySem.W.dataLt_all_yes (xs := [.tuple (natsP ys)]) (ys := [.tuple (natsP xs)]) ha hq).symm.trans h
      rw [eqv_int, decide_eq_true_eq] at hq
      have ha2 : PySem.W.alike (.tuple (natsP ys)) (.tuple (natsP xs)) = true := alike_ints ys xs
      cases hq2 : PyData.eqv (.tuple (natsP ys)) (.tuple (natsP xs)) with
      | true =>
        have h3 := (PySem.W.dataLt_all_yes (xs := []) (ys := []) ha2 hq2).symm.trans h2
        simp [PySem.W.keyToksAll, lex_irrefl] at h3
      | false =>
        have h3 := (PySem.W.dataLt_all_no (xs := []) (ys := []) ha2 hq2).symm.trans h2
        exact .inr ⟨by omega, lex_val (by omega) hy h3⟩
/-! ### rows of links -/
section
variable {α : Type} [DecidableEq α]
def rowVal (B : Nat) (links : List (α × α × α)) (x : List α) : Nat := valD B (x.map (placeL links))
theorem placeL_le (links : List (α × α × α)) (l : α) : placeL links l ≤ links.length := List.findIdx_le_length
theorem row_dec {B : Nat} {links : List (α × α × α)} (hB : links.length + 1 < B) {ps : List (List α × List α)} (h : ∀ p ∈ ps, Bef B (p.2.map (placeL links)) (p.1.map (placeL links))) (x y : List α) (hs : Step ps x y) : rowVal B links y < rowVal B links x := by
  obtain ⟨a, b, l, s, m, rfl, rfl⟩ := hs
  unfold rowVal
  simp only [List.map_append]
  refine bef_ctx (by omega) (fun d hd => ?_) (h _ m) _ _
  obtain ⟨z, _, rfl⟩ := List.mem_map.mp hd
  have := placeL_le links z
  omega
theorem row_lt {B : Nat} {links : List (α × α × α)} (hB : links.length + 1 < B) (x : List α) : rowVal B links x < B ^ x.length := by
  have := valD_lt B (x.map (placeL links)) (fun d hd => by
    obtain ⟨z, _, rfl⟩ := List.mem_map.mp hd
    have := placeL_le links z
    omega)
  rwa [List.length_map] at this
/-- with a measure each row comes to an end -/
theorem short_ends {ps : List (List α × List α)} {μ : List α → Nat} (dec : ∀ x y, Step ps x y → μ y < μ x) : ∀ (n : Nat) (x : List α), μ x < n → ∃ r, shortL ps n x = some r
  | 0, _, h => by omega
  | n + 1, x, h => by
    unfold shortL
    cases hf : firstL ps x with
    | none => exact ⟨x, rfl⟩
    | some z =>
      have := dec _ _ (cut_step hf)
      exact short_ends dec n (cutL x z) (by omega)
end
end K02

set_option Elab.async false
set_option linter.all false
set_option maxRecDepth 100000
set_option maxHeartbeats 4000000
/-! why_no_shape of any parts that are well formed -/
namespace K02
open PySem PySem.Spec PyProof.Rows L2 LL
/-- parts of good form -/
structure Fm (kinds : List Str) (links : List (Str × Str × Str)) (rules : List Ru) : Prop where
  k1 : ∀ x ∈ kinds, Isw x ∧ Wrd x
  k2 : 1 ≤ kinds.length
  k3 : kinds.length ≤ 6
  l1 : ∀ k ∈ links, (Isw k.1 ∧ Isw k.2.1 ∧ Isw k.2.2) ∧ LkOk k
  l2 : links.length ≤ 12
  r1 : ∀ r ∈ rules, RuIs r ∧ RuOk r
  r2 : rules.length ≤ 12
theorem cS_all {xs : List Str} : ∀ i, i ≤ xs.length → cS xs i = i → (xs.take i).Nodup
  | 0, _, _ => by simp
  | i + 1, hi, h => by
    have hlt : i < xs.length := by omega
    have e : xs.getD i Str.empty = xs[i] := by rw [List.getD_eq_getElem?_getD, List.getElem?_eq_getElem hlt]; rfl
    have hle := cS_le xs i
    unfold cS at h
    split at h
    · omega
    · rename_i hn
      have ih := cS_all (xs := xs) i (by omega) (by omega)
      rw [List.take_succ, List.getElem?_eq_getElem hlt]
      refine List.nodup_append.mpr ⟨ih, by simp, fun a ha b hb hab => hn ?_⟩
      have hb2 : b = xs[i] := by simpa using hb
      rw [List.any_eq_true]
      exact ⟨a, ha, by rw [e, hab, hb2]; simp⟩
def namedB (kinds : List Str) (links : List (Str × Str × Str)) : Bool := !(decide (cS kinds kinds.length < kinds.length) || decide (cS (links.map (·.1)) (links.map (·.1)).length < (links.map (·.1)).length)) && links.all fun k => decide (k.2.1 ∈ kinds) && decide (k.2.2 ∈ kinds)
theorem namedB_ok {kinds : List Str} {links : List (Str × Str × Str)} (h : namedB kinds links = true) : kinds.Nodup ∧ (links.map (·.1)).Nodup ∧ ∀ k ∈ links, k.2.1 ∈ kinds ∧ k.2.2 ∈ kinds := by
  unfold namedB at h
  simp only [Bool.and_eq_true, Bool.not_eq_true', Bool.or_eq_false_iff, decide_eq_false_iff_not] at h
  obtain ⟨⟨h1, h2⟩, h3⟩ := h
  have l1 := cS_le kinds kinds.length
  have l2 := cS_le (links.map (·.1)) (links.map (·.1)).length
  have a := cS_all (xs := kinds) kinds.length (Nat.le_refl _) (by omega)
  have b := cS_all (xs := links.map (·.1)) (links.map (·.1)).length (Nat.le_refl _) (by omega)
  rw [List.take_length] at a b
  refine ⟨a, b, fun k hk => ?_⟩
  have := List.all_eq_true.mp h3 k hk
  simpa using this
theorem lenSet_tupA {xs : List Str} (hn : xs.length < 4000) : lenSetD (tv xs) = some (.int (cS xs xs.length : Nat)) := by
  show (strsD (xs.map D.str)).bind _ = _
  rw [strsD_sv]
  exact if_pos hn
theorem lenSet_lstA {xs : List Str} (hn : xs.length < 4000) : lenSetD (.lst (xs.map .str)) = some (.int (cS xs xs.length : Nat)) := by
  show (strsD (xs.map D.str)).bind _ = _
  rw [strsD_sv]
  exact if_pos hn
theorem eOr_b {f g : Sem} {S : List Sl} {cs : Cs} {a b : Bool} (h1 : f S cs = .ok (.bl a) cs) (h2 : g S cs = .ok (.bl b) cs) : eOr f g S cs = .ok (.bl (a || b)) cs := by
  cases a <;> simp [eOr, h1, h2, asB]
theorem eAnd_b {f g : Sem} {S : List Sl} {cs : Cs} {a b : Bool} (h1 : f S cs = .ok (.bl a) cs) (h2 : g S cs = .ok (.bl b) cs) : eAnd f g S cs = .ok (.bl (a && b)) cs := by
  cases a <;> simp [eAnd, h1, h2, asB]
theorem named_any {kinds : List Str} {links : List (Str × Str × Str)} (h4 : kinds.length < 1000) (h5 : links.length < 1000) (cs : Cs) :
    f_is_named [tv kinds, .tup (links.map lkD)] cs = .ok (.bl (namedB kinds links)) cs := by
  show fnRes (b_is_named [.val (tv kinds), .val (.tup (links.map lkD)), .un, .un] cs) = _
  unfold b_is_named
  have hl : lcLoop (gN 3) (eC (.bl true)) (eBin ixD (eVar 3) (eC (.int 0))) [.val (tv kinds), .val (.tup (links.map lkD)), .un, .un] (links.map lkD) cs = .ok (links.filterMap fun k => some (.str k.1)) cs :=
    lcLoop_filterMap lkD _ cs fun k hm => ⟨[.val (tv kinds), .val (.tup (links.map lkD)), .un, .val (lkD k)], rfl, rfl, eBin_ok (x := lkD k) (cs1 := cs) rfl rfl (L2.atI_nat (j := 0) rfl)⟩
  rw [List.filterMap_eq_map'] at hl
  have c1 := eLc_ok (its := iA (eVar 1)) (vs := [3]) (S := [.val (tv kinds), .val (.tup (links.map lkD)), .un, .un]) (ds := links.map lkD) (cs := cs) rfl (by simp; omega) hl
  have ew : (links.map fun k => D.str k.1) = (links.map (·.1)).map .str := by simp
  rw [ew] at c1
  rw [sSeq_nx (sSet_ok c1)]
  simp only [List.set_cons_succ, List.set_cons_zero]
  have n1 : eBin ltD (eLenSet (eVar 0)) (eCall lenD (eCons (eVar 0) (eNil))) [.val (tv kinds), .val (.tup (links.map lkD)), .val (.lst ((links.map (·.1)).map .str)), .un] cs = .ok (.bl (decide (cS kinds kinds.length < kinds.length))) cs :=
    eBin_ok (eLenSet_ok (eVar_ok rfl) (lenSet_tupA (by omega))) (eCall_ok (d := .int (kinds.length : Nat)) (eCons_ok (eVar_ok rfl) rfl) (by simp [lenD])) (by rw [ltD_int]; congr 3; exact propext (by omega))
  have n2 : eBin ltD (eLenSet (eVar 2)) (eCall lenD (eCons (eVar 2) (eNil))) [.val (tv kinds), .val (.tup (links.map lkD)), .val (.lst ((links.map (·.1)).map .str)), .un] cs = .ok (.bl (decide (cS (links.map (·.1)) (links.map (·.1)).length < (links.map (·.1)).length))) cs :=
    eBin_ok (eLenSet_ok (eVar_ok rfl) (lenSet_lstA (by simp; omega))) (eCall_ok (d := .int ((links.map (·.1)).length : Nat)) (eCons_ok (eVar_ok rfl) rfl) (by simp [lenD])) (by rw [ltD_int]; congr 3; exact propext (by omega))
  have n3 := eOr_b n1 n2
  unfold namedB
  cases hb : (decide (cS kinds kinds.length < kinds.length) || decide (cS (links.map (·.1)) (links.map (·.1)).length < (links.map (·.1)).length)) with
  | true =>
    rw [hb] at n3
    rw [sSeq_rt (by rw [sIf_t n3]; rfl)]
    rfl
  | false =>
    rw [hb] at n3
    rw [sSeq_nx (by rw [sIf_f n3]; rfl)]
    have hl2 : lcLoop (gN 3) (eC (.bl true)) (eAnd (eBin inD (eBin ixD (eVar 3) (eC (.int 1))) (eVar 0)) (eBin inD (eBin ixD (eVar 3) (eC (.int 2))) (eVar 0))) [.val (tv kinds), .val (.tup (links.map lkD)), .val (.lst ((links.map (·.1)).map .str)), .un] (links.map lkD) cs = .ok (links.filterMap fun k => some (.bl (decide (k.2.1 ∈ kinds) && decide (k.2.2 ∈ kinds)))) cs :=
      lcLoop_filterMap lkD _ cs fun k hm => by
        refine ⟨[.val (tv kinds), .val (.tup (links.map lkD)), .val (.lst ((links.map (·.1)).map .str)), .val (lkD k)], rfl, rfl, ?_⟩
        have i1 : eBin inD (eBin ixD (eVar 3) (eC (.int 1))) (eVar 0) [.val (tv kinds), .val (.tup (links.map lkD)), .val (.lst ((links.map (·.1)).map .str)), .val (lkD k)] cs = .ok (.bl (decide (k.2.1 ∈ kinds))) cs :=
          eBin_ok (x := .str k.2.1) (cs1 := cs) (eBin_ok (x := lkD k) (cs1 := cs) rfl rfl (L2.atI_nat (j := 1) rfl)) (eVar_ok rfl) (by show (inB (.str k.2.1) (tv kinds)).map _ = _; rw [in_tv]; rfl)
        have i2 : eBin inD (eBin ixD (eVar 3) (eC (.int 2))) (eVar 0) [.val (tv kinds), .val (.tup (links.map lkD)), .val (.lst ((links.map (·.1)).map .str)), .val (lkD k)] cs = .ok (.bl (decide (k.2.2 ∈ kinds))) cs :=
          eBin_ok (x := .str k.2.2) (cs1 := cs) (eBin_ok (x := lkD k) (cs1 := cs) rfl rfl (L2.atI_nat (j := 2) rfl)) (eVar_ok rfl) (by show (inB (.str k.2.2) (tv kinds)).map _ = _; rw [in_tv]; rfl)
        exact eAnd_b i1 i2
    rw [List.filterMap_eq_map'] at hl2
    have c2 := eLc_ok (its := iA (eVar 1)) (vs := [3]) (S := [.val (tv kinds), .val (.tup (links.map lkD)), .val (.lst ((links.map (·.1)).map .str)), .un]) (ds := links.map lkD) (cs := cs) rfl (by simp; omega) hl2
    have a2 := eCall_ok (eCons_ok (g := eNil) c2 rfl) (all_of (fun k => decide (k.2.1 ∈ kinds) && decide (k.2.2 ∈ kinds)) cs links)
    rw [sRet_ok a2]
    rfl
/-! ### a way's links are links -/
theorem stepE_nn {α : Type} [DecidableEq α] (links : List (α × α × α)) (l : α) : stepE links none l = none := by
  unfold stepE
  cases links.find? (fun k => decide (k.1 = l)) with
  | none => rfl
  | some k => simp
theorem endL_pl {α : Type} [DecidableEq α] {links : List (α × α × α)} : ∀ {ls : List α} {here : Option α} {e : α}, ls.foldl (stepE links) here = some e → ∀ l ∈ ls, placeL links l < links.length
  | [], _, _, _, l, hl => by simp at hl
  | l0 :: ls, here, e, h, l, hl => by
    rcases List.mem_cons.mp hl with rfl | hl
    · unfold placeL
      rw [List.findIdx_lt_length]
      cases hf : links.find? (fun k => decide (k.1 = l)) with
      | some k =>
        exact ⟨k, List.mem_of_find?_eq_some hf, by simpa using List.find?_some hf⟩
      | none =>
        exfalso
        have hs : stepE links here l = none := by
          unfold stepE
          rw [hf]
        have hn : ∀ xs : List α, xs.foldl (stepE links) none = none := fun xs => by
          induction xs with
          | nil => rfl
          | cons x xs ih => rw [List.foldl_cons, stepE_nn, ih]
        rw [List.foldl_cons, hs, hn] at h
        cases h
    · exact endL_pl (ls := ls) (by rw [List.foldl_cons] at h; exact h) l hl
theorem sides_pl {α : Type} [DecidableEq α] {kinds : List α} {links : List (α × α × α)} {r : (α × List α) × (α × List α)} (h : sidesL kinds links r = true) : (∀ l ∈ r.1.2, placeL links l < links.length) ∧ ∀ l ∈ r.2.2, placeL links l < links.length := by
  unfold sidesL at h
  cases h1 : endL kinds links r.1.1 r.1.2 with
  | none => rw [h1] at h; cases h
  | some e =>
    rw [h1] at h
    simp only [Bool.and_eq_true, decide_eq_true_eq] at h
    exact ⟨endL_pl h1, endL_pl (e := e) (h.2.symm ▸ rfl : endL kinds links r.2.1 r.2.2 = some e)⟩
/-! ### the order -/
def ordB (links : List (Str × Str × Str)) (r : Ru) : Bool := match gtD [] (rankD (r.1.2.map (placeL links))) (rankD (r.2.2.map (placeL links))) with
  | some (.bl b) => b
  | _ => false
theorem ordB_ok {links : List (Str × Str × Str)} (hl : links.length ≤ 12) (r : Ru) : gtD [] (rankD (r.1.2.map (placeL links))) (rankD (r.2.2.map (placeL links))) = some (.bl (ordB links r)) ∧ (ordB links r = true → Bef 14 (r.2.2.map (placeL links)) (r.1.2.map (placeL links))) := by
  obtain ⟨b, h1, h2⟩ := gt_rank (B := 14) (r.1.2.map (placeL links)) (r.2.2.map (placeL links)) fun d hd => by
    obtain ⟨z, _, rfl⟩ := List.mem_map.mp hd
    have := placeL_le links z
    omega
  have e : ordB links r = b := by
    unfold ordB
    rw [h1]
  rw [e]
  exact ⟨h1, h2⟩
/-! ### all that follows of the order -/
section
variable {kinds : List Str} {links : List (Str × Str × Str)} {rules : List Ru}
theorem fromL_ends (ps : List (List Str × List Str)) : ∀ (n : Nat) (layer found : List (List Str × Str)), 0 < n → 61 < n + found.length → ∃ r, fromL links ps n layer found = some r
  | 0, layer, found, h0, h => by omega
  | n + 1, layer, found, h0, h => by
    unfold fromL
    split
    · exact ⟨_, rfl⟩
    · rename_i hb
      simp only [Bool.or_eq_true, decide_eq_true_eq, not_or] at hb
      have : layer.length ≠ 0 := fun e => hb.1 (by rw [List.eq_nil_of_length_eq_zero e]; rfl)
      exact fromL_ends ps n _ _ (by omega) (by rw [List.length_append]; omega)
theorem Fm.ends (h : Fm kinds links rules) (ho : ∀ r ∈ rules, ordB links r = true) : (∀ r ∈ rules, r.2.2.length ≤ r.1.2.length) ∧ openEnds (prsOf rules) = true := by
  have hb : ∀ p ∈ prsOf rules, Bef 14 (p.2.map (placeL links)) (p.1.map (placeL links)) := fun p hp => by
    obtain ⟨r, hr, rfl⟩ := List.mem_map.mp hp
    exact (ordB_ok h.l2 r).2 (ho r hr)
  have hl2 := h.l2
  have dec := row_dec (B := 14) (links := links) (by omega) hb
  have hlen : ∀ p ∈ prsOf rules, p.1.length ≤ 6 ∧ p.2.length ≤ 6 := fun p hp => by
    obtain ⟨r, hr, rfl⟩ := List.mem_map.mp hp
    exact ⟨(h.r1 r hr).1.2.2.1, (h.r1 r hr).1.2.2.2⟩
  have ends : ∀ x : List Str, x.length ≤ 20 → ∃ r, shortL (prsOf rules) fu x = some r := fun x hx => by
    refine short_ends (μ := rowVal 14 links) dec fu x ?_
    have h1 := row_lt (B := 14) (links := links) (by omega) x
    have h2 : 14 ^ x.length ≤ 14 ^ 20 := Nat.pow_le_pow_right (by decide) hx
    have h3 : 14 ^ 20 < fu := by decide
    omega
  refine ⟨fun r hr => ?_, ?_⟩
  · rcases (ordB_ok h.l2 r).2 (ho r hr) with e | ⟨e, _⟩
    · simp only [List.length_map] at e; omega
    · simp only [List.length_map] at e; omega
  · unfold openEnds
    rw [List.all_eq_true]
    intro one h1
    rw [List.all_eq_true]
    intro other h2
    unfold liesEnds
    rw [List.all_eq_true]
    intro i hi
    unfold openAt
    split
    · have b1 := hlen one h1
      have b2 := hlen other h2
      obtain ⟨a, ea⟩ := ends (one.2 ++ other.1.drop (min (one.1.length - i) other.1.length)) (by simp only [List.length_append, List.length_drop]; omega)
      obtain ⟨b, eb⟩ := ends (one.1.take i ++ other.2 ++ one.1.drop (i + other.1.length)) (by simp only [List.length_append, List.length_drop, List.length_take]; omega)
      rw [ea, eb]
      rfl
    · rfl
end
end K02

set_option Elab.async false
set_option linter.all false
set_option maxRecDepth 100000
set_option maxHeartbeats 4000000
/-! why_no_shape of any parts that are well formed: what it tells -/
namespace K02
open PySem PySem.Spec PyProof.Rows L2 LL
def frO (links : List (Str × Str × Str)) (rules : List Ru) (k : Str) : List (List Str × Str) := (fromL links (prsOf rules) fu [([k], k)] []).getD []
theorem frO_ok (links : List (Str × Str × Str)) (rules : List Ru) (k : Str) : fromL links (prsOf rules) fu [([k], k)] [] = some (frO links rules k) := by
  obtain ⟨r, hr⟩ := fromL_ends (links := links) (prsOf rules) fu [([k], k)] [] (by decide) (by decide)
  unfold frO
  rw [hr]
  rfl
def whyR (kinds : List Str) (links : List (Str × Str × Str)) (rules : List Ru) : Option Str :=
  if namedB kinds links = true then (if (rules.all fun r => sidesL kinds links r) = true then (if (rules.all fun r => ordB links r) = true then (if isOpenL (prsOf rules) = true then some "open" else
    if (kinds.map fun k => ((frO links rules k).length : Int)).sum ≤ 60 then none else some "many") else some "order") else some "ends") else some "names"
section
variable {kinds : List Str} {links : List (Str × Str × Str)} {rules : List Ru}
theorem Fm.pr (h : Fm kinds links rules) : PrOk (prsOf rules) where
  w1 := fun p hp => by
    obtain ⟨r, hr, rfl⟩ := List.mem_map.mp hp
    exact fun x hx => (h.r1 r hr).2.1 x (List.mem_cons_of_mem _ hx)
  w2 := fun p hp => by
    obtain ⟨r, hr, rfl⟩ := List.mem_map.mp hp
    exact fun x hx => (h.r1 r hr).2.2.1 x (List.mem_cons_of_mem _ hx)
  l1 := fun p hp => by
    obtain ⟨r, hr, rfl⟩ := List.mem_map.mp hp
    have := (h.r1 r hr).1.2.2.1
    show r.1.2.length < 1000
    omega
  l2 := fun p hp => by
    obtain ⟨r, hr, rfl⟩ := List.mem_map.mp hp
    have := (h.r1 r hr).1.2.2.2
    show r.2.2.length < 1000
    omega
theorem Fm.le' (_ : Fm kinds links rules) (le : ∀ r ∈ rules, r.2.2.length ≤ r.1.2.length) : ∀ p ∈ prsOf rules, p.2.length ≤ p.1.length := fun p hp => by
  obtain ⟨r, hr, rfl⟩ := List.mem_map.mp hp
  exact le r hr
theorem Fm.pw (h : Fm kinds links rules) : ∀ p ∈ prsOf rules, PW p := fun p hp => by
  obtain ⟨r, hr, rfl⟩ := List.mem_map.mp hp
  have h3 := (h.r1 r hr).1.2.2.1
  have h4 := (h.r1 r hr).1.2.2.2
  exact ⟨fun x hx => (h.r1 r hr).2.1 x (List.mem_cons_of_mem _ hx), fun x hx => (h.r1 r hr).2.2.1 x (List.mem_cons_of_mem _ hx), by show r.1.2.length < 300; omega, by show r.2.2.length < 300; omega⟩
theorem why_any (h : Fm kinds links rules) (cs : Cs) : f_why_no_shape [tv kinds, .tup (links.map lkD), .tup (rules.map ruD)] cs = .ok (oD (whyR kinds links rules)) cs := by
  have hk : ∀ k ∈ links, LkOk k := fun k m => (h.l1 k m).2
  have rl := h.r2
  have ll := h.l2
  have kl := h.k3
  show fnRes (b_why_no_shape [.val (tv kinds), .val (.tup (links.map lkD)), .val (.tup (rules.map ruD)), .un, .un, .un, .un, .un, .un, .un, .un, .un, .un, .un, .un] cs) = _
  unfold b_why_no_shape
  have q1 : eNot (eTru (eFn (fnN 3 f_is_made) (eCons (eVar 0) (eCons (eVar 1) (eCons (eVar 2) (eNil)))) [])) [.val (tv kinds), .val (.tup (links.map lkD)), .val (.tup (rules.map ruD)), .un, .un, .un, .un, .un, .un, .un, .un, .un, .un, .un, .un] cs = .ok (.bl false) cs :=
    eNot_b (eFn_ok (eCons_ok (eVar_ok rfl) (eCons_ok (eVar_ok rfl) (eCons_ok (eVar_ok rfl) rfl))) ((fnN_ok (n := 3) rfl).trans (made_ok (fun x m => (h.k1 x m).1) h.k2 h.k3 (fun k m => (h.l1 k m).1) h.l2 (fun r m => (h.r1 r m).1) h.r2 cs)))
  rw [sSeq_nx (by rw [sIf_f q1]; rfl)]
  have q2 : eNot (eTru (eFn (fnN 2 f_is_named) (eCons (eVar 0) (eCons (eVar 1) (eNil))) [])) [.val (tv kinds), .val (.tup (links.map lkD)), .val (.tup (rules.map ruD)), .un, .un, .un, .un, .un, .un, .un, .un, .un, .un, .un, .un] cs = .ok (.bl (!namedB kinds links)) cs :=
    eNot_b (eFn_ok (eCons_ok (eVar_ok rfl) (eCons_ok (eVar_ok rfl) rfl)) ((fnN_ok (n := 2) rfl).trans (named_any (kinds := kinds) (links := links) (by omega) (by omega) cs)))
  unfold whyR
  cases hnm : namedB kinds links with
  | false =>
    rw [hnm] at q2
    rw [sSeq_rt (by rw [sIf_t q2]; rfl)]
    rfl
  | true =>
  rw [hnm] at q2
  rw [if_pos rfl]
  obtain ⟨n1, n2, n3⟩ := namedB_ok hnm
  rw [sSeq_nx (by rw [sIf_f q2]; rfl)]
  rw [sSeq_nx (sSet_ok (ends_comp n2 (i := 1) (a := 4) (b := 5) (c := 6) cs rfl (by omega) (fun k hk => ⟨_, rfl, rfl, rfl, rfl⟩)))]
  simp only [List.set_cons_succ, List.set_cons_zero]
  have hs : lcLoop (gN 7) (eC (.bl true)) (eFn (fnN 3 f_are_sides) (eCons (eVar 0) (eCons (eVar 3) (eCons (eVar 7) (eNil)))) []) [.val (tv kinds), .val (.tup (links.map lkD)), .val (.tup (rules.map ruD)), .val (endsD links), .un, .un, .un, .un, .un, .un, .un, .un, .un, .un, .un] (rules.map ruD) cs = .ok (rules.filterMap fun r => some (.bl (sidesL kinds links r))) cs :=
    lcLoop_filterMap ruD _ cs fun r hr => by
      refine ⟨[.val (tv kinds), .val (.tup (links.map lkD)), .val (.tup (rules.map ruD)), .val (endsD links), .un, .un, .un, .val (ruD r), .un, .un, .un, .un, .un, .un, .un], rfl, rfl, ?_⟩
      have := sides_ok (kinds := kinds) hk (h.r1 r hr).2 cs
      exact eFn_ok (eCons_ok (eVar_ok rfl) (eCons_ok (eVar_ok rfl) (eCons_ok (eVar_ok rfl) rfl))) ((fnN_ok (n := 3) rfl).trans this)
  rw [List.filterMap_eq_map'] at hs
  have cs1 := eLc_ok (its := iA (eVar 2)) (vs := [7]) (S := [.val (tv kinds), .val (.tup (links.map lkD)), .val (.tup (rules.map ruD)), .val (endsD links), .un, .un, .un, .un, .un, .un, .un, .un, .un, .un, .un]) (ds := rules.map ruD) (cs := cs) rfl (by simp; omega) hs
  have al := eCall_ok (eCons_ok (g := eNil) cs1 rfl) (all_of (fun r => sidesL kinds links r) cs rules)
  cases hsd : rules.all fun r => sidesL kinds links r with
  | false =>
    rw [hsd] at al
    rw [sSeq_rt (by rw [sIf_t (eNot_b al)]; rfl)]
    rfl
  | true =>
  rw [hsd] at al
  rw [if_pos rfl]
  have sd : ∀ r ∈ rules, sidesL kinds links r = true := fun r hr => List.all_eq_true.mp hsd r hr
  rw [sSeq_nx (by rw [sIf_f (eNot_b al)]; rfl)]
  have hpl := dcLoop_map (g := gT (gsC (gN 9) (gsC (gN 10) gs0))) (c := eC (.bl true)) (fk := eBin ixD (eVar 10) (eC (.int 0))) (fv := eVar 9) (S := [.val (tv kinds), .val (.tup (links.map lkD)), .val (.tup (rules.map ruD)), .val (endsD links), .un, .un, .un, .un, .un, .un, .un, .un, .un, .un, .un])
    (fun p : (Str × Str × Str) × Nat => .tup [.int (p.2 : Nat), lkD p.1]) (fun p => p.1.1) (fun p => .int (p.2 : Nat)) cs (l := links.zipIdx 0) (ks := []) (vs := []) rfl (by
      have : (links.zipIdx 0).map (fun p => p.1.1) = links.map (·.1) := by
        rw [show (fun p : (Str × Str × Str) × Nat => p.1.1) = (fun k => k.1) ∘ Prod.fst from rfl, ← List.map_map, List.zipIdx_map_fst]
      rw [this]
      simpa using n2) (fun p hp => ⟨[.val (tv kinds), .val (.tup (links.map lkD)), .val (.tup (rules.map ruD)), .val (endsD links), .un, .un, .un, .un, .un, .val (.int (p.2 : Nat)), .val (lkD p.1), .un, .un, .un, .un], rfl, rfl, eBin_ok (x := lkD p.1) (cs1 := cs) rfl rfl (L2.atI_nat (j := 0) rfl), rfl⟩)
  have qp : eDc (iE (eCons (eVar 1) (eNil))) (gT (gsC (gN 9) (gsC (gN 10) (gs0)))) (eC (.bl true)) (eBin ixD (eVar 10) (eC (.int 0))) (eVar 9) [9, 10] [.val (tv kinds), .val (.tup (links.map lkD)), .val (.tup (rules.map ruD)), .val (endsD links), .un, .un, .un, .un, .un, .un, .un, .un, .un, .un, .un] cs = .ok (placesD links) cs := by
    have ei : iE (eCons (eVar 1) eNil) [.val (tv kinds), .val (.tup (links.map lkD)), .val (.tup (rules.map ruD)), .val (endsD links), .un, .un, .un, .un, .un, .un, .un, .un, .un, .un, .un] cs = .ok ((links.zipIdx 0).map fun p => .tup [.int (p.2 : Nat), lkD p.1]) cs := by
      rw [← enum_map]
      rfl
    rw [eDc_ok ei (by simp; omega) hpl]
    have f1 : (links.zipIdx 0).map (fun p => D.str p.1.1) = links.map fun k => D.str k.1 := by
      rw [show (fun p : (Str × Str × Str) × Nat => D.str p.1.1) = (fun k => D.str k.1) ∘ Prod.fst from rfl, ← List.map_map, List.zipIdx_map_fst]
    have f2 : (links.zipIdx 0).map (fun p => D.int (p.2 : Nat)) = (List.range links.length).map fun i => D.int (i : Nat) := by
      rw [show (fun p : (Str × Str × Str) × Nat => D.int (p.2 : Nat)) = (fun i : Nat => D.int (i : Nat)) ∘ Prod.snd from rfl, ← List.map_map, List.zipIdx_map_snd, List.range_eq_range']
    simp only [List.nil_append, List.map_map, placesD]
    rw [← f1, ← f2]
    rfl
  rw [sSeq_nx (sSet_ok qp)]
  simp only [List.set_cons_succ, List.set_cons_zero]
  have hord : lcLoop (gT (gsC (gN 11) (gsC (gN 12) (gs0)))) (eC (.bl true)) (eBin gtD (eFn (fnN 2 f_rank_of) (eCons (eVar 8) (eCons (eSl (eVar 11) (oSome (eC (.int 1))) oNone) (eNil))) []) (eFn (fnN 2 f_rank_of) (eCons (eVar 8) (eCons (eSl (eVar 12) (oSome (eC (.int 1))) oNone) (eNil))) []))
      [.val (tv kinds), .val (.tup (links.map lkD)), .val (.tup (rules.map ruD)), .val (endsD links), .un, .un, .un, .un, .val (placesD links), .un, .un, .un, .un, .un, .un] (rules.map ruD) cs = .ok (rules.filterMap fun r => some (.bl (ordB links r))) cs :=
    lcLoop_filterMap ruD _ cs fun r hr => by
      refine ⟨[.val (tv kinds), .val (.tup (links.map lkD)), .val (.tup (rules.map ruD)), .val (endsD links), .un, .un, .un, .un, .val (placesD links), .un, .un, .val (tv (r.1.1 :: r.1.2)), .val (tv (r.2.1 :: r.2.2)), .un, .un], rfl, rfl, ?_⟩
      have b1 := (h.r1 r hr).1.2.2.1
      have b2 := (h.r1 r hr).1.2.2.2
      exact eBin_ok (eFn_ok (eCons_ok (eVar_ok rfl) (eCons_ok (eSl_ok (eVar_ok rfl) (oSome_ok (i := ((1 : Nat) : Int)) rfl) rfl (from_sv (r.1.1 :: r.1.2) 1)) rfl)) ((fnN_ok (n := 2) rfl).trans (rank_ok (sides_pl (sd r hr)).1 (by omega) cs)))
        (eFn_ok (eCons_ok (eVar_ok rfl) (eCons_ok (eSl_ok (eVar_ok rfl) (oSome_ok (i := ((1 : Nat) : Int)) rfl) rfl (from_sv (r.2.1 :: r.2.2) 1)) rfl)) ((fnN_ok (n := 2) rfl).trans (rank_ok (sides_pl (sd r hr)).2 (by omega) cs))) (ordB_ok h.l2 r).1
  rw [List.filterMap_eq_map'] at hord
  have co := eLc_ok (its := iA (eVar 2)) (vs := [11, 12]) (S := [.val (tv kinds), .val (.tup (links.map lkD)), .val (.tup (rules.map ruD)), .val (endsD links), .un, .un, .un, .un, .val (placesD links), .un, .un, .un, .un, .un, .un]) (ds := rules.map ruD) (cs := cs) rfl (by simp; omega) hord
  have ao := eCall_ok (eCons_ok (g := eNil) co rfl) (all_of (fun r => ordB links r) cs rules)
  cases hod : rules.all fun r => ordB links r with
  | false =>
    rw [hod] at ao
    rw [sSeq_rt (by rw [sIf_t (eNot_b ao)]; rfl)]
    rfl
  | true =>
  rw [hod] at ao
  rw [if_pos rfl]
  have od : ∀ r ∈ rules, ordB links r = true := fun r hr => List.all_eq_true.mp hod r hr
  obtain ⟨le, oe⟩ := h.ends od
  rw [sSeq_nx (by rw [sIf_f (eNot_b ao)]; rfl)]
  rw [sSeq_nx (sSet_ok (pairs_comp (rules := rules) (by omega) (i := 2) (a := 11) (b := 12) cs rfl (fun r hr => ⟨_, rfl, rfl, rfl⟩)))]
  simp only [List.set_cons_succ, List.set_cons_zero]
  have qo : eTru (eFn (fnN 1 f_is_open) (eCons (eVar 13) (eNil)) []) [.val (tv kinds), .val (.tup (links.map lkD)), .val (.tup (rules.map ruD)), .val (endsD links), .un, .un, .un, .un, .val (placesD links), .un, .un, .un, .un, .val (prs (prsOf rules)), .un] cs = .ok (.bl (isOpenL (prsOf rules))) cs := by
    have := is_open_ok h.pr (h.le' le) h.pw (by simp; omega) oe cs
    exact tru_b (eFn_ok (eCons_ok (eVar_ok rfl) rfl) ((fnN_ok (n := 1) rfl).trans this))
  cases hop : isOpenL (prsOf rules) with
  | true =>
    rw [hop] at qo
    rw [sSeq_rt (by rw [sIf_t qo]; rfl)]
    rfl
  | false =>
  rw [hop] at qo
  rw [if_neg Bool.false_ne_true]
  rw [sSeq_nx (by rw [sIf_f qo]; rfl)]
  have hm : lcLoop (gN 14) (eC (.bl true)) (eCall lenD (eCons (eFn (fnN 3 f_plain_from) (eCons (eVar 14) (eCons (eVar 1) (eCons (eVar 13) (eNil)))) []) (eNil)))
      [.val (tv kinds), .val (.tup (links.map lkD)), .val (.tup (rules.map ruD)), .val (endsD links), .un, .un, .un, .un, .val (placesD links), .un, .un, .un, .un, .val (prs (prsOf rules)), .un] (kinds.map .str) cs = .ok (kinds.filterMap fun k => some (.int ((frO links rules k).length : Nat))) cs :=
    lcLoop_filterMap D.str _ cs fun k hkm => by
      refine ⟨[.val (tv kinds), .val (.tup (links.map lkD)), .val (.tup (rules.map ruD)), .val (endsD links), .un, .un, .un, .un, .val (placesD links), .un, .un, .un, .un, .val (prs (prsOf rules)), .val (.str k)], rfl, rfl, ?_⟩
      exact eCall_ok (eCons_ok (eFn_ok (eCons_ok (eVar_ok rfl) (eCons_ok (eVar_ok rfl) (eCons_ok (eVar_ok rfl) rfl))) ((fnN_ok (n := 3) rfl).trans (plain_from_ok h.pr (by simp; omega) hk (by omega) (h.k1 k hkm).2 (frO_ok links rules k) cs))) rfl) (by simp [lenD])
  rw [List.filterMap_eq_map'] at hm
  have cm := eLc_ok (its := iA (eVar 0)) (vs := [14]) (S := [.val (tv kinds), .val (.tup (links.map lkD)), .val (.tup (rules.map ruD)), .val (endsD links), .un, .un, .un, .un, .val (placesD links), .un, .un, .un, .un, .val (prs (prsOf rules)), .un]) (ds := kinds.map .str) (cs := cs) rfl (by simp; omega) hm
  have sm := eCall_ok (eCons_ok (g := eNil) cm rfl) (sum_of (fun k => ((frO links rules k).length : Int)) cs kinds)
  by_cases hmn : (kinds.map fun k => ((frO links rules k).length : Int)).sum ≤ 60
  · have g := eBin_ok (op := gtD) (g := eC (.int 60)) sm rfl (by rw [gt_int, decide_eq_false (by omega)])
    rw [sRet_ok ((eIf_f' g).trans rfl), if_pos hmn]
    rfl
  · have g := eBin_ok (op := gtD) (g := eC (.int 60)) sm rfl (by rw [gt_int, decide_eq_true (by omega)])
    rw [sRet_ok ((eIf_t' g).trans rfl), if_neg hmn]
    rfl
theorem Fm.shape (h : Fm kinds links rules) (hw : whyR kinds links rules = none) : ShOk kinds links rules (frO links rules) := by
  unfold whyR at hw
  split at hw
  · rename_i hnm
    split at hw
    · rename_i hsd
      split at hw
      · rename_i hod
        split at hw
        · cases hw
        · rename_i hop
          split at hw
          · rename_i hmn
            obtain ⟨n1, n2, n3⟩ := namedB_ok hnm
            have sd : ∀ r ∈ rules, sidesL kinds links r = true := fun r hr => List.all_eq_true.mp hsd r hr
            have od : ∀ r ∈ rules, ordB links r = true := fun r hr => List.all_eq_true.mp hod r hr
            obtain ⟨le, oe⟩ := h.ends od
            exact ⟨h.k1, h.k2, h.k3, h.l1, h.l2, h.r1, h.r2, n1, n2, n3, sd, fun r hr => sides_pl (sd r hr), fun r hr => by rw [(ordB_ok h.l2 r).1, od r hr], le, oe, by simpa using hop, fun k _ => frO_ok links rules k, hmn⟩
          · cases hw
      · cases hw
    · cases hw
  · cases hw
/-- parts that make a shape -/
theorem why_none (h : Fm kinds links rules) {fr : Str → List (List Str × Str)} (S : ShOk kinds links rules fr) : whyR kinds links rules = none := by
  have e := (why_ok S []).symm.trans (why_any h [])
  cases hw : whyR kinds links rules with
  | none => rfl
  | some s => rw [hw] at e; cases e
end
end K02

set_option Elab.async false
set_option linter.all false
set_option maxRecDepth 100000
set_option maxHeartbeats 4000000
/-! the gallery's shapes over twelve signs, and what is looked at of them -/
namespace K02
open PySem PySem.Spec PyProof.Rows L2 LL
abbrev Sg := Fin 12
abbrev RuS := (Sg × List Sg) × (Sg × List Sg)
structure Can where
  kinds : List Sg
  links : List (Sg × Sg × Sg)
  rules : List RuS
/-- the signs' letters -/
def lettL : List Str := ["A", "B", "C", "D", "E", "a", "b", "c", "d", "e", "-", "--"]
def lett (x : Sg) : Str := lettL.getD x.val ""
def canD (f : Sg → Str) (c : Can) : D := partsD (c.kinds.map f) (c.links.map (mpK f)) (c.rules.map (mpR f))
def turns (p : Nat) : RuS := ((0, List.replicate p 5), (0, []))
def twice (q : Nat) : RuS := ((0, List.replicate q 6), (0, []))
def gal (o p q : Nat) : Can := match o with
  | 0 => ⟨[0, 1], [(5, 0, 1), (6, 0, 1)], []⟩
  | 1 => ⟨[0, 1], [(5, 0, 1), (6, 0, 1)], [((0, [6]), (0, [5]))]⟩
  | 2 => ⟨[0, 1, 2], [(5, 0, 1), (6, 1, 2), (7, 0, 2)], [((0, [5, 6]), (0, [7]))]⟩
  | 3 => ⟨[0, 1], [], []⟩
  | 4 => ⟨[0, 1], [(5, 0, 0), (6, 0, 1)], [((0, [5, 5]), (0, [5])), ((0, [5, 6]), (0, [6]))]⟩
  | 5 => ⟨[0, 1], [(5, 0, 1), (6, 1, 0)], [((0, [5, 6]), (0, []))]⟩
  | 6 => ⟨[0, 1], [(5, 0, 1), (6, 0, 1), (7, 1, 0)], [((1, [7, 5]), (1, [])), ((1, [7, 6]), (1, []))]⟩
  | 7 => ⟨[0, 1, 2, 3], [(5, 0, 1), (6, 1, 3), (7, 0, 2), (8, 2, 3)], [((0, [7, 8]), (0, [5, 6]))]⟩
  | 8 => ⟨[0], [(5, 0, 0)], [turns p]⟩
  | 9 => ⟨[0], [(5, 0, 0)], [((0, [5, 5, 5]), (0, [5, 5]))]⟩
  | 10 => ⟨[0], [(5, 0, 0)], [turns p]⟩
  | 11 => ⟨[0], [(5, 0, 0), (6, 0, 0)], [turns p, twice q, ((0, [6, 5]), (0, [5, 6]))]⟩
  | 12 => ⟨[0], [(5, 0, 0), (6, 0, 0)], [((0, [5, 5]), (0, [5])), ((0, [6, 6]), (0, [6])), ((0, [6, 5]), (0, [5, 6]))]⟩
  | 13 => ⟨[0], [(5, 0, 0), (6, 0, 0)], [((0, [5, 5]), (0, [5])), ((0, [5, 6]), (0, [5])), ((0, [6, 5]), (0, [6])), ((0, [6, 6]), (0, [6]))]⟩
  | 14 => ⟨[0], [(5, 0, 0), (6, 0, 0)], [((0, [5, 5, 5]), (0, [])), ((0, [6, 6]), (0, [])), ((0, [5, 5, 6]), (0, [6, 5])), ((0, [5, 6, 5]), (0, [6])), ((0, [6, 5, 5]), (0, [5, 6])), ((0, [6, 5, 6]), (0, [5, 5]))]⟩
  | 16 => ⟨[0, 1], [(5, 0, 1), (6, 1, 0)], [((0, [5, 6]), (0, [])), ((1, [6, 5]), (1, []))]⟩
  | _ => ⟨[0, 1], [(5, 0, 0), (6, 0, 1)], [turns p]⟩
/-- a third kind with a link into it -/
def addE (c : Can) (s : Sg) : Can := ⟨c.kinds ++ [4], c.links ++ [(9, s, 4)], c.rules⟩
def prsC (rules : List RuS) : Prs Sg := rules.map fun r => (r.1.2, r.2.2)
def frC (c : Can) (k : Sg) : Option (List (List Sg × Sg)) := fromL c.links (prsC c.rules) fu [([k], k)] []
def gtB (a b : D) : Bool := match gtD [] a b with
  | some (.bl true) => true
  | _ => false
theorem gtB_t {a b : D} (h : gtB a b = true) : gtD [] a b = some (.bl true) := by
  unfold gtB at h
  split at h
  · assumption
  · cases h
/-- how long the ways may be -/
def lenC (c : Can) : Nat := c.kinds.foldl (fun m k => ((frC c k).getD []).foldl (fun m w => max m (3 * (w.1.length - 1))) m) 18
def wtC (c : Can) : Bool :=
  (wOk 2 (placeL c.links) (prsC c.rules) && decide (2 * lenC c + lenC c * (lenC c + 1) * c.links.length / 2 < 1000)) ||
  (wOk 1 (fun _ => 0) (prsC c.rules) && decide (lenC c < 1000))
/-- the names in order: kinds, links, the rest -/
def ordC (c : Can) : List Sg := c.kinds ++ c.links.map (·.1)
def allSg : List Sg := [0, 1, 2, 3, 4, 5, 6, 7, 8, 9, 10, 11]
def ordAll (c : Can) : List Sg := ordC c ++ allSg.filter fun x => !(ordC c).contains x
def idxC (c : Can) (x : Sg) : Nat := (ordAll c).findIdx fun y => decide (y = x)
def chk (c : Can) : Bool :=
  decide (1 ≤ c.kinds.length) && decide (c.kinds.length ≤ 6) && decide (c.links.length ≤ 12) && decide (c.rules.length ≤ 12) &&
  decide c.kinds.Nodup && decide (c.links.map (·.1)).Nodup && (c.links.all fun k => decide (k.2.1 ∈ c.kinds) && decide (k.2.2 ∈ c.kinds)) &&
  (c.rules.all fun r => decide (r.1.2.length ≤ 6) && decide (r.2.2.length ≤ 6) && decide (r.2.2.length ≤ r.1.2.length) && sidesL c.kinds c.links r && (r.1.2.all fun l => decide (placeL c.links l < c.links.length)) && (r.2.2.all fun l => decide (placeL c.links l < c.links.length)) &&
    gtB (rankD (r.1.2.map (placeL c.links))) (rankD (r.2.2.map (placeL c.links))) && !r.1.2.isEmpty) &&
  openEnds (prsC c.rules) && !isOpenL (prsC c.rules) && (c.kinds.all fun k => (frC c k).isSome && ((frC c k).getD []).all fun w => decide (3 * (w.1.length - 1) ≤ lenC c)) &&
  decide ((c.kinds.map fun k => ((frC c k).getD []).length).sum ≤ 60) && decide (18 ≤ lenC c) && decide (lenC c ≤ 80) && wtC c
def chkN (c : Can) : Bool := decide (ordC c).Nodup && decide ((ordC c).length ≤ 12) && (allSg.all fun x => decide (idxC c x < 12)) && (allSg.all fun x => allSg.all fun y => decide (idxC c x = idxC c y → x = y)) &&
  ((List.range (ordC c).length).all fun i => (ordC c)[i]?.all fun x => decide (idxC c x = i)) && (c.rules.all fun r => decide (r.1.1 ∈ ordC c) && decide (r.2.1 ∈ ordC c) && (r.1.2.all fun l => decide (l ∈ ordC c)) && (r.2.2.all fun l => decide (l ∈ ordC c)))
def lenB (c : Can) : Bool := decide (c.kinds.length ≤ 5) && decide (c.links.length ≤ 11) && decide (c.rules.length ≤ 11)
def chk2 (c : Can) : Bool := (chk c && lenB c) && chkN c
/-- one of the gallery, with or without the third kind -/
def chkE (c : Can) : Bool := chk2 c && c.kinds.all fun s => chk2 (addE c s)
def galsP : List Can := [gal 0 2 2, gal 1 2 2, gal 2 2 2, gal 3 2 2, gal 4 2 2, gal 5 2 2, gal 6 2 2, gal 7 2 2, gal 9 2 2, gal 12 2 2, gal 13 2 2, gal 14 2 2, gal 16 2 2]
theorem c_0 : galsP.all chkE = true := by decide +kernel
theorem c_8 : ([2, 3, 4, 5].all fun p => chkE (gal 8 p 2)) = true := by decide +kernel
theorem c_15 : ([2, 3, 4, 5].all fun p => chkE (gal 15 p 2)) = true := by decide +kernel
theorem c_11 : ([2, 3, 4, 5].all fun p => [2, 3, 4].all fun q => chkE (gal 11 p q)) = true := by decide +kernel
theorem gal_chk {o p q : Nat} (ho : o < 17) (hp : p < 4) (hq : q < 3) : chkE (gal o (p + 2) (q + 2)) = true := by
  have hp' : p + 2 ∈ [2, 3, 4, 5] := by
    simp only [List.mem_cons, List.not_mem_nil, or_false]
    omega
  have hq' : q + 2 ∈ [2, 3, 4] := by
    simp only [List.mem_cons, List.not_mem_nil, or_false]
    omega
  have c0 := List.all_eq_true.mp c_0
  have c8 := List.all_eq_true.mp c_8 _ hp'
  have c15 := List.all_eq_true.mp c_15 _ hp'
  have c11 := List.all_eq_true.mp (List.all_eq_true.mp c_11 _ hp') _ hq'
  match o, ho with
  | 0, _ => exact c0 (gal 0 2 2) (by simp [galsP])
  | 1, _ => exact c0 (gal 1 2 2) (by simp [galsP])
  | 2, _ => exact c0 (gal 2 2 2) (by simp [galsP])
  | 3, _ => exact c0 (gal 3 2 2) (by simp [galsP])
  | 4, _ => exact c0 (gal 4 2 2) (by simp [galsP])
  | 5, _ => exact c0 (gal 5 2 2) (by simp [galsP])
  | 6, _ => exact c0 (gal 6 2 2) (by simp [galsP])
  | 7, _ => exact c0 (gal 7 2 2) (by simp [galsP])
  | 8, _ => exact c8
  | 9, _ => exact c0 (gal 9 2 2) (by simp [galsP])
  | 10, _ => exact c8
  | 11, _ => exact c11
  | 12, _ => exact c0 (gal 12 2 2) (by simp [galsP])
  | 13, _ => exact c0 (gal 13 2 2) (by simp [galsP])
  | 14, _ => exact c0 (gal 14 2 2) (by simp [galsP])
  | 15, _ => exact c15
  | 16, _ => exact c0 (gal 16 2 2) (by simp [galsP])
  | n + 17, h => exact absurd h (by omega)
end K02

set_option Elab.async false
set_option linter.all false
set_option maxRecDepth 100000
set_option maxHeartbeats 4000000
/-! the gallery of shapes, option by option (printed by gal05.py) -/
namespace K02
open PySem PySem.Spec PyProof.Rows L2 LL
def galA : Cm := sSet 1 (eFn (fnN 2 f_law_digit) (eCons (eVar 0) (eCons (eC (.int 17)) (eNil))) [])
def galB : Cm := sPar 2 3 (eCons (eBin addD (eC (.int 2)) (eFn (fnN 2 f_law_digit) (eCons (eVar 0) (eCons (eC (.int 4)) (eNil))) [])) (eCons (eBin addD (eC (.int 2)) (eFn (fnN 2 f_law_digit) (eCons (eVar 0) (eCons (eC (.int 3)) (eNil))) [])) (eNil)))
def gal4 : Cm := sSet 4 (eTup (eCons (eBin addD (eTup (eCons (eC (.str "A")) (eNil))) (eBin mulD (eTup (eCons (eC (.str "a")) (eNil))) (eVar 2))) (eCons (eTup (eCons (eC (.str "A")) (eNil))) (eNil))))
def gal5 : Cm := sSet 5 (eTup (eCons (eBin addD (eTup (eCons (eC (.str "A")) (eNil))) (eBin mulD (eTup (eCons (eC (.str "b")) (eNil))) (eVar 3))) (eCons (eTup (eCons (eC (.str "A")) (eNil))) (eNil))))
def galR : Cm := sSeq (sSet 6 (eTup (eCons (eTup (eCons (eC (.str "a")) (eCons (eC (.str "A")) (eCons (eC (.str "A")) (eNil))))) (eCons (eTup (eCons (eC (.str "b")) (eCons (eC (.str "A")) (eCons (eC (.str "A")) (eNil))))) (eNil)))))
  (sSeq (sSet 7 (eTup (eCons (eTup (eCons (eC (.str "a")) (eCons (eC (.str "A")) (eCons (eC (.str "B")) (eNil))))) (eCons (eTup (eCons (eC (.str "b")) (eCons (eC (.str "A")) (eCons (eC (.str "B")) (eNil))))) (eNil)))))
  (sSeq (sIf (eBin ltD (eVar 1) (eC (.int 4)))
  (sSeq (sSet 8 (eTup (eCons (eTup (eCons (eC (.str "a")) (eCons (eC (.str "A")) (eCons (eC (.str "B")) (eNil))))) (eCons (eTup (eCons (eC (.str "b")) (eCons (eC (.str "B")) (eCons (eC (.str "C")) (eNil))))) (eCons (eTup (eCons (eC (.str "c")) (eCons (eC (.str "A")) (eCons (eC (.str "C")) (eNil))))) (eNil))))))
  (sSeq (sOwn 9 (eCons (eTup (eCons (eTup (eCons (eC (.str "A")) (eCons (eC (.str "B")) (eNil)))) (eCons (eVar 7) (eCons (eTup (eNil)) (eNil))))) (eCons (eTup (eCons (eTup (eCons (eC (.str "A")) (eCons (eC (.str "B")) (eNil)))) (eCons (eVar 7) (eCons (eTup (eCons (eTup (eCons (eTup (eCons (eC (.str "A")) (eCons (eC (.str "b")) (eNil)))) (eCons (eTup (eCons (eC (.str "A")) (eCons (eC (.str "a")) (eNil)))) (eNil)))) (eNil))) (eNil))))) (eNil))))
  (sSeq (sApp 9 (eTup (eCons (eTup (eCons (eC (.str "A")) (eCons (eC (.str "B")) (eCons (eC (.str "C")) (eNil))))) (eCons (eVar 8) (eCons (eTup (eCons (eTup (eCons (eTup (eCons (eC (.str "A")) (eCons (eC (.str "a")) (eCons (eC (.str "b")) (eNil))))) (eCons (eTup (eCons (eC (.str "A")) (eCons (eC (.str "c")) (eNil)))) (eNil)))) (eNil))) (eNil))))))
  (sFrz [9] (sRet (eBin ixD (eBin addD (eVar 9) (eLst (eCons (eTup (eCons (eTup (eCons (eC (.str "A")) (eCons (eC (.str "B")) (eNil)))) (eCons (eTup (eNil)) (eCons (eTup (eNil)) (eNil))))) (eNil)))) (eVar 1)))))))
  (sNil))
  (sSeq (sIf (eBin ltD (eVar 1) (eC (.int 8)))
  (sSeq (sSet 10 (eTup (eCons (eTup (eCons (eTup (eCons (eC (.str "A")) (eCons (eC (.str "a")) (eCons (eC (.str "a")) (eNil))))) (eCons (eTup (eCons (eC (.str "A")) (eCons (eC (.str "a")) (eNil)))) (eNil)))) (eCons (eTup (eCons (eTup (eCons (eC (.str "A")) (eCons (eC (.str "a")) (eCons (eC (.str "b")) (eNil))))) (eCons (eTup (eCons (eC (.str "A")) (eCons (eC (.str "b")) (eNil)))) (eNil)))) (eNil)))))
  (sSeq (sOwn 9 (eCons (eTup (eCons (eTup (eCons (eC (.str "A")) (eCons (eC (.str "B")) (eNil)))) (eCons (eTup (eCons (eTup (eCons (eC (.str "a")) (eCons (eC (.str "A")) (eCons (eC (.str "A")) (eNil))))) (eCons (eTup (eCons (eC (.str "b")) (eCons (eC (.str "A")) (eCons (eC (.str "B")) (eNil))))) (eNil)))) (eCons (eVar 10) (eNil))))) (eNil)))
  (sSeq (sApp 9 (eTup (eCons (eTup (eCons (eC (.str "A")) (eCons (eC (.str "B")) (eNil)))) (eCons (eTup (eCons (eTup (eCons (eC (.str "a")) (eCons (eC (.str "A")) (eCons (eC (.str "B")) (eNil))))) (eCons (eTup (eCons (eC (.str "b")) (eCons (eC (.str "B")) (eCons (eC (.str "A")) (eNil))))) (eNil)))) (eCons (eTup (eCons (eTup (eCons (eTup (eCons (eC (.str "A")) (eCons (eC (.str "a")) (eCons (eC (.str "b")) (eNil))))) (eCons (eTup (eCons (eC (.str "A")) (eNil))) (eNil)))) (eNil))) (eNil))))))
  (sSeq (sSet 11 (eTup (eCons (eTup (eCons (eTup (eCons (eC (.str "B")) (eCons (eC (.str "c")) (eCons (eC (.str "a")) (eNil))))) (eCons (eTup (eCons (eC (.str "B")) (eNil))) (eNil)))) (eCons (eTup (eCons (eTup (eCons (eC (.str "B")) (eCons (eC (.str "c")) (eCons (eC (.str "b")) (eNil))))) (eCons (eTup (eCons (eC (.str "B")) (eNil))) (eNil)))) (eNil)))))
  (sSeq (sApp 9 (eTup (eCons (eTup (eCons (eC (.str "A")) (eCons (eC (.str "B")) (eNil)))) (eCons (eBin addD (eVar 7) (eTup (eCons (eTup (eCons (eC (.str "c")) (eCons (eC (.str "B")) (eCons (eC (.str "A")) (eNil))))) (eNil)))) (eCons (eVar 11) (eNil))))))
  (sSeq (sSet 12 (eTup (eCons (eTup (eCons (eC (.str "a")) (eCons (eC (.str "A")) (eCons (eC (.str "B")) (eNil))))) (eCons (eTup (eCons (eC (.str "b")) (eCons (eC (.str "B")) (eCons (eC (.str "D")) (eNil))))) (eCons (eTup (eCons (eC (.str "c")) (eCons (eC (.str "A")) (eCons (eC (.str "C")) (eNil))))) (eCons (eTup (eCons (eC (.str "d")) (eCons (eC (.str "C")) (eCons (eC (.str "D")) (eNil))))) (eNil)))))))
  (sSeq (sApp 9 (eTup (eCons (eTup (eCons (eC (.str "A")) (eCons (eC (.str "B")) (eCons (eC (.str "C")) (eCons (eC (.str "D")) (eNil)))))) (eCons (eVar 12) (eCons (eTup (eCons (eTup (eCons (eTup (eCons (eC (.str "A")) (eCons (eC (.str "c")) (eCons (eC (.str "d")) (eNil))))) (eCons (eTup (eCons (eC (.str "A")) (eCons (eC (.str "a")) (eCons (eC (.str "b")) (eNil))))) (eNil)))) (eNil))) (eNil))))))
  (sFrz [9] (sRet (eBin ixD (eVar 9) (eBin subD (eVar 1) (eC (.int 4)))))))))))))
  (sNil))
  (sSeq (sIf (eBin ltD (eVar 1) (eC (.int 11)))
  (sRet (eTup (eCons (eTup (eCons (eC (.str "A")) (eNil))) (eCons (eSl (eVar 6) oNone (oSome (eC (.int 1)))) (eCons (eBin ixD (eLst (eCons (eTup (eCons (eVar 4) (eNil))) (eCons (eTup (eCons (eTup (eCons (eTup (eCons (eC (.str "A")) (eCons (eC (.str "a")) (eCons (eC (.str "a")) (eCons (eC (.str "a")) (eNil)))))) (eCons (eTup (eCons (eC (.str "A")) (eCons (eC (.str "a")) (eCons (eC (.str "a")) (eNil))))) (eNil)))) (eNil))) (eCons (eTup (eCons (eVar 4) (eNil))) (eNil))))) (eBin subD (eVar 1) (eC (.int 8)))) (eNil))))))
  (sNil))
  (sSeq (sIf (eBin eqD (eVar 1) (eC (.int 11)))
  (sRet (eTup (eCons (eTup (eCons (eC (.str "A")) (eNil))) (eCons (eVar 6) (eCons (eTup (eCons (eVar 4) (eCons (eVar 5) (eCons (eTup (eCons (eTup (eCons (eC (.str "A")) (eCons (eC (.str "b")) (eCons (eC (.str "a")) (eNil))))) (eCons (eTup (eCons (eC (.str "A")) (eCons (eC (.str "a")) (eCons (eC (.str "b")) (eNil))))) (eNil)))) (eNil))))) (eNil))))))
  (sNil))
  (sSeq (sIf (eBin eqD (eVar 1) (eC (.int 12)))
  (sSeq (sSet 13 (eTup (eCons (eTup (eCons (eTup (eCons (eC (.str "A")) (eCons (eC (.str "a")) (eCons (eC (.str "a")) (eNil))))) (eCons (eTup (eCons (eC (.str "A")) (eCons (eC (.str "a")) (eNil)))) (eNil)))) (eCons (eTup (eCons (eTup (eCons (eC (.str "A")) (eCons (eC (.str "b")) (eCons (eC (.str "b")) (eNil))))) (eCons (eTup (eCons (eC (.str "A")) (eCons (eC (.str "b")) (eNil)))) (eNil)))) (eNil)))))
  (sRet (eTup (eCons (eTup (eCons (eC (.str "A")) (eNil))) (eCons (eVar 6) (eCons (eBin addD (eVar 13) (eTup (eCons (eTup (eCons (eTup (eCons (eC (.str "A")) (eCons (eC (.str "b")) (eCons (eC (.str "a")) (eNil))))) (eCons (eTup (eCons (eC (.str "A")) (eCons (eC (.str "a")) (eCons (eC (.str "b")) (eNil))))) (eNil)))) (eNil)))) (eNil)))))))
  (sNil))
  (sSeq (sIf (eBin eqD (eVar 1) (eC (.int 13)))
  (sSeq (sSet 14 (eLst (eCons (eTup (eCons (eTup (eCons (eC (.str "A")) (eCons (eC (.str "a")) (eCons (eC (.str "a")) (eNil))))) (eCons (eTup (eCons (eC (.str "A")) (eCons (eC (.str "a")) (eNil)))) (eNil)))) (eCons (eTup (eCons (eTup (eCons (eC (.str "A")) (eCons (eC (.str "a")) (eCons (eC (.str "b")) (eNil))))) (eCons (eTup (eCons (eC (.str "A")) (eCons (eC (.str "a")) (eNil)))) (eNil)))) (eCons (eTup (eCons (eTup (eCons (eC (.str "A")) (eCons (eC (.str "b")) (eCons (eC (.str "a")) (eNil))))) (eCons (eTup (eCons (eC (.str "A")) (eCons (eC (.str "b")) (eNil)))) (eNil)))) (eNil))))))
  (sRet (eTup (eCons (eTup (eCons (eC (.str "A")) (eNil))) (eCons (eVar 6) (eCons (eCall tupleD (eCons (eBin addD (eVar 14) (eLst (eCons (eTup (eCons (eTup (eCons (eC (.str "A")) (eCons (eC (.str "b")) (eCons (eC (.str "b")) (eNil))))) (eCons (eTup (eCons (eC (.str "A")) (eCons (eC (.str "b")) (eNil)))) (eNil)))) (eNil)))) (eNil))) (eNil)))))))
  (sNil))
  (sSeq (sIf (eBin eqD (eVar 1) (eC (.int 14)))
  (sSeq (sSet 15 (eLst (eCons (eTup (eCons (eTup (eCons (eC (.str "A")) (eCons (eC (.str "a")) (eCons (eC (.str "a")) (eCons (eC (.str "a")) (eNil)))))) (eCons (eTup (eCons (eC (.str "A")) (eNil))) (eNil)))) (eCons (eTup (eCons (eTup (eCons (eC (.str "A")) (eCons (eC (.str "b")) (eCons (eC (.str "b")) (eNil))))) (eCons (eTup (eCons (eC (.str "A")) (eNil))) (eNil)))) (eCons (eTup (eCons (eTup (eCons (eC (.str "A")) (eCons (eC (.str "a")) (eCons (eC (.str "a")) (eCons (eC (.str "b")) (eNil)))))) (eCons (eTup (eCons (eC (.str "A")) (eCons (eC (.str "b")) (eCons (eC (.str "a")) (eNil))))) (eNil)))) (eNil))))))
  (sSeq (sSet 15 (eBin addD (eVar 15) (eLst (eCons (eTup (eCons (eTup (eCons (eC (.str "A")) (eCons (eC (.str "a")) (eCons (eC (.str "b")) (eCons (eC (.str "a")) (eNil)))))) (eCons (eTup (eCons (eC (.str "A")) (eCons (eC (.str "b")) (eNil)))) (eNil)))) (eCons (eTup (eCons (eTup (eCons (eC (.str "A")) (eCons (eC (.str "b")) (eCons (eC (.str "a")) (eCons (eC (.str "a")) (eNil)))))) (eCons (eTup (eCons (eC (.str "A")) (eCons (eC (.str "a")) (eCons (eC (.str "b")) (eNil))))) (eNil)))) (eNil))))))
  (sRet (eTup (eCons (eTup (eCons (eC (.str "A")) (eNil))) (eCons (eVar 6) (eCons (eCall tupleD (eCons (eBin addD (eVar 15) (eLst (eCons (eTup (eCons (eTup (eCons (eC (.str "A")) (eCons (eC (.str "b")) (eCons (eC (.str "a")) (eCons (eC (.str "b")) (eNil)))))) (eCons (eTup (eCons (eC (.str "A")) (eCons (eC (.str "a")) (eCons (eC (.str "a")) (eNil))))) (eNil)))) (eNil)))) (eNil))) (eNil))))))))
  (sNil))
  (sSeq (sIf (eBin eqD (eVar 1) (eC (.int 16)))
  (sRet (eTup (eCons (eTup (eCons (eC (.str "A")) (eCons (eC (.str "B")) (eNil)))) (eCons (eTup (eCons (eTup (eCons (eC (.str "a")) (eCons (eC (.str "A")) (eCons (eC (.str "B")) (eNil))))) (eCons (eTup (eCons (eC (.str "b")) (eCons (eC (.str "B")) (eCons (eC (.str "A")) (eNil))))) (eNil)))) (eCons (eTup (eCons (eTup (eCons (eTup (eCons (eC (.str "A")) (eCons (eC (.str "a")) (eCons (eC (.str "b")) (eNil))))) (eCons (eTup (eCons (eC (.str "A")) (eNil))) (eNil)))) (eCons (eTup (eCons (eTup (eCons (eC (.str "B")) (eCons (eC (.str "b")) (eCons (eC (.str "a")) (eNil))))) (eCons (eTup (eCons (eC (.str "B")) (eNil))) (eNil)))) (eNil)))) (eNil))))))
  (sNil))
  (sRet (eTup (eCons (eTup (eCons (eC (.str "A")) (eCons (eC (.str "B")) (eNil)))) (eCons (eTup (eCons (eTup (eCons (eC (.str "a")) (eCons (eC (.str "A")) (eCons (eC (.str "A")) (eNil))))) (eCons (eTup (eCons (eC (.str "b")) (eCons (eC (.str "A")) (eCons (eC (.str "B")) (eNil))))) (eNil)))) (eCons (eTup (eCons (eVar 4) (eNil))) (eNil)))))))))))))))
theorem gal_split : b_law_gallery = sSeq galA (sSeq galB (sSeq gal4 (sSeq gal5 galR))) := rfl
theorem gal4_2 (a0 a1 a3 : Sl) (cs : Cs) : gal4 [a0, a1, .val (.int 2), a3, .un, .un, .un, .un, .un, .un, .un, .un, .un, .un, .un, .un] cs = .nx [a0, a1, .val (.int 2), a3, .val (ruD (mpR lett (turns 2))), .un, .un, .un, .un, .un, .un, .un, .un, .un, .un, .un] cs := by kernel_rfl
theorem gal4_3 (a0 a1 a3 : Sl) (cs : Cs) : gal4 [a0, a1, .val (.int 3), a3, .un, .un, .un, .un, .un, .un, .un, .un, .un, .un, .un, .un] cs = .nx [a0, a1, .val (.int 3), a3, .val (ruD (mpR lett (turns 3))), .un, .un, .un, .un, .un, .un, .un, .un, .un, .un, .un] cs := by kernel_rfl
theorem gal4_4 (a0 a1 a3 : Sl) (cs : Cs) : gal4 [a0, a1, .val (.int 4), a3, .un, .un, .un, .un, .un, .un, .un, .un, .un, .un, .un, .un] cs = .nx [a0, a1, .val (.int 4), a3, .val (ruD (mpR lett (turns 4))), .un, .un, .un, .un, .un, .un, .un, .un, .un, .un, .un] cs := by kernel_rfl
theorem gal4_5 (a0 a1 a3 : Sl) (cs : Cs) : gal4 [a0, a1, .val (.int 5), a3, .un, .un, .un, .un, .un, .un, .un, .un, .un, .un, .un, .un] cs = .nx [a0, a1, .val (.int 5), a3, .val (ruD (mpR lett (turns 5))), .un, .un, .un, .un, .un, .un, .un, .un, .un, .un, .un] cs := by kernel_rfl
theorem gal5_2 (a0 a1 a2 a4 : Sl) (cs : Cs) : gal5 [a0, a1, a2, .val (.int 2), a4, .un, .un, .un, .un, .un, .un, .un, .un, .un, .un, .un] cs = .nx [a0, a1, a2, .val (.int 2), a4, .val (ruD (mpR lett (twice 2))), .un, .un, .un, .un, .un, .un, .un, .un, .un, .un] cs := by kernel_rfl
theorem gal5_3 (a0 a1 a2 a4 : Sl) (cs : Cs) : gal5 [a0, a1, a2, .val (.int 3), a4, .un, .un, .un, .un, .un, .un, .un, .un, .un, .un, .un] cs = .nx [a0, a1, a2, .val (.int 3), a4, .val (ruD (mpR lett (twice 3))), .un, .un, .un, .un, .un, .un, .un, .un, .un, .un] cs := by kernel_rfl
theorem gal5_4 (a0 a1 a2 a4 : Sl) (cs : Cs) : gal5 [a0, a1, a2, .val (.int 4), a4, .un, .un, .un, .un, .un, .un, .un, .un, .un, .un, .un] cs = .nx [a0, a1, a2, .val (.int 4), a4, .val (ruD (mpR lett (twice 4))), .un, .un, .un, .un, .un, .un, .un, .un, .un, .un] cs := by kernel_rfl
theorem galR_0 (p q : Nat) (a0 a2 a3 : Sl) (cs : Cs) : galR [a0, .val (.int 0), a2, a3, .val (ruD (mpR lett (turns p))), .val (ruD (mpR lett (twice q))), .un, .un, .un, .un, .un, .un, .un, .un, .un, .un] cs = .rt (canD lett (gal 0 p q)) cs := by kernel_rfl
theorem galR_1 (p q : Nat) (a0 a2 a3 : Sl) (cs : Cs) : galR [a0, .val (.int 1), a2, a3, .val (ruD (mpR lett (turns p))), .val (ruD (mpR lett (twice q))), .un, .un, .un, .un, .un, .un, .un, .un, .un, .un] cs = .rt (canD lett (gal 1 p q)) cs := by kernel_rfl
theorem galR_2 (p q : Nat) (a0 a2 a3 : Sl) (cs : Cs) : galR [a0, .val (.int 2), a2, a3, .val (ruD (mpR lett (turns p))), .val (ruD (mpR lett (twice q))), .un, .un, .un, .un, .un, .un, .un, .un, .un, .un] cs = .rt (canD lett (gal 2 p q)) cs := by kernel_rfl
theorem galR_3 (p q : Nat) (a0 a2 a3 : Sl) (cs : Cs) : galR [a0, .val (.int 3), a2, a3, .val (ruD (mpR lett (turns p))), .val (ruD (mpR lett (twice q))), .un, .un, .un, .un, .un, .un, .un, .un, .un, .un] cs = .rt (canD lett (gal 3 p q)) cs := by kernel_rfl
theorem galR_4 (p q : Nat) (a0 a2 a3 : Sl) (cs : Cs) : galR [a0, .val (.int 4), a2, a3, .val (ruD (mpR lett (turns p))), .val (ruD (mpR lett (twice q))), .un, .un, .un, .un, .un, .un, .un, .un, .un, .un] cs = .rt (canD lett (gal 4 p q)) cs := by kernel_rfl
theorem galR_5 (p q : Nat) (a0 a2 a3 : Sl) (cs : Cs) : galR [a0, .val (.int 5), a2, a3, .val (ruD (mpR lett (turns p))), .val (ruD (mpR lett (twice q))), .un, .un, .un, .un, .un, .un, .un, .un, .un, .un] cs = .rt (canD lett (gal 5 p q)) cs := by kernel_rfl
theorem galR_6 (p q : Nat) (a0 a2 a3 : Sl) (cs : Cs) : galR [a0, .val (.int 6), a2, a3, .val (ruD (mpR lett (turns p))), .val (ruD (mpR lett (twice q))), .un, .un, .un, .un, .un, .un, .un, .un, .un, .un] cs = .rt (canD lett (gal 6 p q)) cs := by kernel_rfl
theorem galR_7 (p q : Nat) (a0 a2 a3 : Sl) (cs : Cs) : galR [a0, .val (.int 7), a2, a3, .val (ruD (mpR lett (turns p))), .val (ruD (mpR lett (twice q))), .un, .un, .un, .un, .un, .un, .un, .un, .un, .un] cs = .rt (canD lett (gal 7 p q)) cs := by kernel_rfl
theorem galR_8 (p q : Nat) (a0 a2 a3 : Sl) (cs : Cs) : galR [a0, .val (.int 8), a2, a3, .val (ruD (mpR lett (turns p))), .val (ruD (mpR lett (twice q))), .un, .un, .un, .un, .un, .un, .un, .un, .un, .un] cs = .rt (canD lett (gal 8 p q)) cs := by kernel_rfl
theorem galR_9 (p q : Nat) (a0 a2 a3 : Sl) (cs : Cs) : galR [a0, .val (.int 9), a2, a3, .val (ruD (mpR lett (turns p))), .val (ruD (mpR lett (twice q))), .un, .un, .un, .un, .un, .un, .un, .un, .un, .un] cs = .rt (canD lett (gal 9 p q)) cs := by kernel_rfl
theorem galR_10 (p q : Nat) (a0 a2 a3 : Sl) (cs : Cs) : galR [a0, .val (.int 10), a2, a3, .val (ruD (mpR lett (turns p))), .val (ruD (mpR lett (twice q))), .un, .un, .un, .un, .un, .un, .un, .un, .un, .un] cs = .rt (canD lett (gal 10 p q)) cs := by kernel_rfl
theorem galR_11 (p q : Nat) (a0 a2 a3 : Sl) (cs : Cs) : galR [a0, .val (.int 11), a2, a3, .val (ruD (mpR lett (turns p))), .val (ruD (mpR lett (twice q))), .un, .un, .un, .un, .un, .un, .un, .un, .un, .un] cs = .rt (canD lett (gal 11 p q)) cs := by kernel_rfl
theorem galR_12 (p q : Nat) (a0 a2 a3 : Sl) (cs : Cs) : galR [a0, .val (.int 12), a2, a3, .val (ruD (mpR lett (turns p))), .val (ruD (mpR lett (twice q))), .un, .un, .un, .un, .un, .un, .un, .un, .un, .un] cs = .rt (canD lett (gal 12 p q)) cs := by kernel_rfl
theorem galR_13 (p q : Nat) (a0 a2 a3 : Sl) (cs : Cs) : galR [a0, .val (.int 13), a2, a3, .val (ruD (mpR lett (turns p))), .val (ruD (mpR lett (twice q))), .un, .un, .un, .un, .un, .un, .un, .un, .un, .un] cs = .rt (canD lett (gal 13 p q)) cs := by kernel_rfl
theorem galR_14 (p q : Nat) (a0 a2 a3 : Sl) (cs : Cs) : galR [a0, .val (.int 14), a2, a3, .val (ruD (mpR lett (turns p))), .val (ruD (mpR lett (twice q))), .un, .un, .un, .un, .un, .un, .un, .un, .un, .un] cs = .rt (canD lett (gal 14 p q)) cs := by kernel_rfl
theorem galR_15 (p q : Nat) (a0 a2 a3 : Sl) (cs : Cs) : galR [a0, .val (.int 15), a2, a3, .val (ruD (mpR lett (turns p))), .val (ruD (mpR lett (twice q))), .un, .un, .un, .un, .un, .un, .un, .un, .un, .un] cs = .rt (canD lett (gal 15 p q)) cs := by kernel_rfl
theorem galR_16 (p q : Nat) (a0 a2 a3 : Sl) (cs : Cs) : galR [a0, .val (.int 16), a2, a3, .val (ruD (mpR lett (turns p))), .val (ruD (mpR lett (twice q))), .un, .un, .un, .un, .un, .un, .un, .un, .un, .un] cs = .rt (canD lett (gal 16 p q)) cs := by kernel_rfl
theorem gal4_ok {p : Nat} (h : p < 4) (a0 a1 a3 : Sl) (cs : Cs) : gal4 [a0, a1, .val (.int (2 + (p : Int))), a3, .un, .un, .un, .un, .un, .un, .un, .un, .un, .un, .un, .un] cs = .nx [a0, a1, .val (.int (2 + (p : Int))), a3, .val (ruD (mpR lett (turns (p + 2)))), .un, .un, .un, .un, .un, .un, .un, .un, .un, .un, .un] cs := by
  match p, h with
  | 0, _ => exact gal4_2 a0 a1 a3 cs
  | 1, _ => exact gal4_3 a0 a1 a3 cs
  | 2, _ => exact gal4_4 a0 a1 a3 cs
  | 3, _ => exact gal4_5 a0 a1 a3 cs
  | n + 4, h => exact absurd h (by omega)
theorem gal5_ok {q : Nat} (h : q < 3) (a0 a1 a2 a4 : Sl) (cs : Cs) : gal5 [a0, a1, a2, .val (.int (2 + (q : Int))), a4, .un, .un, .un, .un, .un, .un, .un, .un, .un, .un, .un] cs = .nx [a0, a1, a2, .val (.int (2 + (q : Int))), a4, .val (ruD (mpR lett (twice (q + 2)))), .un, .un, .un, .un, .un, .un, .un, .un, .un, .un] cs := by
  match q, h with
  | 0, _ => exact gal5_2 a0 a1 a2 a4 cs
  | 1, _ => exact gal5_3 a0 a1 a2 a4 cs
  | 2, _ => exact gal5_4 a0 a1 a2 a4 cs
  | n + 3, h => exact absurd h (by omega)
theorem galR_ok {o : Nat} (h : o < 17) (p q : Nat) (a0 a2 a3 : Sl) (cs : Cs) : galR [a0, .val (.int (o : Int)), a2, a3, .val (ruD (mpR lett (turns p))), .val (ruD (mpR lett (twice q))), .un, .un, .un, .un, .un, .un, .un, .un, .un, .un] cs = .rt (canD lett (gal o p q)) cs := by
  match o, h with
  | 0, _ => exact galR_0 p q a0 a2 a3 cs
  | 1, _ => exact galR_1 p q a0 a2 a3 cs
  | 2, _ => exact galR_2 p q a0 a2 a3 cs
  | 3, _ => exact galR_3 p q a0 a2 a3 cs
  | 4, _ => exact galR_4 p q a0 a2 a3 cs
  | 5, _ => exact galR_5 p q a0 a2 a3 cs
  | 6, _ => exact galR_6 p q a0 a2 a3 cs
  | 7, _ => exact galR_7 p q a0 a2 a3 cs
  | 8, _ => exact galR_8 p q a0 a2 a3 cs
  | 9, _ => exact galR_9 p q a0 a2 a3 cs
  | 10, _ => exact galR_10 p q a0 a2 a3 cs
  | 11, _ => exact galR_11 p q a0 a2 a3 cs
  | 12, _ => exact galR_12 p q a0 a2 a3 cs
  | 13, _ => exact galR_13 p q a0 a2 a3 cs
  | 14, _ => exact galR_14 p q a0 a2 a3 cs
  | 15, _ => exact galR_15 p q a0 a2 a3 cs
  | 16, _ => exact galR_16 p q a0 a2 a3 cs
  | n + 17, h => exact absurd h (by omega)
theorem gallery_ok {n : Nat} {cs : Cs} (ht : Tape cs n) : ∃ o p q cs', o < 17 ∧ p < 4 ∧ q < 3 ∧ f_law_gallery [.cell n] cs = .ok (canD lett (gal o (p + 2) (q + 2))) cs' ∧ Tape cs' n := by
  show ∃ o p q cs', o < 17 ∧ p < 4 ∧ q < 3 ∧ fnRes (b_law_gallery [.val (.cell n), .un, .un, .un, .un, .un, .un, .un, .un, .un, .un, .un, .un, .un, .un, .un] cs) = _ ∧ _
  rw [gal_split]
  obtain ⟨o, cs1, e1, h1, ht⟩ := digitE (m := 17) (f := eVar 0) (g := eC (.int 17)) (S := [.val (.cell n), .un, .un, .un, .un, .un, .un, .un, .un, .un, .un, .un, .un, .un, .un, .un]) ht (by decide) (by decide) (eVar_ok rfl) rfl
  have q1 : galA [.val (.cell n), .un, .un, .un, .un, .un, .un, .un, .un, .un, .un, .un, .un, .un, .un, .un] cs = .nx [.val (.cell n), .val (.int o), .un, .un, .un, .un, .un, .un, .un, .un, .un, .un, .un, .un, .un, .un] cs1 := sSet_ok e1
  obtain ⟨p, cs2, e2, h2, ht⟩ := digitE (m := 4) (f := eVar 0) (g := eC (.int 4)) (S := [.val (.cell n), .val (.int o), .un, .un, .un, .un, .un, .un, .un, .un, .un, .un, .un, .un, .un, .un]) ht (by decide) (by decide) (eVar_ok rfl) rfl
  obtain ⟨q, cs3, e3, h3, ht⟩ := digitE (m := 3) (f := eVar 0) (g := eC (.int 3)) (S := [.val (.cell n), .val (.int o), .un, .un, .un, .un, .un, .un, .un, .un, .un, .un, .un, .un, .un, .un]) ht (by decide) (by decide) (eVar_ok rfl) rfl
  have q2 : galB [.val (.cell n), .val (.int o), .un, .un, .un, .un, .un, .un, .un, .un, .un, .un, .un, .un, .un, .un] cs1 = .nx [.val (.cell n), .val (.int o), .val (.int (2 + (p : Int))), .val (.int (2 + (q : Int))), .un, .un, .un, .un, .un, .un, .un, .un, .un, .un, .un, .un] cs3 := by
    unfold galB sPar
    rw [eCons_ok (eBin_ok (cs1 := cs1) (x := .int 2) rfl e2 (addD_int cs2 _ _)) (eCons_ok (eBin_ok (cs1 := cs2) (x := .int 2) rfl e3 (addD_int cs3 _ _)) rfl)]
    rfl
  refine ⟨o, p, q, cs3, h1, h2, h3, ?_, ht⟩
  rw [sSeq_nx q1, sSeq_nx q2, sSeq_nx (gal4_ok h2 _ _ _ cs3), sSeq_nx (gal5_ok h3 _ _ _ _ cs3), galR_ok h1]
  rfl
end K02

set_option Elab.async false
set_option linter.all false
set_option maxRecDepth 100000
set_option maxHeartbeats 4000000
/-! what is looked at of a shape over signs holds of it over words -/
namespace K02
open PySem PySem.Spec PyProof.Rows L2 LL
section
variable {α β : Type} {f : α → β} {ω : α → Nat} {ω' : β → Nat}
theorem tot_map (h : ∀ x, ω' (f x) = ω x) : ∀ x : List α, tot ω' (x.map f) = tot ω x
  | [] => rfl
  | a :: x => by rw [List.map_cons, tot, tot, h, tot_map h x]
theorem wsum_map (h : ∀ x, ω' (f x) = ω x) : ∀ x : List α, wsum ω' (x.map f) = wsum ω x
  | [] => rfl
  | a :: x => by rw [List.map_cons, wsum, wsum, h, wsum_map h x, List.length_map]
theorem mu_map (h : ∀ x, ω' (f x) = ω x) (c : Nat) (x : List α) : mu c ω' (x.map f) = mu c ω x := by
  unfold mu
  rw [List.length_map, wsum_map h]
theorem wOk_map (h : ∀ x, ω' (f x) = ω x) (c : Nat) (ps : List (List α × List α)) : wOk c ω' (ps.map (mpP f)) = wOk c ω ps := by
  unfold wOk
  rw [List.all_map]
  congr 1
  funext p
  show (decide ((p.2.map f).length ≤ (p.1.map f).length) && decide (tot ω' (p.2.map f) ≤ tot ω' (p.1.map f)) && decide (mu c ω' (p.2.map f) < mu c ω' (p.1.map f))) = _
  rw [List.length_map, List.length_map, tot_map h, tot_map h, mu_map h, mu_map h]
end
theorem sum_cast {α : Type} (g : α → Nat) : ∀ l : List α, (l.map fun x => ((g x : Nat) : Int)).sum = ((l.map g).sum : Nat)
  | [] => rfl
  | x :: l => by rw [List.map_cons, List.map_cons, List.sum_cons, List.sum_cons, sum_cast g l, Int.natCast_add]
theorem sha_of {c : Can} (h : chk c = true) {f : Sg → Str} (hf : Inj f) (hw : ∀ x, Isw (f x) ∧ Wrd (f x)) : ∃ fr μ N, Sha (c.kinds.map f) (c.links.map (mpK f)) (c.rules.map (mpR f)) fr μ N := by
  unfold chk at h
  rw [Bool.and_eq_true, Bool.and_eq_true, Bool.and_eq_true, Bool.and_eq_true, Bool.and_eq_true, Bool.and_eq_true, Bool.and_eq_true, Bool.and_eq_true, Bool.and_eq_true, Bool.and_eq_true, Bool.and_eq_true, Bool.and_eq_true, Bool.and_eq_true, Bool.and_eq_true] at h
  obtain ⟨⟨⟨⟨⟨⟨⟨⟨⟨⟨⟨⟨⟨⟨h1, h2⟩, h3⟩, h4⟩, h5⟩, h6⟩, h7⟩, h8⟩, h9⟩, h10⟩, h11⟩, h12⟩, h13⟩, h14⟩, h15⟩ := h
  rw [decide_eq_true_eq] at h1 h2 h3 h4 h5 h6 h12 h13 h14
  rw [List.all_eq_true] at h7 h8 h11
  have hps : prsOf (c.rules.map (mpR f)) = (prsC c.rules).map (mpP f) := by
    unfold prsOf prsC
    rw [List.map_map, List.map_map]
    rfl
  have hwl : ∀ (xs : List Sg), ∀ x ∈ xs.map f, Isw x ∧ Wrd x := fun xs x hx => by
    obtain ⟨y, _, rfl⟩ := List.mem_map.mp hx
    exact hw y
  have hfr : ∀ k ∈ c.kinds, ∃ r, frC c k = some r ∧ (∀ w ∈ r, 3 * (w.1.length - 1) ≤ lenC c) ∧ fromL (c.links.map (mpK f)) (prsOf (c.rules.map (mpR f))) fu [([f k], f k)] [] = some (r.map (mpW f)) := fun k hk => by
    have h := h11 k hk
    rw [Bool.and_eq_true] at h
    obtain ⟨r, hr⟩ := Option.isSome_iff_exists.mp h.1
    have h2 := h.2
    rw [hr] at h2
    rw [List.all_eq_true] at h2
    refine ⟨r, hr, fun w hw => by simpa using h2 w (by simpa using hw), ?_⟩
    have e := fromL_map hf c.links (prsC c.rules) fu [([k], k)] []
    rw [hps]
    have hr' : fromL c.links (prsC c.rules) fu [([k], k)] [] = some r := hr
    rw [hr'] at e
    exact e
  have hr8 : ∀ r ∈ c.rules, r.1.2.length ≤ 6 ∧ r.2.2.length ≤ 6 ∧ r.2.2.length ≤ r.1.2.length ∧ sidesL c.kinds c.links r = true ∧ (∀ l ∈ r.1.2, placeL c.links l < c.links.length) ∧ (∀ l ∈ r.2.2, placeL c.links l < c.links.length) ∧
      gtB (rankD (r.1.2.map (placeL c.links))) (rankD (r.2.2.map (placeL c.links))) = true ∧ r.1.2 ≠ [] := fun r hr => by
    have h := h8 r hr
    rw [Bool.and_eq_true, Bool.and_eq_true, Bool.and_eq_true, Bool.and_eq_true, Bool.and_eq_true, Bool.and_eq_true, Bool.and_eq_true] at h
    obtain ⟨⟨⟨⟨⟨⟨⟨g1, g2⟩, g3⟩, g4⟩, g5⟩, g6⟩, g7⟩, g8⟩ := h
    rw [decide_eq_true_eq] at g1 g2 g3
    rw [List.all_eq_true] at g5 g6
    refine ⟨g1, g2, g3, g4, fun l hl => by simpa using g5 l hl, fun l hl => by simpa using g6 l hl, g7, fun e => ?_⟩
    rw [e] at g8
    cases g8
  have hplace : ∀ xs : List Sg, (xs.map f).map (placeL (c.links.map (mpK f))) = xs.map (placeL c.links) := fun xs => by
    rw [List.map_map]
    exact List.map_congr_left fun x _ => placeL_map hf x c.links
  have hop : isOpenL (prsOf (c.rules.map (mpR f))) = false := by rw [hps, isOpenL_map hf]; simpa using h10
  have hoe : openEnds (prsOf (c.rules.map (mpR f))) = true := by rw [hps, openEnds_map hf]; exact h9
  have hne : ∀ p ∈ prsOf (c.rules.map (mpR f)), p.1 ≠ [] := fun p hp => by
    obtain ⟨r', hr', rfl⟩ := List.mem_map.mp hp
    obtain ⟨r, hr, rfl⟩ := List.mem_map.mp hr'
    obtain ⟨_, _, _, _, _, _, _, g8⟩ := hr8 r hr
    intro e
    apply g8
    have e : r.1.2.map f = [] := e
    simpa using e
  have hsh : ShOk (c.kinds.map f) (c.links.map (mpK f)) (c.rules.map (mpR f)) (fun s => (fromL (c.links.map (mpK f)) (prsOf (c.rules.map (mpR f))) fu [([s], s)] []).getD []) := by
    refine ⟨hwl _, by simpa using h1, by simpa using h2, ?_, by simpa using h3, ?_, by simpa using h4, map_nodup hf h5, ?_, ?_, ?_, ?_, ?_, ?_, hoe, hop, ?_, ?_⟩
    · intro k hk
      obtain ⟨q, _, rfl⟩ := List.mem_map.mp hk
      exact ⟨⟨(hw _).1, (hw _).1, (hw _).1⟩, (hw _).2, (hw _).2, (hw _).2⟩
    · intro r hr
      obtain ⟨q, hq, rfl⟩ := List.mem_map.mp hr
      obtain ⟨g1, g2, _⟩ := hr8 q hq
      have e1 : ∀ x ∈ (mpR f q).1.1 :: (mpR f q).1.2, Isw x ∧ Wrd x := hwl (q.1.1 :: q.1.2)
      have e2 : ∀ x ∈ (mpR f q).2.1 :: (mpR f q).2.2, Isw x ∧ Wrd x := hwl (q.2.1 :: q.2.2)
      have l1 : (mpR f q).1.2.length = q.1.2.length := List.length_map _
      have l2 : (mpR f q).2.2.length = q.2.2.length := List.length_map _
      exact ⟨⟨fun x hx => (e1 x hx).1, fun x hx => (e2 x hx).1, by omega, by omega⟩, fun x hx => (e1 x hx).2, fun x hx => (e2 x hx).2, by omega, by omega⟩
    · have : (c.links.map (mpK f)).map (·.1) = (c.links.map (·.1)).map f := by
        rw [List.map_map, List.map_map]
        rfl
      rw [this]
      exact map_nodup hf h6
    · intro k hk
      obtain ⟨q, hq, rfl⟩ := List.mem_map.mp hk
      have h := h7 q hq
      rw [Bool.and_eq_true, decide_eq_true_eq, decide_eq_true_eq] at h
      exact ⟨List.mem_map.mpr ⟨_, h.1, rfl⟩, List.mem_map.mpr ⟨_, h.2, rfl⟩⟩
    · intro r hr
      obtain ⟨q, hq, rfl⟩ := List.mem_map.mp hr
      rw [sidesL_map hf]
      exact (hr8 q hq).2.2.2.1
    · intro r hr
      obtain ⟨q, hq, rfl⟩ := List.mem_map.mp hr
      obtain ⟨_, _, _, _, g5, g6, _⟩ := hr8 q hq
      rw [List.length_map]
      refine ⟨fun l hl => ?_, fun l hl => ?_⟩
      · obtain ⟨y, hy, rfl⟩ := List.mem_map.mp hl
        rw [placeL_map hf]
        exact g5 y hy
      · obtain ⟨y, hy, rfl⟩ := List.mem_map.mp hl
        rw [placeL_map hf]
        exact g6 y hy
    · intro r hr
      obtain ⟨q, hq, rfl⟩ := List.mem_map.mp hr
      obtain ⟨_, _, _, _, _, _, g7, _⟩ := hr8 q hq
      show gtD [] (rankD ((q.1.2.map f).map (placeL (c.links.map (mpK f))))) (rankD ((q.2.2.map f).map (placeL (c.links.map (mpK f))))) = _
      rw [hplace, hplace]
      exact gtB_t g7
    · intro r hr
      obtain ⟨q, hq, rfl⟩ := List.mem_map.mp hr
      have g := (hr8 q hq).2.2.1
      show (q.2.2.map f).length ≤ (q.1.2.map f).length
      rw [List.length_map, List.length_map]
      exact g
    · intro k hk
      obtain ⟨q, hq, rfl⟩ := List.mem_map.mp hk
      obtain ⟨r, _, _, e⟩ := hfr q hq
      show _ = some ((fromL (c.links.map (mpK f)) (prsOf (c.rules.map (mpR f))) fu [([f q], f q)] []).getD [])
      rw [e]
      rfl
    · have e : (c.kinds.map f).map (fun k => (((fromL (c.links.map (mpK f)) (prsOf (c.rules.map (mpR f))) fu [([k], k)] []).getD []).length : Int)) = c.kinds.map fun k => ((((frC c k).getD []).length : Nat) : Int) := by
        rw [List.map_map]
        refine List.map_congr_left fun k hk => ?_
        obtain ⟨r, e1, _, e2⟩ := hfr k hk
        show (((fromL (c.links.map (mpK f)) (prsOf (c.rules.map (mpR f))) fu [([f k], f k)] []).getD []).length : Int) = _
        rw [e1, e2]
        simp
      rw [e, sum_cast]
      omega
  have hln : ∀ k ∈ c.kinds.map f, ∀ w ∈ (fromL (c.links.map (mpK f)) (prsOf (c.rules.map (mpR f))) fu [([k], k)] []).getD [], 3 * (w.1.length - 1) ≤ lenC c := by
    intro k hk w hw
    obtain ⟨q, hq, rfl⟩ := List.mem_map.mp hk
    obtain ⟨r, _, g, e⟩ := hfr q hq
    rw [e] at hw
    obtain ⟨w0, hw0, rfl⟩ := List.mem_map.mp hw
    have := g w0 hw0
    show 3 * ((w0.1.map f).length - 1) ≤ _
    rw [List.length_map]
    exact this
  unfold wtC at h15
  rw [Bool.or_eq_true, Bool.and_eq_true, Bool.and_eq_true] at h15
  rcases h15 with ⟨g1, g2⟩ | ⟨g1, g2⟩
  · have hω : ∀ x, placeL (c.links.map (mpK f)) (f x) = placeL c.links x := fun x => placeL_map hf x c.links
    rw [decide_eq_true_eq] at g2
    refine ⟨_, mu 2 (placeL (c.links.map (mpK f))), lenC c, hsh, ⟨mu_dec (by rw [hps, wOk_map hω]; exact g1), hne, hoe, hop⟩, mu_bd (M := c.links.length) (fun a => ?_) (Nat.lt_of_lt_of_le g2 (by decide)), h13, h14, hln⟩
    have : placeL (c.links.map (mpK f)) a ≤ (c.links.map (mpK f)).length := List.findIdx_le_length
    rwa [List.length_map] at this
  · rw [decide_eq_true_eq] at g2
    refine ⟨_, mu 1 (fun _ => 0), lenC c, hsh, ⟨mu_dec (by rw [hps]; exact (wOk_map (f := f) (ω := fun _ => 0) (ω' := fun _ => 0) (fun _ => rfl) 1 (prsC c.rules)).trans g1), hne, hoe, hop⟩, mu_bd (M := 0) (fun _ => Nat.le_refl _) (Nat.lt_of_lt_of_le (m := 1000) (by omega) (by decide)), h13, h14, hln⟩
/-! ### the law's words -/
def wordL : List Str := ["row", "man", "box", "a", "deskdesk", "zz", "team", "page", "b", "cell", "e", "post"]
def wordN (u : Nat) : Str := wordL.getD u ""
theorem word_inj : ∀ u < 12, ∀ v < 12, wordN u = wordN v → u = v := by decide +kernel
theorem word_wrd : ∀ u < 12, PyData.strOk (wordN u) = true := by decide +kernel
theorem word_isw : ∀ u < 12, Isw (wordN u) := fun u h => by
  match u, h with
  | 0, _ => exact fun cs => by kernel_rfl
  | 1, _ => exact fun cs => by kernel_rfl
  | 2, _ => exact fun cs => by kernel_rfl
  | 3, _ => exact fun cs => by kernel_rfl
  | 4, _ => exact fun cs => by kernel_rfl
  | 5, _ => exact fun cs => by kernel_rfl
  | 6, _ => exact fun cs => by kernel_rfl
  | 7, _ => exact fun cs => by kernel_rfl
  | 8, _ => exact fun cs => by kernel_rfl
  | 9, _ => exact fun cs => by kernel_rfl
  | 10, _ => exact fun cs => by kernel_rfl
  | 11, _ => exact fun cs => by kernel_rfl
  | n + 12, h => exact absurd h (by omega)
def renC (c : Can) (at' : Nat) (x : Sg) : Str := wordN ((at' + 5 * idxC c x) % 12)
theorem allSg_mem : ∀ x : Sg, x ∈ allSg := by decide +kernel
structure NameOk (c : Can) : Prop where
  nd : (ordC c).Nodup
  len : (ordC c).length ≤ 12
  lt : ∀ x, idxC c x < 12
  inj : ∀ x y, idxC c x = idxC c y → x = y
  idx : ∀ i x, (ordC c)[i]? = some x → idxC c x = i
  ru : ∀ r ∈ c.rules, (∀ l ∈ r.1.1 :: r.1.2, l ∈ ordC c) ∧ ∀ l ∈ r.2.1 :: r.2.2, l ∈ ordC c
theorem nameOk {c : Can} (h : chkN c = true) : NameOk c := by
  unfold chkN at h
  rw [Bool.and_eq_true, Bool.and_eq_true, Bool.and_eq_true, Bool.and_eq_true, Bool.and_eq_true] at h
  obtain ⟨⟨⟨⟨⟨h1, h2⟩, h3⟩, h4⟩, h5⟩, h6⟩ := h
  rw [decide_eq_true_eq] at h1 h2
  rw [List.all_eq_true] at h3 h4 h5 h6
  refine ⟨h1, h2, fun x => by simpa using h3 x (allSg_mem x), fun x y => ?_, fun i x hi => ?_, fun r hr => ?_⟩
  · have := List.all_eq_true.mp (h4 x (allSg_mem x)) y (allSg_mem y)
    exact of_decide_eq_true this
  · have hlt := (List.getElem?_eq_some_iff.mp hi).1
    have := h5 i (List.mem_range.mpr hlt)
    rw [hi] at this
    exact of_decide_eq_true this
  · have h := h6 r hr
    rw [Bool.and_eq_true, Bool.and_eq_true, Bool.and_eq_true, decide_eq_true_eq, decide_eq_true_eq] at h
    obtain ⟨⟨⟨g1, g2⟩, g3⟩, g4⟩ := h
    rw [List.all_eq_true] at g3 g4
    refine ⟨fun l hl => ?_, fun l hl => ?_⟩
    · rcases List.mem_cons.mp hl with rfl | hl
      · exact g1
      · exact of_decide_eq_true (g3 l hl)
    · rcases List.mem_cons.mp hl with rfl | hl
      · exact g2
      · exact of_decide_eq_true (g4 l hl)
theorem renC_inj {c : Can} (h : NameOk c) (a : Nat) : Inj (renC c a) := fun x y e => by
  have h1 := h.lt x
  have h2 := h.lt y
  have e2 := word_inj _ (Nat.mod_lt _ (by decide)) _ (Nat.mod_lt _ (by decide)) e
  exact h.inj x y (by omega)
theorem renC_word (c : Can) (a : Nat) (x : Sg) : Isw (renC c a x) ∧ Wrd (renC c a x) := ⟨word_isw _ (Nat.mod_lt _ (by decide)), word_wrd _ (Nat.mod_lt _ (by decide))⟩
theorem len_named {c : Can} (h : chk2 c = true) : c.kinds.length ≤ 5 ∧ c.links.length ≤ 11 ∧ c.rules.length ≤ 11 := by
  unfold chk2 lenB at h
  simp only [Bool.and_eq_true, decide_eq_true_eq] at h
  exact ⟨h.1.2.1.1, h.1.2.1.2, h.1.2.2⟩
theorem sha_named {c : Can} (h : chk2 c = true) (a : Nat) : ∃ fr μ N, Sha (c.kinds.map (renC c a)) (c.links.map (mpK (renC c a))) (c.rules.map (mpR (renC c a))) fr μ N := by
  unfold chk2 at h
  rw [Bool.and_eq_true, Bool.and_eq_true] at h
  exact sha_of h.1.1 (renC_inj (nameOk h.2) a) (renC_word c a)
end K02

set_option Elab.async false
set_option linter.all false
set_option maxRecDepth 100000
set_option maxHeartbeats 4000000
/-! drawn parts of a shape: the gallery's, by drawn words -/
namespace K02
open PySem PySem.Spec PyProof.Rows L2 LL
/-! ### other words -/
theorem ren_str (m : Nat) (x : Str) (ks vs : List D) (cs : Cs) : ff_law_renamed m [.str x, .dct ks vs] cs = .ok ((dgetD ks vs (.str x)).getD (.str x)) cs := by
  cases m with
  | zero => rfl
  | succ m => rfl
theorem ren_tup (m : Nat) (N : D) (l : List (D × D)) (hn : l.length ≤ 1000) (cs : Cs) (h : ∀ x ∈ l, ff_law_renamed m [x.1, N] cs = .ok x.2 cs) : ff_law_renamed (m + 1) [.tup (l.map (·.1)), N] cs = .ok (.tup (l.map (·.2))) cs := by
  show fnRes (b_law_renamed (fun gs => eFn (fnN 2 (ff_law_renamed m)) gs []) [.val (.tup (l.map (·.1))), .val N, .un] cs) = _
  unfold b_law_renamed
  have t : eTru (eIsi "str" (eVar 0)) [.val (.tup (l.map (·.1))), .val N, .un] cs = .ok (.bl false) cs := rfl
  rw [sSeq_nx (by rw [sIf_f t]; rfl)]
  have q1 : iA (eVar 0) [.val (.tup (l.map (·.1))), .val N, .un] cs = .ok (l.map (·.1)) cs := rfl
  have q2 : lcLoop (gN 2) (eC (.bl true)) (eFn (fnN 2 (ff_law_renamed m)) (eCons (eVar 2) (eCons (eVar 1) (eNil))) []) [.val (.tup (l.map (·.1))), .val N, .un] (l.map (·.1)) cs = .ok (l.filterMap fun x => some x.2) cs :=
    lcLoop_filterMap (fun x : D × D => x.1) _ cs fun x hx => ⟨[.val (.tup (l.map (·.1))), .val N, .val x.1], rfl, rfl, eFn_ok (eCons_ok (eVar_ok rfl) (eCons_ok (eVar_ok rfl) rfl)) ((fnN_ok (n := 2) rfl).trans (h x hx))⟩
  rw [List.filterMap_eq_map'] at q2
  rw [sRet_ok (eCall_ok (op := tupleD) (eCons_ok (eLc_ok (vs := [2]) q1 (by simp; omega) q2) rfl) rfl)]
  rfl
theorem ren_list {α : Type} (m : Nat) (N : D) (a b : α → D) (l : List α) (hn : l.length ≤ 1000) (cs : Cs) (h : ∀ x ∈ l, ff_law_renamed m [a x, N] cs = .ok (b x) cs) : ff_law_renamed (m + 1) [.tup (l.map a), N] cs = .ok (.tup (l.map b)) cs := by
  have := ren_tup m N (l.map fun x => (a x, b x)) (by simpa using hn) cs (fun x hx => by
    obtain ⟨y, hy, rfl⟩ := List.mem_map.mp hx
    exact h y hy)
  simpa [List.map_map, Function.comp_def] using this
/-- N says f x for lett x -/
def Says (N : D) (f : Sg → Str) (x : Sg) : Prop := ∀ (m : Nat) (cs : Cs), ff_law_renamed m [.str (lett x), N] cs = .ok (.str (f x)) cs
theorem ren_words {N : D} {f : Sg → Str} (m : Nat) (l : List Sg) (hn : l.length ≤ 1000) (cs : Cs) (h : ∀ x ∈ l, Says N f x) : ff_law_renamed (m + 1) [tv (l.map lett), N] cs = .ok (tv (l.map f)) cs := by
  have := ren_list m N (fun x => .str (lett x)) (fun x => .str (f x)) l hn cs fun x hx => h x hx m cs
  simpa [tv, List.map_map, Function.comp_def] using this
theorem ren_link {N : D} {f : Sg → Str} (m : Nat) (k : Sg × Sg × Sg) (cs : Cs) (h : Says N f k.1 ∧ Says N f k.2.1 ∧ Says N f k.2.2) : ff_law_renamed (m + 1) [lkD (mpK lett k), N] cs = .ok (lkD (mpK f k)) cs :=
  ren_words m [k.1, k.2.1, k.2.2] (by simp) cs (by
    intro x hx
    simp only [List.mem_cons, List.not_mem_nil, or_false] at hx
    rcases hx with rfl | rfl | rfl
    · exact h.1
    · exact h.2.1
    · exact h.2.2)
theorem ren_rule {N : D} {f : Sg → Str} (m : Nat) (r : RuS) (l1 : r.1.2.length ≤ 900) (l2 : r.2.2.length ≤ 900) (cs : Cs) (h : (∀ x ∈ r.1.1 :: r.1.2, Says N f x) ∧ ∀ x ∈ r.2.1 :: r.2.2, Says N f x) : ff_law_renamed (m + 1 + 1) [ruD (mpR lett r), N] cs = .ok (ruD (mpR f r)) cs := by
  have := ren_tup (m + 1) N [(tv ((r.1.1 :: r.1.2).map lett), tv ((r.1.1 :: r.1.2).map f)), (tv ((r.2.1 :: r.2.2).map lett), tv ((r.2.1 :: r.2.2).map f))] (by simp) cs (by
    intro x hx
    simp only [List.mem_cons, List.not_mem_nil, or_false] at hx
    rcases hx with rfl | rfl
    · exact ren_words m _ (by simp; omega) cs h.1
    · exact ren_words m _ (by simp; omega) cs h.2)
  exact this
theorem ren_parts {N : D} {f : Sg → Str} {c : Can} (h1 : chk c = true) (cs : Cs) (hk : ∀ x ∈ c.kinds, Says N f x) (hl : ∀ k ∈ c.links, Says N f k.1 ∧ Says N f k.2.1 ∧ Says N f k.2.2) (hr : ∀ r ∈ c.rules, (∀ x ∈ r.1.1 :: r.1.2, Says N f x) ∧ ∀ x ∈ r.2.1 :: r.2.2, Says N f x)
    (n1 : c.kinds.length ≤ 6) (n2 : c.links.length ≤ 12) (n3 : c.rules.length ≤ 12) (n4 : ∀ r ∈ c.rules, r.1.2.length ≤ 6 ∧ r.2.2.length ≤ 6) : f_law_renamed [canD lett c, N] cs = .ok (canD f c) cs := by
  have := ren_tup 5 N [(tv (c.kinds.map lett), tv (c.kinds.map f)), (.tup ((c.links.map (mpK lett)).map lkD), .tup ((c.links.map (mpK f)).map lkD)), (.tup ((c.rules.map (mpR lett)).map ruD), .tup ((c.rules.map (mpR f)).map ruD))] (by simp) cs (by
    intro x hx
    simp only [List.mem_cons, List.not_mem_nil, or_false] at hx
    rcases hx with rfl | rfl | rfl
    · exact ren_words 4 _ (by omega) cs hk
    · have := ren_list 4 N (fun k => lkD (mpK lett k)) (fun k => lkD (mpK f k)) c.links (by omega) cs fun k hk => ren_link 3 k cs (hl k hk)
      simpa [List.map_map, Function.comp_def] using this
    · have := ren_list 4 N (fun r => ruD (mpR lett r)) (fun r => ruD (mpR f r)) c.rules (by omega) cs fun r hr' => ren_rule 2 r (by have := (n4 r hr').1; omega) (by have := (n4 r hr').2; omega) cs (hr r hr')
      simpa [List.map_map, Function.comp_def] using this)
  exact this
/-! ### the names -/
theorem lett_inj : ∀ x y : Sg, lett x = lett y → x = y := by decide +kernel
theorem dget_lett (f : Sg → Str) (x : Sg) : ∀ xs : List Sg, x ∈ xs → dgetD (xs.map fun y => .str (lett y)) (xs.map fun y => .str (f y)) (.str (lett x)) = some (.str (f x))
  | [], h => by cases h
  | y :: xs, h => by
    by_cases e : y = x
    · subst e
      simp [dgetD, keyEq_str]
    · have e2 : ¬ lett y = lett x := fun z => e (lett_inj _ _ z)
      have := dget_lett f x xs ((List.mem_cons.mp h).resolve_left (Ne.symm e))
      simp only [List.map_cons, dgetD, keyEq_str, decide_eq_false e2]
      exact this
def namesD (c : Can) (a : Nat) : D := .dct ((ordC c).map fun y => .str (lett y)) ((ordC c).map fun y => .str (renC c a y))
theorem says_names {c : Can} {a : Nat} {x : Sg} (h : x ∈ ordC c) : Says (namesD c a) (renC c a) x := fun m cs => by
  unfold namesD
  rw [ren_str, dget_lett (renC c a) x _ h]
  rfl
theorem words_at (cs : Cs) (u : Nat) (h : u < 12) : ixD cs (.lst (wordL.map .str)) (.int (u : Nat)) = some (.str (wordN u)) := by
  refine L2.atI_nat ?_
  have hl : wordL.length = 12 := rfl
  rw [List.getElem?_map, List.getElem?_eq_getElem (by omega)]
  unfold wordN
  rw [List.getD_eq_getElem?_getD, List.getElem?_eq_getElem (by omega)]
  rfl
def putC : Cm := sOdPut 6 (eVar 9) (eBin ixD (eVar 5) (eBin modD (eBin addD (eVar 7) (eBin mulD (eC (.int 5)) (eVar 8))) (eC (.int 12))))
theorem names_loop {c : Can} (h : NameOk c) {a : Nat} (ha : a < 12) (a0 a1 a2 a3 a4 a10 : Sl) (cs : Cs) : ∀ (todo done : List Sg), done ++ todo = ordC c → ∀ a8 a9 : Sl,
    ∃ b8 b9, forLoop (gT (gsC (gN 8) (gsC (gN 9) (gs0)))) putC (enumFrom done.length (todo.map fun y => .str (lett y))) [a0, a1, a2, a3, a4, .val (.lst (wordL.map .str)), .odct (done.map fun y => .str (lett y)) (done.map fun y => .str (renC c a y)), .val (.int a), a8, a9, a10] cs =
      .nx [a0, a1, a2, a3, a4, .val (.lst (wordL.map .str)), .odct ((ordC c).map fun y => .str (lett y)) ((ordC c).map fun y => .str (renC c a y)), .val (.int a), b8, b9, a10] cs
  | [], done, e, a8, a9 => by
    rw [List.append_nil] at e
    subst e
    exact ⟨a8, a9, rfl⟩
  | x :: todo, done, e, a8, a9 => by
    obtain ⟨b8, b9, e2⟩ := names_loop h ha a0 a1 a2 a3 a4 a10 cs todo (done ++ [x]) (by rw [← e]; simp) (.val (.int (done.length : Nat))) (.val (.str (lett x)))
    refine ⟨b8, b9, ?_⟩
    have hx : (ordC c)[done.length]? = some x := by rw [← e]; simp
    have hix := h.idx _ _ hx
    have hlt : done.length < 12 := by
      have := (List.getElem?_eq_some_iff.mp hx).1
      have := h.len
      omega
    have hnot : lett x ∉ done.map lett := fun z => by
      obtain ⟨y, hy, ey⟩ := List.mem_map.mp z
      have := lett_inj _ _ ey
      subst this
      have hnd := h.nd
      rw [← e, List.nodup_append] at hnd
      exact hnd.2.2 y hy y List.mem_cons_self rfl
    have eg : (gT (gsC (gN 8) (gsC (gN 9) (gs0)))) (.tup [.int (done.length : Nat), .str (lett x)]) [a0, a1, a2, a3, a4, .val (.lst (wordL.map .str)), .odct (done.map fun y => .str (lett y)) (done.map fun y => .str (renC c a y)), .val (.int a), a8, a9, a10] =
      some [a0, a1, a2, a3, a4, .val (.lst (wordL.map .str)), .odct (done.map fun y => .str (lett y)) (done.map fun y => .str (renC c a y)), .val (.int a), .val (.int (done.length : Nat)), .val (.str (lett x)), a10] := rfl
    have qv : eBin ixD (eVar 5) (eBin modD (eBin addD (eVar 7) (eBin mulD (eC (.int 5)) (eVar 8))) (eC (.int 12))) [a0, a1, a2, a3, a4, .val (.lst (wordL.map .str)), .odct (done.map fun y => .str (lett y)) (done.map fun y => .str (renC c a y)), .val (.int a), .val (.int (done.length : Nat)), .val (.str (lett x)), a10] cs = .ok (.str (renC c a x)) cs := by
      have m1 : mulD cs (.int 5) (.int (done.length : Nat)) = some (.int (5 * (done.length : Nat))) := mulD_intL cs _ _ (by decide) (by decide)
      refine eBin_ok (eVar_ok rfl) (eBin_ok (eBin_ok (eVar_ok rfl) (eBin_ok rfl (eVar_ok rfl) m1) (addD_int cs _ _)) rfl (modD_int cs _ _ (by decide))) ?_
      have e3 : ((a : Int) + 5 * (done.length : Nat)) % 12 = (((a + 5 * done.length) % 12 : Nat) : Int) := by omega
      rw [e3, words_at cs _ (Nat.mod_lt _ (by decide))]
      unfold renC
      rw [hix]
    have qp : putC [a0, a1, a2, a3, a4, .val (.lst (wordL.map .str)), .odct (done.map fun y => .str (lett y)) (done.map fun y => .str (renC c a y)), .val (.int a), .val (.int (done.length : Nat)), .val (.str (lett x)), a10] cs =
        .nx [a0, a1, a2, a3, a4, .val (.lst (wordL.map .str)), .odct ((done ++ [x]).map fun y => .str (lett y)) ((done ++ [x]).map fun y => .str (renC c a y)), .val (.int a), .val (.int (done.length : Nat)), .val (.str (lett x)), a10] cs := by
      unfold putC sOdPut
      simp only [List.getElem?_cons_succ, List.getElem?_cons_zero]
      rw [qv, Res.thenF_ok, eVar_ok (d := .str (lett x)) rfl, Res.thenF_ok]
      have hk : (keyD (.str (lett x)) && decide ((done.map fun y => D.str (lett y)).length < 1000000)) = true := by
        rw [Bool.and_eq_true]
        exact ⟨rfl, by simp; omega⟩
      rw [if_pos hk]
      have hp := dput_new (lett x) (.str (renC c a x)) (done.map lett) (done.map fun y => .str (renC c a y)) (by simp) hnot
      rw [List.map_map] at hp
      have hp' : dputD (done.map fun y => D.str (lett y)) (done.map fun y => D.str (renC c a y)) (.str (lett x)) (.str (renC c a x)) = ((done.map fun y => D.str (lett y)) ++ [.str (lett x)], (done.map fun y => D.str (renC c a y)) ++ [.str (renC c a x)]) := hp
      rw [hp']
      simp
    simp only [List.map_cons, enumFrom, forLoop, eg, qp]
    rw [show done.length + 1 = (done ++ [x]).length by simp]
    exact e2
/-! ### the parts -/
theorem chk_facts {c : Can} (h : chk c = true) : 1 ≤ c.kinds.length ∧ c.kinds.length ≤ 6 ∧ c.links.length ≤ 12 ∧ c.rules.length ≤ 12 ∧ (∀ k ∈ c.links, k.2.1 ∈ c.kinds ∧ k.2.2 ∈ c.kinds) ∧ ∀ r ∈ c.rules, r.1.2.length ≤ 6 ∧ r.2.2.length ≤ 6 := by
  unfold chk at h
  rw [Bool.and_eq_true, Bool.and_eq_true, Bool.and_eq_true, Bool.and_eq_true, Bool.and_eq_true, Bool.and_eq_true, Bool.and_eq_true, Bool.and_eq_true, Bool.and_eq_true, Bool.and_eq_true, Bool.and_eq_true, Bool.and_eq_true, Bool.and_eq_true, Bool.and_eq_true] at h
  obtain ⟨⟨⟨⟨⟨⟨⟨⟨⟨⟨⟨⟨⟨⟨h1, h2⟩, h3⟩, h4⟩, h5⟩, h6⟩, h7⟩, h8⟩, h9⟩, h10⟩, h11⟩, h12⟩, h13⟩, h14⟩, h15⟩ := h
  rw [decide_eq_true_eq] at h1 h2 h3 h4
  rw [List.all_eq_true] at h7 h8
  refine ⟨h1, h2, h3, h4, fun k hk => ?_, fun r hr => ?_⟩
  · have h := h7 k hk
    rwa [Bool.and_eq_true, decide_eq_true_eq, decide_eq_true_eq] at h
  · have h := h8 r hr
    rw [Bool.and_eq_true, Bool.and_eq_true, Bool.and_eq_true, Bool.and_eq_true, Bool.and_eq_true, Bool.and_eq_true, Bool.and_eq_true] at h
    obtain ⟨⟨⟨⟨⟨⟨⟨g1, g2⟩, g3⟩, g4⟩, g5⟩, g6⟩, g7⟩, g8⟩ := h
    rw [decide_eq_true_eq] at g1 g2
    exact ⟨g1, g2⟩
abbrev linksD (f : Sg → Str) (c : Can) : D := .tup ((c.links.map (mpK f)).map lkD)
abbrev rulesD (f : Sg → Str) (c : Can) : D := .tup ((c.rules.map (mpR f)).map ruD)
def moreC : Cm := sIf (eBin eqD (eFn (fnN 2 f_law_digit) (eCons (eVar 0) (eCons (eC (.int 3)) (eNil))) []) (eC (.int 0)))
  (sSeq (sSet 4 (eBin ixD (eVar 1) (eFn (fnN 2 f_law_digit) (eCons (eVar 0) (eCons (eCall lenD (eCons (eVar 1) (eNil))) (eNil))) [])))
  (sPar 1 2 (eCons (eBin addD (eVar 1) (eTup (eCons (eC (.str "E")) (eNil)))) (eCons (eBin addD (eVar 2) (eTup (eCons (eTup (eCons (eC (.str "e")) (eCons (eVar 4) (eCons (eC (.str "E")) (eNil))))) (eNil)))) (eNil)))))
  (sNil)
theorem more_ok {c0 : Can} (h : chkE c0 = true) {n : Nat} {cs : Cs} (ht : Tape cs n) : ∃ c b4 cs', chk2 c = true ∧
    moreC [.val (.cell n), .val (tv (c0.kinds.map lett)), .val (linksD lett c0), .val (rulesD lett c0), .un, .un, .un, .un, .un, .un, .un] cs =
    .nx [.val (.cell n), .val (tv (c.kinds.map lett)), .val (linksD lett c), .val (rulesD lett c), b4, .un, .un, .un, .un, .un, .un] cs' ∧ Tape cs' n := by
  unfold chkE at h
  rw [Bool.and_eq_true, List.all_eq_true] at h
  obtain ⟨h1, h2⟩ := h
  have hc : chk c0 = true := by
    unfold chk2 at h1
    rw [Bool.and_eq_true, Bool.and_eq_true] at h1
    exact h1.1.1
  obtain ⟨f1, f2, f3, _⟩ := chk_facts hc
  unfold moreC
  obtain ⟨d, cs1, e1, hd, ht⟩ := digitE (m := 3) (f := eVar 0) (g := eC (.int 3)) (S := [.val (.cell n), .val (tv (c0.kinds.map lett)), .val (linksD lett c0), .val (rulesD lett c0), .un, .un, .un, .un, .un, .un, .un]) ht (by decide) (by decide) (eVar_ok rfl) rfl
  have t := eBin_ok (op := eqD) (g := eC (.int 0)) e1 rfl (eqD_int cs1 d 0)
  by_cases h0 : (d : Int) = 0
  · rw [decide_eq_true h0] at t
    rw [sIf_t t]
    have el : eCall lenD (eCons (eVar 1) eNil) [.val (.cell n), .val (tv (c0.kinds.map lett)), .val (linksD lett c0), .val (rulesD lett c0), .un, .un, .un, .un, .un, .un, .un] cs1 = .ok (.int (c0.kinds.length : Nat)) cs1 := eCall_ok (eCons_ok (eVar_ok rfl) rfl) (by simp [lenD])
    obtain ⟨j, cs2, e2, hj, ht⟩ := digitE (f := eVar 0) (g := eCall lenD (eCons (eVar 1) eNil)) ht (by omega) (by omega) (eVar_ok rfl) el
    have hat : ixD cs2 (tv (c0.kinds.map lett)) (.int j) = some (.str (lett c0.kinds[j])) := L2.atI_nat (by simp [List.getElem?_eq_getElem hj])
    rw [sSeq_nx (sSet_ok (eBin_ok (eVar_ok rfl) e2 hat))]
    simp only [List.set_cons_succ, List.set_cons_zero]
    refine ⟨addE c0 c0.kinds[j], .val (.str (lett c0.kinds[j])), cs2, h2 _ (List.getElem_mem hj), ?_, ht⟩
    unfold sPar
    have g1 : eBin addD (eVar 1) (eTup (eCons (eC (.str "E")) (eNil))) [.val (.cell n), .val (tv (c0.kinds.map lett)), .val (linksD lett c0), .val (rulesD lett c0), .val (.str (lett c0.kinds[j])), .un, .un, .un, .un, .un, .un] cs2 = .ok (tv ((addE c0 c0.kinds[j]).kinds.map lett)) cs2 :=
      eBin_ok (eVar_ok rfl) rfl (by
        rw [addD_tup _ _ _ (by simp; omega)]
        show some (D.tup ((c0.kinds.map lett).map D.str ++ [D.str (lett 4)])) = some (D.tup (((c0.kinds ++ [4]).map lett).map D.str))
        rw [List.map_append, List.map_append]
        rfl)
    have g2 : eBin addD (eVar 2) (eTup (eCons (eTup (eCons (eC (.str "e")) (eCons (eVar 4) (eCons (eC (.str "E")) (eNil))))) (eNil))) [.val (.cell n), .val (tv (c0.kinds.map lett)), .val (linksD lett c0), .val (rulesD lett c0), .val (.str (lett c0.kinds[j])), .un, .un, .un, .un, .un, .un] cs2 = .ok (linksD lett (addE c0 c0.kinds[j])) cs2 :=
      eBin_ok (eVar_ok rfl) (eTup_ok (eCons_ok (eTup_ok (eCons_ok rfl (eCons_ok (eVar_ok rfl) (eCons_ok rfl rfl))) (by simp)) rfl) (by simp)) (by
        rw [addD_tup _ _ _ (by simp; omega)]
        show some (D.tup ((c0.links.map (mpK lett)).map lkD ++ [lkD (mpK lett (9, c0.kinds[j], 4))])) = some (D.tup (((c0.links ++ [(9, c0.kinds[j], 4)]).map (mpK lett)).map lkD))
        rw [List.map_append, List.map_append]
        rfl)
    rw [eCons_ok g1 (eCons_ok g2 rfl)]
    rfl
  · rw [decide_eq_false h0] at t
    rw [sIf_f t]
    exact ⟨c0, .un, cs1, h1, rfl, ht⟩
theorem parts_ok {n : Nat} {cs : Cs} (ht : Tape cs n) : ∃ c a cs', chk2 c = true ∧ f_law_parts [.cell n] cs = .ok (partsD (c.kinds.map (renC c a)) (c.links.map (mpK (renC c a))) (c.rules.map (mpR (renC c a)))) cs' ∧ Tape cs' n := by
  show ∃ c a cs', chk2 c = true ∧ fnRes (b_law_parts [.val (.cell n), .un, .un, .un, .un, .un, .un, .un, .un, .un, .un] cs) = _ ∧ _
  unfold b_law_parts
  obtain ⟨o, p, q, cs1, ho, hp, hq, e1, ht⟩ := gallery_ok ht
  have hg := gal_chk ho hp hq
  generalize gal o (p + 2) (q + 2) = c0 at e1 hg
  have q1 : sAsg (gT (gsC (gN 1) (gsC (gN 2) (gsC (gN 3) (gs0))))) (eFn (fnN 1 f_law_gallery) (eCons (eVar 0) (eNil)) []) [.val (.cell n), .un, .un, .un, .un, .un, .un, .un, .un, .un, .un] cs =
      .nx [.val (.cell n), .val (tv (c0.kinds.map lett)), .val (linksD lett c0), .val (rulesD lett c0), .un, .un, .un, .un, .un, .un, .un] cs1 := by
    unfold sAsg
    rw [eFn_ok (eCons_ok (eVar_ok rfl) rfl) ((fnN_ok (n := 1) rfl).trans e1)]
    rfl
  rw [sSeq_nx q1]
  obtain ⟨c, b4, cs2, hc, e2, ht⟩ := more_ok hg ht
  unfold moreC at e2
  rw [sSeq_nx e2]
  have hc2 := hc
  unfold chk2 at hc2
  rw [Bool.and_eq_true, Bool.and_eq_true] at hc2
  have N := nameOk hc2.2
  obtain ⟨f1, f2, f3, f4, f5, f6⟩ := chk_facts hc2.1.1
  have q3 : sSet 5 (eLst (eCons (eC (.str "row")) (eCons (eC (.str "man")) (eCons (eC (.str "box")) (eCons (eC (.str "a")) (eCons (eC (.str "deskdesk")) (eCons (eC (.str "zz")) (eCons (eC (.str "team")) (eCons (eC (.str "page")) (eCons (eC (.str "b")) (eCons (eC (.str "cell")) (eCons (eC (.str "e")) (eCons (eC (.str "post")) (eNil)))))))))))))) [.val (.cell n), .val (tv (c.kinds.map lett)), .val (linksD lett c), .val (rulesD lett c), b4, .un, .un, .un, .un, .un, .un] cs2 =
      .nx [.val (.cell n), .val (tv (c.kinds.map lett)), .val (linksD lett c), .val (rulesD lett c), b4, .val (.lst (wordL.map .str)), .un, .un, .un, .un, .un] cs2 := rfl
  rw [sSeq_nx q3]
  have q4 : sOd 6 [.val (.cell n), .val (tv (c.kinds.map lett)), .val (linksD lett c), .val (rulesD lett c), b4, .val (.lst (wordL.map .str)), .un, .un, .un, .un, .un] cs2 =
      .nx [.val (.cell n), .val (tv (c.kinds.map lett)), .val (linksD lett c), .val (rulesD lett c), b4, .val (.lst (wordL.map .str)), .odct [] [], .un, .un, .un, .un] cs2 := rfl
  rw [sSeq_nx q4]
  obtain ⟨a, cs3, e3, ha, ht⟩ := digitE (m := 12) (f := eVar 0) (g := eC (.int 12)) (S := [.val (.cell n), .val (tv (c.kinds.map lett)), .val (linksD lett c), .val (rulesD lett c), b4, .val (.lst (wordL.map .str)), .odct [] [], .un, .un, .un, .un]) ht (by decide) (by decide) (eVar_ok rfl) rfl
  rw [sSeq_nx (sSet_ok e3)]
  simp only [List.set_cons_succ, List.set_cons_zero]
  have q5 : iE (eCons (eBin addD (eVar 1) (eCall tupleD (eCons (eLc (iA (eVar 2)) (gN 10) (eC (.bl true)) (eBin ixD (eVar 10) (eC (.int 0))) [10]) (eNil)))) (eNil)) [.val (.cell n), .val (tv (c.kinds.map lett)), .val (linksD lett c), .val (rulesD lett c), b4, .val (.lst (wordL.map .str)), .odct [] [], .val (.int a), .un, .un, .un] cs3 = .ok (enumFrom 0 ((ordC c).map fun y => .str (lett y))) cs3 := by
    have g1 : iA (eVar 2) [.val (.cell n), .val (tv (c.kinds.map lett)), .val (linksD lett c), .val (rulesD lett c), b4, .val (.lst (wordL.map .str)), .odct [] [], .val (.int a), .un, .un, .un] cs3 = .ok (c.links.map fun k => lkD (mpK lett k)) cs3 := by
      have : iA (eVar 2) [.val (.cell n), .val (tv (c.kinds.map lett)), .val (linksD lett c), .val (rulesD lett c), b4, .val (.lst (wordL.map .str)), .odct [] [], .val (.int a), .un, .un, .un] cs3 = .ok ((c.links.map (mpK lett)).map lkD) cs3 := rfl
      rw [this, List.map_map]
      rfl
    have g2 : lcLoop (gN 10) (eC (.bl true)) (eBin ixD (eVar 10) (eC (.int 0))) [.val (.cell n), .val (tv (c.kinds.map lett)), .val (linksD lett c), .val (rulesD lett c), b4, .val (.lst (wordL.map .str)), .odct [] [], .val (.int a), .un, .un, .un] (c.links.map fun k => lkD (mpK lett k)) cs3 = .ok (c.links.filterMap fun k => some (.str (lett k.1))) cs3 :=
      lcLoop_filterMap (fun k => lkD (mpK lett k)) _ cs3 fun k hk => ⟨[.val (.cell n), .val (tv (c.kinds.map lett)), .val (linksD lett c), .val (rulesD lett c), b4, .val (.lst (wordL.map .str)), .odct [] [], .val (.int a), .un, .un, .val (lkD (mpK lett k))], rfl, rfl, eBin_ok (eVar_ok rfl) rfl (ix_lk0 cs3 (mpK lett k))⟩
    rw [List.filterMap_eq_map'] at g2
    have g3 := eCall_ok (op := tupleD) (d := .tup (c.links.map fun k => .str (lett k.1))) (eCons_ok (g := eNil) (eLc_ok (vs := [10]) g1 (by simp; omega) g2) rfl) rfl
    have g4 : eBin addD (eVar 1) (eCall tupleD (eCons (eLc (iA (eVar 2)) (gN 10) (eC (.bl true)) (eBin ixD (eVar 10) (eC (.int 0))) [10]) (eNil))) [.val (.cell n), .val (tv (c.kinds.map lett)), .val (linksD lett c), .val (rulesD lett c), b4, .val (.lst (wordL.map .str)), .odct [] [], .val (.int a), .un, .un, .un] cs3 = .ok (.tup ((ordC c).map fun y => .str (lett y))) cs3 := by
      refine eBin_ok (eVar_ok rfl) g3 ?_
      rw [addD_tup _ _ _ (by simp; omega)]
      show some (D.tup ((c.kinds.map lett).map D.str ++ c.links.map fun k => D.str (lett k.1))) = some (D.tup ((c.kinds ++ c.links.map (·.1)).map fun y => D.str (lett y)))
      rw [List.map_append, List.map_map, List.map_map]
      rfl
    unfold iE
    rw [eCons_ok g4 rfl]
    rfl
  obtain ⟨b8, b9, e5⟩ := names_loop N ha (.val (.cell n)) (.val (tv (c.kinds.map lett))) (.val (linksD lett c)) (.val (rulesD lett c)) b4 .un cs3 (ordC c) [] rfl .un .un
  unfold putC at e5
  rw [sSeq_nx (by rw [sFor_ok q5]; exact e5)]
  have hK : ∀ x ∈ c.kinds, x ∈ ordC c := fun x h => List.mem_append_left _ h
  have q6 := ren_parts (N := namesD c a) (f := renC c a) hc2.1.1 cs3 (fun x h => says_names (hK x h)) (fun k hk => ⟨says_names (List.mem_append_right _ (List.mem_map.mpr ⟨k, hk, rfl⟩)), says_names (hK _ (f5 k hk).1), says_names (hK _ (f5 k hk).2)⟩)
    (fun r hr => ⟨fun x hx => says_names ((N.ru r hr).1 x hx), fun x hx => says_names ((N.ru r hr).2 x hx)⟩) f2 f3 f4 f6
  refine ⟨c, a, cs3, hc, ?_, ht⟩
  have q7 : eFn (fnN 2 f_law_renamed) (eCons (eTup (eCons (eVar 1) (eCons (eVar 2) (eCons (eVar 3) (eNil))))) (eCons (eVar 6) (eNil))) [] [.val (.cell n), .val (tv (c.kinds.map lett)), .val (linksD lett c), .val (rulesD lett c), b4, .val (.lst (wordL.map .str)), .val (namesD c a), .val (.int a), b8, b9, .un] cs3 = .ok (canD (renC c a) c) cs3 :=
    eFn_ok (eCons_ok (eTup_ok (eCons_ok (eVar_ok rfl) (eCons_ok (eVar_ok rfl) (eCons_ok (eVar_ok rfl) rfl))) (by simp)) (eCons_ok (eVar_ok rfl) rfl)) ((fnN_ok (n := 2) rfl).trans q6)
  unfold sFrz
  have ef : frzS [.val (.cell n), .val (tv (c.kinds.map lett)), .val (linksD lett c), .val (rulesD lett c), b4, .val (.lst (wordL.map .str)), .odct ((ordC c).map fun y => .str (lett y)) ((ordC c).map fun y => .str (renC c a y)), .val (.int a), b8, b9, .un] [6] = [.val (.cell n), .val (tv (c.kinds.map lett)), .val (linksD lett c), .val (rulesD lett c), b4, .val (.lst (wordL.map .str)), .val (namesD c a), .val (.int a), b8, b9, .un] := rfl
  rw [ef, sRet_ok q7]
  rfl
end K02

set_option Elab.async false
set_option linter.all false
set_option maxRecDepth 100000
set_option maxHeartbeats 4000000
/-! other parts: all of good form, those that make a shape -/
namespace K02
open PySem PySem.Spec PyProof.Rows L2 LL
/-- three things of the form of a shape's parts -/
def Itm (d : D) : Prop := ∃ ks ls rs, Fm ks ls rs ∧ d = partsD ks ls rs
def Wd2 (x : Str) : Prop := Isw x ∧ Wrd x
def Lk2 (k : Str × Str × Str) : Prop := (Isw k.1 ∧ Isw k.2.1 ∧ Isw k.2.2) ∧ LkOk k
def Ru2 (r : Ru) : Prop := RuIs r ∧ RuOk r
theorem lk2 {a b c : Str} (ha : Wd2 a) (hb : Wd2 b) (hc : Wd2 c) : Lk2 (a, b, c) := ⟨⟨ha.1, hb.1, hc.1⟩, ha.2, hb.2, hc.2⟩
theorem ru2 {a b : Str} {x y : List Str} (ha : Wd2 a) (hb : Wd2 b) (hx : ∀ z ∈ x, Wd2 z) (hy : ∀ z ∈ y, Wd2 z) (lx : x.length ≤ 6) (ly : y.length ≤ 6) : Ru2 ((a, x), (b, y)) := by
  refine ⟨⟨fun z hz => ?_, fun z hz => ?_, lx, ly⟩, fun z hz => ?_, fun z hz => ?_, by show x.length < 200; omega, by show y.length < 200; omega⟩
  · rcases List.mem_cons.mp hz with rfl | hz
    · exact ha.1
    · exact (hx z hz).1
  · rcases List.mem_cons.mp hz with rfl | hz
    · exact hb.1
    · exact (hy z hz).1
  · rcases List.mem_cons.mp hz with rfl | hz
    · exact ha.2
    · exact (hx z hz).2
  · rcases List.mem_cons.mp hz with rfl | hz
    · exact hb.2
    · exact (hy z hz).2
theorem ru2_w {r : Ru} (h : Ru2 r) : Wd2 r.1.1 ∧ Wd2 r.2.1 ∧ (∀ z ∈ r.1.2, Wd2 z) ∧ (∀ z ∈ r.2.2, Wd2 z) ∧ r.1.2.length ≤ 6 ∧ r.2.2.length ≤ 6 :=
  ⟨⟨h.1.1 _ List.mem_cons_self, h.2.1 _ List.mem_cons_self⟩, ⟨h.1.2.1 _ List.mem_cons_self, h.2.2.1 _ List.mem_cons_self⟩, fun z hz => ⟨h.1.1 z (List.mem_cons_of_mem _ hz), h.2.1 z (List.mem_cons_of_mem _ hz)⟩,
    fun z hz => ⟨h.1.2.1 z (List.mem_cons_of_mem _ hz), h.2.2.1 z (List.mem_cons_of_mem _ hz)⟩, h.1.2.2.1, h.1.2.2.2⟩
theorem lk2_w {k : Str × Str × Str} (h : Lk2 k) : Wd2 k.1 ∧ Wd2 k.2.1 ∧ Wd2 k.2.2 := ⟨⟨h.1.1, h.2.1⟩, ⟨h.1.2.1, h.2.2.1⟩, ⟨h.1.2.2, h.2.2.2⟩⟩
theorem wd_more : Wd2 "more" := ⟨fun cs => by kernel_rfl, by unfold Wrd; decide +kernel⟩
theorem wd_n : Wd2 "n" := ⟨fun cs => by kernel_rfl, by unfold Wrd; decide +kernel⟩
theorem wd_x : Wd2 "x" := ⟨fun cs => by kernel_rfl, by unfold Wrd; decide +kernel⟩
/-! ### other words -/
def rx (a0 w : Str) : Str := if w = "x" then a0 else w
theorem rx_wd {a0 w : Str} (h0 : Wd2 a0) (h : Wd2 w) : Wd2 (rx a0 w) := by
  unfold rx
  split
  · exact h0
  · exact h
def nmD (a0 : Str) : D := .dct [.str "x"] [.str a0]
theorem ren_x (m : Nat) (a0 w : Str) (cs : Cs) : ff_law_renamed m [.str w, nmD a0] cs = .ok (.str (rx a0 w)) cs := by
  unfold nmD
  rw [ren_str]
  have e : dgetD [.str "x"] [.str a0] (.str w) = if w = "x" then some (.str a0) else none := by
    show (if keyEq (.str "x") (.str w) = true then some (D.str a0) else dgetD [] [] (.str w)) = _
    rw [keyEq_str]
    by_cases h : w = "x"
    · subst h
      rfl
    · rw [if_neg h, decide_eq_false (fun e => h e.symm)]
      rfl
  rw [e]
  unfold rx
  split <;> rfl
theorem ren_xs (m : Nat) (a0 : Str) (l : List Str) (hn : l.length ≤ 1000) (cs : Cs) : ff_law_renamed (m + 1) [tv l, nmD a0] cs = .ok (tv (l.map (rx a0))) cs := by
  have := ren_list m (nmD a0) D.str (fun w => .str (rx a0 w)) l hn cs fun x _ => ren_x m a0 x cs
  show ff_law_renamed (m + 1) [.tup (l.map D.str), nmD a0] cs = _
  rw [this]
  simp [tv]
theorem ren_ru (a0 : Str) {r : Ru} (h : Ru2 r) (cs : Cs) : f_law_renamed [ruD r, nmD a0] cs = .ok (ruD (mpR (rx a0) r)) cs := by
  obtain ⟨_, _, _, _, l1, l2⟩ := ru2_w h
  show ff_law_renamed (5 + 1) [.tup [tv (r.1.1 :: r.1.2), tv (r.2.1 :: r.2.2)], nmD a0] cs = _
  have := ren_tup 5 (nmD a0) [(tv (r.1.1 :: r.1.2), tv ((r.1.1 :: r.1.2).map (rx a0))), (tv (r.2.1 :: r.2.2), tv ((r.2.1 :: r.2.2).map (rx a0)))] (by simp) cs (fun x hx => by
    simp only [List.mem_cons, List.not_mem_nil, or_false] at hx
    rcases hx with rfl | rfl
    · exact ren_xs 4 a0 _ (by simp; omega) cs
    · exact ren_xs 4 a0 _ (by simp; omega) cs)
  exact this
theorem ru2_ren {a0 : Str} (h0 : Wd2 a0) {r : Ru} (h : Ru2 r) : Ru2 (mpR (rx a0) r) := by
  obtain ⟨w1, w2, w3, w4, l1, l2⟩ := ru2_w h
  refine ru2 (rx_wd h0 w1) (rx_wd h0 w2) (fun z hz => ?_) (fun z hz => ?_) (by simpa using l1) (by simpa using l2)
  · obtain ⟨y, hy, rfl⟩ := List.mem_map.mp hz
    exact rx_wd h0 (w3 y hy)
  · obtain ⟨y, hy, rfl⟩ := List.mem_map.mp hz
    exact rx_wd h0 (w4 y hy)
theorem fm_ren {a0 : Str} (h0 : Wd2 a0) {ks : List Str} {ls : List (Str × Str × Str)} {rs : List Ru} (h : Fm ks ls rs) : Fm ks ls (rs.map (mpR (rx a0))) :=
  ⟨h.k1, h.k2, h.k3, h.l1, h.l2, fun r hr => by
    obtain ⟨q, hq, rfl⟩ := List.mem_map.mp hr
    exact ru2_ren h0 (h.r1 q hq), by simpa using h.r2⟩
/-! ### small steps -/
theorem addT (cs : Cs) (a b : List D) (h : a.length + b.length ≤ 1000) : addD cs (.tup a) (.tup b) = some (.tup (a ++ b)) := addD_tup cs a b (by omega)
theorem addL (cs : Cs) (a b : List D) (h : a.length + b.length ≤ 10000) : addD cs (.lst a) (.lst b) = some (.lst (a ++ b)) := by
  simp only [addD]
  rw [if_pos (by omega)]
theorem lst_ok {g : Sems} {T : List Sl} {cs cs1 : Cs} {xs : List D} (h : g T cs = .ok xs cs1) (hl : xs.length ≤ 1000000) : eLst g T cs = .ok (.lst xs) cs1 := by
  simp only [eLst, h, Res.bind_ok, if_pos hl]
theorem rev_ok {f : Sem} {T : List Sl} {cs cs1 : Cs} {xs : List D} (h : f T cs = .ok (.tup xs) cs1) : eRev f T cs = .ok (.tup xs.reverse) cs1 := by
  simp only [eRev, h, Res.bind_ok]
theorem slT (xs : List D) (j : Nat) : slD (.tup xs) none (some (j : Int)) = some (.tup (xs.take j)) := by
  show some (D.tup (LL.cutD _ _ _)) = _
  rw [cut_to]
theorem slF (xs : List D) (i : Nat) : slD (.tup xs) (some (i : Int)) none = some (.tup (xs.drop i)) := by
  show some (D.tup (LL.cutD _ _ _)) = _
  rw [cut_from]
/-- t[:i] + (x,) + t[i + 1:] -/
theorem mid3 {T : List Sl} {v a : Nat} {i : Nat} {cs : Cs} {xs : List D} {f : Sem} {d : D} (h1 : T[v]? = some (.val (.tup xs))) (h2 : T[a]? = some (.val (.int (i : Nat)))) (hf : f T cs = .ok d cs) (hn : xs.length ≤ 400) :
    eBin addD (eBin addD (eSl (eVar v) oNone (oSome (eVar a))) (eTup (eCons f (eNil)))) (eSl (eVar v) (oSome (eBin addD (eVar a) (eC (.int 1)))) oNone) T cs = .ok (.tup (xs.take i ++ [d] ++ xs.drop (i + 1))) cs := by
  have q1 : eSl (eVar v) oNone (oSome (eVar a)) T cs = .ok (.tup (xs.take i)) cs := eSl_ok (eVar_ok h1) rfl (oSome_ok (eVar_ok h2)) (slT xs i)
  have q2 : eSl (eVar v) (oSome (eBin addD (eVar a) (eC (.int 1)))) oNone T cs = .ok (.tup (xs.drop (i + 1))) cs := eSl_ok (eVar_ok h1) (oSome_ok (i := ((i + 1 : Nat) : Int)) (eBin_ok (eVar_ok h2) rfl (by rw [addD_int]; rfl))) rfl (slF xs (i + 1))
  have l1 : (xs.take i).length ≤ 400 := by rw [List.length_take]; omega
  have l2 : (xs.drop (i + 1)).length ≤ 400 := by rw [List.length_drop]; omega
  exact eBin_ok (eBin_ok q1 (eTup_ok (eCons_ok hf rfl) (by simp)) (addT cs _ _ (by simp only [List.length_cons, List.length_nil]; omega))) q2 (addT cs _ _ (by simp only [List.length_append, List.length_cons, List.length_nil]; omega))
/-- the slots of _law_others -/
abbrev oS (kinds : List Str) (links : List (Str × Str × Str)) (rules : List Ru) (s4 s5 s6 s7 s8 s9 s10 s11 s12 s13 s14 : Sl) : List Sl :=
  [.val (partsD kinds links rules), .val (tv kinds), .val (.tup (links.map lkD)), .val (.tup (rules.map ruD)), s4, s5, s6, s7, s8, s9, s10, s11, s12, s13, s14]
def Its (xs : List D) (n : Nat) : Prop := (∀ d ∈ xs, Itm d) ∧ xs.length ≤ n
theorem Its.app {xs ys : List D} {n m : Nat} (h : Its xs n) (g : Its ys m) : Its (xs ++ ys) (n + m) := ⟨fun d hd => (List.mem_append.mp hd).elim (h.1 d) (g.1 d), by rw [List.length_append]; have := h.2; have := g.2; omega⟩
theorem Its.le {xs : List D} {n m : Nat} (h : Its xs n) (g : n ≤ m) : Its xs m := ⟨h.1, Nat.le_trans h.2 g⟩
theorem itm {ks : List Str} {ls : List (Str × Str × Str)} {rs : List Ru} (h : Fm ks ls rs) : Itm (partsD ks ls rs) := ⟨ks, ls, rs, h, rfl⟩
section
variable {kinds : List Str} {links : List (Str × Str × Str)} {rules : List Ru}
/-- one link put otherwise -/
theorem fm_link (h : Fm kinds links rules) {i : Nat} (hi : i < links.length) {k : Str × Str × Str} (hk : Lk2 k) : Fm kinds (links.take i ++ [k] ++ links.drop (i + 1)) rules := by
  have := h.l2
  refine ⟨h.k1, h.k2, h.k3, fun q hq => ?_, by simp only [List.length_append, List.length_take, List.length_drop, List.length_cons, List.length_nil]; omega, h.r1, h.r2⟩
  rcases List.mem_append.mp hq with hq | hq
  · rcases List.mem_append.mp hq with hq | hq
    · exact h.l1 q (List.mem_of_mem_take hq)
    · rw [List.mem_singleton.mp hq]; exact hk
  · exact h.l1 q (List.mem_of_mem_drop hq)
theorem fm_rule (h : Fm kinds links rules) {i : Nat} (hi : i < rules.length) {r : Ru} (hr : Ru2 r) : Fm kinds links (rules.take i ++ [r] ++ rules.drop (i + 1)) := by
  have := h.r2
  refine ⟨h.k1, h.k2, h.k3, h.l1, h.l2, fun q hq => ?_, by simp only [List.length_append, List.length_take, List.length_drop, List.length_cons, List.length_nil]; omega⟩
  rcases List.mem_append.mp hq with hq | hq
  · rcases List.mem_append.mp hq with hq | hq
    · exact h.r1 q (List.mem_of_mem_take hq)
    · rw [List.mem_singleton.mp hq]; exact hr
  · exact h.r1 q (List.mem_of_mem_drop hq)
def lcE (F : Sem) : Sem := eTup (eCons (eVar 1) (eCons (eBin addD (eBin addD (eSl (eVar 2) oNone (oSome (eVar 5))) (eTup (eCons F (eNil)))) (eSl (eVar 2) (oSome (eBin addD (eVar 5) (eC (.int 1)))) oNone)) (eCons (eVar 3) (eNil))))
theorem lcE_ok (h : Fm kinds links rules) (F : Sem) (mk : Str → Str × Str × Str) {i : Nat} {l : Str × Str × Str} (s4 s7 s8 s9 s10 s11 s12 s13 s14 : Sl) (cs : Cs)
    (hF : ∀ kd : Str, F (oS kinds links rules s4 (.val (.int (i : Nat))) (.val (lkD l)) (.val (.str kd)) s8 s9 s10 s11 s12 s13 s14) cs = .ok (lkD (mk kd)) cs) :
    eLc (iA (eVar 1)) (gN 7) (eC (.bl true)) (lcE F) [7] (oS kinds links rules s4 (.val (.int (i : Nat))) (.val (lkD l)) s7 s8 s9 s10 s11 s12 s13 s14) cs =
      .ok (.lst (kinds.map fun kd => partsD kinds (links.take i ++ [mk kd] ++ links.drop (i + 1)) rules)) cs := by
  have hk := h.k3
  have hl := h.l2
  have hlc : lcLoop (gN 7) (eC (.bl true)) (lcE F) (wipeS (oS kinds links rules s4 (.val (.int (i : Nat))) (.val (lkD l)) s7 s8 s9 s10 s11 s12 s13 s14) [7]) (kinds.map .str) cs =
      .ok (kinds.filterMap fun kd => some (partsD kinds (links.take i ++ [mk kd] ++ links.drop (i + 1)) rules)) cs :=
    lcLoop_filterMap D.str _ cs fun kd _ => by
      refine ⟨oS kinds links rules s4 (.val (.int (i : Nat))) (.val (lkD l)) (.val (.str kd)) s8 s9 s10 s11 s12 s13 s14, rfl, rfl, ?_⟩
      have m := mid3 (T := oS kinds links rules s4 (.val (.int (i : Nat))) (.val (lkD l)) (.val (.str kd)) s8 s9 s10 s11 s12 s13 s14) (v := 2) (a := 5) (i := i) (xs := links.map lkD) rfl rfl (hF kd) (by simp; omega)
      have e : (links.map lkD).take i ++ [lkD (mk kd)] ++ (links.map lkD).drop (i + 1) = (links.take i ++ [mk kd] ++ links.drop (i + 1)).map lkD := by simp [List.map_take, List.map_drop]
      rw [e] at m
      exact eTup_ok (eCons_ok (eVar_ok rfl) (eCons_ok m (eCons_ok (eVar_ok rfl) rfl))) (by simp)
  rw [List.filterMap_eq_map'] at hlc
  exact eLc_ok rfl (by simp; omega) hlc
def F1 : Sem := eTup (eCons (eBin ixD (eVar 6) (eC (.int 0))) (eCons (eBin ixD (eVar 6) (eC (.int 1))) (eCons (eVar 7) (eNil))))
def F2 : Sem := eTup (eCons (eBin ixD (eVar 6) (eC (.int 0))) (eCons (eVar 7) (eCons (eBin ixD (eVar 6) (eC (.int 2))) (eNil))))
def oth1C : Cm := sSeq (sFrz [4] (sSet 4 (eBin addD (eVar 4) (eLc (iA (eVar 1)) (gN 7) (eC (.bl true)) (lcE F1) [7]))))
  (sOwnCat 4 (eVar 4) (eLc (iA (eVar 1)) (gN 7) (eC (.bl true)) (lcE F2) [7]))
theorem oth1_ok (h : Fm kinds links rules) {i : Nat} (hi : i < links.length) {l : Str × Str × Str} (hl : Lk2 l) {xs : List D} (hx : Its xs (8 + 12 * i)) (s7 s8 s9 s10 s11 s12 s13 s14 : Sl) (cs : Cs) :
    ∃ ys, Its ys (8 + 12 * (i + 1)) ∧ oth1C (oS kinds links rules (.own xs) (.val (.int (i : Nat))) (.val (lkD l)) s7 s8 s9 s10 s11 s12 s13 s14) cs = .nx (oS kinds links rules (.own ys) (.val (.int (i : Nat))) (.val (lkD l)) s7 s8 s9 s10 s11 s12 s13 s14) cs := by
  have hk := h.k3
  have hll := h.l2
  obtain ⟨w1, w2, w3⟩ := lk2_w hl
  have hx2 := hx.2
  have i1 : Its (kinds.map fun kd => partsD kinds (links.take i ++ [(l.1, l.2.1, kd)] ++ links.drop (i + 1)) rules) 6 := ⟨fun d hd => by
    obtain ⟨kd, hkd, rfl⟩ := List.mem_map.mp hd
    exact itm (fm_link h hi (lk2 w1 w2 (h.k1 kd hkd))), by simpa using hk⟩
  have i2 : Its (kinds.map fun kd => partsD kinds (links.take i ++ [(l.1, kd, l.2.2)] ++ links.drop (i + 1)) rules) 6 := ⟨fun d hd => by
    obtain ⟨kd, hkd, rfl⟩ := List.mem_map.mp hd
    exact itm (fm_link h hi (lk2 w1 (h.k1 kd hkd) w3)), by simpa using hk⟩
  have e1 := lcE_ok h F1 (fun kd => (l.1, l.2.1, kd)) (i := i) (l := l) (.val (.lst xs)) s7 s8 s9 s10 s11 s12 s13 s14 cs (fun kd => eTup_ok (eCons_ok (eBin_ok (eVar_ok rfl) rfl (L2.atI_nat (j := 0) rfl)) (eCons_ok (eBin_ok (eVar_ok rfl) rfl (L2.atI_nat (j := 1) rfl)) (eCons_ok (eVar_ok rfl) rfl))) (by simp))
  have q1 : sFrz [4] (sSet 4 (eBin addD (eVar 4) (eLc (iA (eVar 1)) (gN 7) (eC (.bl true)) (lcE F1) [7]))) (oS kinds links rules (.own xs) (.val (.int (i : Nat))) (.val (lkD l)) s7 s8 s9 s10 s11 s12 s13 s14) cs =
      .nx (oS kinds links rules (.val (.lst (xs ++ kinds.map fun kd => partsD kinds (links.take i ++ [(l.1, l.2.1, kd)] ++ links.drop (i + 1)) rules))) (.val (.int (i : Nat))) (.val (lkD l)) s7 s8 s9 s10 s11 s12 s13 s14) cs := by
    show sSet 4 _ (oS kinds links rules (.val (.lst xs)) (.val (.int (i : Nat))) (.val (lkD l)) s7 s8 s9 s10 s11 s12 s13 s14) cs = _
    exact sSet_ok (eBin_ok (eVar_ok rfl) e1 (addL cs _ _ (by simp only [List.length_map]; omega)))
  have e2 := lcE_ok h F2 (fun kd => (l.1, kd, l.2.2)) (i := i) (l := l) (.val (.lst (xs ++ kinds.map fun kd => partsD kinds (links.take i ++ [(l.1, l.2.1, kd)] ++ links.drop (i + 1)) rules))) s7 s8 s9 s10 s11 s12 s13 s14 cs (fun kd => eTup_ok (eCons_ok (eBin_ok (eVar_ok rfl) rfl (L2.atI_nat (j := 0) rfl)) (eCons_ok (eVar_ok rfl) (eCons_ok (eBin_ok (eVar_ok rfl) rfl (L2.atI_nat (j := 2) rfl)) rfl))) (by simp))
  refine ⟨xs ++ (kinds.map fun kd => partsD kinds (links.take i ++ [(l.1, l.2.1, kd)] ++ links.drop (i + 1)) rules) ++ kinds.map fun kd => partsD kinds (links.take i ++ [(l.1, kd, l.2.2)] ++ links.drop (i + 1)) rules, ((hx.app i1).app i2).le (by omega), ?_⟩
  unfold oth1C
  rw [sSeq_nx q1]
  unfold sOwnCat
  have v4 : eVar 4 (oS kinds links rules (.val (.lst (xs ++ kinds.map fun kd => partsD kinds (links.take i ++ [(l.1, l.2.1, kd)] ++ links.drop (i + 1)) rules))) (.val (.int (i : Nat))) (.val (lkD l)) s7 s8 s9 s10 s11 s12 s13 s14) cs = .ok (.lst (xs ++ kinds.map fun kd => partsD kinds (links.take i ++ [(l.1, l.2.1, kd)] ++ links.drop (i + 1)) rules)) cs := eVar_ok rfl
  rw [v4, Res.thenF_ok, e2, Res.thenF_ok]
  exact if_pos (by simp only [List.length_append, List.length_map]; omega)
/-! ### a rule put otherwise -/
def appC : Cm := sApp 4 (eTup (eCons (eVar 1) (eCons (eVar 2) (eCons (eBin addD (eBin addD (eSl (eVar 3) oNone (oSome (eVar 5))) (eTup (eCons (eTup (eCons (eBin ixD (eVar 8) (eC (.int 0))) (eCons (eVar 9) (eNil)))) (eNil)))) (eSl (eVar 3) (oSome (eBin addD (eVar 5) (eC (.int 1)))) oNone)) (eNil)))))
theorem app_ok (h : Fm kinds links rules) {i : Nat} (hi : i < rules.length) {r : Ru} (hr : Ru2 r) {side : List Str} (hs : ∀ z ∈ side, Wd2 z) (ls : side.length ≤ 6) {xs : List D} {n : Nat} (hx : Its xs n) (hn : n ≤ 1000) (s6 s7 s10 s11 s12 s13 s14 : Sl) (cs : Cs) :
    ∃ ys, Its ys (n + 1) ∧ appC (oS kinds links rules (.own xs) (.val (.int (i : Nat))) s6 s7 (.val (ruD r)) (.val (tv (r.1.1 :: side))) s10 s11 s12 s13 s14) cs = .nx (oS kinds links rules (.own ys) (.val (.int (i : Nat))) s6 s7 (.val (ruD r)) (.val (tv (r.1.1 :: side))) s10 s11 s12 s13 s14) cs := by
  have hl := h.r2
  obtain ⟨w1, w2, w3, w4, l1, l2⟩ := ru2_w hr
  have hx2 := hx.2
  refine ⟨xs ++ [partsD kinds links (rules.take i ++ [(r.1, (r.1.1, side))] ++ rules.drop (i + 1))], hx.app (m := 1) ⟨fun d hd => by rw [List.mem_singleton.mp hd]; exact itm (fm_rule h hi (ru2 w1 w1 w3 hs l1 ls)), by simp⟩, ?_⟩
  have m := mid3 (T := oS kinds links rules (.own xs) (.val (.int (i : Nat))) s6 s7 (.val (ruD r)) (.val (tv (r.1.1 :: side))) s10 s11 s12 s13 s14) (v := 3) (a := 5) (i := i) (xs := rules.map ruD) (cs := cs) (f := eTup (eCons (eBin ixD (eVar 8) (eC (.int 0))) (eCons (eVar 9) (eNil)))) (d := ruD (r.1, (r.1.1, side))) rfl rfl
    (eTup_ok (eCons_ok (eBin_ok (eVar_ok rfl) rfl (L2.atI_nat (j := 0) rfl)) (eCons_ok (eVar_ok rfl) rfl)) (by simp)) (by simp; omega)
  have e : (rules.map ruD).take i ++ [ruD (r.1, (r.1.1, side))] ++ (rules.map ruD).drop (i + 1) = (rules.take i ++ [(r.1, (r.1.1, side))] ++ rules.drop (i + 1)).map ruD := by simp [List.map_take, List.map_drop]
  rw [e] at m
  have q : eTup (eCons (eVar 1) (eCons (eVar 2) (eCons (eBin addD (eBin addD (eSl (eVar 3) oNone (oSome (eVar 5))) (eTup (eCons (eTup (eCons (eBin ixD (eVar 8) (eC (.int 0))) (eCons (eVar 9) (eNil)))) (eNil)))) (eSl (eVar 3) (oSome (eBin addD (eVar 5) (eC (.int 1)))) oNone)) (eNil)))) (oS kinds links rules (.own xs) (.val (.int (i : Nat))) s6 s7 (.val (ruD r)) (.val (tv (r.1.1 :: side))) s10 s11 s12 s13 s14) cs =
      .ok (partsD kinds links (rules.take i ++ [(r.1, (r.1.1, side))] ++ rules.drop (i + 1))) cs := eTup_ok (eCons_ok (eVar_ok rfl) (eCons_ok (eVar_ok rfl) (eCons_ok m rfl))) (by simp)
  unfold appC sApp
  show (Res.thenF _ _) = _
  rw [q, Res.thenF_ok]
  exact if_pos (by omega)
def oth2C : Cm := sFor (iA (eLst (eCons (eSl (eBin ixD (eVar 8) (eC (.int 0))) oNone (oSome (eC (.int 1)))) (eCons (eSl (eBin ixD (eVar 8) (eC (.int 0))) oNone (oSome (eC (.int 2)))) (eNil))))) (gN 9) appC
theorem oth2_ok (h : Fm kinds links rules) {i : Nat} (hi : i < rules.length) {r : Ru} (hr : Ru2 r) {xs : List D} {n : Nat} (hx : Its xs n) (hn : n ≤ 900) (s6 s7 s9 s10 s11 s12 s13 s14 : Sl) (cs : Cs) :
    ∃ ys s9', Its ys (n + 2) ∧ oth2C (oS kinds links rules (.own xs) (.val (.int (i : Nat))) s6 s7 (.val (ruD r)) s9 s10 s11 s12 s13 s14) cs = .nx (oS kinds links rules (.own ys) (.val (.int (i : Nat))) s6 s7 (.val (ruD r)) s9' s10 s11 s12 s13 s14) cs := by
  obtain ⟨w1, w2, w3, w4, l1, l2⟩ := ru2_w hr
  obtain ⟨ys, hy, ey⟩ := app_ok h hi hr (side := []) (fun z hz => absurd hz (by simp)) (by simp) hx (by omega) s6 s7 s10 s11 s12 s13 s14 cs
  obtain ⟨zs, hz, ez⟩ := app_ok h hi hr (side := r.1.2.take 1) (fun z hz => w3 z (List.mem_of_mem_take hz)) (by rw [List.length_take]; omega) hy (by omega) s6 s7 s10 s11 s12 s13 s14 cs
  refine ⟨zs, .val (tv (r.1.1 :: r.1.2.take 1)), hz, ?_⟩
  have s0 : eBin ixD (eVar 8) (eC (.int 0)) (oS kinds links rules (.own xs) (.val (.int (i : Nat))) s6 s7 (.val (ruD r)) s9 s10 s11 s12 s13 s14) cs = .ok (tv (r.1.1 :: r.1.2)) cs := eBin_ok (eVar_ok rfl) rfl (L2.atI_nat (j := 0) rfl)
  have it : iA (eLst (eCons (eSl (eBin ixD (eVar 8) (eC (.int 0))) oNone (oSome (eC (.int 1)))) (eCons (eSl (eBin ixD (eVar 8) (eC (.int 0))) oNone (oSome (eC (.int 2)))) (eNil)))) (oS kinds links rules (.own xs) (.val (.int (i : Nat))) s6 s7 (.val (ruD r)) s9 s10 s11 s12 s13 s14) cs = .ok [tv [r.1.1], tv (r.1.1 :: r.1.2.take 1)] cs := by
    unfold iA
    rw [lst_ok (eCons_ok (eSl_ok s0 rfl (oSome_ok (i := ((1 : Nat) : Int)) rfl) (to_sv (r.1.1 :: r.1.2) 1)) (eCons_ok (eSl_ok s0 rfl (oSome_ok (i := ((2 : Nat) : Int)) rfl) (to_sv (r.1.1 :: r.1.2) 2)) rfl)) (by simp)]
    rfl
  unfold oth2C
  rw [sFor_ok it]
  have g1 : gN 9 (tv [r.1.1]) (oS kinds links rules (.own xs) (.val (.int (i : Nat))) s6 s7 (.val (ruD r)) s9 s10 s11 s12 s13 s14) = some (oS kinds links rules (.own xs) (.val (.int (i : Nat))) s6 s7 (.val (ruD r)) (.val (tv [r.1.1])) s10 s11 s12 s13 s14) := rfl
  have g2 : gN 9 (tv (r.1.1 :: r.1.2.take 1)) (oS kinds links rules (.own ys) (.val (.int (i : Nat))) s6 s7 (.val (ruD r)) (.val (tv [r.1.1])) s10 s11 s12 s13 s14) = some (oS kinds links rules (.own ys) (.val (.int (i : Nat))) s6 s7 (.val (ruD r)) (.val (tv (r.1.1 :: r.1.2.take 1))) s10 s11 s12 s13 s14) := rfl
  unfold forLoop
  rw [g1]
  dsimp only
  rw [ey]
  dsimp only
  unfold forLoop
  rw [g2]
  dsimp only
  rw [ez]
  rfl
/-! ### those that make a shape -/
def Shp (d : D) : Prop := ∃ ks ls rs, Fm ks ls rs ∧ whyR ks ls rs = none ∧ d = partsD ks ls rs
def keepC : Cm := sSeq (sSet 13 (eCall tupleD (eCons (eLc (iA (eVar 13)) (gN 14) (eC (.bl true)) (eFn (fnN 2 f_law_renamed) (eCons (eVar 14) (eCons (eDisp [(eC (.str "x"), eBin ixD (eVar 1) (eC (.int 0)))]) (eNil))) []) [14]) (eNil))))
  (sIf (eBin isD (eFn (fnN 3 f_why_no_shape) (eCons (eVar 11) (eCons (eVar 12) (eCons (eVar 13) (eNil)))) []) (eC .non))
  (sApp 10 (eTup (eCons (eVar 11) (eCons (eVar 12) (eCons (eVar 13) (eNil))))))
  (sNil))
theorem keep_ok {a0 : Str} (h0 : Wd2 a0) {kr : List Str} {ks : List Str} {ls : List (Str × Str × Str)} {rs : List Ru} (hf : Fm ks ls rs) {ys : List D} {n : Nat} (hy : ∀ d ∈ ys, Shp d) (hl : ys.length ≤ n) (hn : n ≤ 100000) (s4 s5 s6 s7 s8 s9 s14 : Sl) (cs : Cs) :
    ∃ zs s13', (∀ d ∈ zs, Shp d) ∧ zs.length ≤ n + 1 ∧ keepC (oS (a0 :: kr) links rules s4 s5 s6 s7 s8 s9 (.own ys) (.val (tv ks)) (.val (.tup (ls.map lkD))) (.val (.tup (rs.map ruD))) s14) cs =
      .nx (oS (a0 :: kr) links rules s4 s5 s6 s7 s8 s9 (.own zs) (.val (tv ks)) (.val (.tup (ls.map lkD))) s13' s14) cs := by
  have hr2 := hf.r2
  have hm := fm_ren h0 hf
  have hlc : lcLoop (gN 14) (eC (.bl true)) (eFn (fnN 2 f_law_renamed) (eCons (eVar 14) (eCons (eDisp [(eC (.str "x"), eBin ixD (eVar 1) (eC (.int 0)))]) (eNil))) []) (wipeS (oS (a0 :: kr) links rules s4 s5 s6 s7 s8 s9 (.own ys) (.val (tv ks)) (.val (.tup (ls.map lkD))) (.val (.tup (rs.map ruD))) s14) [14]) (rs.map ruD) cs =
      .ok (rs.filterMap fun r => some (ruD (mpR (rx a0) r))) cs :=
    lcLoop_filterMap ruD _ cs fun r hr => by
      refine ⟨oS (a0 :: kr) links rules s4 s5 s6 s7 s8 s9 (.own ys) (.val (tv ks)) (.val (.tup (ls.map lkD))) (.val (.tup (rs.map ruD))) (.val (ruD r)), rfl, rfl, ?_⟩
      have hd : eDisp [(eC (.str "x"), eBin ixD (eVar 1) (eC (.int 0)))] (oS (a0 :: kr) links rules s4 s5 s6 s7 s8 s9 (.own ys) (.val (tv ks)) (.val (.tup (ls.map lkD))) (.val (.tup (rs.map ruD))) (.val (ruD r))) cs = .ok (nmD a0) cs := by
        have e0 : eBin ixD (eVar 1) (eC (.int 0)) (oS (a0 :: kr) links rules s4 s5 s6 s7 s8 s9 (.own ys) (.val (tv ks)) (.val (.tup (ls.map lkD))) (.val (.tup (rs.map ruD))) (.val (ruD r))) cs = .ok (.str a0) cs := eBin_ok (eVar_ok rfl) rfl (L2.atI_nat (j := 0) rfl)
        unfold eDisp pSem pSem
        simp only [e0, eC, Res.bind_ok]
        rfl
      exact eFn_ok (eCons_ok (eVar_ok rfl) (eCons_ok hd rfl)) ((fnN_ok (n := 2) rfl).trans (ren_ru a0 (hf.r1 r hr) cs))
  rw [List.filterMap_eq_map'] at hlc
  have c1 := eLc_ok (its := iA (eVar 13)) (vs := [14]) (S := oS (a0 :: kr) links rules s4 s5 s6 s7 s8 s9 (.own ys) (.val (tv ks)) (.val (.tup (ls.map lkD))) (.val (.tup (rs.map ruD))) s14) (ds := rs.map ruD) (cs := cs) rfl (by simp; omega) hlc
  have e1 : (rs.map fun r => ruD (mpR (rx a0) r)) = (rs.map (mpR (rx a0))).map ruD := by simp
  rw [e1] at c1
  have c2 := eCall_ok (op := tupleD) (eCons_ok (g := eNil) c1 rfl) rfl
  unfold keepC
  rw [sSeq_nx (sSet_ok c2)]
  simp only [List.set_cons_succ, List.set_cons_zero]
  have w := why_any hm cs
  have t : eBin isD (eFn (fnN 3 f_why_no_shape) (eCons (eVar 11) (eCons (eVar 12) (eCons (eVar 13) (eNil)))) []) (eC .non) (oS (a0 :: kr) links rules s4 s5 s6 s7 s8 s9 (.own ys) (.val (tv ks)) (.val (.tup (ls.map lkD))) (.val (.tup ((rs.map (mpR (rx a0))).map ruD))) s14) cs = .ok (.bl (noneD (oD (whyR ks ls (rs.map (mpR (rx a0))))))) cs :=
    eBin_ok (eFn_ok (eCons_ok (eVar_ok rfl) (eCons_ok (eVar_ok rfl) (eCons_ok (eVar_ok rfl) rfl))) ((fnN_ok (n := 3) rfl).trans w)) rfl rfl
  cases hw : whyR ks ls (rs.map (mpR (rx a0))) with
  | none =>
    rw [hw] at t
    refine ⟨ys ++ [partsD ks ls (rs.map (mpR (rx a0)))], .val (.tup ((rs.map (mpR (rx a0))).map ruD)), fun d hd => ?_, by simp; omega, ?_⟩
    · rcases List.mem_append.mp hd with hd | hd
      · exact hy d hd
      · rw [List.mem_singleton.mp hd]; exact ⟨_, _, _, hm, hw, rfl⟩
    · rw [sIf_t t]
      have q : eTup (eCons (eVar 11) (eCons (eVar 12) (eCons (eVar 13) (eNil)))) (oS (a0 :: kr) links rules s4 s5 s6 s7 s8 s9 (.own ys) (.val (tv ks)) (.val (.tup (ls.map lkD))) (.val (.tup ((rs.map (mpR (rx a0))).map ruD))) s14) cs = .ok (partsD ks ls (rs.map (mpR (rx a0)))) cs := rfl
      unfold sApp
      show (Res.thenF _ _) = _
      rw [q, Res.thenF_ok]
      exact if_pos (by omega)
  | some s =>
    rw [hw] at t
    exact ⟨ys, .val (.tup ((rs.map (mpR (rx a0))).map ruD)), hy, by omega, (sIf_f t).trans rfl⟩
end
end K02

set_option Elab.async false
set_option linter.all false
set_option maxRecDepth 100000
set_option maxHeartbeats 4000000
/-! _law_others: a list of parts that make shapes -/
namespace K02
open PySem PySem.Spec PyProof.Rows L2 LL
section
variable {a0 : Str} {kr : List Str} {links : List (Str × Str × Str)} {rules : List Ru}
abbrev wM : Str := "more"
abbrev wN : Str := "n"
abbrev wX : Str := "x"
abbrev xRu : Ru := ((wX, [wN]), (wX, []))
theorem itms (l : List D) (h : ∀ d ∈ l, Itm d) {n : Nat} (hn : l.length ≤ n) : Its l n := ⟨h, hn⟩
def loop1 : Cm := sFor (iE (eCons (eVar 2) (eNil))) (gT (gsC (gN 5) (gsC (gN 6) (gs0)))) oth1C
theorem loop1_ok (h : Fm (a0 :: kr) links rules) {xs : List D} (hx : Its xs 8) (s5 s6 s7 s8 s9 s10 s11 s12 s13 s14 : Sl) (cs : Cs) :
    ∃ ys s5' s6', Its ys 200 ∧ loop1 (oS (a0 :: kr) links rules (.own xs) s5 s6 s7 s8 s9 s10 s11 s12 s13 s14) cs = .nx (oS (a0 :: kr) links rules (.own ys) s5' s6' s7 s8 s9 s10 s11 s12 s13 s14) cs := by
  have hl := h.l2
  have ei : iE (eCons (eVar 2) eNil) (oS (a0 :: kr) links rules (.own xs) s5 s6 s7 s8 s9 s10 s11 s12 s13 s14) cs = .ok ((links.zipIdx 0).map fun p => .tup [.int (p.2 : Nat), lkD p.1]) cs := by
    rw [← enum_map]
    rfl
  obtain ⟨S', cs', e, ⟨ys, s5', s6', hy, hS⟩, hc⟩ := forLoop_inv (g := gT (gsC (gN 5) (gsC (gN 6) (gs0)))) (c := oth1C)
    (fun i T cs1 => (∃ ys s5' s6', Its ys (8 + 12 * i) ∧ T = oS (a0 :: kr) links rules (.own ys) s5' s6' s7 s8 s9 s10 s11 s12 s13 s14) ∧ cs1 = cs)
    (ds := (links.zipIdx 0).map fun p => .tup [.int (p.2 : Nat), lkD p.1]) (k := 0) (S := oS (a0 :: kr) links rules (.own xs) s5 s6 s7 s8 s9 s10 s11 s12 s13 s14) (cs := cs)
    ⟨⟨xs, s5, s6, hx, rfl⟩, rfl⟩ (by
      rintro i x T cs1 hxi ⟨⟨ys, s5', s6', hy, rfl⟩, rfl⟩
      rw [List.getElem?_map, List.getElem?_zipIdx] at hxi
      cases hk : links[i]? with
      | none => rw [hk] at hxi; cases hxi
      | some l =>
        rw [hk] at hxi
        have hi := (List.getElem?_eq_some_iff.mp hk).1
        have hxi : some (D.tup [.int ((0 + i : Nat) : Int), lkD l]) = some x := hxi
        rw [Nat.zero_add] at hxi
        cases hxi
        rw [Nat.zero_add] at hy ⊢
        obtain ⟨zs, hz, ez⟩ := oth1_ok h hi (h.l1 l (List.mem_of_getElem? hk)) hy s7 s8 s9 s10 s11 s12 s13 s14 cs1
        exact ⟨oS (a0 :: kr) links rules (.own ys) (.val (.int (i : Nat))) (.val (lkD l)) s7 s8 s9 s10 s11 s12 s13 s14, _, cs1, rfl, ez, ⟨zs, _, _, hz, rfl⟩, rfl⟩)
  subst hS hc
  refine ⟨ys, s5', s6', hy.le (by simp only [List.length_map, List.length_zipIdx]; omega), ?_⟩
  unfold loop1
  rw [sFor_ok ei]
  exact e
def loop2 : Cm := sFor (iE (eCons (eVar 3) (eNil))) (gT (gsC (gN 5) (gsC (gN 8) (gs0)))) oth2C
theorem loop2_ok (h : Fm (a0 :: kr) links rules) {xs : List D} (hx : Its xs 200) (s5 s6 s7 s8 s9 s10 s11 s12 s13 s14 : Sl) (cs : Cs) :
    ∃ ys s5' s8' s9', Its ys 300 ∧ loop2 (oS (a0 :: kr) links rules (.own xs) s5 s6 s7 s8 s9 s10 s11 s12 s13 s14) cs = .nx (oS (a0 :: kr) links rules (.own ys) s5' s6 s7 s8' s9' s10 s11 s12 s13 s14) cs := by
  have hl := h.r2
  have ei : iE (eCons (eVar 3) eNil) (oS (a0 :: kr) links rules (.own xs) s5 s6 s7 s8 s9 s10 s11 s12 s13 s14) cs = .ok ((rules.zipIdx 0).map fun p => .tup [.int (p.2 : Nat), ruD p.1]) cs := by
    rw [← enum_map]
    rfl
  obtain ⟨S', cs', e, ⟨ys, s5', s8', s9', hy, hS⟩, hc⟩ := forLoop_inv (g := gT (gsC (gN 5) (gsC (gN 8) (gs0)))) (c := oth2C)
    (fun i T cs1 => (∃ ys s5' s8' s9', Its ys (200 + 2 * i) ∧ T = oS (a0 :: kr) links rules (.own ys) s5' s6 s7 s8' s9' s10 s11 s12 s13 s14) ∧ i ≤ rules.length ∧ cs1 = cs)
    (ds := (rules.zipIdx 0).map fun p => .tup [.int (p.2 : Nat), ruD p.1]) (k := 0) (S := oS (a0 :: kr) links rules (.own xs) s5 s6 s7 s8 s9 s10 s11 s12 s13 s14) (cs := cs)
    ⟨⟨xs, s5, s8, s9, hx, rfl⟩, Nat.zero_le _, rfl⟩ (by
      rintro i x T cs1 hxi ⟨⟨ys, s5', s8', s9', hy, rfl⟩, _, rfl⟩
      rw [List.getElem?_map, List.getElem?_zipIdx] at hxi
      cases hk : rules[i]? with
      | none => rw [hk] at hxi; cases hxi
      | some r =>
        rw [hk] at hxi
        have hi := (List.getElem?_eq_some_iff.mp hk).1
        have hxi : some (D.tup [.int ((0 + i : Nat) : Int), ruD r]) = some x := hxi
        rw [Nat.zero_add] at hxi
        cases hxi
        rw [Nat.zero_add] at hy ⊢
        obtain ⟨zs, s9'', hz, ez⟩ := oth2_ok h hi (h.r1 r (List.mem_of_getElem? hk)) hy (by omega) s6 s7 s9' s10 s11 s12 s13 s14 cs1
        exact ⟨oS (a0 :: kr) links rules (.own ys) (.val (.int (i : Nat))) s6 s7 (.val (ruD r)) s9' s10 s11 s12 s13 s14, _, cs1, rfl, ez, ⟨zs, _, _, _, hz.le (by omega), rfl⟩, by omega, rfl⟩)
  obtain ⟨_, hc⟩ := hc
  subst hS hc
  refine ⟨ys, s5', s8', s9', hy.le (by simp only [List.length_map, List.length_zipIdx]; omega), ?_⟩
  unfold loop2
  rw [sFor_ok ei]
  exact e
def loop3 : Cm := sFor (iA (eVar 4)) (gT (gsC (gN 11) (gsC (gN 12) (gsC (gN 13) (gs0))))) keepC
theorem loop3_ok (h0 : Wd2 a0) {xs : List D} (hx : Its xs 300) (s5 s6 s7 s8 s9 s11 s12 s13 s14 : Sl) (cs : Cs) :
    ∃ ys s11' s12' s13', (∀ d ∈ ys, Shp d) ∧ loop3 (oS (a0 :: kr) links rules (.val (.lst xs)) s5 s6 s7 s8 s9 (.own []) s11 s12 s13 s14) cs = .nx (oS (a0 :: kr) links rules (.val (.lst xs)) s5 s6 s7 s8 s9 (.own ys) s11' s12' s13' s14) cs := by
  have hx2 := hx.2
  obtain ⟨S', cs', e, ⟨ys, s11', s12', s13', hy, _, hS⟩, _, hc⟩ := forLoop_inv (g := gT (gsC (gN 11) (gsC (gN 12) (gsC (gN 13) (gs0))))) (c := keepC)
    (fun i T cs1 => (∃ ys s11' s12' s13', (∀ d ∈ ys, Shp d) ∧ ys.length ≤ i ∧ T = oS (a0 :: kr) links rules (.val (.lst xs)) s5 s6 s7 s8 s9 (.own ys) s11' s12' s13' s14) ∧ i ≤ xs.length ∧ cs1 = cs)
    (ds := xs) (k := 0) (S := oS (a0 :: kr) links rules (.val (.lst xs)) s5 s6 s7 s8 s9 (.own []) s11 s12 s13 s14) (cs := cs)
    ⟨⟨[], s11, s12, s13, fun d hd => absurd hd (by simp), Nat.le_refl _, rfl⟩, Nat.zero_le _, rfl⟩ (by
      rintro i x T cs1 hxi ⟨⟨ys, s11', s12', s13', hy, hl, rfl⟩, _, rfl⟩
      have hi := (List.getElem?_eq_some_iff.mp hxi).1
      obtain ⟨ks, ls, rs, hf, rfl⟩ := hx.1 x (List.mem_of_getElem? hxi)
      rw [Nat.zero_add] at hl ⊢
      obtain ⟨zs, s13'', hz, hzl, ez⟩ := keep_ok (links := links) (rules := rules) (kr := kr) h0 hf hy hl (by omega) (.val (.lst xs)) s5 s6 s7 s8 s9 s14 cs1
      exact ⟨oS (a0 :: kr) links rules (.val (.lst xs)) s5 s6 s7 s8 s9 (.own ys) (.val (tv ks)) (.val (.tup (ls.map lkD))) (.val (.tup (rs.map ruD))) s14, _, cs1, rfl, ez, ⟨zs, _, _, _, hz, hzl, rfl⟩, by omega, rfl⟩)
  subst hS hc
  refine ⟨ys, s11', s12', s13', hy, ?_⟩
  unfold loop3
  have er : iA (eVar 4) (oS (a0 :: kr) links rules (.val (.lst xs)) s5 s6 s7 s8 s9 (.own []) s11 s12 s13 s14) cs' = .ok xs cs' := rfl
  rw [sFor_ok er]
  exact e
theorem others_ok (h : Fm (a0 :: kr) links rules) (b1 : (a0 :: kr).length ≤ 5) (b2 : links.length ≤ 11) (b3 : rules.length ≤ 11) (cs : Cs) :
    ∃ ys, (∀ d ∈ ys, Shp d) ∧ f_law_others [partsD (a0 :: kr) links rules] cs = .ok (.lst ys) cs := by
  have h0 : Wd2 a0 := h.k1 a0 List.mem_cons_self
  have hm1 : ∀ x ∈ (a0 :: kr) ++ [wM], Wd2 x := fun x hx => by
    rcases List.mem_append.mp hx with hx | hx
    · exact h.k1 x hx
    · rw [List.mem_singleton.mp hx]; exact wd_more
  have hl1 : ∀ k ∈ links ++ [(wN, a0, a0)], Lk2 k := fun k hk => by
    rcases List.mem_append.mp hk with hk | hk
    · exact h.l1 k hk
    · rw [List.mem_singleton.mp hk]; exact lk2 wd_n h0 h0
  have hr1 : ∀ r ∈ rules ++ [xRu], Ru2 r := fun r hr => by
    rcases List.mem_append.mp hr with hr | hr
    · exact h.r1 r hr
    · rw [List.mem_singleton.mp hr]
      exact ru2 wd_x wd_x (fun z hz => by rw [List.mem_singleton.mp hz]; exact wd_n) (fun z hz => absurd hz (by simp)) (by simp) (by simp)
  have nil1 : ∀ k ∈ ([] : List (Str × Str × Str)), Lk2 k := fun k hk => absurd hk (by simp)
  have nil2 : ∀ r ∈ ([] : List Ru), Ru2 r := fun r hr => absurd hr (by simp)
  have i1 : Itm (partsD ((a0 :: kr) ++ [wM]) links rules) := itm ⟨hm1, by simp, by rw [List.length_append]; simpa using b1, h.l1, h.l2, h.r1, h.r2⟩
  have i2 : Itm (partsD (a0 :: kr) (links ++ [(wN, a0, a0)]) (rules ++ [xRu])) := itm ⟨h.k1, h.k2, h.k3, hl1, by rw [List.length_append]; simpa using b2, hr1, by rw [List.length_append]; simpa using b3⟩
  have i3 : Itm (partsD (a0 :: kr) links []) := itm ⟨h.k1, h.k2, h.k3, h.l1, h.l2, nil2, by simp⟩
  have i4 : Itm (partsD (a0 :: kr) [] []) := itm ⟨h.k1, h.k2, h.k3, nil1, by simp, nil2, by simp⟩
  have i5 : Itm (partsD (a0 :: kr).reverse links rules) := itm ⟨fun x hx => h.k1 x (List.mem_reverse.mp hx), by simp, by rw [List.length_reverse]; exact h.k3, h.l1, h.l2, h.r1, h.r2⟩
  have i6 : Itm (partsD (a0 :: kr) links rules.reverse) := itm ⟨h.k1, h.k2, h.k3, h.l1, h.l2, fun x hx => h.r1 x (List.mem_reverse.mp hx), by rw [List.length_reverse]; exact h.r2⟩
  have i7 : Itm (partsD [a0] [] []) := itm ⟨fun x hx => by rw [List.mem_singleton.mp hx]; exact h0, by simp, by simp, nil1, by simp, nil2, by simp⟩
  have i8 : Itm (partsD (a0 :: kr) links.reverse rules) := itm ⟨h.k1, h.k2, h.k3, fun x hx => h.l1 x (List.mem_reverse.mp hx), by rw [List.length_reverse]; exact h.l2, h.r1, h.r2⟩
  show ∃ ys, _ ∧ fnRes (b_law_others [.val (partsD (a0 :: kr) links rules), .un, .un, .un, .un, .un, .un, .un, .un, .un, .un, .un, .un, .un, .un] cs) = _
  unfold b_law_others
  have q0 : sAsg (gT (gsC (gN 1) (gsC (gN 2) (gsC (gN 3) (gs0))))) (eVar 0) [.val (partsD (a0 :: kr) links rules), .un, .un, .un, .un, .un, .un, .un, .un, .un, .un, .un, .un, .un, .un] cs = .nx (oS (a0 :: kr) links rules .un .un .un .un .un .un .un .un .un .un .un) cs := rfl
  rw [sSeq_nx q0]
  have e1 : ∀ s4, eBin addD (eVar 1) (eTup (eCons (eC (.str "more")) (eNil))) (oS (a0 :: kr) links rules s4 .un .un .un .un .un .un .un .un .un .un) cs = .ok (tv ((a0 :: kr) ++ [wM])) cs := fun s4 => by
    have := addT cs ((a0 :: kr).map .str) [.str wM] (by simp at b1 ⊢; omega)
    rw [show tv ((a0 :: kr) ++ [wM]) = .tup ((a0 :: kr).map .str ++ [.str wM]) by simp [tv]]
    exact eBin_ok (eVar_ok rfl) (eTup_ok (eCons_ok rfl rfl) (by simp)) this
  have ea : ∀ s4, eBin ixD (eVar 1) (eC (.int 0)) (oS (a0 :: kr) links rules s4 .un .un .un .un .un .un .un .un .un .un) cs = .ok (.str a0) cs := fun s4 => eBin_ok (eVar_ok rfl) rfl (L2.atI_nat (j := 0) rfl)
  have e2 : ∀ s4, eBin addD (eVar 2) (eTup (eCons (eTup (eCons (eC (.str "n")) (eCons (eBin ixD (eVar 1) (eC (.int 0))) (eCons (eBin ixD (eVar 1) (eC (.int 0))) (eNil))))) (eNil))) (oS (a0 :: kr) links rules s4 .un .un .un .un .un .un .un .un .un .un) cs = .ok (.tup ((links ++ [(wN, a0, a0)]).map lkD)) cs := fun s4 => by
    have := addT cs (links.map lkD) [lkD (wN, a0, a0)] (by simp; omega)
    rw [show D.tup ((links ++ [(wN, a0, a0)]).map lkD) = .tup (links.map lkD ++ [lkD (wN, a0, a0)]) by simp]
    exact eBin_ok (eVar_ok rfl) (eTup_ok (eCons_ok (eTup_ok (eCons_ok rfl (eCons_ok (ea s4) (eCons_ok (ea s4) rfl))) (by simp)) rfl) (by simp)) this
  have e3 : ∀ s4, eBin addD (eVar 3) (eTup (eCons (eTup (eCons (eTup (eCons (eC (.str "x")) (eCons (eC (.str "n")) (eNil)))) (eCons (eTup (eCons (eC (.str "x")) (eNil))) (eNil)))) (eNil))) (oS (a0 :: kr) links rules s4 .un .un .un .un .un .un .un .un .un .un) cs = .ok (.tup ((rules ++ [xRu]).map ruD)) cs := fun s4 => by
    have := addT cs (rules.map ruD) [ruD xRu] (by simp; omega)
    rw [show D.tup ((rules ++ [xRu]).map ruD) = .tup (rules.map ruD ++ [ruD xRu]) by simp]
    exact eBin_ok (eVar_ok rfl) rfl this
  rw [sSeq_nx (sSet_ok (lst_ok (eCons_ok (eTup_ok (eCons_ok (e1 .un) (eCons_ok (eVar_ok rfl) (eCons_ok (eVar_ok rfl) rfl))) (by simp)) (eCons_ok (eTup_ok (eCons_ok (eVar_ok rfl) (eCons_ok (e2 .un) (eCons_ok (e3 .un) rfl))) (by simp)) rfl)) (by simp)))]
  simp only [List.set_cons_succ, List.set_cons_zero]
  obtain ⟨L1, hL1⟩ : ∃ L1, L1 = [partsD ((a0 :: kr) ++ [wM]) links rules, partsD (a0 :: kr) (links ++ [(wN, a0, a0)]) (rules ++ [xRu])] := ⟨_, rfl⟩
  have I1 : Its L1 2 := itms _ (fun d hd => by
    rw [hL1] at hd
    simp only [List.mem_cons, List.not_mem_nil, or_false] at hd
    rcases hd with rfl | rfl
    · exact i1
    · exact i2) (by rw [hL1]; simp)
  have q1 : sSet 4 (eBin addD (eVar 4) (eLst (eCons (eTup (eCons (eVar 1) (eCons (eVar 2) (eCons (eTup (eNil)) (eNil))))) (eCons (eTup (eCons (eVar 1) (eCons (eTup (eNil)) (eCons (eTup (eNil)) (eNil))))) (eNil))))) (oS (a0 :: kr) links rules (.val (.lst L1)) .un .un .un .un .un .un .un .un .un .un) cs =
      .nx (oS (a0 :: kr) links rules (.val (.lst (L1 ++ [partsD (a0 :: kr) links [], partsD (a0 :: kr) [] []]))) .un .un .un .un .un .un .un .un .un .un) cs :=
    sSet_ok (eBin_ok (eVar_ok rfl) rfl (addL cs _ _ (by have := I1.2; simp only [List.length_cons, List.length_nil]; omega)))
  rw [hL1] at q1
  rw [sSeq_nx q1]
  rw [← hL1]
  clear q1
  obtain ⟨L2, hL2⟩ : ∃ L2, L2 = L1 ++ [partsD (a0 :: kr) links [], partsD (a0 :: kr) [] []] := ⟨_, rfl⟩
  have I2 : Its L2 4 := by
    rw [hL2]
    exact I1.app (m := 2) (itms _ (fun d hd => by
      simp only [List.mem_cons, List.not_mem_nil, or_false] at hd
      rcases hd with rfl | rfl
      · exact i3
      · exact i4) (by simp))
  rw [← hL2]
  have g2 : eLst (eCons (eTup (eCons (eRev (eVar 1)) (eCons (eVar 2) (eCons (eVar 3) (eNil))))) (eCons (eTup (eCons (eVar 1) (eCons (eVar 2) (eCons (eRev (eVar 3)) (eNil))))) (eCons (eTup (eCons (eSl (eVar 1) oNone (oSome (eC (.int 1)))) (eCons (eTup (eNil)) (eCons (eTup (eNil)) (eNil))))) (eCons (eTup (eCons (eVar 1) (eCons (eRev (eVar 2)) (eCons (eVar 3) (eNil))))) (eNil)))))
      (oS (a0 :: kr) links rules (.val (.lst L2)) .un .un .un .un .un .un .un .un .un .un) cs = .ok (.lst [partsD (a0 :: kr).reverse links rules, partsD (a0 :: kr) links rules.reverse, partsD [a0] [] [], partsD (a0 :: kr) links.reverse rules]) cs := by
    have r1 : eRev (eVar 1) (oS (a0 :: kr) links rules (.val (.lst L2)) .un .un .un .un .un .un .un .un .un .un) cs = .ok (tv (a0 :: kr).reverse) cs := by
      rw [show tv (a0 :: kr).reverse = .tup ((a0 :: kr).map .str).reverse by simp [tv]]
      exact rev_ok (eVar_ok rfl)
    have r2 : eRev (eVar 2) (oS (a0 :: kr) links rules (.val (.lst L2)) .un .un .un .un .un .un .un .un .un .un) cs = .ok (.tup (links.reverse.map lkD)) cs := by
      rw [List.map_reverse]
      exact rev_ok (eVar_ok rfl)
    have r3 : eRev (eVar 3) (oS (a0 :: kr) links rules (.val (.lst L2)) .un .un .un .un .un .un .un .un .un .un) cs = .ok (.tup (rules.reverse.map ruD)) cs := by
      rw [List.map_reverse]
      exact rev_ok (eVar_ok rfl)
    have r4 : eSl (eVar 1) oNone (oSome (eC (.int 1))) (oS (a0 :: kr) links rules (.val (.lst L2)) .un .un .un .un .un .un .un .un .un .un) cs = .ok (tv [a0]) cs := eSl_ok (eVar_ok rfl) rfl (oSome_ok (i := ((1 : Nat) : Int)) rfl) (to_sv (a0 :: kr) 1)
    exact lst_ok (eCons_ok (eTup_ok (eCons_ok r1 (eCons_ok (eVar_ok rfl) (eCons_ok (eVar_ok rfl) rfl))) (by simp)) (eCons_ok (eTup_ok (eCons_ok (eVar_ok rfl) (eCons_ok (eVar_ok rfl) (eCons_ok r3 rfl))) (by simp)) (eCons_ok (eTup_ok (eCons_ok r4 rfl) (by simp)) (eCons_ok (eTup_ok (eCons_ok (eVar_ok rfl) (eCons_ok r2 (eCons_ok (eVar_ok rfl) rfl))) (by simp)) rfl)))) (by simp)
  obtain ⟨L3, hL3⟩ : ∃ L3, L3 = L2 ++ [partsD (a0 :: kr).reverse links rules, partsD (a0 :: kr) links rules.reverse, partsD [a0] [] [], partsD (a0 :: kr) links.reverse rules] := ⟨_, rfl⟩
  have I3 : Its L3 8 := by
    rw [hL3]
    exact I2.app (m := 4) (itms _ (fun d hd => by
      simp only [List.mem_cons, List.not_mem_nil, or_false] at hd
      rcases hd with rfl | rfl | rfl | rfl
      · exact i5
      · exact i6
      · exact i7
      · exact i8) (by simp))
  have q2 : sOwnCat 4 (eVar 4) (eLst (eCons (eTup (eCons (eRev (eVar 1)) (eCons (eVar 2) (eCons (eVar 3) (eNil))))) (eCons (eTup (eCons (eVar 1) (eCons (eVar 2) (eCons (eRev (eVar 3)) (eNil))))) (eCons (eTup (eCons (eSl (eVar 1) oNone (oSome (eC (.int 1)))) (eCons (eTup (eNil)) (eCons (eTup (eNil)) (eNil))))) (eCons (eTup (eCons (eVar 1) (eCons (eRev (eVar 2)) (eCons (eVar 3) (eNil))))) (eNil))))))
      (oS (a0 :: kr) links rules (.val (.lst L2)) .un .un .un .un .un .un .un .un .un .un) cs = .nx (oS (a0 :: kr) links rules (.own L3) .un .un .un .un .un .un .un .un .un .un) cs := by
    unfold sOwnCat
    have v4 : eVar 4 (oS (a0 :: kr) links rules (.val (.lst L2)) .un .un .un .un .un .un .un .un .un .un) cs = .ok (.lst L2) cs := rfl
    rw [v4, Res.thenF_ok, g2, Res.thenF_ok, hL3]
    exact if_pos (by have := I2.2; simp only [List.length_cons, List.length_nil]; omega)
  rw [sSeq_nx q2]
  obtain ⟨ys, s5, s6, hy, ey⟩ := loop1_ok h I3 .un .un .un .un .un .un .un .un .un .un cs
  unfold loop1 oth1C lcE F1 F2 at ey
  rw [sSeq_nx ey]
  obtain ⟨zs, s5', s8, s9, hz, ez⟩ := loop2_ok h hy s5 s6 .un .un .un .un .un .un .un .un cs
  unfold loop2 oth2C appC at ez
  rw [sSeq_nx ez]
  have q4 : sOwn 10 (eNil) (oS (a0 :: kr) links rules (.own zs) s5' s6 .un s8 s9 .un .un .un .un .un) cs = .nx (oS (a0 :: kr) links rules (.own zs) s5' s6 .un s8 s9 (.own []) .un .un .un .un) cs := rfl
  rw [sSeq_nx q4]
  obtain ⟨ws, s11, s12, s13, hw, ew⟩ := loop3_ok (links := links) (rules := rules) (kr := kr) h0 hz s5' s6 .un s8 s9 .un .un .un .un cs
  unfold loop3 keepC at ew
  have q5 : ∀ c : Cm, sFrz [4] c (oS (a0 :: kr) links rules (.own zs) s5' s6 .un s8 s9 (.own []) .un .un .un .un) cs = c (oS (a0 :: kr) links rules (.val (.lst zs)) s5' s6 .un s8 s9 (.own []) .un .un .un .un) cs := fun c => rfl
  refine ⟨ws, hw, ?_⟩
  rw [sSeq_nx ((q5 _).trans ew)]
  rfl
end
end K02

set_option Elab.async false
set_option linter.all false
set_option maxRecDepth 100000
set_option maxHeartbeats 4000000
/-! parts as plain data: alike, shown -/
namespace K02
open PySem PySem.Spec PyProof.Rows L2 LL
theorem plain_map {α : Type} {n : Nat} {f : α → D} : ∀ {l : List α}, (∀ x ∈ l, plainD n (f x) = true) → plainDs n (l.map f) = true
  | [], _ => by simp [plainDs]
  | x :: l, h => by
    rw [List.map_cons, plainDs, h x List.mem_cons_self, plain_map fun y hy => h y (List.mem_cons_of_mem _ hy)]
    rfl
theorem show_map {α : Type} {f : α → D} : ∀ {l : List α}, (∀ x ∈ l, (toP (f x)).showable = true) → PyData.showableAll (toPs (l.map f)) = true
  | [], _ => rfl
  | x :: l, h => by
    rw [List.map_cons, toPs, PyData.showableAll, h x List.mem_cons_self, show_map fun y hy => h y (List.mem_cons_of_mem _ hy)]
    rfl
theorem sz_map {α : Type} {f : α → D} {z : Nat} : ∀ {l : List α}, (∀ x ∈ l, szD (f x) ≤ z) → szDs (l.map f) ≤ (z + 2) * l.length
  | [], _ => by simp [szDs]
  | x :: l, h => by
    have h1 := h x List.mem_cons_self
    have h2 := sz_map fun y hy => h y (List.mem_cons_of_mem x hy)
    rw [List.map_cons, szDs, List.length_cons, Nat.mul_succ]
    omega
theorem show_tv (xs : List Str) : (toP (tv xs)).showable = true := by
  show PyData.showableAll (toPs (xs.map .str)) = true
  exact show_map fun x _ => rfl
theorem sz_tv {xs : List Str} (h : ∀ x ∈ xs, x.length ≤ 8) : szD (tv xs) ≤ 84 * xs.length + 5 := by
  have : szDs (xs.map .str) ≤ (82 + 2) * xs.length := sz_map fun x hx => by
    have := h x hx
    show 10 * x.length + 2 ≤ 82
    omega
  show szDs (xs.map .str) + 5 ≤ _
  omega
section
variable {kinds : List Str} {links : List (Str × Str × Str)} {rules : List Ru}
theorem Fm.pk (h : Fm kinds links rules) (n : Nat) : plainD (n + 1) (tv kinds) = true := plain_sv (n := n) fun x hx => (h.k1 x hx).2
theorem Fm.pl (h : Fm kinds links rules) (n : Nat) : plainD (n + 2) (.tup (links.map lkD)) = true :=
  plain_map (n := n + 1) fun k hk => plain_sv (n := n) (xs := [k.1, k.2.1, k.2.2]) fun x hx => by
    obtain ⟨w1, w2, w3⟩ := lk2_w (h.l1 k hk)
    simp only [List.mem_cons, List.not_mem_nil, or_false] at hx
    rcases hx with rfl | rfl | rfl
    · exact w1.2
    · exact w2.2
    · exact w3.2
theorem Fm.pr3 (h : Fm kinds links rules) (n : Nat) : plainD (n + 3) (.tup (rules.map ruD)) = true :=
  plain_map (n := n + 2) fun r hr => by
    obtain ⟨_, q⟩ := h.r1 r hr
    have a1 : plainD (n + 1) (tv (r.1.1 :: r.1.2)) = true := plain_sv (n := n) q.1
    have a2 : plainD (n + 1) (tv (r.2.1 :: r.2.2)) = true := plain_sv (n := n) q.2.1
    show plainDs (n + 1) [tv (r.1.1 :: r.1.2), tv (r.2.1 :: r.2.2)] = true
    rw [plainDs, a1, plainDs, a2]
    rfl
theorem Fm.pp (h : Fm kinds links rules) : plainD 20 (partsD kinds links rules) = true := by
  show plainDs 19 [tv kinds, .tup (links.map lkD), .tup (rules.map ruD)] = true
  rw [plainDs, h.pk 18, plainDs, h.pl 17, plainDs, h.pr3 16]
  rfl
end
/-! ### alike -/
def eqB3 (k1 : List Str) (l1 : List (Str × Str × Str)) (r1 : List Ru) (k2 : List Str) (l2 : List (Str × Str × Str)) (r2 : List Ru) : Bool :=
  PyData.eqv (toP (tv k1)) (toP (tv k2)) && (PyData.eqv (toP (.tup (l1.map lkD))) (toP (.tup (l2.map lkD))) && PyData.eqv (toP (.tup (r1.map ruD))) (toP (.tup (r2.map ruD))))
section
variable {k1 : List Str} {l1 : List (Str × Str × Str)} {r1 : List Ru} {k2 : List Str} {l2 : List (Str × Str × Str)} {r2 : List Ru}
theorem eq_pl {x y : D} (cs : Cs) (hx : plainD 20 x = true) (hy : plainD 20 y = true) : eqD cs x y = some (.bl (PyData.eqv (toP x) (toP y))) := by
  unfold eqD
  rw [hx, hy]
  rfl
theorem eqv_same {x : D} (hx : plainD 20 x = true) : PyData.eqv (toP x) (toP x) = true := SeqAt.eqv_refl _ (plain_canLay 20 x hx).1
theorem eqB3_same (h : Fm k1 l1 r1) : eqB3 k1 l1 r1 k1 l1 r1 = true := by
  unfold eqB3
  rw [eqv_same (h.pk 19), eqv_same (h.pl 18), eqv_same (h.pr3 17)]
  rfl
theorem eq_parts (h1 : Fm k1 l1 r1) (h2 : Fm k2 l2 r2) (cs : Cs) : eqD cs (partsD k1 l1 r1) (partsD k2 l2 r2) = some (.bl (eqB3 k1 l1 r1 k2 l2 r2)) := by
  rw [eq_pl cs h1.pp h2.pp]
  unfold eqB3
  have : PyData.eqv (toP (partsD k1 l1 r1)) (toP (partsD k2 l2 r2)) = (PyData.eqv (toP (tv k1)) (toP (tv k2)) && (PyData.eqv (toP (.tup (l1.map lkD))) (toP (.tup (l2.map lkD))) && (PyData.eqv (toP (.tup (r1.map ruD))) (toP (.tup (r2.map ruD))) && true))) := by
    show PyData.eqv (.tuple [toP (tv k1), toP (.tup (l1.map lkD)), toP (.tup (r1.map ruD))]) (.tuple [toP (tv k2), toP (.tup (l2.map lkD)), toP (.tup (r2.map ruD))]) = _
    simp only [PyData.eqv, PyData.eqvAll]
  rw [this, Bool.and_true]
/-- a shape and a shape, by the own == -/
theorem shape_eq (h1 : Fm k1 l1 r1) (h2 : Fm k2 l2 r2) (fr1 fr2 : Str → List (List Str × Str)) (cs : Cs) : f_Shape_eq [shapeD k1 l1 r1 fr1, shapeD k2 l2 r2 fr2] cs = .ok (.bl (eqB3 k1 l1 r1 k2 l2 r2)) cs := by
  show fnRes (b_Shape_eq [.val (shapeD k1 l1 r1 fr1), .val (shapeD k2 l2 r2 fr2)] cs) = _
  unfold b_Shape_eq
  have t : eNot (eTru (eIsiO "Shape" (eVar 1))) [.val (shapeD k1 l1 r1 fr1), .val (shapeD k2 l2 r2 fr2)] cs = .ok (.bl false) cs := rfl
  rw [sSeq_nx (by rw [sIf_f t]; rfl)]
  have fk : ∀ (i : Nat) {k : List Str} {l : List (Str × Str × Str)} {r : List Ru} {fr : Str → List (List Str × Str)}, ([.val (shapeD k1 l1 r1 fr1), .val (shapeD k2 l2 r2 fr2)] : List Sl)[i]? = some (.val (shapeD k l r fr)) →
      eFld "Shape" "kinds" (eVar i) [.val (shapeD k1 l1 r1 fr1), .val (shapeD k2 l2 r2 fr2)] cs = .ok (tv k) cs ∧ eFld "Shape" "links" (eVar i) [.val (shapeD k1 l1 r1 fr1), .val (shapeD k2 l2 r2 fr2)] cs = .ok (.tup (l.map lkD)) cs ∧
      eFld "Shape" "rules" (eVar i) [.val (shapeD k1 l1 r1 fr1), .val (shapeD k2 l2 r2 fr2)] cs = .ok (.tup (r.map ruD)) cs := fun i {k l r fr} e => by
    have v := eVar_ok (cs := cs) e
    refine ⟨?_, ?_, ?_⟩ <;> · unfold eFld; rw [v, Res.bind_ok]; rfl
  obtain ⟨a1, a2, a3⟩ := fk 0 (k := k1) (l := l1) (r := r1) (fr := fr1) rfl
  obtain ⟨c1, c2, c3⟩ := fk 1 (k := k2) (l := l2) (r := r2) (fr := fr2) rfl
  have e1 := eBin_ok a1 c1 (eq_pl cs (h1.pk 19) (h2.pk 19))
  have e2 := eBin_ok a2 c2 (eq_pl cs (h1.pl 18) (h2.pl 18))
  have e3 := eBin_ok a3 c3 (eq_pl cs (h1.pr3 17) (h2.pr3 17))
  rw [sRet_ok (eAnd_b e1 (eAnd_b e2 e3))]
  rfl
/-- a shape and something else -/
theorem shape_no (fr1 : Str → List (List Str × Str)) {y : D} (hy : isiO "Shape" y = some (.bl false)) (cs : Cs) : f_Shape_eq [shapeD k1 l1 r1 fr1, y] cs = .ok (.bl false) cs := by
  show fnRes (b_Shape_eq [.val (shapeD k1 l1 r1 fr1), .val y] cs) = _
  unfold b_Shape_eq
  have t0 : eIsiO "Shape" (eVar 1) [.val (shapeD k1 l1 r1 fr1), .val y] cs = .ok (.bl false) cs := by
    unfold eIsiO
    rw [eVar_ok (cs := cs) (d := y) (i := 1) rfl, Res.bind_ok, hy]
    rfl
  rw [sSeq_rt (by rw [sIf_t (eNot_b t0)]; rfl)]
  rfl
end
/-! ### shown -/
structure W8 (kinds : List Str) (links : List (Str × Str × Str)) (rules : List Ru) : Prop where
  k : ∀ x ∈ kinds, x.length ≤ 8
  l : ∀ q ∈ links, q.1.length ≤ 8 ∧ q.2.1.length ≤ 8 ∧ q.2.2.length ≤ 8
  r : ∀ r ∈ rules, (∀ x ∈ r.1.1 :: r.1.2, x.length ≤ 8) ∧ ∀ x ∈ r.2.1 :: r.2.2, x.length ≤ 8
/-- what can be shown, and how -/
theorem repr1_ok {d : D} (h1 : plainD 20 d = true) (h2 : (toP d).showable = true) (h3 : szD d ≤ 1000000) : repr1 d = some (.str (toP d).shown) := by
  unfold repr1
  rw [h1, h2, decide_eq_true h3]
  rfl
section
variable {kinds : List Str} {links : List (Str × Str × Str)} {rules : List Ru} (h : Fm kinds links rules) (E : W8 kinds links rules)
include h E
theorem szs : szD (tv kinds) ≤ 600 ∧ szD (.tup (links.map lkD)) ≤ 4000 ∧ szD (.tup (rules.map ruD)) ≤ 20000 := by
  have hk := h.k3
  have hl := h.l2
  have hr := h.r2
  have a := sz_tv E.k
  have b : szDs (links.map lkD) ≤ (257 + 2) * links.length := sz_map fun q hq => by
    obtain ⟨e1, e2, e3⟩ := E.l q hq
    exact sz_tv (xs := [q.1, q.2.1, q.2.2]) fun x hx => by
      simp only [List.mem_cons, List.not_mem_nil, or_false] at hx
      rcases hx with rfl | rfl | rfl <;> assumption
  have c : szDs (rules.map ruD) ≤ (1198 + 2) * rules.length := sz_map fun r hr => by
    obtain ⟨e1, e2⟩ := E.r r hr
    obtain ⟨_, _, _, _, n1, n2⟩ := ru2_w (h.r1 r hr)
    have s1 := sz_tv e1
    have s2 := sz_tv e2
    rw [List.length_cons] at s1 s2
    show szD (tv (r.1.1 :: r.1.2)) + 2 + (szD (tv (r.2.1 :: r.2.2)) + 2 + 0) + 5 ≤ 1198
    omega
  refine ⟨by omega, ?_, ?_⟩
  · show szDs (links.map lkD) + 5 ≤ _
    omega
  · show szDs (rules.map ruD) + 5 ≤ _
    omega
theorem shws : (toP (tv kinds)).showable = true ∧ (toP (.tup (links.map lkD))).showable = true ∧ (toP (.tup (rules.map ruD))).showable = true := by
  refine ⟨show_tv kinds, ?_, ?_⟩
  · show PyData.showableAll (toPs (links.map lkD)) = true
    exact show_map fun q _ => show_tv _
  · show PyData.showableAll (toPs (rules.map ruD)) = true
    refine show_map fun r _ => ?_
    show PyData.showableAll [toP (tv (r.1.1 :: r.1.2)), toP (tv (r.2.1 :: r.2.2))] = true
    rw [PyData.showableAll, show_tv, PyData.showableAll, show_tv]
    rfl
theorem reprs : repr1 (tv kinds) = some (.str (toP (tv kinds)).shown) ∧ repr1 (.tup (links.map lkD)) = some (.str (toP (.tup (links.map lkD))).shown) ∧ repr1 (.tup (rules.map ruD)) = some (.str (toP (.tup (rules.map ruD))).shown) := by
  obtain ⟨z1, z2, z3⟩ := szs h E
  obtain ⟨s1, s2, s3⟩ := shws h E
  exact ⟨repr1_ok (h.pk 19) s1 (by omega), repr1_ok (h.pl 18) s2 (by omega), repr1_ok (h.pr3 17) s3 (by omega)⟩
theorem repr_parts : repr1 (partsD kinds links rules) = some (.str (toP (partsD kinds links rules)).shown) := by
  obtain ⟨z1, z2, z3⟩ := szs h E
  obtain ⟨s1, s2, s3⟩ := shws h E
  refine repr1_ok h.pp ?_ ?_
  · show PyData.showableAll [toP (tv kinds), toP (.tup (links.map lkD)), toP (.tup (rules.map ruD))] = true
    rw [PyData.showableAll, s1, PyData.showableAll, s2, PyData.showableAll, s3]
    rfl
  · show szD (tv kinds) + 2 + (szD (.tup (links.map lkD)) + 2 + (szD (.tup (rules.map ruD)) + 2 + 0)) + 5 ≤ 1000000
    omega
theorem repr_lst : ∃ T, repr1 (.lst [tv kinds, .tup (links.map lkD), .tup (rules.map ruD)]) = some (.str T) := by
  obtain ⟨z1, z2, z3⟩ := szs h E
  obtain ⟨s1, s2, s3⟩ := shws h E
  refine ⟨_, repr1_ok ?_ ?_ ?_⟩
  · show plainDs 19 [tv kinds, .tup (links.map lkD), .tup (rules.map ruD)] = true
    rw [plainDs, h.pk 18, plainDs, h.pl 17, plainDs, h.pr3 16]
    rfl
  · show PyData.showableAll [toP (tv kinds), toP (.tup (links.map lkD)), toP (.tup (rules.map ruD))] = true
    rw [PyData.showableAll, s1, PyData.showableAll, s2, PyData.showableAll, s3]
    rfl
  · show szD (tv kinds) + 2 + (szD (.tup (links.map lkD)) + 2 + (szD (.tup (rules.map ruD)) + 2 + 0)) + 5 ≤ 1000000
    omega
theorem len_le {d : D} (hp : plainD 20 d = true) {n : Nat} (hz : szD d ≤ n) : (toP d).shown.length ≤ n := Nat.le_trans (shown_le 20 d hp) hz
end
end K02

set_option Elab.async false
set_option linter.all false
set_option maxRecDepth 100000
set_option maxHeartbeats 400000
namespace K02
open PySem PySem.Spec PyProof.Rows L2 LL
theorem join3 (A B C : Str) : tupleText [A, B, C] = ("(" : Str) ++ (A ++ (", " : Str) ++ (B ++ (", " : Str) ++ C)) ++ (")" : Str) := by
  unfold tupleText
  simp only [Str.join]
  rfl
theorem text3 (A B C : Str) : Str.empty ++ ("Shape(" : Str) ++ A ++ (", " : Str) ++ B ++ (", " : Str) ++ C ++ (")" : Str) = ("Shape" : Str) ++ tupleText [A, B, C] := by
  rw [join3]
  have e1 : Str.empty ++ ("Shape(" : Str) = ("Shape" : Str) ++ ("(" : Str) := by decide +kernel
  simp only [e1, Str.append_assoc]
theorem jn7 {f1 f2 f3 : Sem} {S : List Sl} {cs : Cs} {A B C : Str} (h1 : f1 S cs = .ok (.str A) cs) (h2 : f2 S cs = .ok (.str B) cs) (h3 : f3 S cs = .ok (.str C) cs) (hn : A.length + B.length + C.length ≤ 100000) :
    eJn [eC (.str "Shape("), f1, eC (.str ", "), f2, eC (.str ", "), f3, eC (.str ")")] S cs = .ok (.str (Str.empty ++ ("Shape(" : Str) ++ A ++ (", " : Str) ++ B ++ (", " : Str) ++ C ++ (")" : Str))) cs := by
  have c0 : (("Shape(" : Str)).length = 6 := by decide +kernel
  have c1 : ((", " : Str)).length = 2 := by decide +kernel
  have c2 : ((")" : Str)).length = 1 := by decide +kernel
  have c3 : (Str.empty).length = 0 := by decide +kernel
  unfold eJn
  generalize Str.ofString "Shape(" = P at c0 ⊢
  generalize Str.ofString ", " = Q at c1 ⊢
  generalize Str.ofString ")" = R at c2 ⊢
  generalize Str.empty = Z at c3 ⊢
  have st : ∀ {f : Sem} {fs : List Sem} {acc y : Str}, f S cs = .ok (.str y) cs → (acc ++ y).length ≤ 1000000 → jnR (f :: fs) acc S cs = jnR fs (acc ++ y) S cs := fun {f fs acc y} hf hl => by
    rw [jnR, hf, Res.bind_ok]
    exact if_pos hl
  rw [st (y := P) rfl (by rw [strLen_append]; omega), st h1 (by simp only [strLen_append]; omega), st (y := Q) rfl (by simp only [strLen_append]; omega), st h2 (by simp only [strLen_append]; omega), st (y := Q) rfl (by simp only [strLen_append]; omega), st h3 (by simp only [strLen_append]; omega), st (y := R) rfl (by simp only [strLen_append]; omega)]
  rfl
end K02

set_option Elab.async false
set_option linter.all false
set_option maxRecDepth 100000
set_option maxHeartbeats 400000
/-! a shape shown by its own __repr__ -/
namespace K02
open PySem PySem.Spec PyProof.Rows L2 LL
theorem fmt_ok {f : Sem} {S : List Sl} {cs : Cs} {xs : List D} {T : Str} (h : f S cs = .ok (.tup xs) cs) (hr : repr1 (.tup xs) = some (.str T)) : eFmtR f S cs = .ok (.str T) cs := by
  unfold eFmtR
  rw [h, Res.bind_ok]
  show Res.opt (repr1 (.tup xs)) cs = _
  rw [hr]
  rfl
theorem fld_ok {f : Sem} {S : List Sl} {cs : Cs} {c fld : Str} {d z : D} (h : f S cs = .ok d cs) (hf : fieldD c fld d = some z) : eFld c fld f S cs = .ok z cs := by
  unfold eFld
  rw [h, Res.bind_ok, hf]
  rfl
section
variable {kinds : List Str} {links : List (Str × Str × Str)} {rules : List Ru} {fr : Str → List (List Str × Str)}
theorem fd_rules : fieldD "Shape" "rules" (shapeD kinds links rules fr) = some (.tup (rules.map ruD)) := by kernel_rfl
theorem shown3 (a b c : D) : (toP (.tup [a, b, c])).shown = tupleText [(toP a).shown, (toP b).shown, (toP c).shown] := by
  rw [toP, PyData.shown, toPs, toPs, toPs, toPs, PyData.shownAll, PyData.shownAll, PyData.shownAll, PyData.shownAll]
theorem shape_repr (h : Fm kinds links rules) (E : W8 kinds links rules) (fr : Str → List (List Str × Str)) (cs : Cs) : f_Shape_repr [shapeD kinds links rules fr] cs = .ok (.str (("Shape" : Str) ++ (toP (partsD kinds links rules)).shown)) cs := by
  obtain ⟨z1, z2, z3⟩ := szs h E
  obtain ⟨p1, p2, p3⟩ := reprs h E
  have n1 := Nat.le_trans (shown_le 20 _ (h.pk 19)) z1
  have n2 := Nat.le_trans (shown_le 20 _ (h.pl 18)) z2
  have n3 := Nat.le_trans (shown_le 20 _ (h.pr3 17)) z3
  have es : (toP (partsD kinds links rules)).shown = tupleText [(toP (tv kinds)).shown, (toP (.tup (links.map lkD))).shown, (toP (.tup (rules.map ruD))).shown] := shown3 _ _ _
  rw [es]
  generalize (toP (tv kinds)).shown = A at p1 n1
  generalize (toP (.tup (links.map lkD))).shown = B at p2 n2
  generalize (toP (.tup (rules.map ruD))).shown = C at p3 n3
  rw [← text3]
  have v : eVar 0 [.val (shapeD kinds links rules fr)] cs = .ok (shapeD kinds links rules fr) cs := rfl
  have j := jn7 (fmt_ok (fld_ok v fd_kinds) p1) (fmt_ok (fld_ok v fd_links) p2) (fmt_ok (fld_ok v fd_rules) p3) (by omega)
  have e0 : f_Shape_repr [shapeD kinds links rules fr] cs = fnRes (b_Shape_repr [.val (shapeD kinds links rules fr)] cs) := rfl
  rw [e0]
  unfold b_Shape_repr
  rw [sRet_ok j]
  rfl
end
end K02

set_option Elab.async false
set_option linter.all false
set_option maxRecDepth 100000
set_option maxHeartbeats 1000000
/-! k02: what the law asks of a shape -/
namespace K02
open PySem PySem.Spec PyProof.Rows L2 LL
theorem eO_ok {run : D → D → Cs → Res D} {f g : Sem} {S : List Sl} {cs : Cs} {x y z : D} (h1 : f S cs = .ok x cs) (h2 : g S cs = .ok y cs) (h : run x y cs = .ok z cs) : eO run f g S cs = .ok z cs := by
  unfold eO
  rw [h1, Res.bind_ok, h2, Res.bind_ok, h]
  rfl
theorem eCallO_ok {run : Cs → List D → Res D} {g : Sems} {S : List Sl} {cs : Cs} {xs : List D} {z : D} (h : g S cs = .ok xs cs) (h2 : run cs xs = .ok z cs) : eCallO run g S cs = .ok z cs := by
  unfold eCallO
  rw [h, Res.bind_ok, h2]
  rfl
theorem not_b {f : Sem} {S : List Sl} {cs : Cs} {b : Bool} (h : f S cs = .ok (.bl b) cs) : eNot f S cs = .ok (.bl (!b)) cs := by
  unfold eNot
  rw [h]
  rfl
theorem ne_same {f g : Sem} {S : List Sl} {cs cs1 cs2 : Cs} {T : Str} (h1 : f S cs = .ok (.str T) cs1) (h2 : g S cs1 = .ok (.str T) cs2) : eBin neRD f g S cs = .ok (.bl false) cs2 := by
  refine eBin_ok h1 h2 ?_
  show some (D.bl (!PyData.eqv (.str T) (.str T))) = _
  have : PyData.eqv (.str T) (.str T) = true := by
    unfold PyData.eqv
    simp
  rw [this]
  rfl
section
variable {k1 : List Str} {l1 : List (Str × Str × Str)} {r1 : List Ru} {k2 : List Str} {l2 : List (Str × Str × Str)} {r2 : List Ru} {fr1 fr2 : Str → List (List Str × Str)}
/-! ### one shape and another -/
theorem fn2 {F : Fn} {x y d : D} {cs : Cs} (h : F [x, y] cs = .ok d cs) : noX (fnN 2 F [x, y] cs) = .ok d cs := by
  rw [fnN_ok (n := 2) rfl, h]
  rfl
theorem run_eq (h1 : Fm k1 l1 r1) (h2 : Fm k2 l2 r2) (cs : Cs) : eqRun "Shape" f_Shape_eq (shapeD k1 l1 r1 fr1) (shapeD k2 l2 r2 fr2) cs = .ok (.bl (eqB3 k1 l1 r1 k2 l2 r2)) cs := by
  have e : eqRun "Shape" f_Shape_eq (shapeD k1 l1 r1 fr1) (shapeD k2 l2 r2 fr2) cs = noX (fnN 2 f_Shape_eq [shapeD k1 l1 r1 fr1, shapeD k2 l2 r2 fr2] cs) := by
    show (if ("Shape" : Str) = "Shape" then eqR "Shape" f_Shape_eq (shapeD k1 l1 r1 fr1) (shapeD k2 l2 r2 fr2) cs else .bad) = _
    rw [if_pos rfl]
    show (if ("Shape" : Str) = "Shape" then noX (fnN 2 f_Shape_eq [shapeD k1 l1 r1 fr1, shapeD k2 l2 r2 fr2] cs) else .bad) = _
    rw [if_pos rfl]
  rw [e]
  exact fn2 (shape_eq h1 h2 fr1 fr2 cs)
theorem a_eq (h1 : Fm k1 l1 r1) (h2 : Fm k2 l2 r2) (cs : Cs) : eqA "Shape" f_Shape_eq (shapeD k1 l1 r1 fr1) (shapeD k2 l2 r2 fr2) cs = .ok (.bl (eqB3 k1 l1 r1 k2 l2 r2)) cs := run_eq h1 h2 cs
theorem a_ne (h1 : Fm k1 l1 r1) (h2 : Fm k2 l2 r2) (cs : Cs) : neA "Shape" f_Shape_eq (shapeD k1 l1 r1 fr1) (shapeD k2 l2 r2 fr2) cs = .ok (.bl (!eqB3 k1 l1 r1 k2 l2 r2)) cs := by
  show negR (noX (eqRun "Shape" f_Shape_eq (shapeD k1 l1 r1 fr1) (shapeD k2 l2 r2 fr2) cs)) = _
  rw [run_eq h1 h2 cs]
  rfl
theorem b_ne (a b : Bool) (cs : Cs) : neA "Shape" f_Shape_eq (.bl a) (.bl b) cs = .ok (.bl (a != b)) cs := by cases a <;> cases b <;> rfl
theorem b_eq (a b : Bool) (cs : Cs) : eqA "Shape" f_Shape_eq (.bl a) (.bl b) cs = .ok (.bl (a == b)) cs := by cases a <;> cases b <;> rfl
theorem p_eq (h1 : Fm k1 l1 r1) (h2 : Fm k2 l2 r2) (cs : Cs) : eqA "Shape" f_Shape_eq (partsD k1 l1 r1) (partsD k2 l2 r2) cs = .ok (.bl (eqB3 k1 l1 r1 k2 l2 r2)) cs := by
  show Res.opt (eqD cs (partsD k1 l1 r1) (partsD k2 l2 r2)) cs = _
  rw [eq_parts h1 h2]
  rfl
/-- a shape and something that is none -/
theorem a_tup (xs : List D) (cs : Cs) : eqA "Shape" f_Shape_eq (shapeD k1 l1 r1 fr1) (.tup xs) cs = .ok (.bl false) cs := by
  have e : eqA "Shape" f_Shape_eq (shapeD k1 l1 r1 fr1) (.tup xs) cs = noX (fnN 2 f_Shape_eq [shapeD k1 l1 r1 fr1, .tup xs] cs) := by
    show (if ("Shape" : Str) = "Shape" then eqR "Shape" f_Shape_eq (shapeD k1 l1 r1 fr1) (.tup xs) cs else .bad) = _
    rw [if_pos rfl]
    rfl
  rw [e]
  exact fn2 (shape_no fr1 rfl cs)
theorem a_lst (xs : List D) (cs : Cs) : eqA "Shape" f_Shape_eq (shapeD k1 l1 r1 fr1) (.lst xs) cs = .ok (.bl false) cs := by
  have e : eqA "Shape" f_Shape_eq (shapeD k1 l1 r1 fr1) (.lst xs) cs = noX (fnN 2 f_Shape_eq [shapeD k1 l1 r1 fr1, .lst xs] cs) := by
    show (if ("Shape" : Str) = "Shape" then eqR "Shape" f_Shape_eq (shapeD k1 l1 r1 fr1) (.lst xs) cs else .bad) = _
    rw [if_pos rfl]
    rfl
  rw [e]
  exact fn2 (shape_no fr1 rfl cs)
theorem a_str (x : Str) (cs : Cs) : eqA "Shape" f_Shape_eq (shapeD k1 l1 r1 fr1) (.str x) cs = .ok (.bl false) cs := by
  have e : eqA "Shape" f_Shape_eq (shapeD k1 l1 r1 fr1) (.str x) cs = noX (fnN 2 f_Shape_eq [shapeD k1 l1 r1 fr1, .str x] cs) := by
    show (if ("Shape" : Str) = "Shape" then eqR "Shape" f_Shape_eq (shapeD k1 l1 r1 fr1) (.str x) cs else .bad) = _
    rw [if_pos rfl]
    rfl
  rw [e]
  exact fn2 (shape_no fr1 rfl cs)
theorem tup_a (xs : List D) (cs : Cs) : eqA "Shape" f_Shape_eq (.tup xs) (shapeD k1 l1 r1 fr1) cs = .ok (.bl false) cs := by
  have e : eqA "Shape" f_Shape_eq (.tup xs) (shapeD k1 l1 r1 fr1) cs = noX (fnN 2 f_Shape_eq [shapeD k1 l1 r1 fr1, .tup xs] cs) := by
    show (if ("Shape" : Str) = "Shape" then noX (fnN 2 f_Shape_eq [shapeD k1 l1 r1 fr1, .tup xs] cs) else .bad) = _
    rw [if_pos rfl]
  rw [e]
  exact fn2 (shape_no fr1 rfl cs)
theorem in_self (h1 : Fm k1 l1 r1) (cs : Cs) : inA true "Shape" f_Shape_eq (shapeD k1 l1 r1 fr1) (.lst [shapeD k1 l1 r1 fr2]) cs = .ok (.bl false) cs := by
  have e : inA true "Shape" f_Shape_eq (shapeD k1 l1 r1 fr1) (.lst [shapeD k1 l1 r1 fr2]) cs = (LL.anyR "Shape" f_Shape_eq (shapeD k1 l1 r1 fr1) [shapeD k1 l1 r1 fr2] cs).bind fun b cs => .ok (.bl (if true then !b else b)) cs := by
    show (if ("Shape" : Str) = "Shape" then inL true "Shape" f_Shape_eq (shapeD k1 l1 r1 fr1) (.lst [shapeD k1 l1 r1 fr2]) cs else .bad) = _
    rw [if_pos rfl]
    rfl
  have e2 : elR "Shape" f_Shape_eq (shapeD k1 l1 r1 fr1) (shapeD k1 l1 r1 fr2) cs = .ok true cs := by
    unfold elR shapeD
    dsimp only
    rw [if_pos rfl]
    have := fn2 (shape_eq h1 h1 fr2 fr1 cs)
    unfold shapeD at this
    rw [this, eqB3_same h1]
    rfl
  rw [e]
  unfold LL.anyR
  rw [e2]
  rfl
theorem in_none (xs : List D) (cs : Cs) : inA false "Shape" f_Shape_eq (shapeD k1 l1 r1 fr1) (.lst [.tup xs, .non]) cs = .ok (.bl false) cs := by
  have e : inA false "Shape" f_Shape_eq (shapeD k1 l1 r1 fr1) (.lst [.tup xs, .non]) cs = (LL.anyR "Shape" f_Shape_eq (shapeD k1 l1 r1 fr1) [.tup xs, .non] cs).bind fun b cs => .ok (.bl (if false then !b else b)) cs := by
    show (if ("Shape" : Str) = "Shape" then inL false "Shape" f_Shape_eq (shapeD k1 l1 r1 fr1) (.lst [.tup xs, .non]) cs else .bad) = _
    rw [if_pos rfl]
    rfl
  have e1 : elR "Shape" f_Shape_eq (shapeD k1 l1 r1 fr1) (.tup xs) cs = .ok false cs := by
    unfold elR
    dsimp only
    rw [fn2 (shape_no fr1 rfl cs)]
    rfl
  have e2 : elR "Shape" f_Shape_eq (shapeD k1 l1 r1 fr1) .non cs = .ok false cs := by
    unfold elR
    dsimp only
    rw [fn2 (shape_no fr1 rfl cs)]
    rfl
  rw [e]
  unfold LL.anyR
  rw [e1, Res.bind_ok]
  show (LL.anyR "Shape" f_Shape_eq (shapeD k1 l1 r1 fr1) [.non] cs).bind _ = _
  unfold LL.anyR
  rw [e2]
  rfl
/-! ### shown -/
theorem r_obj (h : Fm k1 l1 r1) (E : W8 k1 l1 r1) (cs : Cs) : reprO "Shape" f_Shape_repr cs [shapeD k1 l1 r1 fr1] = .ok (.str (("Shape" : Str) ++ (toP (partsD k1 l1 r1)).shown)) cs := by
  have e : reprO "Shape" f_Shape_repr cs [shapeD k1 l1 r1 fr1] = strR (noX (fnN 1 f_Shape_repr [shapeD k1 l1 r1 fr1] cs)) := by
    show (if ("Shape" : Str) = "Shape" then strR (noX (fnN 1 f_Shape_repr [shapeD k1 l1 r1 fr1] cs)) else .bad) = _
    rw [if_pos rfl]
  rw [e, fnN_ok (n := 1) rfl, shape_repr h E fr1 cs]
  rfl
theorem r_lst {xs : List D} {T : Str} (h : repr1 (.lst xs) = some (.str T)) (cs : Cs) : reprO "Shape" f_Shape_repr cs [.lst xs] = .ok (.str T) cs := by
  show Res.opt (repr1 (.lst xs)) cs = _
  rw [h]
  rfl
theorem r_tup {xs : List D} {T : Str} (h : repr1 (.tup xs) = some (.str T)) (cs : Cs) : reprO "Shape" f_Shape_repr cs [.tup xs] = .ok (.str T) cs := by
  show Res.opt (repr1 (.tup xs)) cs = _
  rw [h]
  rfl
end
/-! ### kinds alone -/
theorem sum_one : ∀ l : List Str, (l.map fun _ => (1 : Int)).sum = (l.length : Int)
  | [] => rfl
  | x :: l => by
    rw [List.map_cons, List.sum_cons, sum_one l, List.length_cons]
    omega
theorem alone {kinds : List Str} {links : List (Str × Str × Str)} {rules : List Ru} (h : Fm kinds links rules) (n1 : kinds.Nodup) : Fm kinds [] [] ∧ whyR kinds [] [] = none := by
  have f : Fm kinds [] [] := ⟨h.k1, h.k2, h.k3, fun k hk => absurd hk (by simp), by simp, fun r hr => absurd hr (by simp), by simp⟩
  refine ⟨f, ?_⟩
  have hn : namedB kinds [] = true := by
    unfold namedB
    rw [cS_nodup n1 _ (Nat.le_refl _)]
    simp [cS]
  have hf : ∀ k, frO [] [] k = [([k], k)] := fun k => by
    have e := frO_ok [] [] k
    have e2 : fromL ([] : List (Str × Str × Str)) (prsOf []) fu [([k], k)] [] = some [([k], k)] := by
      have g : fu = 999999999999999999999999999998 + 1 + 1 := by decide
      rw [g]
      unfold fromL
      have l : longerL [([k], k)] ([] : List (Str × Str × Str)) (prsOf []) = [] := rfl
      rw [l, if_neg (by simp)]
      unfold fromL
      exact if_pos rfl
    rw [e2] at e
    exact (Option.some.inj e).symm
  unfold whyR
  rw [if_pos hn, if_pos (by rfl), if_pos (by rfl), if_neg (by decide)]
  have hs : (kinds.map fun k => ((frO [] [] k).length : Int)).sum = (kinds.length : Int) := by
    have : (fun k : Str => ((frO [] [] k).length : Int)) = fun _ => 1 := by
      funext k
      rw [hf]
      rfl
    rw [this]
    exact sum_one kinds
  rw [hs]
  exact if_pos (by have := h.k3; omega)
end K02

set_option Elab.async false
set_option linter.all false
set_option maxRecDepth 100000
set_option maxHeartbeats 4000000
/-! the shapes by hand: none is equal to any other -/
namespace K02
open PySem PySem.Spec PyProof.Rows L2 LL
theorem apart_ok (cs : Cs) : f_law_apart_right [] cs = .ok (.bl true) cs := by
  kernel_rfl
end K02

set_option Elab.async false
set_option linter.all false
set_option maxRecDepth 100000
set_option maxHeartbeats 4000000
namespace K02
open PySem PySem.Spec PyProof.Rows L2 LL
section
variable {P : Program} {w : World} {K : PySem.W.Frag} {mg : Str → Option Value} {base : Heap}
/-! law -/
abbrev s_law : Stmt := topS 34
abbrev n_law : List Str := ["_law_script", "_law_k", "_law_tape_here", "_law_a", "_law_b", "_law_c", "_law_one", "_law_again", "_law_parts_here", "_law_other"]
abbrev p_law : List Str := ["_law_script"]
theorem sc_law : FnScope n_law p_law (defScope s_law) := ⟨rfl, rfl, rfl, by decide +kernel, rfl, by decide +kernel, by decide +kernel⟩
def b_law : Cm := sSeq (sIf (eOr (eBin neRD (eCallO (reprO "Shape" f_Shape_repr) (eCons (eC (.int 60)) (eNil))) (eC (.str "60"))) (eNot (eTru (eFn (fnN 0 f_law_apart_right) eNil []))))
  (sRet (eC (.bl false)))
  (sNil))
  (sSeq (sFor (iR2 (eCons (eC (.int 0)) (eCons (eCall max2D (eCons (eC (.int 2)) (eCons (eCall min2D (eCons (eC (.int 6)) (eCons (eCall lenD (eCons (eVar 0) (eNil))) (eNil)))) (eNil)))) (eNil)))) (gN 1)
  (sSeq (sSet 2 (eFn (fnN 2 f_law_tape) (eCons (eVar 0) (eCons (eVar 1) (eNil))) []))
  (sSeq (sAsg (gT (gsC (gN 3) (gsC (gN 4) (gsC (gN 5) (gs0))))) (eFn (fnN 1 f_law_parts) (eCons (eVar 2) (eNil)) []))
  (sSeq (sSet 6 (eMk "Shape" f_Shape_init (eCons (eVar 3) (eCons (eVar 4) (eCons (eVar 5) (eNil)))) [] 4))
  (sSeq (sIf (eOr (eBin neRD (eCallO (reprO "Shape" f_Shape_repr) (eCons (eLst (eCons (eFld "Shape" "kinds" (eVar 6)) (eCons (eFld "Shape" "links" (eVar 6)) (eCons (eFld "Shape" "rules" (eVar 6)) (eNil))))) (eNil))) (eCallO (reprO "Shape" f_Shape_repr) (eCons (eLst (eCons (eVar 3) (eCons (eVar 4) (eCons (eVar 5) (eNil))))) (eNil)))) (eBin neRD (eCallO (reprO "Shape" f_Shape_repr) (eCons (eVar 6) (eNil))) (eBin addD (eC (.str "Shape")) (eCallO (reprO "Shape" f_Shape_repr) (eCons (eTup (eCons (eVar 3) (eCons (eVar 4) (eCons (eVar 5) (eNil))))) (eNil))))))
  (sRet (eC (.bl false)))
  (sNil))
  (sSeq (sSet 7 (eMkK "Shape" f_Shape_init [1, 2, 0] 3 4 (eCons (eVar 5) (eCons (eVar 3) (eCons (eVar 4) (eNil))))))
  (sSeq (sIf (eOr (eO (neA "Shape" f_Shape_eq) (eVar 6) (eVar 7)) (eOr (eNot (eO (eqA "Shape" f_Shape_eq) (eVar 6) (eVar 7))) (eO (inA true "Shape" f_Shape_eq) (eVar 6) (eLst (eCons (eVar 7) (eNil))))))
  (sRet (eC (.bl false)))
  (sNil))
  (sSeq (sIf (eBin isNotD (eFnK 0 3 3 f_why_no_shape [2, 0, 1] eNil (eCons (eVar 4) (eCons (eVar 5) (eCons (eVar 3) (eNil))))) (eC .non))
  (sRet (eC (.bl false)))
  (sNil))
  (sSeq (sIf (eOr (eO (eqA "Shape" f_Shape_eq) (eVar 6) (eTup (eCons (eVar 3) (eCons (eVar 4) (eCons (eVar 5) (eNil)))))) (eOr (eO (eqA "Shape" f_Shape_eq) (eVar 6) (eLst (eCons (eVar 3) (eCons (eVar 4) (eCons (eVar 5) (eNil)))))) (eOr (eO (eqA "Shape" f_Shape_eq) (eVar 6) (eCallO (reprO "Shape" f_Shape_repr) (eCons (eVar 6) (eNil)))) (eOr (eO (eqA "Shape" f_Shape_eq) (eTup (eCons (eVar 3) (eCons (eVar 4) (eCons (eVar 5) (eNil))))) (eVar 6)) (eO (inA false "Shape" f_Shape_eq) (eVar 6) (eLst (eCons (eVar 3) (eCons (eC .non) (eNil)))))))))
  (sRet (eC (.bl false)))
  (sNil))
  (sSeq (sFor (iA (eFn (fnN 1 f_law_others) (eCons (eTup (eCons (eVar 3) (eCons (eVar 4) (eCons (eVar 5) (eNil))))) (eNil)) [])) (gN 8)
  (sSeq (sSet 9 (eMk "Shape" f_Shape_init (eCons (eBin ixD (eVar 8) (eC (.int 0))) (eCons (eBin ixD (eVar 8) (eC (.int 1))) (eCons (eBin ixD (eVar 8) (eC (.int 2))) (eNil)))) [] 4))
  (sIf (eOr (eO (neA "Shape" f_Shape_eq) (eO (eqA "Shape" f_Shape_eq) (eVar 6) (eVar 9)) (eO (eqA "Shape" f_Shape_eq) (eVar 8) (eTup (eCons (eVar 3) (eCons (eVar 4) (eCons (eVar 5) (eNil))))))) (eO (eqA "Shape" f_Shape_eq) (eO (neA "Shape" f_Shape_eq) (eVar 6) (eVar 9)) (eO (eqA "Shape" f_Shape_eq) (eVar 8) (eTup (eCons (eVar 3) (eCons (eVar 4) (eCons (eVar 5) (eNil))))))))
  (sRet (eC (.bl false)))
  (sNil))))
  (sIf (eBin neRD (eCallO (reprO "Shape" f_Shape_repr) (eCons (eMk "Shape" f_Shape_init (eCons (eVar 3) (eNil)) [.tup [], .tup []] 4) (eNil))) (eCallO (reprO "Shape" f_Shape_repr) (eCons (eMk "Shape" f_Shape_init (eCons (eVar 3) (eCons (eTup (eNil)) (eCons (eTup (eNil)) (eNil)))) [] 4) (eNil))))
  (sRet (eC (.bl false)))
  (sNil))))))))))))
  (sRet (eC (.bl true))))
def f_law : Fn := fnSem 1 10 b_law
theorem ok_law (T : Tx K mg) (g_Shape : MkAt P w K mg base 6 "Shape" 4 f_Shape_init) (ge_Shape : EqAt P w K mg base 1 "Shape" f_Shape_eq) (g_law_apart_right : FnAt P w K mg base 8 "_law_apart_right" 0 f_law_apart_right) (g_law_others : FnAt P w K mg base 8 "_law_others" 1 f_law_others) (g_law_parts : FnAt P w K mg base 8 "_law_parts" 1 f_law_parts) (g_law_tape : FnAt P w K mg base 2 "_law_tape" 2 f_law_tape) (gk_why_no_shape_0 : FnKw P w K mg base 5 "why_no_shape" 3 f_why_no_shape 0 ["links", "rules", "kinds"] [2, 0, 1]) (gd_Shape_1 : MkD P w K mg base 6 "Shape" 4 f_Shape_init [.tup [], .tup []]) (gmk_Shape_0 : MkKw P w K mg base 6 "Shape" 4 f_Shape_init ["rules", "kinds", "links"] [1, 2, 0]) (gr_Shape : ReAt P w K mg base 1 "Shape" f_Shape_repr) {f : Addr} {fd : FuncData} {dv0 : List V} {kw0 : List (Str × V)} (F : FunD K "law" "law" (defArgs s_law) (defBody s_law) (defScope s_law) dv0 kw0 f fd) :
    FnC P w K mg base 9 f fd p_law (spF K mg 1 f_law) :=
  fn_okC F sc_law (fun cdv A outer s H E hr hc => (dss_cons (ds_if (DW.pt (dw_or (dt_cmp (op_neRX hr) (de_callBO (cr_reprO gr_Shape (hr.mono (by decide)) hc) (by rfl) T.z_repr (by decide +kernel) (da_cons (de_gint (by rfl) T.c_MOST_WAYS) da_nil)) de_str (nomark _)) (dw_or1 (dt_not (dt_tru (de_callG0 g_law_apart_right (hr.mono (by decide)) (by rfl)))))))
  (dss_one (ds_ret de_bl))
  dss_nil)
  (dss_cons (ds_for PassesOwn.never (by rfl) (di_rng2 (by rfl) T.z_range (da_cons de_int (da_cons (de_callB (cr_max2X (by rfl)) (by rfl) T.z_max (by decide +kernel) (da_cons de_int (da_cons (de_callB (cr_min2X (by rfl)) (by rfl) T.z_min (by decide +kernel) (da_cons de_int (da_cons (de_callB cr_lenX (by rfl) T.z_len (by decide +kernel) (da_cons (de_of 0 (pv 0)) da_nil)) da_nil))) da_nil))) da_nil))) (dg_of (i := 1) (pg_name (i := 1) sc_law.nd rfl (by first | exact Or.inl rfl | exact Or.inr rfl)))
  (dss_cons (ds_set (i := 2) sc_law.nd rfl (by first | exact Or.inl rfl | exact Or.inr rfl) (de_callG g_law_tape (hr.mono (by decide)) (by rfl) (da_cons (de_of 0 (pv 0)) (da_cons (de_of 1 (pv 1)) da_nil))))
  (dss_cons (ds_asg (de_callG g_law_parts (hr.mono (by decide)) (by rfl) (da_cons (de_of 2 (pv 2)) da_nil)) (dg_tup (by rfl) (dgs_cons (dg_of (i := 3) (pg_name (i := 3) sc_law.nd rfl (by first | exact Or.inl rfl | exact Or.inr rfl))) (dgs_cons (dg_of (i := 4) (pg_name (i := 4) sc_law.nd rfl (by first | exact Or.inl rfl | exact Or.inr rfl))) (dgs_cons (dg_of (i := 5) (pg_name (i := 5) sc_law.nd rfl (by first | exact Or.inl rfl | exact Or.inr rfl))) dgs_nil))) (gsC_len (gsC_len (gsC_len gs0_len)))))
  (dss_cons (ds_set (i := 6) sc_law.nd rfl (by first | exact Or.inl rfl | exact Or.inr rfl) (de_makeG g_Shape (hr.mono (by decide)) (by rfl) (da_cons (de_of 3 (pv 3)) (da_cons (de_of 4 (pv 4)) (da_cons (de_of 5 (pv 5)) da_nil)))))
  (dss_cons (ds_if (DW.pt (dw_or (dt_cmp (op_neRX hr) (de_callBO (cr_reprO gr_Shape (hr.mono (by decide)) hc) (by rfl) T.z_repr (by decide +kernel) (da_cons (de_lst (da_cons (de_fld T.a_Shape_kinds (de_of 6 (pv 6))) (da_cons (de_fld T.a_Shape_links (de_of 6 (pv 6))) (da_cons (de_fld T.a_Shape_rules (de_of 6 (pv 6))) da_nil)))) da_nil)) (de_callBO (cr_reprO gr_Shape (hr.mono (by decide)) hc) (by rfl) T.z_repr (by decide +kernel) (da_cons (de_lst (da_cons (de_of 3 (pv 3)) (da_cons (de_of 4 (pv 4)) (da_cons (de_of 5 (pv 5)) da_nil)))) da_nil)) (nomark _)) (dw_or1 (dt_cmp (op_neRX hr) (de_callBO (cr_reprO gr_Shape (hr.mono (by decide)) hc) (by rfl) T.z_repr (by decide +kernel) (da_cons (de_of 6 (pv 6)) da_nil)) (de_bin op_addX de_str (de_callBO (cr_reprO gr_Shape (hr.mono (by decide)) hc) (by rfl) T.z_repr (by decide +kernel) (da_cons (de_tup (da_cons (de_of 3 (pv 3)) (da_cons (de_of 4 (pv 4)) (da_cons (de_of 5 (pv 5)) da_nil)))) da_nil))) (nomark _)))))
  (dss_one (ds_ret de_bl))
  dss_nil)
  (dss_cons (ds_set (i := 7) sc_law.nd rfl (by first | exact Or.inl rfl | exact Or.inr rfl) (de_makeK gmk_Shape_0 (hr.mono (by decide)) (by rfl) (dk_cons (de_of 5 (pv 5)) (dk_cons (de_of 3 (pv 3)) (dk_cons (de_of 4 (pv 4)) dk_nil)))))
  (dss_cons (ds_if (DW.pt (dw_or (dt_cmpO (op_neA ge_Shape (hr.mono (by decide)) hr) (de_of 6 (pv 6)) (de_of 7 (pv 7)) (nomark _)) (dw_or (dt_not (dt_cmpO (op_eqA ge_Shape (hr.mono (by decide)) hr) (de_of 6 (pv 6)) (de_of 7 (pv 7)) (nomark _))) (dw_or1 (dt_cmpO (op_notInA ge_Shape (hr.mono (by decide)) pure_Shape_eq) (de_of 6 (pv 6)) (de_lst (da_cons (de_of 7 (pv 7)) da_nil)) (by with_unfolding_all rfl))))))
  (dss_one (ds_ret de_bl))
  dss_nil)
  (dss_cons (ds_if (dt_cmp op_isNotX (de_kw0 gk_why_no_shape_0 (hr.mono (by decide)) (by rfl) (dk_cons (de_of 4 (pv 4)) (dk_cons (de_of 5 (pv 5)) (dk_cons (de_of 3 (pv 3)) dk_nil)))) de_non (nomark _))
  (dss_one (ds_ret de_bl))
  dss_nil)
  (dss_cons (ds_if (DW.pt (dw_or (dt_cmpO (op_eqA ge_Shape (hr.mono (by decide)) hr) (de_of 6 (pv 6)) (de_tup (da_cons (de_of 3 (pv 3)) (da_cons (de_of 4 (pv 4)) (da_cons (de_of 5 (pv 5)) da_nil)))) (nomark _)) (dw_or (dt_cmpO (op_eqA ge_Shape (hr.mono (by decide)) hr) (de_of 6 (pv 6)) (de_lst (da_cons (de_of 3 (pv 3)) (da_cons (de_of 4 (pv 4)) (da_cons (de_of 5 (pv 5)) da_nil)))) (nomark _)) (dw_or (dt_cmpO (op_eqA ge_Shape (hr.mono (by decide)) hr) (de_of 6 (pv 6)) (de_callBO (cr_reprO gr_Shape (hr.mono (by decide)) hc) (by rfl) T.z_repr (by decide +kernel) (da_cons (de_of 6 (pv 6)) da_nil)) (nomark _)) (dw_or (dt_cmpO (op_eqA ge_Shape (hr.mono (by decide)) hr) (de_tup (da_cons (de_of 3 (pv 3)) (da_cons (de_of 4 (pv 4)) (da_cons (de_of 5 (pv 5)) da_nil)))) (de_of 6 (pv 6)) (nomark _)) (dw_or1 (dt_cmpO (op_inA ge_Shape (hr.mono (by decide)) pure_Shape_eq) (de_of 6 (pv 6)) (de_lst (da_cons (de_of 3 (pv 3)) (da_cons de_non da_nil))) (by with_unfolding_all rfl))))))))
  (dss_one (ds_ret de_bl))
  dss_nil)
  (dss_cons (ds_for PassesOwn.never (by rfl) (di_any (de_callG g_law_others (hr.mono (by decide)) (by rfl) (da_cons (de_tup (da_cons (de_of 3 (pv 3)) (da_cons (de_of 4 (pv 4)) (da_cons (de_of 5 (pv 5)) da_nil)))) da_nil))) (dg_of (i := 8) (pg_name (i := 8) sc_law.nd rfl (by first | exact Or.inl rfl | exact Or.inr rfl)))
  (dss_cons (ds_set (i := 9) sc_law.nd rfl (by first | exact Or.inl rfl | exact Or.inr rfl) (de_makeG g_Shape (hr.mono (by decide)) (by rfl) (da_cons (de_ix hr (de_of 8 (pv 8)) de_int) (da_cons (de_ix hr (de_of 8 (pv 8)) de_int) (da_cons (de_ix hr (de_of 8 (pv 8)) de_int) da_nil)))))
  (dss_one (ds_if (DW.pt (dw_or (dt_cmpO (op_neA ge_Shape (hr.mono (by decide)) hr) (de_cmpO (op_eqA ge_Shape (hr.mono (by decide)) hr) (de_of 6 (pv 6)) (de_of 9 (pv 9)) (nomark _)) (de_cmpO (op_eqA ge_Shape (hr.mono (by decide)) hr) (de_of 8 (pv 8)) (de_tup (da_cons (de_of 3 (pv 3)) (da_cons (de_of 4 (pv 4)) (da_cons (de_of 5 (pv 5)) da_nil)))) (nomark _)) (nomark _)) (dw_or1 (dt_cmpO (op_eqA ge_Shape (hr.mono (by decide)) hr) (de_cmpO (op_neA ge_Shape (hr.mono (by decide)) hr) (de_of 6 (pv 6)) (de_of 9 (pv 9)) (nomark _)) (de_cmpO (op_eqA ge_Shape (hr.mono (by decide)) hr) (de_of 8 (pv 8)) (de_tup (da_cons (de_of 3 (pv 3)) (da_cons (de_of 4 (pv 4)) (da_cons (de_of 5 (pv 5)) da_nil)))) (nomark _)) (nomark _)))))
  (dss_one (ds_ret de_bl))
  dss_nil))))
  (dss_one (ds_if (dt_cmp (op_neRX hr) (de_callBO (cr_reprO gr_Shape (hr.mono (by decide)) hc) (by rfl) T.z_repr (by decide +kernel) (da_cons (de_makeD gd_Shape_1 (hr.mono (by decide)) (by rfl) (da_cons (de_of 3 (pv 3)) da_nil)) da_nil)) (de_callBO (cr_reprO gr_Shape (hr.mono (by decide)) hc) (by rfl) T.z_repr (by decide +kernel) (da_cons (de_makeG g_Shape (hr.mono (by decide)) (by rfl) (da_cons (de_of 3 (pv 3)) (da_cons (de_tup da_nil) (da_cons (de_tup da_nil) da_nil)))) da_nil)) (nomark _))
  (dss_one (ds_ret de_bl))
  dss_nil))))))))))))
  (dss_one (ds_ret de_bl)))))
end
end K02

set_option Elab.async false
set_option linter.all false
set_option maxRecDepth 100000
set_option maxHeartbeats 1000000
/-! k02: the law answers True -/
namespace K02
open PySem PySem.Spec PyProof.Rows L2 LL
def P0 : Cm := sSet 2 (eFn (fnN 2 f_law_tape) (eCons (eVar 0) (eCons (eVar 1) (eNil))) [])
def P1 : Cm := sAsg (gT (gsC (gN 3) (gsC (gN 4) (gsC (gN 5) (gs0))))) (eFn (fnN 1 f_law_parts) (eCons (eVar 2) (eNil)) [])
def P2 : Cm := sSet 6 (eMk "Shape" f_Shape_init (eCons (eVar 3) (eCons (eVar 4) (eCons (eVar 5) (eNil)))) [] 4)
def P3 : Cm := sIf (eOr (eBin neRD (eCallO (reprO "Shape" f_Shape_repr) (eCons (eLst (eCons (eFld "Shape" "kinds" (eVar 6)) (eCons (eFld "Shape" "links" (eVar 6)) (eCons (eFld "Shape" "rules" (eVar 6)) (eNil))))) (eNil))) (eCallO (reprO "Shape" f_Shape_repr) (eCons (eLst (eCons (eVar 3) (eCons (eVar 4) (eCons (eVar 5) (eNil))))) (eNil)))) (eBin neRD (eCallO (reprO "Shape" f_Shape_repr) (eCons (eVar 6) (eNil))) (eBin addD (eC (.str "Shape")) (eCallO (reprO "Shape" f_Shape_repr) (eCons (eTup (eCons (eVar 3) (eCons (eVar 4) (eCons (eVar 5) (eNil))))) (eNil))))))
  (sRet (eC (.bl false)))
  (sNil)
def P4 : Cm := sSet 7 (eMkK "Shape" f_Shape_init [1, 2, 0] 3 4 (eCons (eVar 5) (eCons (eVar 3) (eCons (eVar 4) (eNil)))))
def P5 : Cm := sIf (eOr (eO (neA "Shape" f_Shape_eq) (eVar 6) (eVar 7)) (eOr (eNot (eO (eqA "Shape" f_Shape_eq) (eVar 6) (eVar 7))) (eO (inA true "Shape" f_Shape_eq) (eVar 6) (eLst (eCons (eVar 7) (eNil))))))
  (sRet (eC (.bl false)))
  (sNil)
def P6 : Cm := sIf (eBin isNotD (eFnK 0 3 3 f_why_no_shape [2, 0, 1] eNil (eCons (eVar 4) (eCons (eVar 5) (eCons (eVar 3) (eNil))))) (eC .non))
  (sRet (eC (.bl false)))
  (sNil)
def P7 : Cm := sIf (eOr (eO (eqA "Shape" f_Shape_eq) (eVar 6) (eTup (eCons (eVar 3) (eCons (eVar 4) (eCons (eVar 5) (eNil)))))) (eOr (eO (eqA "Shape" f_Shape_eq) (eVar 6) (eLst (eCons (eVar 3) (eCons (eVar 4) (eCons (eVar 5) (eNil)))))) (eOr (eO (eqA "Shape" f_Shape_eq) (eVar 6) (eCallO (reprO "Shape" f_Shape_repr) (eCons (eVar 6) (eNil)))) (eOr (eO (eqA "Shape" f_Shape_eq) (eTup (eCons (eVar 3) (eCons (eVar 4) (eCons (eVar 5) (eNil))))) (eVar 6)) (eO (inA false "Shape" f_Shape_eq) (eVar 6) (eLst (eCons (eVar 3) (eCons (eC .non) (eNil)))))))))
  (sRet (eC (.bl false)))
  (sNil)
def P8 : Cm := sFor (iA (eFn (fnN 1 f_law_others) (eCons (eTup (eCons (eVar 3) (eCons (eVar 4) (eCons (eVar 5) (eNil))))) (eNil)) [])) (gN 8)
  (sSeq (sSet 9 (eMk "Shape" f_Shape_init (eCons (eBin ixD (eVar 8) (eC (.int 0))) (eCons (eBin ixD (eVar 8) (eC (.int 1))) (eCons (eBin ixD (eVar 8) (eC (.int 2))) (eNil)))) [] 4))
  (sIf (eOr (eO (neA "Shape" f_Shape_eq) (eO (eqA "Shape" f_Shape_eq) (eVar 6) (eVar 9)) (eO (eqA "Shape" f_Shape_eq) (eVar 8) (eTup (eCons (eVar 3) (eCons (eVar 4) (eCons (eVar 5) (eNil))))))) (eO (eqA "Shape" f_Shape_eq) (eO (neA "Shape" f_Shape_eq) (eVar 6) (eVar 9)) (eO (eqA "Shape" f_Shape_eq) (eVar 8) (eTup (eCons (eVar 3) (eCons (eVar 4) (eCons (eVar 5) (eNil))))))))
  (sRet (eC (.bl false)))
  (sNil)))
def P9 : Cm := sIf (eBin neRD (eCallO (reprO "Shape" f_Shape_repr) (eCons (eMk "Shape" f_Shape_init (eCons (eVar 3) (eNil)) [.tup [], .tup []] 4) (eNil))) (eCallO (reprO "Shape" f_Shape_repr) (eCons (eMk "Shape" f_Shape_init (eCons (eVar 3) (eCons (eTup (eNil)) (eCons (eTup (eNil)) (eNil)))) [] 4) (eNil))))
  (sRet (eC (.bl false)))
  (sNil)
abbrev oL (a0 a1 a2 : Sl) (kinds : List Str) (links : List (Str × Str × Str)) (rules : List Ru) (s6 s7 s8 s9 : Sl) : List Sl :=
  [a0, a1, a2, .val (tv kinds), .val (.tup (links.map lkD)), .val (.tup (rules.map ruD)), s6, s7, s8, s9]
section
variable {kinds : List Str} {links : List (Str × Str × Str)} {rules : List Ru} {fr : Str → List (List Str × Str)}
theorem mk_ok {ks : List Str} {ls : List (Str × Str × Str)} {rs : List Ru} {fr : Str → List (List Str × Str)} (h : ShOk ks ls rs fr) {g : Sems} {T : List Sl} {cs : Cs} (hg : g T cs = .ok [tv ks, .tup (ls.map lkD), .tup (rs.map ruD)] cs) : eMk "Shape" f_Shape_init g [] 4 T cs = .ok (shapeD ks ls rs fr) cs := by
  unfold eMk
  rw [hg, Res.bind_ok, if_pos (by rfl), List.append_nil, init_ok h cs]
  rfl
theorem addS (cs : Cs) (a b : Str) (h : a.length + b.length ≤ 1000000) : addD cs (.str a) (.str b) = some (.str (a ++ b)) := by
  simp only [addD]
  rw [if_pos h]
theorem p3_ok (h : Fm kinds links rules) (E : W8 kinds links rules) (a0 a1 a2 s7 s8 s9 : Sl) (cs : Cs) : P3 (oL a0 a1 a2 kinds links rules (.val (shapeD kinds links rules fr)) s7 s8 s9) cs = .nx (oL a0 a1 a2 kinds links rules (.val (shapeD kinds links rules fr)) s7 s8 s9) cs := by
  obtain ⟨T, hT⟩ := repr_lst h E
  obtain ⟨z1, z2, z3⟩ := szs h E
  have hp := repr_parts h E
  have hz : szD (partsD kinds links rules) ≤ 30000 := by
    show szD (tv kinds) + 2 + (szD (.tup (links.map lkD)) + 2 + (szD (.tup (rules.map ruD)) + 2 + 0)) + 5 ≤ 30000
    omega
  have n1 := Nat.le_trans (shown_le 20 _ h.pp) hz
  have n0 : (("Shape" : Str)).length = 5 := by decide +kernel
  unfold P3
  refine (sIf_f (or_ff (ne_same (T := T) (eCallO_ok (eCons_ok (lst_ok (eCons_ok (fld_ok (eVar_ok rfl) fd_kinds) (eCons_ok (fld_ok (eVar_ok rfl) fd_links) (eCons_ok (fld_ok (eVar_ok rfl) fd_rules) rfl))) (by simp)) rfl) (r_lst hT cs)) (eCallO_ok (eCons_ok (lst_ok (eCons_ok (eVar_ok rfl) (eCons_ok (eVar_ok rfl) (eCons_ok (eVar_ok rfl) rfl))) (by simp)) rfl) (r_lst hT cs)))
    (ne_same (T := ("Shape" : Str) ++ (toP (partsD kinds links rules)).shown) (eCallO_ok (eCons_ok (eVar_ok rfl) rfl) (r_obj h E cs)) (eBin_ok rfl (eCallO_ok (eCons_ok (eTup_ok (eCons_ok (eVar_ok rfl) (eCons_ok (eVar_ok rfl) (eCons_ok (eVar_ok rfl) rfl))) (by simp)) rfl) (r_tup hp cs)) (addS cs _ _ (by omega)))))).trans rfl
theorem p4_ok (h : ShOk kinds links rules fr) (a0 a1 a2 s6 s7 s8 s9 : Sl) (cs : Cs) : P4 (oL a0 a1 a2 kinds links rules s6 s7 s8 s9) cs = .nx (oL a0 a1 a2 kinds links rules s6 (.val (shapeD kinds links rules fr)) s8 s9) cs := by
  unfold P4
  refine sSet_ok ?_
  unfold eMkK
  have q0 : (eCons (eVar 5) (eCons (eVar 3) (eCons (eVar 4) (eNil)))) (oL a0 a1 a2 kinds links rules s6 s7 s8 s9) cs = .ok [.tup (rules.map ruD), tv kinds, .tup (links.map lkD)] cs := rfl
  rw [q0, Res.bind_ok, if_pos ⟨rfl, rfl⟩]
  have e : permL [1, 2, 0] [D.tup (rules.map ruD), tv kinds, .tup (links.map lkD)] = [tv kinds, .tup (links.map lkD), .tup (rules.map ruD)] := rfl
  rw [e, init_ok h cs]
theorem p5_ok (h : Fm kinds links rules) (a0 a1 a2 s8 s9 : Sl) (cs : Cs) : P5 (oL a0 a1 a2 kinds links rules (.val (shapeD kinds links rules fr)) (.val (shapeD kinds links rules fr)) s8 s9) cs = .nx (oL a0 a1 a2 kinds links rules (.val (shapeD kinds links rules fr)) (.val (shapeD kinds links rules fr)) s8 s9) cs := by
  unfold P5
  have n := a_ne (fr1 := fr) (fr2 := fr) h h cs
  have q := a_eq (fr1 := fr) (fr2 := fr) h h cs
  rw [eqB3_same h] at n q
  exact (sIf_f (or_ff (eO_ok (eVar_ok rfl) (eVar_ok rfl) n) (or_ff (not_b (eO_ok (eVar_ok rfl) (eVar_ok rfl) q)) (eO_ok (eVar_ok rfl) (lst_ok (eCons_ok (eVar_ok rfl) rfl) (by simp)) (in_self h cs))))).trans rfl
theorem p6_ok (h : ShOk kinds links rules fr) (a0 a1 a2 s6 s7 s8 s9 : Sl) (cs : Cs) : P6 (oL a0 a1 a2 kinds links rules s6 s7 s8 s9) cs = .nx (oL a0 a1 a2 kinds links rules s6 s7 s8 s9) cs := by
  unfold P6
  have q : eFnK 0 3 3 f_why_no_shape [2, 0, 1] eNil (eCons (eVar 4) (eCons (eVar 5) (eCons (eVar 3) (eNil)))) (oL a0 a1 a2 kinds links rules s6 s7 s8 s9) cs = .ok .non cs := by
    unfold eFnK
    have q1 : eNil (oL a0 a1 a2 kinds links rules s6 s7 s8 s9) cs = .ok [] cs := rfl
    have q0 : (eCons (eVar 4) (eCons (eVar 5) (eCons (eVar 3) (eNil)))) (oL a0 a1 a2 kinds links rules s6 s7 s8 s9) cs = .ok [.tup (links.map lkD), .tup (rules.map ruD), tv kinds] cs := rfl
    rw [q1, Res.bind_ok, q0, Res.bind_ok, if_pos ⟨rfl, rfl⟩]
    exact (congrArg noX ((fnN_ok (n := 3) (f := f_why_no_shape) (ds := [tv kinds, .tup (links.map lkD), .tup (rules.map ruD)]) (cs := cs) rfl).trans (why_ok h cs))).trans rfl
  exact (sIf_f (eBin_ok (op := isNotD) q rfl rfl)).trans rfl
theorem p7_ok (h : Fm kinds links rules) (E : W8 kinds links rules) (a0 a1 a2 s7 s8 s9 : Sl) (cs : Cs) : P7 (oL a0 a1 a2 kinds links rules (.val (shapeD kinds links rules fr)) s7 s8 s9) cs = .nx (oL a0 a1 a2 kinds links rules (.val (shapeD kinds links rules fr)) s7 s8 s9) cs := by
  unfold P7
  have tu : eTup (eCons (eVar 3) (eCons (eVar 4) (eCons (eVar 5) (eNil)))) (oL a0 a1 a2 kinds links rules (.val (shapeD kinds links rules fr)) s7 s8 s9) cs = .ok (.tup [tv kinds, .tup (links.map lkD), .tup (rules.map ruD)]) cs := rfl
  have li : eLst (eCons (eVar 3) (eCons (eVar 4) (eCons (eVar 5) (eNil)))) (oL a0 a1 a2 kinds links rules (.val (shapeD kinds links rules fr)) s7 s8 s9) cs = .ok (.lst [tv kinds, .tup (links.map lkD), .tup (rules.map ruD)]) cs := rfl
  have no : eLst (eCons (eVar 3) (eCons (eC .non) (eNil))) (oL a0 a1 a2 kinds links rules (.val (shapeD kinds links rules fr)) s7 s8 s9) cs = .ok (.lst [.tup (kinds.map .str), .non]) cs := rfl
  exact (sIf_f (or_ff (eO_ok (eVar_ok rfl) tu (a_tup _ cs)) (or_ff (eO_ok (eVar_ok rfl) li (a_lst _ cs)) (or_ff (eO_ok (eVar_ok rfl) (eCallO_ok (eCons_ok (eVar_ok rfl) rfl) (r_obj h E cs)) (a_str _ cs)) (or_ff (eO_ok tu (eVar_ok rfl) (tup_a _ cs)) (eO_ok (eVar_ok rfl) no (in_none _ cs))))))).trans rfl
theorem p9_ok (h : Fm kinds links rules) (n1 : kinds.Nodup) (E : W8 kinds links rules) (a0 a1 a2 s6 s7 s8 s9 : Sl) (cs : Cs) : P9 (oL a0 a1 a2 kinds links rules s6 s7 s8 s9) cs = .nx (oL a0 a1 a2 kinds links rules s6 s7 s8 s9) cs := by
  obtain ⟨f, hw⟩ := alone h n1
  have sh := f.shape hw
  have E2 : W8 kinds [] [] := ⟨E.k, fun q hq => absurd hq (by simp), fun r hr => absurd hr (by simp)⟩
  unfold P9
  have m1 : eMk "Shape" f_Shape_init (eCons (eVar 3) (eNil)) [.tup [], .tup []] 4 (oL a0 a1 a2 kinds links rules s6 s7 s8 s9) cs = .ok (shapeD kinds [] [] (frO [] [])) cs := by
    unfold eMk
    have q0 : (eCons (eVar 3) (eNil)) (oL a0 a1 a2 kinds links rules s6 s7 s8 s9) cs = .ok [tv kinds] cs := rfl
    rw [q0, Res.bind_ok, if_pos (by rfl)]
    have e := init_ok sh cs
    have e2 : ([tv kinds] ++ [D.tup [], .tup []] : List D) = [tv kinds, .tup (([] : List (Str × Str × Str)).map lkD), .tup (([] : List Ru).map ruD)] := rfl
    rw [e2, e]
    rfl
  have m2 := mk_ok (T := oL a0 a1 a2 kinds links rules s6 s7 s8 s9) (cs := cs) sh (g := eCons (eVar 3) (eCons (eTup (eNil)) (eCons (eTup (eNil)) (eNil)))) rfl
  exact (sIf_f (ne_same (eCallO_ok (eCons_ok m1 rfl) (r_obj f E2 cs)) (eCallO_ok (eCons_ok m2 rfl) (r_obj f E2 cs)))).trans rfl
end
end K02

set_option Elab.async false
set_option linter.all false
set_option maxRecDepth 100000
set_option maxHeartbeats 1000000
/-! k02: the law answers True, by turns -/
namespace K02
open PySem PySem.Spec PyProof.Rows L2 LL
theorem iR2_int (j : Int) (h : -4611686018427387904 ≤ j ∧ j < 4611686018427387904) (S : List Sl) (cs cs' : Cs) (g : Sems) (e : g S cs = .ok [.int 0, .int j] cs') : iR2 g S cs = .ok (rngD 0 (j - 0).toNat) cs' := by
  unfold iR2
  rw [e]
  exact if_pos ⟨by decide, h⟩
theorem times (len : Nat) : ∃ m : Nat, m < 1000 ∧ (if (if (len : Int) < 6 then (len : Int) else 6) > 2 then (if (len : Int) < 6 then (len : Int) else 6) else 2) = (m : Int) ∧ m ≤ 6 := by
  by_cases h : len < 6
  · have e : (if (len : Int) < 6 then (len : Int) else 6) = len := if_pos (by omega)
    rw [e]
    by_cases h2 : 2 < len
    · exact ⟨len, by omega, if_pos (by omega), by omega⟩
    · exact ⟨2, by omega, if_neg (by omega), by omega⟩
  · have e : (if (len : Int) < 6 then (len : Int) else 6) = 6 := if_neg (by omega)
    rw [e]
    exact ⟨6, by omega, rfl, by omega⟩
theorem word_len : ∀ u < 12, (wordN u).length ≤ 8 := by decide +kernel
theorem ren_len (c : Can) (a : Nat) (x : Sg) : (renC c a x).length ≤ 8 := word_len _ (Nat.mod_lt _ (by decide))
theorem w8_named (c : Can) (a : Nat) : W8 (c.kinds.map (renC c a)) (c.links.map (mpK (renC c a))) (c.rules.map (mpR (renC c a))) :=
  ⟨fun x hx => by
    obtain ⟨y, _, rfl⟩ := List.mem_map.mp hx
    exact ren_len c a y, fun q hq => by
    obtain ⟨y, _, rfl⟩ := List.mem_map.mp hq
    exact ⟨ren_len c a _, ren_len c a _, ren_len c a _⟩, fun r hr => by
    obtain ⟨y, _, rfl⟩ := List.mem_map.mp hr
    refine ⟨fun x hx => ?_, fun x hx => ?_⟩
    · rcases List.mem_cons.mp hx with rfl | hx
      · exact ren_len c a _
      · obtain ⟨z, _, rfl⟩ := List.mem_map.mp hx
        exact ren_len c a z
    · rcases List.mem_cons.mp hx with rfl | hx
      · exact ren_len c a _
      · obtain ⟨z, _, rfl⟩ := List.mem_map.mp hx
        exact ren_len c a z⟩
theorem fm_of {kinds : List Str} {links : List (Str × Str × Str)} {rules : List Ru} {fr : Str → List (List Str × Str)} (h : ShOk kinds links rules fr) : Fm kinds links rules := ⟨h.k1, h.k2, h.k3, h.l1, h.l2, h.r1, h.r2⟩
section
variable {kinds : List Str} {links : List (Str × Str × Str)} {rules : List Ru} {fr : Str → List (List Str × Str)}
def otherC : Cm := sSeq (sSet 9 (eMk "Shape" f_Shape_init (eCons (eBin ixD (eVar 8) (eC (.int 0))) (eCons (eBin ixD (eVar 8) (eC (.int 1))) (eCons (eBin ixD (eVar 8) (eC (.int 2))) (eNil)))) [] 4))
  (sIf (eOr (eO (neA "Shape" f_Shape_eq) (eO (eqA "Shape" f_Shape_eq) (eVar 6) (eVar 9)) (eO (eqA "Shape" f_Shape_eq) (eVar 8) (eTup (eCons (eVar 3) (eCons (eVar 4) (eCons (eVar 5) (eNil))))))) (eO (eqA "Shape" f_Shape_eq) (eO (neA "Shape" f_Shape_eq) (eVar 6) (eVar 9)) (eO (eqA "Shape" f_Shape_eq) (eVar 8) (eTup (eCons (eVar 3) (eCons (eVar 4) (eCons (eVar 5) (eNil))))))))
  (sRet (eC (.bl false)))
  (sNil))
theorem other_ok (h : Fm kinds links rules) {d : D} (hd : Shp d) (a0 a1 a2 s7 s9 : Sl) (cs : Cs) :
    ∃ s9', otherC (oL a0 a1 a2 kinds links rules (.val (shapeD kinds links rules fr)) s7 (.val d) s9) cs = .nx (oL a0 a1 a2 kinds links rules (.val (shapeD kinds links rules fr)) s7 (.val d) s9') cs := by
  obtain ⟨ks, ls, rs, hf, hw, rfl⟩ := hd
  have sh := hf.shape hw
  refine ⟨.val (shapeD ks ls rs (frO ls rs)), ?_⟩
  unfold otherC
  have m := mk_ok (T := oL a0 a1 a2 kinds links rules (.val (shapeD kinds links rules fr)) s7 (.val (partsD ks ls rs)) s9) (cs := cs) sh (g := eCons (eBin ixD (eVar 8) (eC (.int 0))) (eCons (eBin ixD (eVar 8) (eC (.int 1))) (eCons (eBin ixD (eVar 8) (eC (.int 2))) (eNil))))
    (eCons_ok (eBin_ok (eVar_ok rfl) rfl (ix_parts0 cs)) (eCons_ok (eBin_ok (eVar_ok rfl) rfl (ix_parts1 cs)) (eCons_ok (eBin_ok (eVar_ok rfl) rfl (ix_parts2 cs)) rfl)))
  rw [sSeq_nx (sSet_ok m)]
  simp only [List.set_cons_succ, List.set_cons_zero]
  have q1 := a_eq (fr1 := fr) (fr2 := frO ls rs) h hf cs
  have q2 := a_ne (fr1 := fr) (fr2 := frO ls rs) h hf cs
  have q3 := p_eq hf h cs
  have sym : eqB3 ks ls rs kinds links rules = eqB3 kinds links rules ks ls rs := by
    unfold eqB3
    rw [PySem.W.eqv_comm (toP (tv ks)) (toP (tv kinds)), PySem.W.eqv_comm (toP (.tup (ls.map lkD))) (toP (.tup (links.map lkD))), PySem.W.eqv_comm (toP (.tup (rs.map ruD))) (toP (.tup (rules.map ruD)))]
  rw [sym] at q3
  generalize eqB3 kinds links rules ks ls rs = b at q1 q2 q3
  have tu : eTup (eCons (eVar 3) (eCons (eVar 4) (eCons (eVar 5) (eNil)))) (oL a0 a1 a2 kinds links rules (.val (shapeD kinds links rules fr)) s7 (.val (partsD ks ls rs)) (.val (shapeD ks ls rs (frO ls rs)))) cs = .ok (partsD kinds links rules) cs := rfl
  have e1 := eO_ok (eVar_ok rfl) (eVar_ok rfl) q1 (f := eVar 6) (g := eVar 9) (S := oL a0 a1 a2 kinds links rules (.val (shapeD kinds links rules fr)) s7 (.val (partsD ks ls rs)) (.val (shapeD ks ls rs (frO ls rs))))
  have e2 := eO_ok (eVar_ok rfl) (eVar_ok rfl) q2 (f := eVar 6) (g := eVar 9) (S := oL a0 a1 a2 kinds links rules (.val (shapeD kinds links rules fr)) s7 (.val (partsD ks ls rs)) (.val (shapeD ks ls rs (frO ls rs))))
  have e3 := eO_ok (eVar_ok rfl) tu q3 (f := eVar 8)
  have t1 := eO_ok e1 e3 (b_ne b b cs)
  have t2 := eO_ok e2 e3 (b_eq (!b) b cs)
  have z1 : (b != b) = false := by cases b <;> rfl
  have z2 : ((!b) == b) = false := by cases b <;> rfl
  rw [z1] at t1
  rw [z2] at t2
  exact (sIf_f (or_ff t1 t2)).trans rfl
def othersC : Cm := sFor (iA (eFn (fnN 1 f_law_others) (eCons (eTup (eCons (eVar 3) (eCons (eVar 4) (eCons (eVar 5) (eNil))))) (eNil)) [])) (gN 8) otherC
theorem p8_ok (h : Fm kinds links rules) (b1 : kinds.length ≤ 5) (b2 : links.length ≤ 11) (b3 : rules.length ≤ 11) (a0 a1 a2 s7 s8 s9 : Sl) (cs : Cs) :
    ∃ s8' s9', othersC (oL a0 a1 a2 kinds links rules (.val (shapeD kinds links rules fr)) s7 s8 s9) cs = .nx (oL a0 a1 a2 kinds links rules (.val (shapeD kinds links rules fr)) s7 s8' s9') cs := by
  obtain ⟨ys, hy, ey⟩ : ∃ ys, (∀ d ∈ ys, Shp d) ∧ f_law_others [partsD kinds links rules] cs = .ok (.lst ys) cs := by
    cases kinds with
    | nil => exact absurd h.k2 (by simp)
    | cons k kr => exact others_ok h b1 b2 b3 cs
  have it : iA (eFn (fnN 1 f_law_others) (eCons (eTup (eCons (eVar 3) (eCons (eVar 4) (eCons (eVar 5) (eNil))))) (eNil)) []) (oL a0 a1 a2 kinds links rules (.val (shapeD kinds links rules fr)) s7 s8 s9) cs = .ok ys cs := by
    have e := eFn_ok (S := oL a0 a1 a2 kinds links rules (.val (shapeD kinds links rules fr)) s7 s8 s9) (cs := cs) (gs := eCons (eTup (eCons (eVar 3) (eCons (eVar 4) (eCons (eVar 5) (eNil))))) (eNil)) (ds := [partsD kinds links rules]) rfl ((fnN_ok (n := 1) rfl).trans ey)
    unfold iA
    rw [e]
    rfl
  obtain ⟨S', cs', e, ⟨s8', s9', hS⟩, hc⟩ := forLoop_inv (g := gN 8) (c := otherC)
    (fun i T cs1 => (∃ s8' s9', T = oL a0 a1 a2 kinds links rules (.val (shapeD kinds links rules fr)) s7 s8' s9') ∧ cs1 = cs)
    (ds := ys) (k := 0) (S := oL a0 a1 a2 kinds links rules (.val (shapeD kinds links rules fr)) s7 s8 s9) (cs := cs) ⟨⟨s8, s9, rfl⟩, rfl⟩ (by
      rintro i x T cs1 hx ⟨⟨s8', s9', rfl⟩, rfl⟩
      obtain ⟨s9'', ez⟩ := other_ok (fr := fr) h (hy x (List.mem_of_getElem? hx)) a0 a1 a2 s7 s9' cs1
      exact ⟨oL a0 a1 a2 kinds links rules (.val (shapeD kinds links rules fr)) s7 (.val x) s9', _, cs1, rfl, ez, ⟨_, _, rfl⟩, rfl⟩)
  subst hS hc
  refine ⟨s8', s9', ?_⟩
  unfold othersC
  rw [sFor_ok it]
  exact e
end
def lawC : Cm := sSeq P0 (sSeq P1 (sSeq P2 (sSeq P3 (sSeq P4 (sSeq P5 (sSeq P6 (sSeq P7 (sSeq othersC P9))))))))
theorem law_turn (ns : List Int) (k : Nat) (hk : k < 100) (a2 a3 a4 a5 a6 a7 a8 a9 : Sl) (cs : Cs) :
    ∃ b2 b3 b4 b5 b6 b7 b8 b9 cs', lawC [.val (.scr (ns.map .int)), .val (.int k), a2, a3, a4, a5, a6, a7, a8, a9] cs =
      .nx [.val (.scr (ns.map .int)), .val (.int k), b2, b3, b4, b5, b6, b7, b8, b9] cs' := by
  obtain ⟨t, et⟩ := tape ns k hk cs
  have ht : Tape (cs ++ [[.int t]]) cs.length := ⟨t, by simp⟩
  generalize cs ++ [[.int t]] = cs1 at et ht
  unfold lawC
  have q0 : P0 [.val (.scr (ns.map .int)), .val (.int k), a2, a3, a4, a5, a6, a7, a8, a9] cs = .nx [.val (.scr (ns.map .int)), .val (.int k), .val (.cell cs.length), a3, a4, a5, a6, a7, a8, a9] cs1 := sSet_ok (eFn_ok (eCons_ok (eVar_ok rfl) (eCons_ok (eVar_ok rfl) rfl)) ((fnN_ok (n := 2) rfl).trans et))
  rw [sSeq_nx q0]
  generalize cs.length = n at ht
  obtain ⟨c, a, cs2, hc, e2, ht⟩ := parts_ok ht
  obtain ⟨b1, b2, b3⟩ := len_named hc
  obtain ⟨fr, μ, N, S⟩ := sha_named hc a
  have E := w8_named c a
  have l1 : (c.kinds.map (renC c a)).length ≤ 5 := by rwa [List.length_map]
  have l2 : (c.links.map (mpK (renC c a))).length ≤ 11 := by rwa [List.length_map]
  have l3 : (c.rules.map (mpR (renC c a))).length ≤ 11 := by rwa [List.length_map]
  generalize c.kinds.map (renC c a) = kinds at S E l1 e2
  generalize c.links.map (mpK (renC c a)) = links at S E l2 e2
  generalize c.rules.map (mpR (renC c a)) = rules at S E l3 e2
  have h := S.ok
  have f := fm_of h
  have q1 : P1 [.val (.scr (ns.map .int)), .val (.int k), .val (.cell n), a3, a4, a5, a6, a7, a8, a9] cs1 = .nx (oL (.val (.scr (ns.map .int))) (.val (.int k)) (.val (.cell n)) kinds links rules a6 a7 a8 a9) cs2 := by
    have e := eFn_ok (S := [.val (.scr (ns.map .int)), .val (.int k), .val (.cell n), a3, a4, a5, a6, a7, a8, a9]) (cs := cs1) (gs := eCons (eVar 2) (eNil)) (ds := [.cell n]) rfl ((fnN_ok (n := 1) rfl).trans e2)
    unfold P1 sAsg
    rw [e]
    rfl
  rw [sSeq_nx q1]
  have q2 : P2 (oL (.val (.scr (ns.map .int))) (.val (.int k)) (.val (.cell n)) kinds links rules a6 a7 a8 a9) cs2 = .nx (oL (.val (.scr (ns.map .int))) (.val (.int k)) (.val (.cell n)) kinds links rules (.val (shapeD kinds links rules fr)) a7 a8 a9) cs2 :=
    sSet_ok (mk_ok h (eCons_ok (eVar_ok rfl) (eCons_ok (eVar_ok rfl) (eCons_ok (eVar_ok rfl) rfl))))
  rw [sSeq_nx q2, sSeq_nx (p3_ok f E _ _ _ _ _ _ cs2), sSeq_nx (p4_ok h _ _ _ _ _ _ _ cs2), sSeq_nx (p5_ok f _ _ _ _ _ cs2), sSeq_nx (p6_ok h _ _ _ _ _ _ _ cs2), sSeq_nx (p7_ok f E _ _ _ _ _ _ cs2)]
  obtain ⟨s8, s9, e8⟩ := p8_ok (fr := fr) f l1 l2 l3 (.val (.scr (ns.map .int))) (.val (.int k)) (.val (.cell n)) (.val (shapeD kinds links rules fr)) a8 a9 cs2
  rw [sSeq_nx e8, p9_ok f h.n1 E]
  exact ⟨_, _, _, _, _, _, _, _, _, rfl⟩
theorem plain : ∀ ns : List Int, ns.length ≤ 63 → ∃ cs, noX (f_law [.scr (ns.map .int)] []) = .ok (.bl true) cs := fun ns _ => by
  show ∃ cs, noX (fnRes (b_law [.val (.scr (ns.map .int)), .un, .un, .un, .un, .un, .un, .un, .un, .un] [])) = _
  unfold b_law
  obtain ⟨m, hm, em, hm4⟩ := times ns.length
  have er : iR2 (eCons (eC (.int 0)) (eCons (eCall max2D (eCons (eC (.int 2)) (eCons (eCall min2D (eCons (eC (.int 6)) (eCons (eCall lenD (eCons (eVar 0) (eNil))) (eNil)))) (eNil)))) (eNil))) [.val (.scr (ns.map .int)), .un, .un, .un, .un, .un, .un, .un, .un, .un] [] = .ok (rngD 0 m) [] := by
    have e1 : eCall lenD (eCons (eVar 0) (eNil)) [.val (.scr (ns.map .int)), .un, .un, .un, .un, .un, .un, .un, .un, .un] [] = .ok (.int (ns.length : Nat)) [] := by
      simp [eCall, eCons, eVar, eNil, lenD]
    have e2 : eCall min2D (eCons (eC (.int 6)) (eCons (eCall lenD (eCons (eVar 0) (eNil))) (eNil))) [.val (.scr (ns.map .int)), .un, .un, .un, .un, .un, .un, .un, .un, .un] [] = .ok (.int (if (ns.length : Int) < 6 then (ns.length : Int) else 6)) [] := eCall_ok (eCons_ok rfl (eCons_ok e1 rfl)) rfl
    have e3 : eCall max2D (eCons (eC (.int 2)) (eCons (eCall min2D (eCons (eC (.int 6)) (eCons (eCall lenD (eCons (eVar 0) (eNil))) (eNil)))) (eNil))) [.val (.scr (ns.map .int)), .un, .un, .un, .un, .un, .un, .un, .un, .un] [] = .ok (.int (m : Nat)) [] := by
      refine eCall_ok (eCons_ok rfl (eCons_ok e2 rfl)) ?_
      rw [← em]
      rfl
    exact (iR2_int (m : Int) ⟨rng_lo m, rng_hi hm⟩ _ [] [] _ (eCons_ok rfl (eCons_ok e3 rfl))).trans (by simp)
  have h60 : reprO "Shape" f_Shape_repr [] [.int 60] = .ok (.str "60") [] := by kernel_rfl
  have f1 : eBin neRD (eCallO (reprO "Shape" f_Shape_repr) (eCons (eC (.int 60)) (eNil))) (eC (.str "60")) [.val (.scr (ns.map .int)), .un, .un, .un, .un, .un, .un, .un, .un, .un] [] = .ok (.bl false) [] := ne_same (eCallO_ok (eCons_ok rfl rfl) h60) rfl
  have f2 : eNot (eTru (eFn (fnN 0 f_law_apart_right) eNil [])) [.val (.scr (ns.map .int)), .un, .un, .un, .un, .un, .un, .un, .un, .un] [] = .ok (.bl false) [] := eNot_b (b := true) (eFn_ok (gs := eNil) (ds := []) rfl ((fnN_ok (n := 0) rfl).trans (apart_ok [])))
  rw [sSeq_nx (by rw [sIf_f (or_ff f1 f2)]; rfl)]
  obtain ⟨S', cs', e1, b1, b2, b3, b4, b5, b6, b7, b8, b9, hS⟩ := forLoop_inv (g := gN 1) (c := lawC)
    (fun i S cs => ∃ b1 b2 b3 b4 b5 b6 b7 b8 b9, S = [.val (.scr (ns.map .int)), b1, b2, b3, b4, b5, b6, b7, b8, b9])
    (ds := rngD 0 m) (k := 0) (S := [.val (.scr (ns.map .int)), .un, .un, .un, .un, .un, .un, .un, .un, .un]) (cs := [])
    ⟨_, _, _, _, _, _, _, _, _, rfl⟩ (by
      rintro i x S cs hx ⟨b1, b2, b3, b4, b5, b6, b7, b8, b9, rfl⟩
      rw [rngD_get] at hx
      split at hx
      · rename_i hi
        cases hx
        obtain ⟨c2, c3, c4, c5, c6, c7, c8, c9, cs', e⟩ := law_turn ns i (by omega) b2 b3 b4 b5 b6 b7 b8 b9 cs
        refine ⟨[.val (.scr (ns.map .int)), .val (.int i), b2, b3, b4, b5, b6, b7, b8, b9], _, cs', ?_, e, _, _, _, _, _, _, _, _, _, rfl⟩
        rw [show (0 : Int) + (i : Nat) = (i : Int) from Int.zero_add _]
        rfl
      · cases hx)
  subst hS
  unfold lawC othersC otherC P0 P1 P2 P3 P4 P5 P6 P7 P9 at e1
  rw [sSeq_nx (by rw [sFor_ok er]; exact e1)]
  exact ⟨cs', rfl⟩
end K02

set_option Elab.async false
set_option linter.all false
set_option maxRecDepth 100000
set_option maxHeartbeats 0
/-! the head: what the top leaves (printed by gen.py) -/
namespace K02
open PySem PySem.Spec PyProof.Rows L2 LL
def d_is_word : He.DefD := ⟨("is_word", none), "is_word", "is_word", defArgs s_is_word, defBody s_is_word, defScope s_is_word, [], []⟩
def d_are_words : He.DefD := ⟨("are_words", none), "are_words", "are_words", defArgs s_are_words, defBody s_are_words, defScope s_are_words, [], []⟩
def d_is_rule_made : He.DefD := ⟨("is_rule_made", none), "is_rule_made", "is_rule_made", defArgs s_is_rule_made, defBody s_is_rule_made, defScope s_is_rule_made, [], []⟩
def d_is_made : He.DefD := ⟨("is_made", none), "is_made", "is_made", defArgs s_is_made, defBody s_is_made, defScope s_is_made, [], []⟩
def d_is_named : He.DefD := ⟨("is_named", none), "is_named", "is_named", defArgs s_is_named, defBody s_is_named, defScope s_is_named, [], []⟩
def d_end_by : He.DefD := ⟨("end_by", none), "end_by", "end_by", defArgs s_end_by, defBody s_end_by, defScope s_end_by, [], []⟩
def d_are_sides : He.DefD := ⟨("are_sides", none), "are_sides", "are_sides", defArgs s_are_sides, defBody s_are_sides, defScope s_are_sides, [], []⟩
def d_rank_of : He.DefD := ⟨("rank_of", none), "rank_of", "rank_of", defArgs s_rank_of, defBody s_rank_of, defScope s_rank_of, [], []⟩
def d_first_long : He.DefD := ⟨("first_long", none), "first_long", "first_long", defArgs s_first_long, defBody s_first_long, defScope s_first_long, [], []⟩
def d_shortened : He.DefD := ⟨("shortened", none), "shortened", "shortened", defArgs s_shortened, defBody s_shortened, defScope s_shortened, [], []⟩
def d_lies_open : He.DefD := ⟨("lies_open", none), "lies_open", "lies_open", defArgs s_lies_open, defBody s_lies_open, defScope s_lies_open, [], []⟩
def d_is_open : He.DefD := ⟨("is_open", none), "is_open", "is_open", defArgs s_is_open, defBody s_is_open, defScope s_is_open, [], []⟩
def d_longer_ways : He.DefD := ⟨("longer_ways", none), "longer_ways", "longer_ways", defArgs s_longer_ways, defBody s_longer_ways, defScope s_longer_ways, [], []⟩
def d_plain_from : He.DefD := ⟨("plain_from", none), "plain_from", "plain_from", defArgs s_plain_from, defBody s_plain_from, defScope s_plain_from, [], []⟩
def d_why_no_shape : He.DefD := ⟨("why_no_shape", none), "why_no_shape", "why_no_shape", defArgs s_why_no_shape, defBody s_why_no_shape, defScope s_why_no_shape, [.adr (He.dflAt ("why_no_shape", none) 0), .adr (He.dflAt ("why_no_shape", none) 1)], []⟩
def d_Shape_init : He.DefD := ⟨("Shape", some "__init__"), "__init__", "Shape.__init__", defArgs s_Shape_init, defBody s_Shape_init, defScope s_Shape_init, [.adr (He.dflAt ("Shape", some "__init__") 0), .adr (He.dflAt ("Shape", some "__init__") 1)], []⟩
def d_Shape_eq : He.DefD := ⟨("Shape", some "__eq__"), "__eq__", "Shape.__eq__", defArgs s_Shape_eq, defBody s_Shape_eq, defScope s_Shape_eq, [], []⟩
def d_Shape_repr : He.DefD := ⟨("Shape", some "__repr__"), "__repr__", "Shape.__repr__", defArgs s_Shape_repr, defBody s_Shape_repr, defScope s_Shape_repr, [], []⟩
def d_law_cell_at : He.DefD := ⟨("_law_cell_at", none), "_law_cell_at", "_law_cell_at", defArgs s_law_cell_at, defBody s_law_cell_at, defScope s_law_cell_at, [], []⟩
def d_law_tape : He.DefD := ⟨("_law_tape", none), "_law_tape", "_law_tape", defArgs s_law_tape, defBody s_law_tape, defScope s_law_tape, [], []⟩
def d_law_digit : He.DefD := ⟨("_law_digit", none), "_law_digit", "_law_digit", defArgs s_law_digit, defBody s_law_digit, defScope s_law_digit, [], []⟩
def d_law_gallery : He.DefD := ⟨("_law_gallery", none), "_law_gallery", "_law_gallery", defArgs s_law_gallery, defBody s_law_gallery, defScope s_law_gallery, [], []⟩
def d_law_renamed : He.DefD := ⟨("_law_renamed", none), "_law_renamed", "_law_renamed", defArgs s_law_renamed, defBody s_law_renamed, defScope s_law_renamed, [], []⟩
def d_law_parts : He.DefD := ⟨("_law_parts", none), "_law_parts", "_law_parts", defArgs s_law_parts, defBody s_law_parts, defScope s_law_parts, [], []⟩
def d_law_others : He.DefD := ⟨("_law_others", none), "_law_others", "_law_others", defArgs s_law_others, defBody s_law_others, defScope s_law_others, [], []⟩
def d_law_apart_right : He.DefD := ⟨("_law_apart_right", none), "_law_apart_right", "_law_apart_right", defArgs s_law_apart_right, defBody s_law_apart_right, defScope s_law_apart_right, [], []⟩
def d_law : He.DefD := ⟨("law", none), "law", "law", defArgs s_law, defBody s_law, defScope s_law, [], []⟩
def fnl : List He.DefD := [d_is_word, d_are_words, d_is_rule_made, d_is_made, d_is_named, d_end_by, d_are_sides, d_rank_of, d_first_long, d_shortened, d_lies_open, d_is_open, d_longer_ways, d_plain_from, d_why_no_shape, d_Shape_init, d_Shape_eq, d_Shape_repr, d_law_cell_at, d_law_tape, d_law_digit, d_law_gallery, d_law_renamed, d_law_parts, d_law_others, d_law_apart_right, d_law]
def fal : List He.Fa := [.free "all", .free "any", .free "enumerate", .free "isinstance", .free "len", .free "max", .free "min", .free "range", .free "repr", .free "set", .free "str", .free "sum", .free "tuple", .str "LETTERS" "abcdefghijklmnopqrstuvwxyz", .int "MOST_KINDS" 6, .int "MOST_LINKS" 12, .int "MOST_LONG" 6, .int "MOST_RULES" 12, .int "MOST_WAYS" 60, .glo "Shape", .cls "Shape", .noat "Shape" "ends", .noat "Shape" "kinds", .noat "Shape" "links", .noat "Shape" "pairs", .noat "Shape" "plains", .noat "Shape" "rules", .glo "is_word", .glo "are_words", .glo "is_rule_made", .glo "is_made", .glo "is_named", .glo "end_by", .glo "are_sides", .glo "rank_of", .glo "first_long", .glo "shortened", .glo "lies_open", .glo "is_open", .glo "longer_ways", .glo "plain_from", .glo "why_no_shape", .mkr "Shape", .glo "_law_cell_at", .glo "_law_tape", .glo "_law_digit", .glo "_law_gallery", .glo "_law_renamed", .glo "_law_parts", .glo "_law_others", .glo "_law_apart_right", .glo "law"]
def loose0 : List PySem.Str := ["NoShape", "MOST_WAYS", "MOST_KINDS", "MOST_LINKS", "MOST_RULES", "MOST_LONG", "LETTERS", "is_word", "are_words", "is_rule_made", "is_made", "is_named", "end_by", "are_sides", "rank_of", "first_long", "shortened", "lies_open", "is_open", "longer_ways", "plain_from", "why_no_shape", "Shape", "_law_cell_at", "_law_tape", "_law_digit", "_law_gallery", "_law_renamed", "_law_parts", "_law_others"]
def loose1 : List PySem.Str := ["_law_apart_right"]
abbrev loose : List PySem.Str := loose0 ++ loose1
abbrev R : PySem.W.OpenRow := PySem.W.OpenLaw.row PySem.Challenge.rw_linkloom_k02_shapes_as_they_are_told
def bsl : List FB := [unitB ("Shape", some "__init__") 0, unitB ("Shape", some "__init__") 1, isB "Shape", eqB "Shape", reB "Shape"]
abbrev hk : PySem.W.Hook := LL.hookB 6 fal fnl bsl
def ob (s : PySem.W.SharedT) : LL.AlB := LL.obsBG 6 fal fnl bsl (HandSHeadRun.getT s)
theorem ob_eq (s : PySem.W.SharedT) : ob s = hk.obs s.abs := LL.obsBG_eq (HandSHeadRun.getT_eq s)
theorem run (w : World) : HandSHeadRun.RunEq R (PySem.W.view R.prog [34]) hk ob 4000 loose w := by
  intro os
  kernel_rfl
end K02

set_option Elab.async false
set_option linter.all false
set_option maxRecDepth 100000
set_option maxHeartbeats 0
/-! the end (printed by gen.py) -/
namespace K02
open PySem PySem.Spec PyProof.Rows L2 LL
theorem facts {P : Program} {w : World} {K : PySem.W.Frag} {h : Heap} {mg : Str → Option Value} {f : Addr} (X : K.In h) (G : h.Ns mainGlobals mg) (hfa : mg ("law" : Str) = some (.ref f)) (cB : LL.SaysB fal fnl bsl K) :
    ∃ fd : FuncData, (∀ (s : Shared) (v : Value), BindsTo s fd ⟨[v], []⟩ [("_law_script", v)]) ∧ ∀ base : Heap, K.In base → base.Ns mainGlobals mg → FnC P w K mg base 9 f fd ["_law_script"] (spF K mg 1 f_law) := by
  have c := cB.d
  obtain ⟨fd_is_word, F_is_word⟩ := c.def_ 0 (d := d_is_word) rfl
  obtain ⟨fd_are_words, F_are_words⟩ := c.def_ 1 (d := d_are_words) rfl
  obtain ⟨fd_is_rule_made, F_is_rule_made⟩ := c.def_ 2 (d := d_is_rule_made) rfl
  obtain ⟨fd_is_made, F_is_made⟩ := c.def_ 3 (d := d_is_made) rfl
  obtain ⟨fd_is_named, F_is_named⟩ := c.def_ 4 (d := d_is_named) rfl
  obtain ⟨fd_end_by, F_end_by⟩ := c.def_ 5 (d := d_end_by) rfl
  obtain ⟨fd_are_sides, F_are_sides⟩ := c.def_ 6 (d := d_are_sides) rfl
  obtain ⟨fd_rank_of, F_rank_of⟩ := c.def_ 7 (d := d_rank_of) rfl
  obtain ⟨fd_first_long, F_first_long⟩ := c.def_ 8 (d := d_first_long) rfl
  obtain ⟨fd_shortened, F_shortened⟩ := c.def_ 9 (d := d_shortened) rfl
  obtain ⟨fd_lies_open, F_lies_open⟩ := c.def_ 10 (d := d_lies_open) rfl
  obtain ⟨fd_is_open, F_is_open⟩ := c.def_ 11 (d := d_is_open) rfl
  obtain ⟨fd_longer_ways, F_longer_ways⟩ := c.def_ 12 (d := d_longer_ways) rfl
  obtain ⟨fd_plain_from, F_plain_from⟩ := c.def_ 13 (d := d_plain_from) rfl
  obtain ⟨fd_why_no_shape, F_why_no_shape⟩ := c.def_ 14 (d := d_why_no_shape) rfl
  obtain ⟨fd_Shape_init, F_Shape_init⟩ := c.def_ 15 (d := d_Shape_init) rfl
  obtain ⟨fd_Shape_eq, F_Shape_eq⟩ := c.def_ 16 (d := d_Shape_eq) rfl
  obtain ⟨fd_Shape_repr, F_Shape_repr⟩ := c.def_ 17 (d := d_Shape_repr) rfl
  obtain ⟨fd_law_cell_at, F_law_cell_at⟩ := c.def_ 18 (d := d_law_cell_at) rfl
  obtain ⟨fd_law_tape, F_law_tape⟩ := c.def_ 19 (d := d_law_tape) rfl
  obtain ⟨fd_law_digit, F_law_digit⟩ := c.def_ 20 (d := d_law_digit) rfl
  obtain ⟨fd_law_gallery, F_law_gallery⟩ := c.def_ 21 (d := d_law_gallery) rfl
  obtain ⟨fd_law_renamed, F_law_renamed⟩ := c.def_ 22 (d := d_law_renamed) rfl
  obtain ⟨fd_law_parts, F_law_parts⟩ := c.def_ 23 (d := d_law_parts) rfl
  obtain ⟨fd_law_others, F_law_others⟩ := c.def_ 24 (d := d_law_others) rfl
  obtain ⟨fd_law_apart_right, F_law_apart_right⟩ := c.def_ 25 (d := d_law_apart_right) rfl
  obtain ⟨fd_law, F_law⟩ := c.def_ 26 (d := d_law) rfl
  have e := hfa.symm.trans (He.glo_ok X G (c.fact 51 (f := .glo "law") rfl))
  cases e
  have bl := FunD.bindsA (ps := ["_law_script"]) F_law fun _ _ _ _ _ _ us hl => match us, hl with | [_], _ => rfl
  have T : Tx K mg := ⟨He.free_ok X G (c.fact 0 (f := .free "all") rfl),
    He.free_ok X G (c.fact 1 (f := .free "any") rfl),
    He.free_ok X G (c.fact 2 (f := .free "enumerate") rfl),
    He.free_ok X G (c.fact 3 (f := .free "isinstance") rfl),
    He.free_ok X G (c.fact 4 (f := .free "len") rfl),
    He.free_ok X G (c.fact 5 (f := .free "max") rfl),
    He.free_ok X G (c.fact 6 (f := .free "min") rfl),
    He.free_ok X G (c.fact 7 (f := .free "range") rfl),
    He.free_ok X G (c.fact 8 (f := .free "repr") rfl),
    He.free_ok X G (c.fact 9 (f := .free "set") rfl),
    He.free_ok X G (c.fact 10 (f := .free "str") rfl),
    He.free_ok X G (c.fact 11 (f := .free "sum") rfl),
    He.free_ok X G (c.fact 12 (f := .free "tuple") rfl),
    He.str_ok X G (c.fact 13 (f := .str "LETTERS" "abcdefghijklmnopqrstuvwxyz") rfl),
    He.int_ok X G (c.fact 14 (f := .int "MOST_KINDS" 6) rfl),
    He.int_ok X G (c.fact 15 (f := .int "MOST_LINKS" 12) rfl),
    He.int_ok X G (c.fact 16 (f := .int "MOST_LONG" 6) rfl),
    He.int_ok X G (c.fact 17 (f := .int "MOST_RULES" 12) rfl),
    He.int_ok X G (c.fact 18 (f := .int "MOST_WAYS" 60) rfl),
    fun C h => by have e := h.symm.trans (He.glo_ok X G (c.fact 19 (f := .glo "Shape") rfl)); cases e; exact ⟨He.cls_ok (c.fact 20 (f := .cls "Shape") rfl), He.noat_ok (c.fact 21 (f := .noat "Shape" "ends") rfl)⟩,
    fun C cc h e => by subst e; have e := h.symm.trans (He.glo_ok X G (c.fact 19 (f := .glo "Shape") rfl)); cases e; exact ⟨He.cls_ok (c.fact 20 (f := .cls "Shape") rfl), He.noat_ok (c.fact 21 (f := .noat "Shape" "ends") rfl)⟩,
    fun C h => by have e := h.symm.trans (He.glo_ok X G (c.fact 19 (f := .glo "Shape") rfl)); cases e; exact ⟨He.cls_ok (c.fact 20 (f := .cls "Shape") rfl), He.noat_ok (c.fact 22 (f := .noat "Shape" "kinds") rfl)⟩,
    fun C cc h e => by subst e; have e := h.symm.trans (He.glo_ok X G (c.fact 19 (f := .glo "Shape") rfl)); cases e; exact ⟨He.cls_ok (c.fact 20 (f := .cls "Shape") rfl), He.noat_ok (c.fact 22 (f := .noat "Shape" "kinds") rfl)⟩,
    fun C h => by have e := h.symm.trans (He.glo_ok X G (c.fact 19 (f := .glo "Shape") rfl)); cases e; exact ⟨He.cls_ok (c.fact 20 (f := .cls "Shape") rfl), He.noat_ok (c.fact 23 (f := .noat "Shape" "links") rfl)⟩,
    fun C cc h e => by subst e; have e := h.symm.trans (He.glo_ok X G (c.fact 19 (f := .glo "Shape") rfl)); cases e; exact ⟨He.cls_ok (c.fact 20 (f := .cls "Shape") rfl), He.noat_ok (c.fact 23 (f := .noat "Shape" "links") rfl)⟩,
    fun C h => by have e := h.symm.trans (He.glo_ok X G (c.fact 19 (f := .glo "Shape") rfl)); cases e; exact ⟨He.cls_ok (c.fact 20 (f := .cls "Shape") rfl), He.noat_ok (c.fact 24 (f := .noat "Shape" "pairs") rfl)⟩,
    fun C cc h e => by subst e; have e := h.symm.trans (He.glo_ok X G (c.fact 19 (f := .glo "Shape") rfl)); cases e; exact ⟨He.cls_ok (c.fact 20 (f := .cls "Shape") rfl), He.noat_ok (c.fact 24 (f := .noat "Shape" "pairs") rfl)⟩,
    fun C h => by have e := h.symm.trans (He.glo_ok X G (c.fact 19 (f := .glo "Shape") rfl)); cases e; exact ⟨He.cls_ok (c.fact 20 (f := .cls "Shape") rfl), He.noat_ok (c.fact 25 (f := .noat "Shape" "plains") rfl)⟩,
    fun C cc h e => by subst e; have e := h.symm.trans (He.glo_ok X G (c.fact 19 (f := .glo "Shape") rfl)); cases e; exact ⟨He.cls_ok (c.fact 20 (f := .cls "Shape") rfl), He.noat_ok (c.fact 25 (f := .noat "Shape" "plains") rfl)⟩,
    fun C h => by have e := h.symm.trans (He.glo_ok X G (c.fact 19 (f := .glo "Shape") rfl)); cases e; exact ⟨He.cls_ok (c.fact 20 (f := .cls "Shape") rfl), He.noat_ok (c.fact 26 (f := .noat "Shape" "rules") rfl)⟩,
    fun C cc h e => by subst e; have e := h.symm.trans (He.glo_ok X G (c.fact 19 (f := .glo "Shape") rfl)); cases e; exact ⟨He.cls_ok (c.fact 20 (f := .cls "Shape") rfl), He.noat_ok (c.fact 26 (f := .noat "Shape" "rules") rfl)⟩⟩
  refine ⟨fd_law, fun s v => bl s [v] rfl, fun base _ _ => ?_⟩
  have g_is_word : FnAt P w K mg base 1 "is_word" 1 f_is_word := ⟨_, fd_is_word, p_is_word, He.glo_ok X G (c.fact 27 (f := .glo "is_word") rfl), ok_is_word T  F_is_word, F_is_word.kp, (FunD.bindsN (ps := p_is_word) F_is_word fun _ _ _ _ _ _ us hl => match us, hl with | [_], _ => rfl)⟩
  have g_are_words : FnAt P w K mg base 2 "are_words" 3 f_are_words := ⟨_, fd_are_words, p_are_words, He.glo_ok X G (c.fact 28 (f := .glo "are_words") rfl), ok_are_words T g_is_word F_are_words, F_are_words.kp, (FunD.bindsN (ps := p_are_words) F_are_words fun _ _ _ _ _ _ us hl => match us, hl with | [_, _, _], _ => rfl)⟩
  have g_is_rule_made : FnAt P w K mg base 3 "is_rule_made" 1 f_is_rule_made := ⟨_, fd_is_rule_made, p_is_rule_made, He.glo_ok X G (c.fact 29 (f := .glo "is_rule_made") rfl), ok_is_rule_made T g_are_words F_is_rule_made, F_is_rule_made.kp, (FunD.bindsN (ps := p_is_rule_made) F_is_rule_made fun _ _ _ _ _ _ us hl => match us, hl with | [_], _ => rfl)⟩
  have g_is_made : FnAt P w K mg base 4 "is_made" 3 f_is_made := ⟨_, fd_is_made, p_is_made, He.glo_ok X G (c.fact 30 (f := .glo "is_made") rfl), ok_is_made T g_are_words g_is_rule_made F_is_made, F_is_made.kp, (FunD.bindsN (ps := p_is_made) F_is_made fun _ _ _ _ _ _ us hl => match us, hl with | [_, _, _], _ => rfl)⟩
  have g_is_named : FnAt P w K mg base 1 "is_named" 2 f_is_named := ⟨_, fd_is_named, p_is_named, He.glo_ok X G (c.fact 31 (f := .glo "is_named") rfl), ok_is_named T  F_is_named, F_is_named.kp, (FunD.bindsN (ps := p_is_named) F_is_named fun _ _ _ _ _ _ us hl => match us, hl with | [_, _], _ => rfl)⟩
  have g_end_by : FnAt P w K mg base 1 "end_by" 3 f_end_by := ⟨_, fd_end_by, p_end_by, He.glo_ok X G (c.fact 32 (f := .glo "end_by") rfl), ok_end_by T  F_end_by, F_end_by.kp, (FunD.bindsN (ps := p_end_by) F_end_by fun _ _ _ _ _ _ us hl => match us, hl with | [_, _, _], _ => rfl)⟩
  have g_are_sides : FnAt P w K mg base 2 "are_sides" 3 f_are_sides := ⟨_, fd_are_sides, p_are_sides, He.glo_ok X G (c.fact 33 (f := .glo "are_sides") rfl), ok_are_sides T g_end_by F_are_sides, F_are_sides.kp, (FunD.bindsN (ps := p_are_sides) F_are_sides fun _ _ _ _ _ _ us hl => match us, hl with | [_, _, _], _ => rfl)⟩
  have g_rank_of : FnAt P w K mg base 1 "rank_of" 2 f_rank_of := ⟨_, fd_rank_of, p_rank_of, He.glo_ok X G (c.fact 34 (f := .glo "rank_of") rfl), ok_rank_of T  F_rank_of, F_rank_of.kp, (FunD.bindsN (ps := p_rank_of) F_rank_of fun _ _ _ _ _ _ us hl => match us, hl with | [_, _], _ => rfl)⟩
  have g_first_long : FnAt P w K mg base 1 "first_long" 2 f_first_long := ⟨_, fd_first_long, p_first_long, He.glo_ok X G (c.fact 35 (f := .glo "first_long") rfl), ok_first_long T  F_first_long, F_first_long.kp, (FunD.bindsN (ps := p_first_long) F_first_long fun _ _ _ _ _ _ us hl => match us, hl with | [_, _], _ => rfl)⟩
  have g_shortened : FnAt P w K mg base 2 "shortened" 2 f_shortened := ⟨_, fd_shortened, p_shortened, He.glo_ok X G (c.fact 36 (f := .glo "shortened") rfl), ok_shortened T g_first_long F_shortened, F_shortened.kp, (FunD.bindsN (ps := p_shortened) F_shortened fun _ _ _ _ _ _ us hl => match us, hl with | [_, _], _ => rfl)⟩
  have g_lies_open : FnAt P w K mg base 3 "lies_open" 3 f_lies_open := ⟨_, fd_lies_open, p_lies_open, He.glo_ok X G (c.fact 37 (f := .glo "lies_open") rfl), ok_lies_open T g_shortened F_lies_open, F_lies_open.kp, (FunD.bindsN (ps := p_lies_open) F_lies_open fun _ _ _ _ _ _ us hl => match us, hl with | [_, _, _], _ => rfl)⟩
  have g_is_open : FnAt P w K mg base 4 "is_open" 1 f_is_open := ⟨_, fd_is_open, p_is_open, He.glo_ok X G (c.fact 38 (f := .glo "is_open") rfl), ok_is_open T g_lies_open F_is_open, F_is_open.kp, (FunD.bindsN (ps := p_is_open) F_is_open fun _ _ _ _ _ _ us hl => match us, hl with | [_], _ => rfl)⟩
  have g_longer_ways : FnAt P w K mg base 1 "longer_ways" 3 f_longer_ways := ⟨_, fd_longer_ways, p_longer_ways, He.glo_ok X G (c.fact 39 (f := .glo "longer_ways") rfl), ok_longer_ways T  F_longer_ways, F_longer_ways.kp, (FunD.bindsN (ps := p_longer_ways) F_longer_ways fun _ _ _ _ _ _ us hl => match us, hl with | [_, _, _], _ => rfl)⟩
  have g_plain_from : FnAt P w K mg base 2 "plain_from" 3 f_plain_from := ⟨_, fd_plain_from, p_plain_from, He.glo_ok X G (c.fact 40 (f := .glo "plain_from") rfl), ok_plain_from T g_longer_ways F_plain_from, F_plain_from.kp, (FunD.bindsN (ps := p_plain_from) F_plain_from fun _ _ _ _ _ _ us hl => match us, hl with | [_, _, _], _ => rfl)⟩
  have b_why_no_shape : Binds K fd_why_no_shape p_why_no_shape [] := by
    obtain ⟨ds, v, b⟩ := FunD.binds1 (ps := p_why_no_shape) F_why_no_shape 3 2 (by intro z; cases z) rfl (fun T kV doc pm an cdv ct us its h1 h2 => match us, its, h1, h2 with | [_, _, _], [_, _], _, _ => ⟨_, rfl, rfl⟩)
    cases v; exact b
  have g_why_no_shape : FnAt P w K mg base 5 "why_no_shape" 3 f_why_no_shape := ⟨_, fd_why_no_shape, p_why_no_shape, He.glo_ok X G (c.fact 41 (f := .glo "why_no_shape") rfl), ok_why_no_shape T g_are_sides g_is_made g_is_named g_is_open g_plain_from g_rank_of F_why_no_shape, F_why_no_shape.kp, b_why_no_shape⟩
  have gk_why_no_shape_0 : FnKw P w K mg base 5 "why_no_shape" 3 f_why_no_shape 0 ["links", "rules", "kinds"] [2, 0, 1] := by
    obtain ⟨its, kb⟩ := FunD.kbindsD (ps := p_why_no_shape) F_why_no_shape 0 ["links", "rules", "kinds"] (fun us _ ws => permL [2, 0, 1] (us ++ ws)) (by intro z; cases z) (fun r1 _ r3 => permL_vals (r1.append r3) _) (fun T kV doc pm an cdv ct us its ws h1 h2 h3 => match us, its, ws, h1, h2, h3 with | [], [_, _], [_, _, _], _, _, _ => ⟨_, rfl, rfl⟩)
    exact ⟨_, fd_why_no_shape, p_why_no_shape, He.glo_ok X G (c.fact 41 (f := .glo "why_no_shape") rfl), ok_why_no_shape T g_are_sides g_is_made g_is_named g_is_open g_plain_from g_rank_of F_why_no_shape, F_why_no_shape.kp, kb⟩
  have b_Shape_init : Binds K fd_Shape_init p_Shape_init [] := by
    obtain ⟨ds, v, b⟩ := FunD.binds1 (ps := p_Shape_init) F_Shape_init 4 2 (by intro z; cases z) rfl (fun T kV doc pm an cdv ct us its h1 h2 => match us, its, h1, h2 with | [_, _, _, _], [_, _], _, _ => ⟨_, rfl, rfl⟩)
    cases v; exact b
  have gd_Shape_1 : MkD P w K mg base 6 "Shape" 4 f_Shape_init [.tup [], .tup []] := by
    obtain ⟨ds, v, b⟩ := FunD.binds1 (ps := p_Shape_init) F_Shape_init 2 0 (by intro z; cases z) rfl (fun T kV doc pm an cdv ct us its h1 h2 => match us, its, h1, h2 with | [_, _], [_, _], _, _ => ⟨_, rfl, rfl⟩)
    exact ⟨_, _, fd_Shape_init, p_Shape_init, _, ds, He.glo_ok X G (c.fact 19 (f := .glo "Shape") rfl), He.mkr_ok (c.fact 42 (f := .mkr "Shape") rfl), ok_Shape_init T g_plain_from g_why_no_shape F_Shape_init, b, v, fun W => (.cons (unitB_ok (cB.b 0 (b := unitB ("Shape", some "__init__") 0) rfl) W) (.cons (unitB_ok (cB.b 1 (b := unitB ("Shape", some "__init__") 1) rfl) W) .nil))⟩
  have gmk_Shape_0 : MkKw P w K mg base 6 "Shape" 4 f_Shape_init ["rules", "kinds", "links"] [1, 2, 0] := by
    obtain ⟨its, kb⟩ := FunD.kbindsD (ps := p_Shape_init) F_Shape_init 1 ["rules", "kinds", "links"] (fun us _ ws => us ++ permL [1, 2, 0] ws) (by intro z; cases z) (fun r1 _ r3 => r1.append (permL_vals r3 _)) (fun T kV doc pm an cdv ct us its ws h1 h2 h3 => match us, its, ws, h1, h2, h3 with | [_], [_, _], [_, _, _], _, _, _ => ⟨_, rfl, rfl⟩)
    exact ⟨_, _, fd_Shape_init, p_Shape_init, _, He.glo_ok X G (c.fact 19 (f := .glo "Shape") rfl), He.mkr_ok (c.fact 42 (f := .mkr "Shape") rfl), ok_Shape_init T g_plain_from g_why_no_shape F_Shape_init, kb⟩
  have g_Shape : MkAt P w K mg base 6 "Shape" 4 f_Shape_init := ⟨_, _, fd_Shape_init, p_Shape_init, He.glo_ok X G (c.fact 19 (f := .glo "Shape") rfl), He.mkr_ok (c.fact 42 (f := .mkr "Shape") rfl), ok_Shape_init T g_plain_from g_why_no_shape F_Shape_init, b_Shape_init⟩
  have gi_Shape : IsAt K mg "Shape" := ⟨_, He.glo_ok X G (c.fact 19 (f := .glo "Shape") rfl), isB_ok (cB.b 2 (b := isB "Shape") rfl)⟩
  have ge_Shape : EqAt P w K mg base 1 "Shape" f_Shape_eq := ⟨_, _, fd_Shape_eq, p_Shape_eq, He.glo_ok X G (c.fact 19 (f := .glo "Shape") rfl), eqB_ok (cB.b 3 (b := eqB "Shape") rfl), ok_Shape_eq T gi_Shape F_Shape_eq, (FunD.bindsN (ps := p_Shape_eq) F_Shape_eq fun _ _ _ _ _ _ us hl => match us, hl with | [_, _], _ => rfl)⟩
  have gr_Shape : ReAt P w K mg base 1 "Shape" f_Shape_repr := ⟨_, _, fd_Shape_repr, p_Shape_repr, He.glo_ok X G (c.fact 19 (f := .glo "Shape") rfl), reB_ok (cB.b 4 (b := reB "Shape") rfl), ok_Shape_repr T  F_Shape_repr, (FunD.bindsN (ps := p_Shape_repr) F_Shape_repr fun _ _ _ _ _ _ us hl => match us, hl with | [_], _ => rfl)⟩
  have g_law_cell_at : FnAt P w K mg base 1 "_law_cell_at" 2 f_law_cell_at := ⟨_, fd_law_cell_at, p_law_cell_at, He.glo_ok X G (c.fact 43 (f := .glo "_law_cell_at") rfl), ok_law_cell_at T  F_law_cell_at, F_law_cell_at.kp, (FunD.bindsN (ps := p_law_cell_at) F_law_cell_at fun _ _ _ _ _ _ us hl => match us, hl with | [_, _], _ => rfl)⟩
  have g_law_tape : FnAt P w K mg base 2 "_law_tape" 2 f_law_tape := ⟨_, fd_law_tape, p_law_tape, He.glo_ok X G (c.fact 44 (f := .glo "_law_tape") rfl), ok_law_tape T g_law_cell_at F_law_tape, F_law_tape.kp, (FunD.bindsN (ps := p_law_tape) F_law_tape fun _ _ _ _ _ _ us hl => match us, hl with | [_, _], _ => rfl)⟩
  have g_law_digit : FnAt P w K mg base 1 "_law_digit" 2 f_law_digit := ⟨_, fd_law_digit, p_law_digit, He.glo_ok X G (c.fact 45 (f := .glo "_law_digit") rfl), ok_law_digit T  F_law_digit, F_law_digit.kp, (FunD.bindsN (ps := p_law_digit) F_law_digit fun _ _ _ _ _ _ us hl => match us, hl with | [_, _], _ => rfl)⟩
  have g_law_gallery : FnAt P w K mg base 2 "_law_gallery" 1 f_law_gallery := ⟨_, fd_law_gallery, p_law_gallery, He.glo_ok X G (c.fact 46 (f := .glo "_law_gallery") rfl), ok_law_gallery T g_law_digit F_law_gallery, F_law_gallery.kp, (FunD.bindsN (ps := p_law_gallery) F_law_gallery fun _ _ _ _ _ _ us hl => match us, hl with | [_], _ => rfl)⟩
  have h_law_renamed : ∀ m, FnAt P w K mg base (0 + m + 1) "_law_renamed" 2 (ff_law_renamed m) := fun m => by
    induction m with
    | zero => exact ⟨_, fd_law_renamed, p_law_renamed, He.glo_ok X G (c.fact 47 (f := .glo "_law_renamed") rfl), ok0_law_renamed T  F_law_renamed, F_law_renamed.kp, (FunD.bindsN (ps := p_law_renamed) F_law_renamed fun _ _ _ _ _ _ us hl => match us, hl with | [_, _], _ => rfl)⟩
    | succ m ih => exact ⟨_, fd_law_renamed, p_law_renamed, He.glo_ok X G (c.fact 47 (f := .glo "_law_renamed") rfl), okS_law_renamed T m ih  F_law_renamed, F_law_renamed.kp, (FunD.bindsN (ps := p_law_renamed) F_law_renamed fun _ _ _ _ _ _ us hl => match us, hl with | [_, _], _ => rfl)⟩
  have g_law_renamed : FnAt P w K mg base 7 "_law_renamed" 2 f_law_renamed := h_law_renamed 6
  have g_law_parts : FnAt P w K mg base 8 "_law_parts" 1 f_law_parts := ⟨_, fd_law_parts, p_law_parts, He.glo_ok X G (c.fact 48 (f := .glo "_law_parts") rfl), ok_law_parts T g_law_digit g_law_gallery g_law_renamed F_law_parts, F_law_parts.kp, (FunD.bindsN (ps := p_law_parts) F_law_parts fun _ _ _ _ _ _ us hl => match us, hl with | [_], _ => rfl)⟩
  have g_law_others : FnAt P w K mg base 8 "_law_others" 1 f_law_others := ⟨_, fd_law_others, p_law_others, He.glo_ok X G (c.fact 49 (f := .glo "_law_others") rfl), ok_law_others T g_law_renamed g_why_no_shape F_law_others, F_law_others.kp, (FunD.bindsN (ps := p_law_others) F_law_others fun _ _ _ _ _ _ us hl => match us, hl with | [_], _ => rfl)⟩
  have g_law_apart_right : FnAt P w K mg base 8 "_law_apart_right" 0 f_law_apart_right := ⟨_, fd_law_apart_right, p_law_apart_right, He.glo_ok X G (c.fact 50 (f := .glo "_law_apart_right") rfl), ok_law_apart_right T g_Shape ge_Shape F_law_apart_right, F_law_apart_right.kp, (FunD.bindsN (ps := p_law_apart_right) F_law_apart_right fun _ _ _ _ _ _ us hl => match us, hl with | [], _ => rfl)⟩
  exact ok_law T g_Shape ge_Shape g_law_apart_right g_law_others g_law_parts g_law_tape gk_why_no_shape_0 gd_Shape_1 gmk_Shape_0 gr_Shape F_law
/-- the script as it comes -/
theorem sp_law {K : PySem.W.Frag} {mg : Str → Option Value} (plain : ∀ ns : List Int, ns.length ≤ 63 → ∃ cs, noX (f_law [.scr (ns.map .int)] []) = .ok (.bl true) cs) (H : Hp) (a : Addr) (ns : List Int) (hl : ns.length ≤ 63) (hS : SqL K H a (ns.map V.int)) :
    spF K mg 1 f_law [.ref a] H (fun v _ => v = .bl true) fun _ _ _ => False := by
  have rl : RepL K mg ⟨[], H, none⟩ (ns.map V.int) (ns.map D.int) := by
    clear hS hl
    induction ns with
    | nil => exact .nil
    | cons n ns ih => exact .cons (.int n) ih
  refine ⟨⟨[], H, none⟩, [.scr (ns.map .int)], [], ⟨Ext.refl _, List.nodup_nil, .nil⟩, .one (.scr hS rl), rfl, ?_⟩
  obtain ⟨cs, e⟩ := plain ns hl
  rw [e]
  intro v W' H' _ _ r
  cases r
  rfl
end K02
open PySem PySem.W PySem.Calls PyProof.Rows
theorem PySem.Challenge.cw_linkloom_k02_shapes_as_they_are_told_holds : PySem.Challenge.rw_linkloom_k02_shapes_as_they_are_told.Holds := by
  w_on; o_law
  refine HandSHeadRun.head_any (r := OpenLaw.row PySem.Challenge.rw_linkloom_k02_shapes_as_they_are_told) (q := view (OpenLaw.row PySem.Challenge.rw_linkloom_k02_shapes_as_they_are_told).prog [34]) (H := K02.hk) (ob := K02.ob) (M := 4000) (loose := K02.loose) (d := HandSHeadRun.topDef (OpenLaw.row PySem.Challenge.rw_linkloom_k02_shapes_as_they_are_told).prog 34) (kwd := []) K02.ob_eq
    (by kernel_rfl) (fun s => by kernel_rfl) K02.run (by kernel_rfl) (by kernel_rfl) (by kernel_rfl) (by rfl) (by first | assumption | decide +kernel) (by decide +kernel) ⟨rfl, rfl, rfl, rfl, rfl, by decide +kernel⟩ ?hw ?hc
  case hw => w_witness2
  case hc =>
    refine LL.walk_ofC (l := PySem.Challenge.rw_linkloom_k02_shapes_as_they_are_told) (n := 63) (k := 9) (x := "_law_script") rfl (by decide) (by kernel_rfl) ⟨rfl, by decide, by decide⟩ ?F
    intro w mg fa h Y G hmg0
    obtain ⟨K, KX, c⟩ := Y
    have hmg : mg ("law" : PySem.Str) = some (.ref fa) := by
      have e : (HandSHeadRun.topDef (OpenLaw.row PySem.Challenge.rw_linkloom_k02_shapes_as_they_are_told).prog 34).name = ("law" : PySem.Str) := by kernel_rfl
      rw [← e]
      exact hmg0
    obtain ⟨fd, hb, hF⟩ := K02.facts (P := (PySem.Challenge.rw_linkloom_k02_shapes_as_they_are_told).prog) (w := w) KX G hmg c
    exact ⟨K, fd, _, KX, hb, fun H a ns hl _ hS => K02.sp_law K02.plain H a ns hl hS, hF⟩

