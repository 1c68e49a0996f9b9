import PyProof.Rows.All
import Wide.All
import OpenK.AllK
import Wide.FinOn
import HandS.ForMost
import HandS.ForExc
import HandS.Wide
import HandS.Zip
import HandS.TupAny
import HandS.TupMul
import HandS.TupLe
import HandS.IsInst
import KE.KDictPairs
import KE.SortData
import KE.DataFind
import HandS.Replace
import HandS.Small
import HandS.Deep
import PySem.Challenge.RW_measureforms_k31_names_as_products
set_option Elab.async false
set_option linter.all false
set_option maxRecDepth 100000
set_option maxHeartbeats 1000000
namespace Mf
open PySem L2
/-! Tuples that are told to the object: a new tuple has no dict of its own, and that stays known. -/
abbrev NewT (H : Hp) (Q : VK) (xs : List V) : Prop := ∀ p o, H p = none → o.dict = none → Q (.ref p) (upd H p (.frz o (.tup xs)))
section
variable {X : Cx} {es : List Expr} {t : TA} {pos : Pos}
/-- a tuple just pushed -/
theorem laidT {pins : List (Addr × Obj)} {σ : L2.St} {H : Hp} {s : Shared} {Q : VK} {xs : List V} {its : List Value} (I : Inv X pins σ H s) (r : Vals xs its) (hz : xs.length ≤ sizeLine) (q : NewT H Q xs) :
    EP X pins σ Q (.ref s.heap.objs.size) { s with heap := s.heap.push { cls := .type "tuple", data := .seq its.toArray } } := by
  refine ⟨.ref s.heap.objs.size, _, I.laid (t' := s.toks) (o := .frz { cls := .type "tuple", data := .seq its.toArray } (.tup xs)) (fun b ob e => Heap.get?_push_of_some _ e) (Nat.le_refl _) ?_, rfl, q _ { cls := .type "tuple", data := .seq its.toArray } (I.hok.fresh (Nat.le_refl _)) rfl⟩
  exact ⟨Heap.get?_push_size _ rfl, hz, its, r, ⟨_, Heap.get?_push_size _ rfl, rfl, _, rfl⟩⟩
def tTupZ (t : TA) : TE := fun σ H Q => t σ H fun xs H1 => xs.length ≤ sizeLine ∧ NewT H1 Q xs
theorem pe_tupZ {x1 : Nat} (h : PA X es t) : PE X (.Tuple es x1 pos) (tTupZ t) :=
  ⟨fun pins s σ H Q I hq => wpAny_Tuple_spliced (thn (h.run pos pins s σ H _ I hq) fun us s1 ⟨xs, H1, I1, r, z, q⟩ => ⟨by rw [← r.length]; exact z, laidT I1 r z q⟩)⟩
def rCatZ (K : PySem.W.Frag) : R2 := fun x y H Q => ∃ a b xs ys, x = .ref a ∧ y = .ref b ∧ SqT K H a xs ∧ SqT K H b ys ∧ xs.length + ys.length ≤ sizeLine ∧ (xs = [] → Q (.ref b) H) ∧ (ys = [] → Q (.ref a) H) ∧ NewT H Q (xs ++ ys)
theorem op_catZ : OpR X (binaryOp .Add) (rCatZ X.K) := by
  intro pins s σ H x y v u Q I rx ry h
  obtain ⟨a, b, xs, ys, rfl, rfl, ha, hb, hz, q0, q1, q2⟩ := h
  cases rx; cases ry
  obtain ⟨i1, r1, p1, _⟩ := I.tuple ha
  obtain ⟨i2, r2, p2, _⟩ := I.tuple hb
  by_cases hx : xs = []
  · subst hx
    cases r1
    exact cat_tup0 p1 p2 ⟨.ref b, H, I, rfl, q0 rfl⟩
  · refine HT.cat_tup p1 p2 (fun z => hx (r1.nil_iff.mp z)) (fun z => ⟨.ref a, H, I, rfl, q1 (r2.nil_iff.mp z)⟩) (fun z => ?_) (by rw [← r1.length, ← r2.length]; exact hz)
    exact laidT (its := i1 ++ i2) I (r1.append r2) (by rw [List.length_append]; exact hz) q2
def rSlZ (K : PySem.W.Frag) : V → Option Int → Option Int → Hp → VK → Prop := fun x lo hi H Q => ∃ a xs, x = .ref a ∧ SqT K H a xs ∧ (cutV xs lo hi = xs → Q (.ref a) H) ∧ NewT H Q (cutV xs lo hi)
theorem sl_tupZ : SlR X (rSlZ X.K) := by
  intro pins s σ H x v vl vu lo hi sl Q I rx hs pl pu h
  obtain ⟨a, xs, rfl, hx, q1, q2⟩ := h
  cases rx
  obtain ⟨its, r, ht, hz⟩ := I.tuple hx
  have hlen : its.toArray.size = xs.length := by rw [List.size_toArray]; exact r.length.symm
  refine ⟨"tuple", _, PyProof.Rows.slot_tuple_getitem.lookup, ht.typeIs, ?_⟩
  by_cases hw : HT.sIx xs.length 0 lo = 0 ∧ HT.sIx xs.length xs.length hi = xs.length
  · refine getItem_tuple_whole ht hs pl pu (by rw [hlen]; exact hw) ⟨.ref a, H, I, rfl, q1 ?_⟩
    unfold cutV
    rw [hw.1, hw.2, List.drop_zero, Nat.sub_zero, List.take_length]
  · refine HT.getItem_tuple_cut ht hs pl pu (by rw [hlen]; exact hw) ?_ (by rw [hlen]; exact hz)
    rw [hlen]
    exact laidT I ((r.drop (HT.sIx xs.length 0 lo)).take (HT.sIx xs.length xs.length hi - HT.sIx xs.length 0 lo)) (Nat.le_trans (cutV_length xs lo hi) hz) q2
theorem call_tupleZ : CallR X (.type "tuple") (fun xs H Q => ∃ p ys, xs = [.ref p] ∧ ((SqL X.K H p ys ∧ NewT H Q ys) ∨ (SqT X.K H p ys ∧ Q (.ref p) H))) := by
  intro pins s σ H xs us Q I r h
  obtain ⟨p, ys, rfl, h⟩ := h
  obtain ⟨u, rfl, rx⟩ := vals1 r
  cases rx
  rcases h with ⟨hq, q⟩ | ⟨hq, q⟩
  · obtain ⟨its, r', pl, hz⟩ := I.list hq
    have hlen := r'.length
    refine call_tuple_list pl.isList (fun h' kp => ?_) (by simp only [List.size_toArray] <;> omega)
    exact laidT (I.kept (h' := h') (t' := s.toks) kp) r' hz q
  · obtain ⟨its, r', pl, hz⟩ := I.tuple hq
    exact call_tuple_same pl ⟨.ref p, H, I, rfl, q⟩
def rRepZ (K : PySem.W.Frag) : R2 := fun x y H Q => ∃ l k xs, x = .ref l ∧ y = .int k ∧ SqT K H l xs ∧ xs ≠ [] ∧ 2 ≤ k ∧ k ≤ 1000 ∧ xs.length ≤ 1000 ∧ NewT H Q (List.replicate k.toNat xs).flatten
theorem op_repZ : OpR X (binaryOp .Mult) (rRepZ X.K) := by
  intro pins s σ H x y v u Q I rx ry h
  obtain ⟨l, k, xs, rfl, rfl, hT, hne, k2, k3, xz, q⟩ := h
  cases rx
  obtain ⟨tk, rfl⟩ := ry
  obtain ⟨its, r, ⟨⟨cls, dd, data, sl⟩, ho, hc, n, hd⟩, _⟩ := I.tuple hT
  dsimp only at hc hd
  subst hc hd
  have el : its.length = xs.length := r.length.symm
  have es : its.toArray.size = xs.length := by rw [List.size_toArray, el]
  have ie : its.toArray.isEmpty = false := by
    cases its with
    | nil => exact absurd (List.eq_nil_of_length_eq_zero el.symm) hne
    | cons _ _ => rfl
  have big : ((its.toArray.size : Nat) : Int) * k ≤ 1000000 := by
    rw [es]
    exact Int.le_trans (Int.mul_le_mul_of_nonneg_right (show ((xs.length : Nat) : Int) ≤ 1000 by omega) (by omega)) (by omega)
  have m6 : k.toNat * xs.length ≤ 1000 * 1000 := Nat.mul_le_mul (by omega) xz
  have a0 : (decide (k < -(2 ^ 63)) || decide (k ≥ 2 ^ 63)) = false := by simp only [Bool.or_eq_false_iff, decide_eq_false_iff_not]; omega
  have a1 : (its.toArray.isEmpty || k == 1) = false := by rw [ie, Bool.false_or, beq_eq_false_iff_ne]; omega
  have a2 : (decide (k ≤ 0) || its.toArray.isEmpty) = false := by rw [ie, Bool.or_false, decide_eq_false_iff_not]; omega
  have a4 : Builtin.Tuple.tupleTooMany (((its.toArray.size : Nat) : Int) * k) = false := by
    unfold Builtin.Tuple.tupleTooMany
    rw [sizeLine_eq, decide_eq_false_iff_not]
    omega
  have fl : (List.replicate k.toNat its).flatten.length ≤ sizeLine := by
    rw [PyProof.Rows.lm_len_rep_flat, el, sizeLine_eq]
    omega
  refine wpAny_binaryOp_repeat_ref (T := "tuple") (U := "int") (by decide) ⟨_, ho, rfl⟩ (fun s' => typeIs_int s' k tk) noFill_tuple_mul F.fills_int_mul F.slot_int_rmul repeat_tuple F.slot_int_index.lookup
    (call_meets F.slot_int_rmul (typeIs_int s k tk) F.entry_int_rmul (F.args_int_rmul_2 _ _) (int_rmul_tuple k tk l its.toArray n dd sl)
      ⟨ho, rfl, ⟨_, ho, rfl⟩, call_meets F.slot_tuple_mul ⟨_, ho, rfl⟩ F.entry_tuple_mul (F.args_tuple_mul_2 _ _)
        (tuple_mulW l its.toArray n dd sl k tk a0 a1 a2 (by omega) a4 (by rw [size_rep, List.size_toArray]; exact fl)) ⟨ho, ?_⟩⟩)
  rw [size_rep]
  exact laidT I (r.rep k.toNat) (by rw [PyProof.Rows.lm_len_rep_flat, sizeLine_eq]; omega) q
end
end Mf
set_option Elab.async false
set_option linter.all false
set_option maxRecDepth 100000
set_option maxHeartbeats 1000000
namespace Mf
open PySem L2

/-! ### data -/
inductive D where
  | non | bl (b : Bool) | int (i : Int) | str (x : Str) | tup (ds : List D) | lst (ds : List D) | dct (kvs : List (Str × D)) | adr (a : Addr) | scr (ns : List Int)

/-- a tuple without a dict of its own -/
def Pt (K : PySem.W.Frag) (F : Hp) (a : Addr) : Prop := (∃ o u, F a = some (.frz o u) ∧ o.dict = none) ∨ ∃ o, K.lookup a = some o ∧ o.dict = none
mutual
inductive Rep (K : PySem.W.Frag) (F : Hp) : V → D → Prop
  | non : Rep K F .non .non
  | bl (b : Bool) : Rep K F (.bl b) (.bl b)
  | int (i : Int) : Rep K F (.int i) (.int i)
  | str (x : Str) : Rep K F (.str x) (.str x)
  | adr (a : Addr) : Rep K F (.ref a) (.adr a)
  | scr {a : Addr} {ns : List Int} : SqL K F a (ns.map V.int) → Rep K F (.ref a) (.scr ns)
  | tup {a : Addr} {vs : List V} {ds : List D} : SqT K F a vs → Pt K F a → Reps K F vs ds → Rep K F (.ref a) (.tup ds)
  | lst {a : Addr} {vs : List V} {ds : List D} : F a = some (.lst vs) → Reps K F vs ds → Rep K F (.ref a) (.lst ds)
  | dct {a : Addr} {kvs : List (Key × V)} {es : List (Str × D)} : F a = some (.dK kvs) → RepK K F kvs es → Rep K F (.ref a) (.dct es)
inductive Reps (K : PySem.W.Frag) (F : Hp) : List V → List D → Prop
  | nil : Reps K F [] []
  | cons {v : V} {vs : List V} {d : D} {ds : List D} : Rep K F v d → Reps K F vs ds → Reps K F (v :: vs) (d :: ds)
inductive RepK (K : PySem.W.Frag) (F : Hp) : List (Key × V) → List (Str × D) → Prop
  | nil : RepK K F [] []
  | cons {x : Str} {v : V} {d : D} {kvs : List (Key × V)} {es : List (Str × D)} : Rep K F v d → RepK K F kvs es → RepK K F ((.inr x, v) :: kvs) ((x, d) :: es)
end

def Sub (F F' : Hp) : Prop := ∀ a o, F a = some o → F' a = some o
theorem Sub.refl (F : Hp) : Sub F F := fun _ _ h => h
theorem Sub.trans {F F1 F2 : Hp} (a : Sub F F1) (b : Sub F1 F2) : Sub F F2 := fun x o h => b x o (a x o h)
theorem Sub.new {F : Hp} {p : Addr} {o : HO} (h : F p = none) : Sub F (upd F p o) := fun a u e => by
  rw [upd_ne (ne_of_none e h)]
  exact e
theorem sqT_sub {K : PySem.W.Frag} {F F' : Hp} {a : Addr} {xs : List V} (e : Sub F F') (h : SqT K F a xs) : SqT K F' a xs := by
  rcases h with (h | ⟨o, h⟩) | h
  · exact .inl (.inl (e _ _ h))
  · exact .inl (.inr ⟨o, e _ _ h⟩)
  · exact .inr h
theorem Pt.sub {K : PySem.W.Frag} {F F' : Hp} {a : Addr} (e : Sub F F') (h : Pt K F a) : Pt K F' a := by
  rcases h with ⟨o, u, h, d⟩ | h
  · exact .inl ⟨o, u, e _ _ h, d⟩
  · exact .inr h
theorem sqL_sub {K : PySem.W.Frag} {F F' : Hp} {a : Addr} {xs : List V} (e : Sub F F') (h : SqL K F a xs) : SqL K F' a xs := by
  rcases h with (h | ⟨o, h⟩) | h
  · exact .inl (.inl (e _ _ h))
  · exact .inl (.inr ⟨o, e _ _ h⟩)
  · exact .inr h
mutual
theorem Rep.mono {K : PySem.W.Frag} {F F' : Hp} (e : Sub F F') : ∀ {v : V} {d : D}, Rep K F v d → Rep K F' v d
  | _, _, .non => .non
  | _, _, .bl b => .bl b
  | _, _, .int i => .int i
  | _, _, .str x => .str x
  | _, _, .adr a => .adr a
  | _, _, .scr h => .scr (sqL_sub e h)
  | _, _, .tup h t r => .tup (sqT_sub e h) (Pt.sub e t) (Reps.mono e r)
  | _, _, .lst h r => .lst (e _ _ h) (Reps.mono e r)
  | _, _, .dct h r => .dct (e _ _ h) (RepK.mono e r)
theorem Reps.mono {K : PySem.W.Frag} {F F' : Hp} (e : Sub F F') : ∀ {vs : List V} {ds : List D}, Reps K F vs ds → Reps K F' vs ds
  | _, _, .nil => .nil
  | _, _, .cons h r => .cons (Rep.mono e h) (Reps.mono e r)
theorem RepK.mono {K : PySem.W.Frag} {F F' : Hp} (e : Sub F F') : ∀ {vs : List (Key × V)} {ds : List (Str × D)}, RepK K F vs ds → RepK K F' vs ds
  | _, _, .nil => .nil
  | _, _, .cons h r => .cons (Rep.mono e h) (RepK.mono e r)
end
section
variable {K : PySem.W.Frag} {F : Hp}
theorem Reps.length : ∀ {vs : List V} {ds : List D}, Reps K F vs ds → vs.length = ds.length
  | _, _, .nil => rfl
  | _, _, .cons _ r => congrArg (· + 1) (Reps.length r)
theorem Reps.get : ∀ {vs : List V} {ds : List D} {i : Nat} {d : D}, Reps K F vs ds → ds[i]? = some d → ∃ v, vs[i]? = some v ∧ Rep K F v d
  | _, _, _, _, .nil, e => by simp at e
  | _, _, 0, _, .cons h _, e => by simp at e; subst e; exact ⟨_, rfl, h⟩
  | _, _, i + 1, d, .cons _ t, e => by
    obtain ⟨v, h1, h2⟩ := Reps.get (i := i) (d := d) t (by simpa using e)
    exact ⟨v, by simpa using h1, h2⟩
theorem Reps.getv : ∀ {vs : List V} {ds : List D} {i : Nat} {v : V}, Reps K F vs ds → vs[i]? = some v → ∃ d, ds[i]? = some d ∧ Rep K F v d
  | _, _, _, _, .nil, e => by simp at e
  | _, _, 0, _, .cons h _, e => by simp at e; subst e; exact ⟨_, rfl, h⟩
  | _, _, i + 1, d, .cons _ t, e => by
    obtain ⟨v, h1, h2⟩ := Reps.getv (i := i) (v := d) t (by simpa using e)
    exact ⟨v, by simpa using h1, h2⟩
theorem Reps.append : ∀ {xs ys : List V} {us ws : List D}, Reps K F xs us → Reps K F ys ws → Reps K F (xs ++ ys) (us ++ ws)
  | _, _, _, _, .nil, s => s
  | _, _, _, _, .cons r t, s => .cons r (Reps.append t s)
theorem Reps.take : ∀ {xs : List V} {us : List D} (n : Nat), Reps K F xs us → Reps K F (xs.take n) (us.take n)
  | _, _, 0, _ => .nil
  | _, _, _ + 1, .nil => .nil
  | _, _, n + 1, .cons r t => .cons r (Reps.take n t)
theorem Reps.drop : ∀ {xs : List V} {us : List D} (n : Nat), Reps K F xs us → Reps K F (xs.drop n) (us.drop n)
  | _, _, 0, r => r
  | _, _, _ + 1, .nil => .nil
  | _, _, n + 1, .cons _ t => Reps.drop n t
theorem Reps.set {x : V} {u : D} (r : Rep K F x u) : ∀ {xs : List V} {us : List D} (i : Nat), Reps K F xs us → Reps K F (xs.set i x) (us.set i u)
  | _, _, _, .nil => .nil
  | _, _, 0, .cons _ t => .cons r t
  | _, _, i + 1, .cons q t => .cons q (Reps.set r i t)
theorem Reps.erase : ∀ {xs : List V} {us : List D} (n : Nat), Reps K F xs us → Reps K F (xs.eraseIdx n) (us.eraseIdx n)
  | _, _, _, .nil => .nil
  | _, _, 0, .cons _ t => t
  | _, _, n + 1, .cons r t => .cons r (Reps.erase n t)
theorem Reps.rep {xs : List V} {us : List D} (r : Reps K F xs us) : ∀ n : Nat, Reps K F (List.replicate n xs).flatten (List.replicate n us).flatten
  | 0 => .nil
  | n + 1 => by
    rw [List.replicate_succ, List.replicate_succ, List.flatten_cons, List.flatten_cons]
    exact r.append (Reps.rep r n)
theorem Reps.rev : ∀ {xs : List V} {us : List D}, Reps K F xs us → Reps K F xs.reverse us.reverse
  | _, _, .nil => .nil
  | _, _, .cons h t => by
    rw [List.reverse_cons, List.reverse_cons]
    exact (Reps.rev t).append (.cons h .nil)
end

/-! ### the machine's mutable part -/
structure Sys where
  S : Type
  ok : S → Hp → Prop
  dm : S → Addr → Prop
  keep : ∀ s H H', ok s H → (∀ a, dm s a → H' a = H a) → ok s H'

structure Cf (Y : Sys) where
  F : Hp
  H : Hp
  s : Y.S

structure Ok {Y : Sys} (c : Cf Y) : Prop where
  sub : Sub c.F c.H
  cel : Y.ok c.s c.H
  dis : ∀ a, Y.dm c.s a → c.F a = none
  has : ∀ a, Y.dm c.s a → c.H a ≠ none

structure Step {Y : Sys} (c c' : Cf Y) : Prop where
  f : Sub c.F c'.F
  h : ∀ a o, c.H a = some o → ¬ Y.dm c.s a → c'.H a = some o
  n : ∀ a, c.H a ≠ none → c.F a = none → c'.F a = none
  d : ∀ a, Y.dm c.s a → Y.dm c'.s a
  g : ∀ a, c.H a ≠ none → Y.dm c'.s a → Y.dm c.s a

section
variable {Y : Sys} {c c1 c2 : Cf Y}
theorem Step.refl (c : Cf Y) : Step c c := ⟨Sub.refl _, fun _ _ h _ => h, fun _ _ h => h, fun _ h => h, fun _ _ h => h⟩
theorem Step.ne (t : Step c c1) (k : Ok c1) {a : Addr} (h : c.H a ≠ none) : c1.H a ≠ none := by
  by_cases q : Y.dm c.s a
  · exact k.has a (t.d a q)
  · cases e : c.H a with
    | none => exact absurd e h
    | some o => rw [t.h a o e q]; exact fun z => nomatch z
theorem Step.back (t : Step c c1) (k : Ok c1) {a : Addr} (h : c1.H a = none) : c.H a = none := by
  cases e : c.H a with
  | none => rfl
  | some o => exact absurd h (t.ne k (by rw [e]; exact fun z => nomatch z))
theorem Step.trans (t : Step c c1) (k : Ok c1) (u : Step c1 c2) : Step c c2 where
  f := t.f.trans u.f
  h := fun a o e nd => u.h a o (t.h a o e nd) fun z => nd (t.g a (by rw [e]; exact fun z => nomatch z) z)
  n := fun a e nf => u.n a (t.ne k e) (t.n a e nf)
  d := fun a z => u.d a (t.d a z)
  g := fun a e z => t.g a e (u.g a (t.ne k e) z)
/-- a new object that nobody can change -/
theorem Ok.new (k : Ok c) {p : Addr} (hp : c.H p = none) (o : HO) : Ok (⟨upd c.F p o, upd c.H p o, c.s⟩ : Cf Y) where
  sub := fun a u e => by
    have e : upd c.F p o a = some u := e
    show upd c.H p o a = some u
    by_cases q : a = p
    · subst q
      rw [upd_same] at e ⊢
      exact e
    · rw [upd_ne q] at e
      rw [upd_ne q]
      exact k.sub a u e
  cel := Y.keep _ _ _ k.cel fun a z => upd_ne (show a ≠ p from fun e => k.has a z (by rw [e]; exact hp))
  dis := fun a z => by
    show upd c.F p o a = none
    rw [upd_ne (show a ≠ p from fun e => k.has a z (by rw [e]; exact hp))]
    exact k.dis a z
  has := fun a z => by
    show upd c.H p o a ≠ none
    rw [upd_ne (show a ≠ p from fun e => k.has a z (by rw [e]; exact hp))]
    exact k.has a z
theorem Step.new (k : Ok c) {p : Addr} (hp : c.H p = none) (o : HO) : Step c (⟨upd c.F p o, upd c.H p o, c.s⟩ : Cf Y) where
  f := Sub.new (by
    cases e : c.F p with
    | none => rfl
    | some u => rw [k.sub _ _ e] at hp; cases hp)
  h := fun a u e _ => by
    show upd c.H p o a = some u
    rw [upd_ne (ne_of_none e hp)]
    exact e
  n := fun a e nf => by
    show upd c.F p o a = none
    rw [upd_ne (show a ≠ p from fun z => e (by rw [z]; exact hp))]
    exact nf
  d := fun _ z => z
  g := fun _ _ z => z
/-- a new object that is still the maker's own -/
theorem Ok.own (k : Ok c) {p : Addr} (hp : c.H p = none) (o : HO) : Ok (⟨c.F, upd c.H p o, c.s⟩ : Cf Y) where
  sub := fun a u e => by
    show upd c.H p o a = some u
    have q := k.sub a u e
    rw [upd_ne (ne_of_none q hp)]
    exact q
  cel := Y.keep _ _ _ k.cel fun a z => upd_ne (show a ≠ p from fun e => k.has a z (by rw [e]; exact hp))
  dis := k.dis
  has := fun a z => by
    show upd c.H p o a ≠ none
    rw [upd_ne (show a ≠ p from fun e => k.has a z (by rw [e]; exact hp))]
    exact k.has a z
theorem Step.own (k : Ok c) {p : Addr} (hp : c.H p = none) (o : HO) : Step c (⟨c.F, upd c.H p o, c.s⟩ : Cf Y) where
  f := Sub.refl _
  h := fun a u e _ => by
    show upd c.H p o a = some u
    rw [upd_ne (ne_of_none e hp)]
    exact e
  n := fun _ _ nf => nf
  d := fun _ z => z
  g := fun _ _ z => z
/-- what is owned changes -/
theorem Ok.mut (k : Ok c) {p : Addr} (hf : c.F p = none) (nd : ¬ Y.dm c.s p) (o : HO) : Ok (⟨c.F, upd c.H p o, c.s⟩ : Cf Y) where
  sub := fun a u e => by
    show upd c.H p o a = some u
    rw [upd_ne (ne_of_none e hf)]
    exact k.sub a u e
  cel := Y.keep _ _ _ k.cel fun a z => upd_ne (show a ≠ p from fun e => nd (e ▸ z))
  dis := k.dis
  has := fun a z => by
    show upd c.H p o a ≠ none
    rw [upd_ne (show a ≠ p from fun e => nd (e ▸ z))]
    exact k.has a z
/-- .. seen from the entry, ahead of which it was not -/
theorem Step.mut {c0 : Cf Y} (t : Step c0 c) {p : Addr} (h0 : c0.H p = none) (o : HO) : Step c0 (⟨c.F, upd c.H p o, c.s⟩ : Cf Y) where
  f := t.f
  h := fun a u e nd => by
    show upd c.H p o a = some u
    rw [upd_ne (ne_of_none e h0)]
    exact t.h a u e nd
  n := t.n
  d := t.d
  g := t.g
/-- what is owned is given up -/
theorem Ok.frz (k : Ok c) {p : Addr} (nd : ¬ Y.dm c.s p) {o : HO} (hp : c.H p = some o) : Ok (⟨upd c.F p o, c.H, c.s⟩ : Cf Y) where
  sub := fun a u e => by
    have e : upd c.F p o a = some u := e
    show c.H a = some u
    by_cases q : a = p
    · subst q
      rw [upd_same] at e
      rw [hp]
      exact e
    · rw [upd_ne q] at e
      exact k.sub a u e
  cel := k.cel
  dis := fun a z => by
    show upd c.F p o a = none
    rw [upd_ne (show a ≠ p from fun e => nd (e ▸ z))]
    exact k.dis a z
  has := k.has
theorem Step.frz {c0 : Cf Y} (t : Step c0 c) {p : Addr} (hf : c.F p = none) (h0 : c0.H p = none) (o : HO) : Step c0 (⟨upd c.F p o, c.H, c.s⟩ : Cf Y) where
  f := t.f.trans (Sub.new hf)
  h := t.h
  n := fun a e nf => by
    show upd c.F p o a = none
    rw [upd_ne (show a ≠ p from fun z => e (by rw [z]; exact h0))]
    exact t.n a e nf
  d := t.d
  g := t.g
end

/-! ### what is owned, what a slot holds, what an expression gives -/
def Own {Y : Sys} (K : PySem.W.Frag) (c : Cf Y) (p : Addr) (d : D) : Prop :=
  (match d with
    | .lst ds => ∃ vs, c.H p = some (.lst vs) ∧ Reps K c.F vs ds
    | .dct es => ∃ kvs, c.H p = some (.dK kvs) ∧ RepK K c.F kvs es
    | _ => False) ∧ c.F p = none ∧ ¬ Y.dm c.s p

inductive SV where
  | no | va (d : D) | ow (d : D)
inductive K3 where
  | v | t | o

section
variable {Y : Sys} {c c1 c2 : Cf Y} {K : PySem.W.Frag} {p : Addr} {d : D}
theorem Own.obj (h : Own K c p d) : c.H p ≠ none := by
  obtain ⟨h, _, _⟩ := h
  cases d with
  | lst ds => obtain ⟨vs, e, _⟩ := h; rw [e]; exact fun z => nomatch z
  | dct ds => obtain ⟨vs, e, _⟩ := h; rw [e]; exact fun z => nomatch z
  | _ => exact h.elim
theorem Own.step (h : Own K c p d) (t : Step c c1) : Own K c1 p d := by
  have ob := h.obj
  obtain ⟨h, hf, nd⟩ := h
  refine ⟨?_, t.n p ob hf, fun z => nd (t.g p ob z)⟩
  cases d with
  | lst ds => obtain ⟨vs, e, r⟩ := h; exact ⟨vs, t.h _ _ e nd, r.mono t.f⟩
  | dct ds => obtain ⟨vs, e, r⟩ := h; exact ⟨vs, t.h _ _ e nd, r.mono t.f⟩
  | _ => exact h.elim
/-- given up: it is data from then on -/
theorem Own.frz (h : Own K c p d) (k : Ok c) : ∃ o, c.H p = some o ∧ Ok (⟨upd c.F p o, c.H, c.s⟩ : Cf Y) ∧ Rep K (upd c.F p o) (.ref p) d ∧ Sub c.F (upd c.F p o) := by
  obtain ⟨h, hf, nd⟩ := h
  cases d with
  | lst ds =>
    obtain ⟨vs, e, r⟩ := h
    exact ⟨_, e, k.frz nd e, .lst upd_same (r.mono (Sub.new hf)), Sub.new hf⟩
  | dct ds =>
    obtain ⟨vs, e, r⟩ := h
    exact ⟨_, e, k.frz nd e, .dct upd_same (r.mono (Sub.new hf)), Sub.new hf⟩
  | _ => exact h.elim
/-- another's change leaves it -/
theorem Own.other (h : Own K c p d) {q : Addr} (n : p ≠ q) (o : HO) : Own K (⟨c.F, upd c.H q o, c.s⟩ : Cf Y) p d := by
  obtain ⟨h, hf, nd⟩ := h
  refine ⟨?_, hf, nd⟩
  cases d with
  | lst ds => obtain ⟨vs, e, r⟩ := h; exact ⟨vs, by rw [show (⟨c.F, upd c.H q o, c.s⟩ : Cf Y).H = upd c.H q o from rfl, upd_ne n]; exact e, r⟩
  | dct ds => obtain ⟨vs, e, r⟩ := h; exact ⟨vs, by rw [show (⟨c.F, upd c.H q o, c.s⟩ : Cf Y).H = upd c.H q o from rfl, upd_ne n]; exact e, r⟩
  | _ => exact h.elim
theorem Own.frzo (h : Own K c p d) {q : Addr} {o : HO} (n : p ≠ q) (hq : c.F q = none) : Own K (⟨upd c.F q o, c.H, c.s⟩ : Cf Y) p d := by
  obtain ⟨h, hf, nd⟩ := h
  refine ⟨?_, by show upd c.F q o p = none; rw [upd_ne n]; exact hf, nd⟩
  cases d with
  | lst ds => obtain ⟨vs, e, r⟩ := h; exact ⟨vs, e, r.mono (Sub.new hq)⟩
  | dct ds => obtain ⟨vs, e, r⟩ := h; exact ⟨vs, e, r.mono (Sub.new hq)⟩
  | _ => exact h.elim
end

/-- an expression's value: data, something new, or an owned thing looked at -/
def Is {Y : Sys} (K : PySem.W.Frag) (Hs : Hp) (c : Cf Y) : K3 → V → D → Prop
  | .v, v, d => Rep K c.F v d
  | .t, v, d => ∃ p, v = .ref p ∧ Own K c p d ∧ Hs p = none
  | .o, v, d => ∃ p, v = .ref p ∧ Own K c p d

structure Rel {Y : Sys} (K : PySem.W.Frag) (H0 : Hp) (c : Cf Y) (σ : L2.St) (ρ : List SV) : Prop where
  len : ρ.length = σ.length
  va : ∀ (i : Nat) (d : D), ρ[i]? = some (SV.va d) → ∃ v, σ[i]? = some (some v) ∧ Rep K c.F v d
  ow : ∀ (i : Nat) (d : D), ρ[i]? = some (SV.ow d) → ∃ p, σ[i]? = some (some (V.ref p)) ∧ Own K c p d ∧ H0 p = none
  ap : ∀ (i j : Nat) (d e : D) (p : Addr), i ≠ j → ρ[i]? = some (SV.ow d) → ρ[j]? = some (SV.ow e) → σ[i]? = some (some (V.ref p)) → σ[j]? ≠ some (some (V.ref p))

section
variable {Y : Sys} {c c1 c2 : Cf Y} {K : PySem.W.Frag} {Hs H0 : Hp} {k : K3} {v : V} {d : D} {σ : L2.St} {ρ : List SV}
theorem Is.step (h : Is K Hs c k v d) (t : Step c c1) : Is K Hs c1 k v d := by
  cases k with
  | v => exact Rep.mono t.f h
  | t => obtain ⟨p, e, o, z⟩ := h; exact ⟨p, e, o.step t, z⟩
  | o => obtain ⟨p, e, o⟩ := h; exact ⟨p, e, o.step t⟩
theorem Is.back {Hs' : Hp} (h : Is K Hs c k v d) (hb : ∀ a, Hs a = none → Hs' a = none) : Is K Hs' c k v d := by
  cases k with
  | v => exact h
  | t => obtain ⟨p, e, o, z⟩ := h; exact ⟨p, e, o, hb _ z⟩
  | o => exact h
theorem Rel.step (r : Rel K H0 c σ ρ) (t : Step c c1) : Rel K H0 c1 σ ρ where
  len := r.len
  va := fun i d e => let ⟨v, h, q⟩ := r.va i d e; ⟨v, h, q.mono t.f⟩
  ow := fun i d e => let ⟨p, h, q, z⟩ := r.ow i d e; ⟨p, h, q.step t, z⟩
  ap := r.ap
/-- frozen: seen from the start c -/
theorem Is.data {c0 : Cf Y} (h : Is K c0.H c k v d) (hk : k ≠ .o) (t : Step c0 c) (ok : Ok c) : ∃ c' : Cf Y, c'.s = c.s ∧ c'.H = c.H ∧ Step c0 c' ∧ Ok c' ∧ Rep K c'.F v d := by
  cases k with
  | v => exact ⟨c, rfl, rfl, t, ok, h⟩
  | o => exact absurd rfl hk
  | t =>
    obtain ⟨p, rfl, o, z⟩ := h
    obtain ⟨ob, e, ok', r, _⟩ := o.frz ok
    exact ⟨⟨upd c.F p ob, c.H, c.s⟩, rfl, rfl, t.frz o.2.1 z ob, ok', r⟩
end
end Mf
set_option Elab.async false
set_option linter.all false
set_option maxRecDepth 100000
set_option maxHeartbeats 1000000
namespace Mf
open PySem L2

/-! ### data compared -/
mutual
def D.py : D → PyData
  | .non => .none | .bl b => .bool b | .int i => .int i | .str x => .str x
  | .tup ds => .tuple (pys ds) | .lst ds => .list (pys ds) | .dct _ => .none | .adr _ => .none | .scr _ => .none
def pys : List D → List PyData
  | [] => []
  | d :: ds => d.py :: pys ds
end
/-- plain data of at most a depth -/
def okS (x : Str) : Bool := x.cps.all (· < 0x110000)
mutual
def D.sh : Nat → D → Bool
  | _, .non => true | _, .bl _ => true | _, .int _ => true | _, .str x => okS x
  | n + 1, .tup ds => shs n ds | n + 1, .lst ds => shs n ds | _, _ => false
def shs : Nat → List D → Bool
  | _, [] => true
  | n, d :: ds => d.sh n && shs n ds
end
mutual
def deq : D → D → Bool
  | .non, .non => true
  | .bl a, .bl b => a == b
  | .bl a, .int j => (if a then 1 else 0) == j
  | .int i, .bl b => i == (if b then 1 else 0)
  | .int i, .int j => i == j
  | .str x, .str y => x == y
  | .lst xs, .lst ys => deqs xs ys
  | .tup xs, .tup ys => deqs xs ys
  | _, _ => false
def deqs : List D → List D → Bool
  | [], [] => true
  | x :: xs, y :: ys => deq x y && deqs xs ys
  | _, _ => false
end
def flatD : D → Bool
  | .non => true | .bl _ => true | .int _ => true | .str _ => true | _ => false

/-! ### results -/
inductive Res (S α : Type) where
  | ok (a : α) (s : S) | ex (x : Str) (s : S) | er
def Res.bind {S α β : Type} : Res S α → (α → S → Res S β) → Res S β
  | .ok a s, f => f a s
  | .ex x s, _ => .ex x s
  | .er, _ => .er
def liftO {S α : Type} (s : S) : Option α → Res S α
  | some a => .ok a s
  | none => .er
abbrev Sem (S : Type) := List D → S → Res S D

/-! ### syntax -/
inductive Bop where | add | sub | mul | fdv | mod
inductive Cop where | eq | ne | lt | le | gt | ge | isin | notin | is | isnot
inductive B1 where | len | abs | int | tuple | list | all | any | max | dict | sorted
inductive M1 where | sindex | lindex | lcount
inductive Ty where | int | bool | tuple | str | list
inductive Tg where | nm (i : Nat) | nil | cons (t r : Tg)
mutual
inductive CE (S : Type) : Type where
  | var (i : Nat) | con (d : D) | glb (x : Str) (d : D)
  | tup (es : CA S) | lst (es : CA S)
  | bin (o : Bop) (a b : CE S) | neg (a : CE S) | not (a : CE S)
  | cmp (o : Cop) (a b : CE S) | chn (o o' : Cop) (a b c : CE S)
  | and (a b : CE S) | or (a b : CE S) | one (a : CE S) | ife (t a b : CE S)
  | ix (a i : CE S) | slL (a lo : CE S) | slH (a hi : CE S) | slB (a lo hi : CE S)
  | call (x : Str) (n : Nat) (g : Sem S) (es : CA S)
  | b1 (f : B1) (e : CE S) | m1 (f : M1) (a b : CE S) | isi (e : CE S) (t : Ty)
  | lc (it : CI S) (tg : Tg) (ifs : CA S) (elt : CE S) (vs : List Nat)
inductive CA (S : Type) : Type where
  | nil | cons (e : CE S) (es : CA S)
inductive CI (S : Type) : Type where
  | seq (e : CE S) | rng (e : CE S) | zip (a b : CE S)
end

/-! ### operators on data -/
def mulOk (i j : Int) : Bool := decide (i.natAbs.log2 + j.natAbs.log2 < 1000000)
def divOk (j : Int) : Bool := decide (j ≠ 0) && decide (j.natAbs.log2 < 9000)
def lenOk (n : Nat) : Bool := decide (n ≤ 1000000)
def binD : Bop → D → D → Option (K3 × D)
  | .add, .int i, .int j => some (.v, .int (i + j))
  | .add, .tup xs, .tup ys => if lenOk (xs.length + ys.length) then some (.v, .tup (xs ++ ys)) else none
  | .add, .lst xs, .lst ys => if lenOk (xs.length + ys.length) then some (.t, .lst (xs ++ ys)) else none
  | .add, .str x, .str y => if lenOk (x.length + y.length) then some (.v, .str (x ++ y)) else none
  | .sub, .int i, .int j => some (.v, .int (i - j))
  | .mul, .int i, .int j => if mulOk i j then some (.v, .int (i * j)) else none
  | .mul, .tup xs, .int k => if decide (2 ≤ k) && decide (k ≤ 1000) && decide (xs.length ≤ 1000) && !xs.isEmpty then some (.v, .tup (List.replicate k.toNat xs).flatten) else none
  | .mul, .lst xs, .int k => if decide (0 ≤ k) && decide (k ≤ 1000) && decide (xs.length ≤ 1000) then some (.t, .lst (List.replicate k.toNat xs).flatten) else none
  | .fdv, .int i, .int j => if divOk j then some (.v, .int (i.fdiv j)) else none
  | .mod, .int i, .int j => if decide (j ≠ 0) then some (.v, .int (i.fmod j)) else none
  | _, _, _ => none
def eqD (x y : D) : Option Bool := if x.sh 60 && y.sh 60 then some (deq x y) else none
def lookD (x : Str) : List (Str × D) → Option D
  | [] => none
  | (y, d) :: r => if y = x then some d else lookD x r
def inD : D → D → Option Bool
  | x, .tup ds => if (flatD x && ds.all flatD) || (x.sh 60 && shs 59 ds) then some (ds.any fun y => deq y x) else none
  | x, .lst ds => if (flatD x && ds.all flatD) || (x.sh 60 && shs 59 ds) then some (ds.any fun y => deq y x) else none
  | .str x, .str z => some (!(Builtin.Str.occurrences z x 0 z.length 1).isEmpty)
  | .str x, .dct es => some (lookD x es).isSome
  | _, _ => none
def isD : D → D → Option Bool
  | .non, .non => some true
  | .bl a, .bl b => some (decide (a = b))
  | _, .non => some false
  | _, _ => none
def cmpD : Cop → D → D → Option Bool
  | .eq, x, y => eqD x y
  | .ne, x, y => (eqD x y).map (!·)
  | .lt, .int i, .int j => some (decide (i < j))
  | .lt, .str x, .str y => some (decide (x.cps.toList < y.cps.toList))
  | .le, .int i, .int j => some (decide (i ≤ j))
  | .gt, .int i, .int j => some (decide (j < i))
  | .ge, .int i, .int j => some (decide (j ≤ i))
  | .isin, x, y => inD x y
  | .notin, x, y => (inD x y).map (!·)
  | .is, x, y => isD x y
  | .isnot, x, y => (isD x y).map (!·)
  | _, _, _ => none
def ixD : D → D → Option D
  | .tup ds, .int i => atI ds i
  | .lst ds, .int i => atI ds i
  | .str x, .int i => if lenOk x.length then (atI x.cps.toList i).map fun c => .str ⟨#[c]⟩ else none
  | .dct es, .str x => lookD x es
  | _, _ => none
def slD (d : D) (lo hi : Option Int) : Option (K3 × D) :=
  match d with
  | .tup ds => some (.v, .tup ((ds.drop (HT.sIx ds.length 0 lo)).take (HT.sIx ds.length ds.length hi - HT.sIx ds.length 0 lo)))
  | .lst ds => some (.t, .lst ((ds.drop (HT.sIx ds.length 0 lo)).take (HT.sIx ds.length ds.length hi - HT.sIx ds.length 0 lo)))
  | .str x => if lenOk x.length then some (.v, .str (cutS x lo hi)) else none
  | _ => none
def boolsD : List D → Option (List Bool)
  | [] => some []
  | .bl b :: r => (boolsD r).map (b :: ·)
  | _ => none
def intsD : List D → Option (List Int)
  | [] => some []
  | .int b :: r => (intsD r).map (b :: ·)
  | _ => none
def maxL : List Int → Int → Int
  | [], m => m
  | x :: r, m => maxL r (if m < x then x else m)
def putD (es : List (Str × D)) (k : Str) (v : D) : List (Str × D) :=
  if (es.any fun kv => decide (kv.1 = k)) = true then es.map (fun kv => if kv.1 = k then (kv.1, v) else kv) else es ++ [(k, v)]
def pairsD : List D → Option (List (Str × D))
  | [] => some []
  | .tup [.str k, v] :: r => (pairsD r).map ((k, v) :: ·)
  | _ => none
def dictD (kvs : List (Str × D)) : List (Str × D) := kvs.foldl (fun acc kv => putD acc kv.1 kv.2) []
def leD (x y : D) : Bool := !PySem.W.dataLt y.py x.py
def insD (x : D) : List D → List D
  | [] => [x]
  | y :: r => if leD x y then x :: y :: r else y :: insD x r
/-- sorted, equal ones in the old order -/
def sortD : List D → List D
  | [] => []
  | x :: r => insD x (sortD r)
def tup1 : D → Bool
  | .tup (_ :: _) => true
  | _ => false
def notTup : D → Bool
  | .tup _ => false
  | .non => false
  | _ => true
def sortOk (ds : List D) : Bool := shs 59 ds && (ds.all fun x => ds.all fun y => PySem.W.alike x.py y.py) && (ds.all tup1 || ds.all notTup)
def b1D : B1 → D → Option (K3 × D)
  | .len, .lst ds => some (.v, .int ds.length)
  | .len, .tup ds => some (.v, .int ds.length)
  | .len, .str x => if lenOk x.length then some (.v, .int x.length) else none
  | .abs, .int i => some (.v, .int (if i < 0 then -i else i))
  | .int, .int i => some (.v, .int i)
  | .int, .bl b => some (.v, .int (if b then 1 else 0))
  | .tuple, .lst ds => some (.v, .tup ds)
  | .tuple, .tup ds => some (.v, .tup ds)
  | .list, .lst ds => some (.t, .lst ds)
  | .list, .tup ds => some (.t, .lst ds)
  | .all, .lst ds => (boolsD ds).map fun bs => (.v, .bl (bs.all id))
  | .any, .lst ds => (boolsD ds).map fun bs => (.v, .bl (bs.any id))
  | .dict, .lst ds => (pairsD ds).map fun kvs => (.t, .dct (dictD kvs))
  | .dict, .tup ds => (pairsD ds).map fun kvs => (.t, .dct (dictD kvs))
  | .sorted, .lst ds => if sortOk ds then some (.t, .lst (sortD ds)) else none
  | .max, .lst ds => match intsD ds with | some (m :: r) => some (.v, .int (maxL r m)) | _ => none
  | _, _ => none
def rcvD : M1 → D → Bool
  | .sindex, .str _ => true
  | .lindex, .lst _ => true
  | .lcount, .lst _ => true
  | _, _ => false
def m1D : M1 → D → D → Option (K3 × D)
  | .sindex, .str a, .str b => match Builtin.Str.occurrences a b 0 a.length 1 with | i :: _ => some (.v, .int (i : Nat)) | [] => none
  | .lindex, .lst ds, y => if y.sh 60 && shs 59 ds then (ds.findIdx? fun z => deq z y).map fun j => (.v, .int (j : Nat)) else none
  | .lcount, .lst ds, y => if y.sh 60 && shs 59 ds then some (.v, .int (ds.countP fun z => deq z y : Nat)) else none
  | _, _, _ => none
def isiD : Ty → D → Option Bool
  | _, .dct _ => none
  | _, .adr _ => none
  | _, .scr _ => none
  | .int, d => some (match d with | .int _ => true | .bl _ => true | _ => false)
  | .bool, d => some (match d with | .bl _ => true | _ => false)
  | .tuple, d => some (match d with | .tup _ => true | _ => false)
  | .str, d => some (match d with | .str _ => true | _ => false)
  | .list, d => some (match d with | .lst _ => true | _ => false)

/-! ### targets -/
def asgL : Tg → List D → List SV → Option (List SV)
  | .nm _, _, _ => none
  | .nil, [], ρ => some ρ
  | .nil, _ :: _, _ => none
  | .cons _ _, [], _ => none
  | .cons t r, d :: ds, ρ =>
    match t with
    | .nm i => if i < ρ.length then asgL r ds (ρ.set i (.va d)) else none
    | .nil => none
    | .cons t' r' => match d with | .tup es => (asgL (.cons t' r') es ρ).bind (asgL r ds) | _ => none
def asgT (t : Tg) (d : D) (ρ : List SV) : Option (List SV) := asgL (.cons t .nil) [d] ρ
def wipeR (ρ : List SV) : List Nat → List SV
  | [] => ρ
  | v :: vs => (wipeR ρ vs).set v .no

/-! ### the evaluator -/
def dat {S : Type} : K3 × D → S → Res S D
  | (.o, _), _ => .er
  | (_, d), s => .ok d s
def noEx {S α : Type} : Res S α → Res S α
  | .ok a s => .ok a s
  | _ => .er
/-- in a for (st): an owned thing isn't walked -/
def stk {S : Type} : Bool → K3 × D → S → Res S (K3 × D)
  | true, (.o, _), _ => .er
  | _, x, s => .ok x s
def walkR {S : Type} (f : D → S → Res S (Option D)) : List D → S → Res S (List D)
  | [], s => .ok [] s
  | d :: ds, s => (f d s).bind fun o s1 => (walkR f ds s1).bind fun r s2 => .ok (o.toList ++ r) s2
def rngD (n : Nat) : List D := (List.range n).map fun (i : Nat) => D.int (i : Int)
def zipD : List D → List D → List D
  | x :: xs, y :: ys => .tup [x, y] :: zipD xs ys
  | _, _ => []
def itemsD : D → Option (List D)
  | .lst ds => some ds
  | .tup ds => some ds
  | .str z => some (z.cps.toList.map fun c => .str ⟨#[c]⟩)
  | _ => none
def zipK : D → D → Option (List D)
  | .lst xs, .lst ys => some (zipD xs ys)
  | .tup xs, .tup ys => some (zipD xs ys)
  | _, _ => none
def tru {S : Type} : K3 × D → S → Res S Bool
  | (_, .bl b), s => .ok b s
  | _, _ => .er
def intOf {S : Type} : K3 × D → S → Res S Int
  | (_, .int b), s => .ok b s
  | _, _ => .er
def kd {S : Type} (s : S) (d : Option D) : Res S (K3 × D) := liftO s (d.map fun d => (.v, d))
mutual
def ev {S : Type} : CE S → List SV → S → Res S (K3 × D)
  | .var i, ρ, s => match ρ[i]? with
    | some (.va d) => .ok (.v, d) s
    | some (.ow d) => .ok (.o, d) s
    | _ => .er
  | .con d, _, s => .ok (.v, d) s
  | .glb _ d, _, s => .ok (.v, d) s
  | .tup es, ρ, s => (evA es ρ s).bind fun ds s => if lenOk ds.length then .ok (.v, .tup ds) s else .er
  | .lst es, ρ, s => (evA es ρ s).bind fun ds s => if lenOk ds.length then .ok (.t, .lst ds) s else .er
  | .bin o a b, ρ, s => (ev a ρ s).bind fun x s => (ev b ρ s).bind fun y s => liftO s (binD o x.2 y.2)
  | .neg a, ρ, s => (ev a ρ s).bind fun x s => (intOf x s).bind fun i s => .ok (.v, .int (-i)) s
  | .not a, ρ, s => (ev a ρ s).bind fun x s => (tru x s).bind fun b s => .ok (.v, .bl (!b)) s
  | .cmp o a b, ρ, s => (ev a ρ s).bind fun x s => (ev b ρ s).bind fun y s => kd s ((cmpD o x.2 y.2).map .bl)
  | .chn o o' a b c, ρ, s => (ev a ρ s).bind fun x s => (ev b ρ s).bind fun y s => (liftO s (cmpD o x.2 y.2)).bind fun k s =>
      if k then (ev c ρ s).bind fun z s => kd s ((cmpD o' y.2 z.2).map .bl) else .ok (.v, .bl false) s
  | .and a b, ρ, s => (ev a ρ s).bind fun x s => (tru x s).bind fun k s => if k then ev b ρ s else .ok (.v, .bl false) s
  | .or a b, ρ, s => (ev a ρ s).bind fun x s => (tru x s).bind fun k s => if k then .ok (.v, .bl true) s else ev b ρ s
  | .one a, ρ, s => ev a ρ s
  | .ife t a b, ρ, s => (ev t ρ s).bind fun x s => (tru x s).bind fun k s => if k then ev a ρ s else ev b ρ s
  | .ix a i, ρ, s => (ev a ρ s).bind fun x s => (ev i ρ s).bind fun y s => kd s (ixD x.2 y.2)
  | .slL a lo, ρ, s => (ev a ρ s).bind fun x s => (ev lo ρ s).bind fun y s => (intOf y s).bind fun i s => liftO s (slD x.2 (some i) none)
  | .slH a hi, ρ, s => (ev a ρ s).bind fun x s => (ev hi ρ s).bind fun y s => (intOf y s).bind fun i s => liftO s (slD x.2 none (some i))
  | .slB a lo hi, ρ, s => (ev a ρ s).bind fun x s => (ev lo ρ s).bind fun y s => (intOf y s).bind fun i s => (ev hi ρ s).bind fun z s => (intOf z s).bind fun j s => liftO s (slD x.2 (some i) (some j))
  | .call _ n g es, ρ, s => (evA es ρ s).bind fun ds s => if ds.length = n then (g ds s).bind fun d s => .ok (.v, d) s else .er
  | .b1 f e, ρ, s => (ev e ρ s).bind fun x s => liftO s (b1D f x.2)
  | .m1 f a b, ρ, s => (ev a ρ s).bind fun x s => if rcvD f x.2 then (ev b ρ s).bind fun y s => liftO s (m1D f x.2 y.2) else .er
  | .isi e t, ρ, s => (ev e ρ s).bind fun x s => kd s ((isiD t x.2).map .bl)
  | .lc it tg ifs elt vs, ρ, s => (evI false it ρ s).bind fun ds s => if !lenOk ds.length then .er else (walkR (fun d s => match asgT tg d (wipeR ρ vs) with
      | none => .er
      | some ρ' => (noEx (evT ifs ρ' s)).bind fun k s => if k then (noEx (ev elt ρ' s)).bind fun y s => (dat y s).bind fun e s => .ok (some e) s else .ok none s) ds s).bind fun r s => .ok (.t, .lst r) s
def evA {S : Type} : CA S → List SV → S → Res S (List D)
  | .nil, _, s => .ok [] s
  | .cons e es, ρ, s => (ev e ρ s).bind fun x s => (dat x s).bind fun d s => (evA es ρ s).bind fun ds s => .ok (d :: ds) s
def evT {S : Type} : CA S → List SV → S → Res S Bool
  | .nil, _, s => .ok true s
  | .cons t _, ρ, s => (ev t ρ s).bind tru
def evI {S : Type} (st : Bool) : CI S → List SV → S → Res S (List D)
  | .seq e, ρ, s => (ev e ρ s).bind fun x s => (stk st x s).bind fun x s => liftO s (itemsD x.2)
  | .rng e, ρ, s => (ev e ρ s).bind fun x s => (intOf x s).bind fun n s => if decide (-1000000 ≤ n) && decide (n ≤ 1000000) then .ok (rngD n.toNat) s else .er
  | .zip a b, ρ, s => (ev a ρ s).bind fun x s => (stk st x s).bind fun x s => (ev b ρ s).bind fun y s => (stk st y s).bind fun y s => liftO s (zipK x.2 y.2)
end
end Mf
set_option Elab.async false
set_option linter.all false
set_option maxRecDepth 100000
set_option maxHeartbeats 1000000
namespace Mf
open PySem L2

/-! ### views of a value -/
section
variable {Y : Sys} {c : Cf Y} {K : PySem.W.Frag} {Hs : Hp} {k : K3} {v : V}
theorem Is.int {i : Int} (h : Is K Hs c k v (.int i)) : v = .int i := by
  cases k with
  | v => cases h; rfl
  | t => obtain ⟨p, _, o, _⟩ := h; exact o.1.elim
  | o => obtain ⟨p, _, o⟩ := h; exact o.1.elim
theorem Is.bl {b : Bool} (h : Is K Hs c k v (.bl b)) : v = .bl b := by
  cases k with
  | v => cases h; rfl
  | t => obtain ⟨p, _, o, _⟩ := h; exact o.1.elim
  | o => obtain ⟨p, _, o⟩ := h; exact o.1.elim
theorem Is.str {x : Str} (h : Is K Hs c k v (.str x)) : v = .str x := by
  cases k with
  | v => cases h; rfl
  | t => obtain ⟨p, _, o, _⟩ := h; exact o.1.elim
  | o => obtain ⟨p, _, o⟩ := h; exact o.1.elim
theorem Is.non (h : Is K Hs c k v .non) : v = .non := by
  cases k with
  | v => cases h; rfl
  | t => obtain ⟨p, _, o, _⟩ := h; exact o.1.elim
  | o => obtain ⟨p, _, o⟩ := h; exact o.1.elim
theorem Is.tup {ds : List D} (h : Is K Hs c k v (.tup ds)) (ok : Ok c) : ∃ p vs, v = .ref p ∧ SqT K c.H p vs ∧ (SqT K c.F p vs ∧ Pt K c.F p) ∧ Reps K c.F vs ds := by
  cases k with
  | v => cases h with | tup q t r => exact ⟨_, _, rfl, sqT_sub ok.sub q, ⟨q, t⟩, r⟩
  | t => obtain ⟨p, _, o, _⟩ := h; exact o.1.elim
  | o => obtain ⟨p, _, o⟩ := h; exact o.1.elim
theorem Is.lst {ds : List D} (h : Is K Hs c k v (.lst ds)) (ok : Ok c) : ∃ p vs, v = .ref p ∧ c.H p = some (.lst vs) ∧ Reps K c.F vs ds := by
  cases k with
  | v => cases h with | lst q r => exact ⟨_, _, rfl, ok.sub _ _ q, r⟩
  | t => obtain ⟨p, e, o, _⟩ := h; obtain ⟨vs, q, r⟩ := o.1; exact ⟨p, vs, e, q, r⟩
  | o => obtain ⟨p, e, o⟩ := h; obtain ⟨vs, q, r⟩ := o.1; exact ⟨p, vs, e, q, r⟩
theorem Is.dct {ds : List (Str × D)} (h : Is K Hs c k v (.dct ds)) (ok : Ok c) : ∃ p kvs, v = .ref p ∧ c.H p = some (.dK kvs) ∧ RepK K c.F kvs ds := by
  cases k with
  | v => cases h with | dct q r => exact ⟨_, _, rfl, ok.sub _ _ q, r⟩
  | t => obtain ⟨p, e, o, _⟩ := h; obtain ⟨vs, q, r⟩ := o.1; exact ⟨p, vs, e, q, r⟩
  | o => obtain ⟨p, e, o⟩ := h; obtain ⟨vs, q, r⟩ := o.1; exact ⟨p, vs, e, q, r⟩
end

/-! ### == of data -/
mutual
theorem py_dp {K : PySem.W.Frag} {F H : Hp} (e : Sub F H) : ∀ {n : Nat} {v : V} {d : D}, Rep K F v d → d.sh n = true → Dp K H v d.py
  | _, _, _, .non, _ => .non
  | _, _, _, .bl b, _ => .bl b
  | _, _, _, .int i, _ => .int i
  | _, _, _, .str x, _ => .str x
  | n, _, _, .adr a, h => by cases n <;> cases h
  | n, _, _, .scr _, h => by cases n <;> cases h
  | n, _, _, .dct _ _, h => by cases n <;> cases h
  | 0, _, _, .tup _ _ _, h => by cases h
  | 0, _, _, .lst _ _, h => by cases h
  | n + 1, _, _, .tup q _ r, h => .tup (sqT_sub e q) (pys_dp e r h)
  | n + 1, _, _, .lst q r, h => .lst (.inl (.inl (e _ _ q))) (pys_dp e r h)
theorem pys_dp {K : PySem.W.Frag} {F H : Hp} (e : Sub F H) : ∀ {n : Nat} {vs : List V} {ds : List D}, Reps K F vs ds → shs n ds = true → DpAll K H vs (pys ds)
  | _, _, _, .nil, _ => .nil
  | _, _, _, .cons h r, q => by
    have q := Bool.and_eq_true_iff.mp q
    exact .cons (py_dp e h q.1) (pys_dp e r q.2)
end
mutual
theorem py_sh : ∀ (n : Nat) (d : D), d.sh n = true → d.py.canLay0 = true ∧ d.py.depth ≤ n
  | _, .non, _ => ⟨rfl, Nat.zero_le _⟩
  | _, .bl _, _ => ⟨rfl, Nat.zero_le _⟩
  | _, .int _, _ => ⟨rfl, Nat.zero_le _⟩
  | n, .str x, h => ⟨by cases n <;> exact h, Nat.zero_le _⟩
  | n, .adr a, h => by cases n <;> cases h
  | n, .scr a, h => by cases n <;> cases h
  | n, .dct _, h => by cases n <;> cases h
  | 0, .tup _, h => by cases h
  | 0, .lst _, h => by cases h
  | n + 1, .tup ds, h => ⟨(pys_sh n ds h).1, Nat.succ_le_succ (pys_sh n ds h).2⟩
  | n + 1, .lst ds, h => ⟨(pys_sh n ds h).1, Nat.succ_le_succ (pys_sh n ds h).2⟩
theorem pys_sh : ∀ (n : Nat) (ds : List D), shs n ds = true → PyData.canLayAll0 (pys ds) = true ∧ PyData.depthAll (pys ds) ≤ n
  | _, [], _ => ⟨rfl, Nat.zero_le _⟩
  | n, d :: ds, h => by
    have q := Bool.and_eq_true_iff.mp h
    have a := py_sh n d q.1
    have b := pys_sh n ds q.2
    exact ⟨Bool.and_eq_true_iff.mpr ⟨a.1, b.1⟩, Nat.max_le.mpr ⟨a.2, b.2⟩⟩
end
theorem shaped_of {d : D} (h : d.sh 60 = true) : SeqAt.shaped d.py = true :=
  Bool.and_eq_true_iff.mpr ⟨(py_sh 60 d h).1, decide_eq_true (Nat.le_trans (py_sh 60 d h).2 (by decide))⟩
theorem sh_dct {n : Nat} {x : List (Str × D)} : (D.dct x).sh n = false := by cases n <;> rfl
theorem sh_scr {n : Nat} {x : List Int} : (D.scr x).sh n = false := by cases n <;> rfl
theorem sh_adr {n : Nat} {x : Addr} : (D.adr x).sh n = false := by cases n <;> rfl
mutual
theorem py_eqv : ∀ (n m : Nat) (d e : D), d.sh n = true → e.sh m = true → PyData.eqv d.py e.py = deq d e
  | n, m, .dct _, e, h, _ => by rw [sh_dct] at h; cases h
  | n, m, .adr _, e, h, _ => by rw [sh_adr] at h; cases h
  | n, m, .scr _, e, h, _ => by rw [sh_scr] at h; cases h
  | n, m, d, .dct _, _, h => by rw [sh_dct] at h; cases h
  | n, m, d, .adr _, _, h => by rw [sh_adr] at h; cases h
  | n, m, d, .scr _, _, h => by rw [sh_scr] at h; cases h
  | n + 1, m + 1, .tup xs, .tup ys, h, h' => pys_eqv n m xs ys h h'
  | n + 1, m + 1, .lst xs, .lst ys, h, h' => pys_eqv n m xs ys h h'
  | 0, _, .tup xs, .tup ys, h, h' => by cases h
  | 0, _, .lst xs, .lst ys, h, h' => by cases h
  | _ + 1, 0, .tup xs, .tup ys, h, h' => by cases h'
  | _ + 1, 0, .lst xs, .lst ys, h, h' => by cases h'
  | _, _, .non, .non, _, _ => rfl
  | _, _, .non, .bl _, _, _ => rfl
  | _, _, .non, .int _, _, _ => rfl
  | _, _, .non, .str _, _, _ => rfl
  | _, _, .non, .tup _, _, _ => rfl
  | _, _, .non, .lst _, _, _ => rfl
  | _, _, .bl _, .non, _, _ => rfl
  | _, _, .bl _, .bl _, _, _ => rfl
  | _, _, .bl _, .int _, _, _ => rfl
  | _, _, .bl _, .str _, _, _ => rfl
  | _, _, .bl _, .tup _, _, _ => rfl
  | _, _, .bl _, .lst _, _, _ => rfl
  | _, _, .int _, .non, _, _ => rfl
  | _, _, .int _, .bl _, _, _ => rfl
  | _, _, .int _, .int _, _, _ => rfl
  | _, _, .int _, .str _, _, _ => rfl
  | _, _, .int _, .tup _, _, _ => rfl
  | _, _, .int _, .lst _, _, _ => rfl
  | _, _, .str _, .non, _, _ => rfl
  | _, _, .str _, .bl _, _, _ => rfl
  | _, _, .str _, .int _, _, _ => rfl
  | _, _, .str _, .str _, _, _ => rfl
  | _, _, .str _, .tup _, _, _ => rfl
  | _, _, .str _, .lst _, _, _ => rfl
  | _, _, .tup _, .non, _, _ => rfl
  | _, _, .tup _, .bl _, _, _ => rfl
  | _, _, .tup _, .int _, _, _ => rfl
  | _, _, .tup _, .str _, _, _ => rfl
  | _, _, .tup _, .lst _, _, _ => rfl
  | _, _, .lst _, .non, _, _ => rfl
  | _, _, .lst _, .bl _, _, _ => rfl
  | _, _, .lst _, .int _, _, _ => rfl
  | _, _, .lst _, .str _, _, _ => rfl
  | _, _, .lst _, .tup _, _, _ => rfl
theorem pys_eqv : ∀ (n m : Nat) (ds es : List D), shs n ds = true → shs m es = true → PyData.eqvAll (pys ds) (pys es) = deqs ds es
  | _, _, [], [], _, _ => rfl
  | _, _, [], _ :: _, _, _ => rfl
  | _, _, _ :: _, [], _, _ => rfl
  | n, m, d :: ds, e :: es, h, h' => by
    have q := Bool.and_eq_true_iff.mp h
    have q' := Bool.and_eq_true_iff.mp h'
    show (PyData.eqv d.py e.py && PyData.eqvAll (pys ds) (pys es)) = (deq d e && deqs ds es)
    rw [py_eqv n m d e q.1 q'.1, pys_eqv n m ds es q.2 q'.2]
end
theorem Is.dp {Y : Sys} {c : Cf Y} {K : PySem.W.Frag} {Hs : Hp} {k : K3} {v : V} {d : D} (h : Is K Hs c k v d) (ok : Ok c) (hs : d.sh 60 = true) : Dp K c.H v d.py := by
  cases k with
  | v => exact py_dp ok.sub h hs
  | t =>
    obtain ⟨p, rfl, o, _⟩ := h
    cases d with
    | lst ds => obtain ⟨vs, q, r⟩ := o.1; exact .lst (.inl (.inl q)) (pys_dp (n := 59) ok.sub r hs)
    | dct _ => rw [sh_dct] at hs; cases hs
    | _ => exact o.1.elim
  | o =>
    obtain ⟨p, rfl, o⟩ := h
    cases d with
    | lst ds => obtain ⟨vs, q, r⟩ := o.1; exact .lst (.inl (.inl q)) (pys_dp (n := 59) ok.sub r hs)
    | dct _ => rw [sh_dct] at hs; cases hs
    | _ => exact o.1.elim
end Mf
set_option Elab.async false
set_option linter.all false
set_option maxRecDepth 100000
set_option maxHeartbeats 1000000
namespace Mf
open PySem L2 PySem.Spec PyProof.Rows

section
variable {X : Cx}
/-! ### l.remove(x) of data -/
def rRemD (K : PySem.W.Frag) : V → List V → Hp → VK → Prop := fun x xs H Q => ∃ (l : Addr) (vs : List V) (y : V) (d : PyData) (ds : List PyData) (j : Nat), x = V.ref l ∧ xs = [y] ∧ H l = some (.lst vs) ∧ DpAll K H vs ds ∧ Dp K H y d ∧
  SeqAt.shaped (.list ds) = true ∧ SeqAt.shaped d = true ∧ SeqAt.dataPlace ds d = some j ∧ Q .non (upd H l (.lst (vs.eraseIdx j)))
theorem vals_erase : ∀ {xs : List V} {us : List Value} (n : Nat), Vals xs us → Vals (xs.eraseIdx n) (us.eraseIdx n)
  | _, _, _, .nil => .nil
  | _, _, 0, .cons _ t => t
  | _, _, n + 1, .cons r t => .cons r (vals_erase n t)
theorem mt_removeD (hu : X.A.units + 65 < cLine) : MtM X "list.remove" (rRemD X.K) := by
  intro pins s σ H x xs v us Q I rx rxs h
  obtain ⟨l, vs, y, d, ds, j, rfl, rfl, hH, hl, hy, sl, sd, hj, q⟩ := h
  cases rx
  obtain ⟨u, rfl, ru⟩ := rxs.one
  obtain ⟨bs, r1⟩ := Dp.reads I d y u hy ru
  obtain ⟨z, its, n, r, hn, e⟩ := I.lstM hH
  obtain ⟨as, h4⟩ := Dp.readsAll I ds _ its hl r
  have hxs : PyData.canLayAll0 ds = true := SeqAt.canLay_of_shaped sl
  have hroom : X.A.units + 1 + min (PyData.depthAll ds) d.depth < cLine := room_in_shaped sd hu
  have hmap : its.map (SeqAt.readOf s.heap) = ds := SeqAt.readsAll_map ds its as hxs h4
  obtain ⟨g1, g2, g3⟩ := List.findIdx?_eq_some_iff_getElem.mp hj
  have hlen : its.length = ds.length := by rw [← hmap, List.length_map]
  have at_ : ∀ (m : Nat) (hm : m < its.toArray.size) (hd : m < ds.length), SeqAt.readOf s.heap its.toArray[m] = ds[m] := by
    intro m hm hd
    have e2 : (its.map (SeqAt.readOf s.heap))[m]? = ds[m]? := by rw [hmap]
    rw [List.getElem?_map, List.getElem?_eq_getElem (by simpa using hm), List.getElem?_eq_getElem hd] at e2
    simpa using e2
  refine call_meets PySem.F.slot_list_remove ⟨_, e, rfl⟩ PySem.F.entry_list_remove (PySem.F.args_list_remove_2 _ _)
    (SeqAt.list_removeAt l its.toArray n none #[] u (fun u => PyData.eqv (SeqAt.readOf s.heap u) d) j (by rw [List.size_toArray]; omega) ?_ ?_ (by rw [List.size_toArray]; omega)) ⟨e, SeqAt.items_eqAt (vs := its.toArray) (show ReadsAll s.heap its.toArray.toList ds as from h4) r1 hxs (SeqAt.canLay_of_shaped sd) hroom, ?_⟩
  · have hjs : j < its.toArray.size := by rw [List.size_toArray]; omega
    show PyData.eqv (SeqAt.readOf s.heap (its.toArray[j]'hjs)) d = true
    rw [at_ j hjs g1]
    exact g2
  · intro m hm hmj
    show PyData.eqv (SeqAt.readOf s.heap its.toArray[m]) d = false
    rw [at_ m hm (by omega)]
    have := g3 m hmj
    simpa using this
  · refine ⟨.non, _, I.lset (its' := its.eraseIdx j) (t' := s.toks) hH e ?_ (vals_erase j r) ?_, rfl, q⟩
    · show its.toArray.eraseIdxIfInBounds j = (its.eraseIdx j).toArray
      rw [List.eraseIdxIfInBounds_toArray]
    · have := List.length_eraseIdx_le vs j
      omega
/-! ### x in a tuple or a list of data -/
def rInT (K : PySem.W.Frag) (neg : Bool) : R2 := fun x y H Q => ∃ d ds, Dp K H x d ∧ (Dp K H y (.list ds) ∨ Dp K H y (.tuple ds)) ∧ SeqAt.shaped d = true ∧ SeqAt.shaped (.list ds) = true ∧ Q (.bl (neg ^^ ds.any fun z => PyData.eqv z d)) H
theorem op_inT (hu : X.A.units + 65 < cLine) : OpR X (compareOp .In) (rInT X.K false) := by
  intro pins s σ H x y v u Q I rx ry h
  obtain ⟨d, ds, hd, he, sd, se, q⟩ := h
  obtain ⟨as, r1⟩ := Dp.reads I d x v hd rx
  rw [Bool.false_xor] at q
  rcases he with he | he
  · obtain ⟨bs, r2⟩ := Dp.reads I (.list ds) y u he ry
    exact SeqAt.in_list_reads r2 r1 (SeqAt.canLay_of_shaped se) (SeqAt.canLay_of_shaped sd) (room_in_shaped sd hu) ⟨.bl _, H, I, rfl, q⟩
  · obtain ⟨bs, r2⟩ := Dp.reads I (.tuple ds) y u he ry
    exact SeqAt.in_tuple_reads r2 r1 (SeqAt.canLay_of_shaped se) (SeqAt.canLay_of_shaped sd) (room_in_shaped sd hu) ⟨.bl _, H, I, rfl, q⟩
theorem op_notInT (hu : X.A.units + 65 < cLine) : OpR X (compareOp .NotIn) (rInT X.K true) := by
  intro pins s σ H x y v u Q I rx ry h
  obtain ⟨d, ds, hd, he, sd, se, q⟩ := h
  obtain ⟨as, r1⟩ := Dp.reads I d x v hd rx
  rw [Bool.true_xor] at q
  rcases he with he | he
  · obtain ⟨bs, r2⟩ := Dp.reads I (.list ds) y u he ry
    exact SeqAt.notIn_list_reads r2 r1 (SeqAt.canLay_of_shaped se) (SeqAt.canLay_of_shaped sd) (room_in_shaped sd hu) ⟨.bl _, H, I, rfl, q⟩
  · obtain ⟨bs, r2⟩ := Dp.reads I (.tuple ds) y u he ry
    exact SeqAt.notIn_tuple_reads r2 r1 (SeqAt.canLay_of_shaped se) (SeqAt.canLay_of_shaped sd) (room_in_shaped sd hu) ⟨.bl _, H, I, rfl, q⟩
/-! ### l.count(x) -/
def rCntD (K : PySem.W.Frag) : V → List V → Hp → VK → Prop := fun x xs H Q => ∃ (l : Addr) (vs : List V) (y : V) (d : PyData) (ds : List PyData), x = V.ref l ∧ xs = [y] ∧ SqL K H l vs ∧ DpAll K H vs ds ∧ Dp K H y d ∧
  SeqAt.shaped (.list ds) = true ∧ SeqAt.shaped d = true ∧ Q (.int (ds.countP fun z => PyData.eqv z d : Nat)) H
theorem mt_countD (hu : X.A.units + 65 < cLine) : MtR X "list.count" (rCntD X.K) := by
  intro pins s σ H x xs v us Q I rx rxs h
  obtain ⟨l, vs, y, d, ds, rfl, rfl, hs, hl, hy, sl, sd, q⟩ := h
  cases rx
  obtain ⟨u, rfl, ru⟩ := rxs.one
  obtain ⟨bs, r1⟩ := Dp.reads I d y u hy ru
  obtain ⟨its, rv, ⟨⟨cls, dd, data, sls⟩, n, ho, hc, hdn, hdt⟩, hlen⟩ := I.list hs
  simp only at hc hdt
  subst hc hdt
  obtain ⟨as, h4⟩ := Dp.readsAll I ds _ its hl rv
  have hxs : PyData.canLayAll0 ds = true := SeqAt.canLay_of_shaped sl
  have hroom : X.A.units + 1 + min (PyData.depthAll ds) d.depth < cLine := room_in_shaped sd hu
  have hmap : its.map (SeqAt.readOf s.heap) = ds := SeqAt.readsAll_map ds its as hxs h4
  refine call_meets PySem.F.slot_list_count ⟨_, ho, rfl⟩ PySem.F.entry_list_count (PySem.F.args_list_count_2 _ _)
    (SeqAt.list_countAt l its.toArray n dd sls u (fun u => PyData.eqv (SeqAt.readOf s.heap u) d)) ⟨ho, SeqAt.items_eqAt (vs := its.toArray) (show ReadsAll s.heap its.toArray.toList ds as from h4) r1 hxs (SeqAt.canLay_of_shaped sd) hroom, ?_⟩
  have ec : its.toArray.toList.countP (fun u => PyData.eqv (SeqAt.readOf s.heap u) d) = ds.countP fun z => PyData.eqv z d := by
    rw [← hmap, List.countP_map]
    rfl
  refine ⟨.int (ds.countP fun z => PyData.eqv z d : Nat), H, I.tok _, ⟨s.toks, ?_⟩, q⟩
  show Value.int ((its.toArray.toList.countP (fun u => PyData.eqv (SeqAt.readOf s.heap u) d) : Nat) : Int) s.toks = _
  rw [ec]
/-! ### dict(pairs) -/
def rDict (K : PySem.W.Frag) : List V → Hp → VK → Prop := fun xs H Q => ∃ (a : Addr) (ps : List Addr) (kvs : List (Key × V)), xs = [.ref a] ∧ (SqL K H a (ps.map V.ref) ∨ (SqT K H a (ps.map V.ref) ∧ Pt K H a)) ∧ Paired (fun p kv => SqT K H p [kV kv.1, kv.2]) ps kvs ∧
    ∀ p, H p = none → Q (.ref p) (upd H p (.dK (mergeK [] kvs)))
theorem pairs_ofZ {pins : List (Addr × Obj)} {σ : L2.St} {H : Hp} {s : Shared} (I : L2.Inv X pins σ H s) : ∀ {ps : List Addr} {kvs : List (Key × V)}, Paired (fun p kv => SqT X.K H p [kV kv.1, kv.2]) ps kvs →
    ∃ (prs : List (Key × Value)) (pvs : List (Value × Value)), KV kvs prs ∧ prs.length = ps.length ∧ pvs.length = ps.length ∧ ∀ (j : Nat) (key v : Value), pvs[j]? = some (key, v) → ∃ k, prs[j]? = some (k, v) ∧ keyIs k key = true ∧ ps[j]? = some (ps.getD j 0) ∧ IsTup s.heap (ps.getD j 0) #[key, v]
  | _, _, .nil => ⟨[], [], .nil, rfl, rfl, fun j k v e => by simp at e⟩
  | _, _, .cons (a := p) (b := kv) h t => by
    obtain ⟨prs, pvs, r, hl, hl2, hp⟩ := pairs_ofZ I t
    obtain ⟨its, rv, ht, _⟩ := I.tuple h
    obtain ⟨u, y, ei, ru, ry⟩ := vals2 rv
    subst ei
    refine ⟨(kv.1, y) :: prs, (u, y) :: pvs, .cons ⟨rfl, ry⟩ r, by rw [List.length_cons, List.length_cons, hl], by rw [List.length_cons, List.length_cons, hl2], fun j key v e => ?_⟩
    cases j with
    | zero =>
      have e' : (u, y) = (key, v) := Option.some.inj e
      cases e'
      exact ⟨kv.1, rfl, kV_is (P := X.prog) (w := X.w) ru, rfl, ht⟩
    | succ j =>
      obtain ⟨k, e1, e2, e3, e4⟩ := hp j key v (by simpa using e)
      refine ⟨k, by simpa using e1, e2, ?_, ?_⟩
      · simpa using e3
      · simpa using e4
theorem call_dictZ (hcalm : X.calm = true) : CallR X (.type "dict") (rDict X.K) := by
  intro pins s σ H xs us Q I r q
  obtain ⟨a, ps, kvs, ex, hq, hp, q⟩ := q
  rcases hq with hq | ⟨hq, ht⟩
  · exact call_dictP hcalm pins s σ H xs us Q I r ⟨a, ps, kvs, ex, hq, hp, q⟩
  subst ex
  obtain ⟨u, eu, rx⟩ := vals1 r
  subst eu
  cases rx
  obtain ⟨its, rv, ⟨o, ho, hc, n, hdat⟩, hz⟩ := I.tuple hq
  have hod : o.dict = none := by
    rcases ht with ⟨o', u, h1, h2⟩ | ⟨o', h1, h2⟩
    · have := (I.hok a _ h1).1
      rw [ho] at this
      cases this
      exact h2
    · have := I.kIn a o' h1
      rw [ho] at this
      cases this
      exact h2
  have ei := refs_at rv
  subst ei
  rw [List.length_map] at hz
  obtain ⟨prs, pvs, rel, hl, hl2, hpr⟩ := pairs_ofZ I hp
  refine PySem.call_dict_pairs (knd := mixKind X.prog X.w) (kvs := prs) (PairArg.tuple a (ps.map Value.ref).toArray (fun j => ps.getD j 0) pvs) (I.ok.hd hcalm) ⟨⟨o, n, ho, hc, hod, hdat⟩, by simp [hl2], fun j k v e => ?_⟩ ⟨by rw [hl, hl2], fun i key v e => ?_⟩ (by rw [hl2]; exact hz) fun h' tk hd' k => ?_
  · obtain ⟨k', e1, e2, e3, e4⟩ := hpr j k v e
    refine ⟨?_, .inl e4⟩
    rw [List.getElem?_toArray, List.getElem?_map, e3]
    rfl
  · obtain ⟨k', e1, e2, _⟩ := hpr i key v e
    exact ⟨k', e1, e2⟩
  · have hm : (s.heap.objs.size == sysModules) = false := beq_eq_false_iff_ne.mpr (Nat.ne_of_gt I.big)
    have hlen : (mergeK [] kvs).length ≤ sizeLine := by
      refine Nat.le_trans (length_mergeK kvs []) ?_
      rw [List.length_nil, Nat.zero_add, rel.length, hl]
      exact hz
    exact ⟨.ref s.heap.objs.size, upd H s.heap.objs.size (.dK (mergeK [] kvs)), I.laid (t' := tk) (fun b o e => k b o (fun z => nomatch z) e) (Nat.le_refl _) (show ObjOk X.prog X.w _ _ _ (.dK (mergeK [] kvs)) from ⟨hlen, hm, merged [] prs, KV.merge rel .nil, hd'⟩), rfl, q _ (I.hok.fresh (Nat.le_refl _))⟩
/-! ### sorted(l) of data -/
def rSortD (K : PySem.W.Frag) : List V → Hp → VK → Prop := fun xs H Q => ∃ (a : Addr) (bs : List (V × D)), xs = [.ref a] ∧ SqL K H a (bs.map (·.1)) ∧ DpAll K H (bs.map (·.1)) (bs.map fun b => b.2.py) ∧
  PySem.W.AllAlike (bs.map fun b => b.2.py) ∧ PySem.W.Sortable (bs.map fun b => b.2.py) ∧ (∀ b ∈ bs, b.2.py.depth ≤ 60) ∧ ∀ l, H l = none → Q (.ref l) (upd H l (.lst ((bs.mergeSort (PySem.W.dataLe false fun b => b.2.py)).map (·.1))))
theorem each_vals : ∀ {bs : List (V × D)} {us : List Value}, Vals (bs.map (·.1)) us → PySem.W.EachIs (fun u (b : V × D) => RelV b.1 u) us bs
  | [], _, .nil => .nil
  | _ :: _, _, .cons h t => .cons h (each_vals t)
theorem vals_each : ∀ {bs : List (V × D)} {us : List Value}, PySem.W.EachIs (fun u (b : V × D) => RelV b.1 u) us bs → Vals (bs.map (·.1)) us
  | [], _, .nil => .nil
  | _ :: _, _, .cons h t => .cons h (vals_each t)
theorem cr_sortedD (hu : X.A.units + 65 < cLine) : CallR X (.builtin "sorted") (rSortD X.K) := by
  intro pins s σ H xs us Q I r q
  obtain ⟨a, bs, rfl, hq, hd, hal, hso, hdp, q⟩ := q
  obtain ⟨u, eu, rx⟩ := vals1 r
  subst eu
  cases rx
  obtain ⟨its, rv, pl, hz⟩ := I.list hq
  rw [List.length_map] at hz
  obtain ⟨as, h4⟩ := Dp.readsAll I _ _ its hd rv
  refine PySem.W.sorted_data (R := fun u (b : V × D) => RelV b.1 u) (enc := fun b : V × D => b.2.py) pl.isList (each_vals rv) (PySem.W.readsAll_each _ h4) hal hso hz (fun b hb => ?_) fun out ho eo => ?_
  · have := hdp b hb
    omega
  · obtain ⟨c, hc⟩ := sortedAll_at s.heap its out.toArray
    have rr := vals_each eo
    refine ⟨.ref (s.heap.objs.size + 1), upd H (s.heap.objs.size + 1) (.lst ((bs.mergeSort (PySem.W.dataLe false fun b => b.2.py)).map (·.1))), I.laid (t' := s.toks) (fun _ _ => sortedAll_old) (Nat.le_succ _) (show ObjOk X.prog X.w _ _ _ (.lst _) from ⟨?_, out, c, rr, hc⟩), rfl, q _ (I.hok.fresh (Nat.le_succ _))⟩
    rw [List.length_map, List.length_mergeSort]
    exact hz
end
end Mf
set_option Elab.async false
set_option linter.all false
set_option maxRecDepth 100000
set_option maxHeartbeats 1000000
namespace Mf
open PySem L2

theorem szM {n : Nat} (h : lenOk n = true) : n ≤ sizeLine := Nat.le_trans (of_decide_eq_true h) (by decide)
/-- what a call of the machine is to reach: data d of kind k, the state as it was -/
abbrev Fin {Y : Sys} (K : PySem.W.Frag) (c : Cf Y) (k : K3) (d : D) (Q : VK) : Prop := ∀ v (c' : Cf Y), c'.s = c.s → Step c c' → Ok c' → Is K c.H c' k v d → Q v c'.H

section
variable {Y : Sys} {c : Cf Y} {K : PySem.W.Frag} {Q : VK} {k : K3} {d : D}
theorem Fin.here (q : Fin K c .v d Q) (ok : Ok c) {v : V} (h : Rep K c.F v d) : Q v c.H := q v c rfl (Step.refl c) ok h
theorem Fin.tup {ds : List D} {vs : List V} (q : Fin K c .v (.tup ds) Q) (ok : Ok c) (r : Reps K c.F vs ds) : NewT c.H Q vs := fun p o hp ho =>
  q (.ref p) ⟨upd c.F p (.frz o (.tup vs)), upd c.H p (.frz o (.tup vs)), c.s⟩ rfl (Step.new ok hp _) (ok.new hp _) (Rep.tup (.inl (.inr ⟨o, upd_same⟩)) (.inl ⟨o, _, upd_same, ho⟩) (r.mono (Step.new ok hp (.frz o (.tup vs))).f))
theorem Ok.fr (ok : Ok c) {p : Addr} (hp : c.H p = none) : c.F p = none := by
  cases e : c.F p with
  | none => rfl
  | some u => rw [ok.sub _ _ e] at hp; cases hp
theorem Fin.lst {ds : List D} {vs : List V} (q : Fin K c .t (.lst ds) Q) (ok : Ok c) (r : Reps K c.F vs ds) : ∀ p, c.H p = none → Q (.ref p) (upd c.H p (.lst vs)) := fun p hp =>
  q (.ref p) ⟨c.F, upd c.H p (.lst vs), c.s⟩ rfl (Step.own ok hp _) (ok.own hp _) ⟨p, rfl, ⟨⟨vs, upd_same, r⟩, ok.fr hp, fun z => ok.has p z hp⟩, hp⟩
end

section
variable {X : Cx}
def CDivV (_ j : Int) : Prop := j ≠ 0 ∧ j.natAbs.log2 < 9000
theorem op_fdivV : OpR X (binaryOp .FloorDiv) (rI CDivV fun i j => .int (i.fdiv j)) := opI fun _ _ _ _ _ _ _ hc q => PyProof.Rows.floordiv_int hc.1 q (.inl (PyProof.noPylong_of_log2 hc.2))
def opB : Bop → Operator
  | .add => .Add | .sub => .Sub | .mul => .Mult | .fdv => .FloorDiv | .mod => .Mod
def rB (K : PySem.W.Frag) : Bop → R2
  | .add => fun x y H Q => rI0 (fun i j => .int (i + j)) x y H Q ∨ (rCatZ K x y H Q ∨ (rCat x y H Q ∨ (∃ i j, x = .str i ∧ y = .str j ∧ i.length + j.length ≤ sizeLine ∧ Q (.str (i ++ j)) H)))
  | .sub => rI0 (fun i j => .int (i - j))
  | .mul => fun x y H Q => rI CMulW (fun i j => .int (i * j)) x y H Q ∨ (rRepZ K x y H Q ∨ rRep x y H Q)
  | .fdv => rI CDivV fun i j => .int (i.fdiv j)
  | .mod => rI (fun _ j => j ≠ 0) fun i j => .int (i.fmod j)
theorem op_B (o : Bop) : OpR X (binaryOp (opB o)) (rB X.K o) := by
  cases o with
  | add => exact OpR.or op_add (OpR.or op_catZ (OpR.or op_cat op_add_str))
  | sub => exact op_sub
  | mul => exact OpR.or op_mulW (OpR.or op_repZ op_rep)
  | fdv => exact op_fdivV
  | mod => exact op_modN
end
theorem bin_use {Y : Sys} {c : Cf Y} {K : PySem.W.Frag} {H1 H2 : Hp} {k1 k2 k : K3} {x y : V} {a b d : D} {o : Bop} {Q : VK} (ok : Ok c) (hx : Is K H1 c k1 x a) (hy : Is K H2 c k2 y b) (e : binD o a b = some (k, d)) (q : Fin K c k d Q) : rB K o x y c.H Q := by
  unfold binD at e
  split at e
  · cases e
    exact .inl ⟨_, _, hx.int, hy.int, q.here ok (.int _)⟩
  · split at e
    · rename_i xs ys hl
      cases e
      obtain ⟨p, vs, rfl, h1, h1', r1⟩ := hx.tup ok
      obtain ⟨p2, vs2, rfl, h2, h2', r2⟩ := hy.tup ok
      refine .inr (.inl ⟨p, p2, vs, vs2, rfl, rfl, h1, h2, ?_, fun z => ?_, fun z => ?_, q.tup ok (r1.append r2)⟩)
      · rw [r1.length, r2.length]
        exact szM hl
      · subst z
        cases r1
        exact q.here ok (.tup h2'.1 h2'.2 r2)
      · subst z
        cases r2
        rw [List.append_nil] at q
        exact q.here ok (.tup h1'.1 h1'.2 r1)
    · cases e
  · split at e
    · rename_i xs ys hl
      cases e
      obtain ⟨p, vs, rfl, h1, r1⟩ := hx.lst ok
      obtain ⟨p2, vs2, rfl, h2, r2⟩ := hy.lst ok
      refine .inr (.inr (.inl ⟨p, p2, vs, vs2, rfl, rfl, h1, h2, ?_, q.lst ok (r1.append r2)⟩))
      rw [r1.length, r2.length]
      exact szM hl
    · cases e
  · split at e
    · rename_i xs ys hl
      cases e
      exact .inr (.inr (.inr ⟨_, _, hx.str, hy.str, szM hl, q.here ok (.str _)⟩))
    · cases e
  · cases e
    exact ⟨_, _, hx.int, hy.int, q.here ok (.int _)⟩
  · split at e
    · rename_i xs ys hl
      cases e
      exact .inl ⟨_, _, hx.int, hy.int, (of_decide_eq_true hl : xs.natAbs.log2 + ys.natAbs.log2 < 1000000), q.here ok (.int _)⟩
    · cases e
  · split at e
    · rename_i xs kk hl
      cases e
      simp only [Bool.and_eq_true, decide_eq_true_eq] at hl
      obtain ⟨⟨⟨l1, l2⟩, l3⟩, l4⟩ := hl
      obtain ⟨p, vs, rfl, h1, h1', r1⟩ := hx.tup ok
      refine .inr (.inl ⟨p, _, vs, rfl, hy.int, h1, fun z => ?_, l1, l2, ?_, q.tup ok (r1.rep _)⟩)
      · subst z
        cases r1
        cases l4
      · rw [r1.length]
        exact l3
    · cases e
  · split at e
    · rename_i xs kk hl
      cases e
      simp only [Bool.and_eq_true, decide_eq_true_eq] at hl
      obtain ⟨⟨l1, l2⟩, l3⟩ := hl
      obtain ⟨p, vs, rfl, h1, r1⟩ := hx.lst ok
      refine .inr (.inr ⟨p, _, vs, rfl, hy.int, h1, by omega, by omega, ?_, q.lst ok (r1.rep _)⟩)
      rw [r1.length]
      exact Nat.le_trans (Nat.mul_le_mul l3 (show kk.toNat ≤ 1000 by omega)) (by decide)
    · cases e
  · split at e
    · rename_i xs ys hl
      cases e
      have hl := Bool.and_eq_true_iff.mp hl
      exact ⟨_, _, hx.int, hy.int, ⟨of_decide_eq_true hl.1, of_decide_eq_true hl.2⟩, q.here ok (.int _)⟩
    · cases e
  · split at e
    · rename_i xs ys hl
      cases e
      exact ⟨_, _, hx.int, hy.int, of_decide_eq_true hl, q.here ok (.int _)⟩
    · cases e
  · cases e

/-! ### comparisons -/
theorem lookD_val {K : PySem.W.Frag} {F : Hp} {x : Str} : ∀ {kvs : List (Key × V)} {es : List (Str × D)}, RepK K F kvs es → (∀ d, lookD x es = some d → ∃ v, valV kvs (.inr x) = some v ∧ Rep K F v d) ∧ (lookD x es = none → valV kvs (.inr x) = none)
  | _, _, .nil => And.intro (fun d h => by cases h) (fun _ => rfl)
  | _, _, .cons (x := y) (v := v) (d := d) (kvs := kvs) (es := es) h r => by
    have ih := lookD_val (x := x) r
    by_cases e : y = x
    · subst e
      have e1 : lookD y ((y, d) :: es) = some d := if_pos rfl
      have e2 : valV ((Sum.inr y, v) :: kvs) (.inr y) = some v := by
        unfold valV
        rw [List.find?_cons_of_pos (by simp)]
        rfl
      exact ⟨fun d' q => by rw [e1] at q; cases q; exact ⟨v, e2, h⟩, fun q => by rw [e1] at q; cases q⟩
    · have e1 : lookD x ((y, d) :: es) = lookD x es := if_neg e
      have e2 : valV ((Sum.inr y, v) :: kvs) (.inr x) = valV kvs (.inr x) := by
        unfold valV
        rw [List.find?_cons_of_neg (by simpa using e)]
      rw [e1, e2]
      exact ih
section
variable {X : Cx}
theorem op_in_dct (hu : X.A.units + 1 < cLine) : OpR X (compareOp .In) (fun x y H Q => ∃ a o, y = .ref a ∧ DGet H a x o ∧ Q (.bl o.isSome) H) := by
  intro pins s σ H x y v u Q I rx ry h
  obtain ⟨a, o, rfl, g, q⟩ := h
  cases ry
  exact d_in hu I g rx fun s3 I3 => ⟨.bl o.isSome, H, I3, rfl, q⟩
theorem op_notin_dct (hu : X.A.units + 1 < cLine) : OpR X (compareOp .NotIn) (fun x y H Q => ∃ a o, y = .ref a ∧ DGet H a x o ∧ Q (.bl (!o.isSome)) H) := by
  intro pins s σ H x y v u Q I rx ry h
  obtain ⟨a, o, rfl, g, q⟩ := h
  cases ry
  exact d_notIn hu I g rx fun s3 I3 => ⟨.bl (!o.isSome), H, I3, rfl, q⟩
theorem hr65 {n : Nat} (hr : Room n X.A) : X.A.units + 65 < cLine := by
  have := hr.un
  omega
def opC : Cop → CmpOp
  | .eq => .Eq | .ne => .NotEq | .lt => .Lt | .le => .LtE | .gt => .Gt | .ge => .GtE | .isin => .In | .notin => .NotIn | .is => .Is | .isnot => .IsNot
def rC (K : PySem.W.Frag) : Cop → R2
  | .eq => rEqD K
  | .ne => rNeD K
  | .lt => fun x y H Q => rI0 (fun i j => .bl (decide (i < j))) x y H Q ∨ (∃ i j, x = .str i ∧ y = .str j ∧ Q (.bl (decide (i.cps.toList < j.cps.toList))) H)
  | .le => rI0 fun i j => .bl (decide (i ≤ j))
  | .gt => rI0 fun i j => .bl (decide (j < i))
  | .ge => rI0 fun i j => .bl (decide (j ≤ i))
  | .isin => fun x y H Q => rIn K false x y H Q ∨ (rInT K false x y H Q ∨ ((∃ i j, x = .str i ∧ y = .str j ∧ Q (.bl (!(Builtin.Str.occurrences j i 0 j.length 1).isEmpty)) H) ∨ ∃ a o, y = .ref a ∧ DGet H a x o ∧ Q (.bl o.isSome) H))
  | .notin => fun x y H Q => rIn K true x y H Q ∨ (rInT K true x y H Q ∨ ((∃ i j, x = .str i ∧ y = .str j ∧ Q (.bl (!(!(Builtin.Str.occurrences j i 0 j.length 1).isEmpty))) H) ∨ ∃ a o, y = .ref a ∧ DGet H a x o ∧ Q (.bl (!o.isSome)) H))
  | .is => fun x y H Q => (y = .non ∧ Q (.bl (decide (x = .non))) H) ∨ (∃ a b, x = .bl a ∧ y = .bl b ∧ Q (.bl (decide (a = b))) H)
  | .isnot => fun x y H Q => (y = .non ∧ Q (.bl (!decide (x = .non))) H) ∨ (∃ a b, x = .bl a ∧ y = .bl b ∧ Q (.bl (!decide (a = b))) H)
theorem op_C {n : Nat} (hr : Room n X.A) (o : Cop) : OpR X (compareOp (opC o)) (rC X.K o) := by
  cases o with
  | eq => exact op_eqD hr.units
  | ne => exact op_neD hr.units
  | lt => exact OpR.or op_lt op_lt_str
  | le => exact op_le
  | gt => exact op_gt
  | ge => exact op_ge
  | isin => exact OpR.or op_in_seq (OpR.or (op_inT (hr65 hr)) (OpR.or op_in_str (op_in_dct (hu_of hr))))
  | notin => exact OpR.or op_notIn_seq (OpR.or (op_notInT (hr65 hr)) (OpR.or op_notin_str (op_notin_dct (hu_of hr))))
  | is => exact OpR.or op_isN op_is_bl
  | isnot => exact OpR.or op_notN op_isnot_bl
end
theorem rep_flat {K : PySem.W.Frag} {F : Hp} {v : V} {d : D} (h : Rep K F v d) (f : flatD d = true) : flatV v = true := by
  cases h <;> first | rfl | cases f
theorem rep_eqV {K : PySem.W.Frag} {F : Hp} {v w : V} {d e : D} (h : Rep K F v d) (g : Rep K F w e) (f : flatD d = true) (f' : flatD e = true) : eqV v w = deq d e := by
  cases h <;> cases g <;> first | rfl | cases f | cases f'
theorem reps_flat {K : PySem.W.Frag} {F : Hp} : ∀ {vs : List V} {ds : List D}, Reps K F vs ds → ds.all flatD = true → vs.all flatV = true
  | _, _, .nil, _ => rfl
  | _, _, .cons h r, f => by
    have f := Bool.and_eq_true_iff.mp f
    exact Bool.and_eq_true_iff.mpr ⟨rep_flat h f.1, reps_flat r f.2⟩
theorem reps_in {K : PySem.W.Frag} {F : Hp} {x : V} {e : D} (g : Rep K F x e) (fe : flatD e = true) : ∀ {vs : List V} {ds : List D}, Reps K F vs ds → ds.all flatD = true → inV x vs = ds.any fun y => deq y e
  | _, _, .nil, _ => rfl
  | _, _, .cons h r, f => by
    have f := Bool.and_eq_true_iff.mp f
    unfold inV
    rw [List.any_cons, List.any_cons, rep_eqV h g f.1 fe, ← reps_in g fe r f.2]
    rfl
theorem Is.flat {Y : Sys} {c : Cf Y} {K : PySem.W.Frag} {H1 : Hp} {k : K3} {x : V} {a : D} (h : Is K H1 c k x a) (f : flatD a = true) : Rep K c.F x a := by
  cases k with
  | v => exact h
  | t => obtain ⟨p, _, o, _⟩ := h; cases a <;> first | exact o.1.elim | cases f
  | o => obtain ⟨p, _, o⟩ := h; cases a <;> first | exact o.1.elim | cases f
theorem shaped_lst {ds : List D} (h : shs 59 ds = true) : SeqAt.shaped (.list (pys ds)) = true := shaped_of (d := .lst ds) h
theorem any_pys {e : D} (he : e.sh 60 = true) : ∀ (ds : List D), shs 59 ds = true → ((pys ds).any fun z => PyData.eqv z e.py) = ds.any fun y => deq y e
  | [], _ => rfl
  | d :: ds, h => by
    have h := Bool.and_eq_true_iff.mp h
    show (PyData.eqv d.py e.py || (pys ds).any fun z => PyData.eqv z e.py) = (deq d e || ds.any fun y => deq y e)
    rw [py_eqv 59 60 d e h.1 he, any_pys he ds h.2]
theorem in_use {Y : Sys} {c : Cf Y} {K : PySem.W.Frag} {H1 H2 : Hp} {k1 k2 : K3} {x y : V} {a b : D} {r : Bool} (ok : Ok c) (hx : Is K H1 c k1 x a) (hy : Is K H2 c k2 y b) (e : inD a b = some r) :
    (∃ p xs, y = .ref p ∧ (SqL K c.H p xs ∨ SqT K c.H p xs) ∧ flatV x = true ∧ xs.all flatV = true ∧ inV x xs = r) ∨ (∃ d ds, Dp K c.H x d ∧ (Dp K c.H y (.list ds) ∨ Dp K c.H y (.tuple ds)) ∧ SeqAt.shaped d = true ∧ SeqAt.shaped (.list ds) = true ∧ (ds.any fun z => PyData.eqv z d) = r) ∨ (∃ i j, x = .str i ∧ y = .str j ∧ (!(Builtin.Str.occurrences j i 0 j.length 1).isEmpty) = r) ∨ ∃ p o, y = .ref p ∧ DGet c.H p x o ∧ o.isSome = r := by
  unfold inD at e
  split at e
  · split at e
    · rename_i ds hf
      cases e
      rcases Bool.or_eq_true_iff.mp hf with hf | hf
      rotate_left
      · have hf := Bool.and_eq_true_iff.mp hf
        exact .inr (.inl ⟨_, _, hx.dp ok hf.1, .inr (hy.dp ok hf.2), shaped_of hf.1, shaped_lst hf.2, any_pys hf.1 ds hf.2⟩)
      have hf := Bool.and_eq_true_iff.mp hf
      obtain ⟨p, vs, rfl, h1, h1', r1⟩ := hy.tup ok
      exact .inl ⟨p, vs, rfl, .inr h1, rep_flat (hx.flat hf.1) hf.1, reps_flat r1 hf.2, reps_in (hx.flat hf.1) hf.1 r1 hf.2⟩
    · cases e
  · split at e
    · rename_i ds hf
      cases e
      rcases Bool.or_eq_true_iff.mp hf with hf | hf
      rotate_left
      · have hf := Bool.and_eq_true_iff.mp hf
        exact .inr (.inl ⟨_, _, hx.dp ok hf.1, .inl (hy.dp ok hf.2), shaped_of hf.1, shaped_lst hf.2, any_pys hf.1 ds hf.2⟩)
      have hf := Bool.and_eq_true_iff.mp hf
      obtain ⟨p, vs, rfl, h1, r1⟩ := hy.lst ok
      exact .inl ⟨p, vs, rfl, .inl (.inl (.inl h1)), rep_flat (hx.flat hf.1) hf.1, reps_flat r1 hf.2, reps_in (hx.flat hf.1) hf.1 r1 hf.2⟩
    · cases e
  · cases e
    exact .inr (.inr (.inl ⟨_, _, hx.str, hy.str, rfl⟩))
  · rename_i x' es
    cases e
    obtain ⟨p, kvs, rfl, h1, r1⟩ := hy.dct ok
    refine .inr (.inr (.inr ⟨p, _, rfl, by rw [hx.str]; exact DGet.k (k := .inr x') h1, ?_⟩))
    have q := lookD_val (x := x') r1
    cases hl : lookD x' es with
    | none => rw [q.2 hl]; rfl
    | some d => obtain ⟨v, ev, _⟩ := q.1 d hl; rw [ev]; rfl
  · cases e
theorem is_use {Y : Sys} {c : Cf Y} {K : PySem.W.Frag} {H1 H2 : Hp} {k1 k2 : K3} {x y : V} {a b : D} {r : Bool} (hx : Is K H1 c k1 x a) (hy : Is K H2 c k2 y b) (e : isD a b = some r) :
    (y = .non ∧ decide (x = .non) = r) ∨ (∃ a b, x = .bl a ∧ y = .bl b ∧ decide (a = b) = r) := by
  unfold isD at e
  split at e
  · cases e
    exact .inl ⟨hy.non, decide_eq_true hx.non⟩
  · cases e
    exact .inr ⟨_, _, hx.bl, hy.bl, rfl⟩
  · rename_i hn
    cases e
    refine .inl ⟨hy.non, decide_eq_false fun z => ?_⟩
    subst z
    cases k1 with
    | v => cases hx with | non => exact hn rfl
    | t => obtain ⟨p, z, _⟩ := hx; cases z
    | o => obtain ⟨p, z, _⟩ := hx; cases z
  · cases e
theorem cmp_use {Y : Sys} {c : Cf Y} {K : PySem.W.Frag} {H1 H2 : Hp} {k1 k2 : K3} {x y : V} {a b : D} {o : Cop} {r : Bool} {Q : VK} (ok : Ok c) (hx : Is K H1 c k1 x a) (hy : Is K H2 c k2 y b) (e : cmpD o a b = some r) (q : Q (.bl r) c.H) : rC K o x y c.H Q := by
  have eqs : ∀ {r : Bool}, eqD a b = some r → ∃ d e, Dp K c.H x d ∧ Dp K c.H y e ∧ SeqAt.shaped d = true ∧ SeqAt.shaped e = true ∧ PyData.eqv d e = r := by
    intro r e
    unfold eqD at e
    split at e
    · rename_i h
      have h := Bool.and_eq_true_iff.mp h
      cases e
      exact ⟨_, _, hx.dp ok h.1, hy.dp ok h.2, shaped_of h.1, shaped_of h.2, py_eqv _ _ _ _ h.1 h.2⟩
    · cases e
  cases o with
  | eq =>
    obtain ⟨d, e', h1, h2, h3, h4, h5⟩ := eqs e
    exact ⟨d, e', h1, h2, h3, h4, by rw [h5]; exact q⟩
  | ne =>
    have e : (eqD a b).map (!·) = some r := e
    obtain ⟨r', e1, e2⟩ := Option.map_eq_some_iff.mp e
    obtain ⟨d, e', h1, h2, h3, h4, h5⟩ := eqs e1
    exact ⟨d, e', h1, h2, h3, h4, by rw [h5, e2]; exact q⟩
  | isin =>
    rcases in_use ok hx hy e with ⟨p, xs, h1, h2, h3, h4, h5⟩ | ⟨d, ds, h1, h2, h3, h4, h5⟩ | ⟨i, j, h1, h2, h3⟩ | ⟨p, o, h1, h2, h3⟩
    · exact .inl ⟨p, xs, h1, h2, h3, h4, by rw [if_neg Bool.false_ne_true, h5]; exact q⟩
    · exact .inr (.inl ⟨d, ds, h1, h2, h3, h4, by rw [h5, Bool.false_xor]; exact q⟩)
    · exact .inr (.inr (.inl ⟨i, j, h1, h2, by rw [h3]; exact q⟩))
    · exact .inr (.inr (.inr ⟨p, o, h1, h2, by rw [h3]; exact q⟩))
  | notin =>
    have e : (inD a b).map (!·) = some r := e
    obtain ⟨r', e1, e2⟩ := Option.map_eq_some_iff.mp e
    rcases in_use ok hx hy e1 with ⟨p, xs, h1, h2, h3, h4, h5⟩ | ⟨d, ds, h1, h2, h3, h4, h5⟩ | ⟨i, j, h1, h2, h3⟩ | ⟨p, o, h1, h2, h3⟩
    · exact .inl ⟨p, xs, h1, h2, h3, h4, by rw [if_pos rfl, h5, e2]; exact q⟩
    · exact .inr (.inl ⟨d, ds, h1, h2, h3, h4, by rw [h5, Bool.true_xor, e2]; exact q⟩)
    · exact .inr (.inr (.inl ⟨i, j, h1, h2, by rw [h3, e2]; exact q⟩))
    · exact .inr (.inr (.inr ⟨p, o, h1, h2, by rw [h3, e2]; exact q⟩))
  | is =>
    rcases is_use hx hy e with ⟨h1, h2⟩ | ⟨a', b', h1, h2, h3⟩
    · exact .inl ⟨h1, by rw [h2]; exact q⟩
    · exact .inr ⟨a', b', h1, h2, by rw [h3]; exact q⟩
  | isnot =>
    have e : (isD a b).map (!·) = some r := e
    obtain ⟨r', e1, e2⟩ := Option.map_eq_some_iff.mp e
    rcases is_use hx hy e1 with ⟨h1, h2⟩ | ⟨a', b', h1, h2, h3⟩
    · exact .inl ⟨h1, by rw [h2, e2]; exact q⟩
    · exact .inr ⟨a', b', h1, h2, by rw [h3, e2]; exact q⟩
  | lt =>
    unfold cmpD at e
    split at e <;> first | cases e | skip
    all_goals first | (exact .inl ⟨_, _, hx.int, hy.int, q⟩) | (exact .inr ⟨_, _, hx.str, hy.str, q⟩) | skip
    all_goals simp_all
  | le =>
    unfold cmpD at e
    split at e <;> first | cases e | skip
    all_goals first | (exact ⟨_, _, hx.int, hy.int, q⟩) | simp_all
  | gt =>
    unfold cmpD at e
    split at e <;> first | cases e | skip
    all_goals first | (exact ⟨_, _, hx.int, hy.int, q⟩) | simp_all
  | ge =>
    unfold cmpD at e
    split at e <;> first | cases e | skip
    all_goals first | (exact ⟨_, _, hx.int, hy.int, q⟩) | simp_all
end Mf
set_option Elab.async false
set_option linter.all false
set_option maxRecDepth 100000
set_option maxHeartbeats 1000000
namespace Mf
open PySem L2

theorem CallR.or {X : Cx} {f : Value} {r r' : List V → Hp → VK → Prop} (h : CallR X f r) (h' : CallR X f r') : CallR X f (fun vs H Q => r vs H Q ∨ r' vs H Q) := by
  intro pins s σ H vs us Q I rs q
  rcases q with q | q
  · exact h pins s σ H vs us Q I rs q
  · exact h' pins s σ H vs us Q I rs q
/-! ### subscripts -/
section
variable {X : Cx}
theorem ix_dct (hu : X.A.units + 1 < cLine) : IxR X (fun x y H Q => ∃ a v, x = .ref a ∧ DGet H a y (some v) ∧ Q v H) := by
  intro value slice pins s σ H x y v u Q I rx ry h hs
  obtain ⟨a, w', rfl, g, q⟩ := h
  cases rx
  exact PyProof.Rows.tail_any (dict_typeIs I g) PySem.F.slot_dict_getitem.lookup (d_getItem hu I g ry fun w'' s' I' r' => ⟨w', H, I', r', q⟩) hs
def rX (K : PySem.W.Frag) : R2 := fun x y H Q => rIx K x y H Q ∨ ∃ a v, x = .ref a ∧ DGet H a y (some v) ∧ Q v H
theorem ix_X {n : Nat} (hr : Room n X.A) : IxR X (rX X.K) := IxR.or ix_seq (ix_dct (hu_of hr))
end
theorem Reps.atI {K : PySem.W.Frag} {F : Hp} {vs : List V} {ds : List D} {i : Int} {d : D} (r : Reps K F vs ds) (e : L2.atI ds i = some d) : ∃ v, L2.atI vs i = some v ∧ Rep K F v d := by
  unfold L2.atI at e ⊢
  rw [r.length]
  cases h : ixN ds.length i with
  | none => rw [h] at e; cases e
  | some j =>
    rw [h] at e
    exact r.get (show ds[j]? = some d from e)
theorem ix_use {Y : Sys} {c : Cf Y} {K : PySem.W.Frag} {H1 H2 : Hp} {k1 k2 : K3} {x y : V} {a b d : D} {Q : VK} (ok : Ok c) (hx : Is K H1 c k1 x a) (hy : Is K H2 c k2 y b) (e : ixD a b = some d) (q : Fin K c .v d Q) : rX K x y c.H Q := by
  unfold ixD at e
  split at e
  · obtain ⟨p, vs, rfl, h1, h1', r1⟩ := hx.tup ok
    obtain ⟨v, e1, r2⟩ := r1.atI e
    exact .inl (.inr (.inl ⟨p, vs, _, v, rfl, hy.int, h1, e1, q.here ok r2⟩))
  · obtain ⟨p, vs, rfl, h1, r1⟩ := hx.lst ok
    obtain ⟨v, e1, r2⟩ := r1.atI e
    exact .inl (.inl ⟨p, vs, _, v, rfl, hy.int, .inl (.inl h1), e1, q.here ok r2⟩)
  · split at e
    · rename_i z i hl
      obtain ⟨cc, e1, e2⟩ := Option.map_eq_some_iff.mp e
      subst e2
      exact .inl (.inr (.inr ⟨z, i, cc, hx.str, hy.int, szM hl, e1, q.here ok (.str _)⟩))
    · cases e
  · rename_i es z
    obtain ⟨p, kvs, rfl, h1, r1⟩ := hx.dct ok
    obtain ⟨v, ev, rv⟩ := (lookD_val (x := z) r1).1 d e
    exact .inr ⟨p, v, rfl, by rw [hy.str, ← ev]; exact DGet.k (k := .inr z) h1, q.here ok rv⟩
  · cases e
/-! ### slices -/
def rS (K : PySem.W.Frag) : V → Option Int → Option Int → Hp → VK → Prop := fun x lo hi H Q => rSlZ K x lo hi H Q ∨ (rSlL K x lo hi H Q ∨ rSlS x lo hi H Q)
theorem sl_S {X : Cx} : SlR X (rS X.K) := SlR.or sl_tupZ (SlR.or sl_list sl_str)
theorem sl_use {Y : Sys} {c : Cf Y} {K : PySem.W.Frag} {H1 : Hp} {k1 k : K3} {x : V} {a d : D} {lo hi : Option Int} {Q : VK} (ok : Ok c) (hx : Is K H1 c k1 x a) (e : slD a lo hi = some (k, d)) (q : Fin K c k d Q) : rS K x lo hi c.H Q := by
  unfold slD at e
  split at e
  · rename_i ds
    cases e
    obtain ⟨p, vs, rfl, h1, h1', r1⟩ := hx.tup ok
    have rc : Reps K c.F (cutV vs lo hi) ((ds.drop (HT.sIx ds.length 0 lo)).take (HT.sIx ds.length ds.length hi - HT.sIx ds.length 0 lo)) := by
      unfold cutV
      rw [r1.length]
      exact (r1.drop _).take _
    refine .inl ⟨p, vs, rfl, h1, fun z => ?_, q.tup ok rc⟩
    rw [z] at rc
    exact q.here ok (.tup h1'.1 h1'.2 rc)
  · rename_i ds
    cases e
    obtain ⟨p, vs, rfl, h1, r1⟩ := hx.lst ok
    refine .inr (.inl ⟨p, vs, rfl, .inl (.inl h1), q.lst ok ?_⟩)
    unfold cutV
    rw [r1.length]
    exact (r1.drop _).take _
  · split at e
    · rename_i z hl
      cases e
      exact .inr (.inr ⟨z, hx.str, szM hl, q.here ok (.str _)⟩)
    · cases e
  · cases e
/-! ### built-ins of one argument -/
def nmB : B1 → Str
  | .len => "len" | .abs => "abs" | .int => "int" | .tuple => "tuple" | .list => "list" | .all => "all" | .any => "any" | .max => "max" | .dict => "dict" | .sorted => "sorted"
def vlB : B1 → Value
  | .len => .builtin "len" | .abs => .builtin "abs" | .int => .type "int" | .tuple => .type "tuple" | .list => .type "list" | .all => .builtin "all" | .any => .builtin "any" | .max => .builtin "max" | .dict => .type "dict" | .sorted => .builtin "sorted"
def r1 (K : PySem.W.Frag) : B1 → List V → Hp → VK → Prop
  | .len => fun xs H Q => ∃ x n, xs = [x] ∧ LenV K x H n ∧ Q (.int n) H
  | .abs => fun xs H Q => ∃ i, xs = [.int i] ∧ Q (.int (if i < 0 then -i else i)) H
  | .int => fun xs H Q => (∃ i, xs = [.int i] ∧ Q (.int i) H) ∨ ∃ k, xs = [.bl k] ∧ Q (.int (if k then 1 else 0)) H
  | .tuple => fun xs H Q => ∃ p ys, xs = [.ref p] ∧ ((SqL K H p ys ∧ NewT H Q ys) ∨ (SqT K H p ys ∧ Q (.ref p) H))
  | .list => fun xs H Q => ∃ p ys, xs = [.ref p] ∧ (SqL K H p ys ∨ SqT K H p ys) ∧ ∀ l, H l = none → Q (.ref l) (upd H l (.lst ys))
  | .all => rAll K
  | .any => rAny K
  | .max => rMax K
  | .dict => rDict K
  | .sorted => rSortD K
theorem call_1 {X : Cx} {n : Nat} (hr : Room n X.A) (hc : X.calm = true) (f : B1) : CallR X (vlB f) (r1 X.K f) := by
  cases f with
  | len => exact call_len
  | abs => exact call_abs
  | int => exact call_int1
  | tuple => exact call_tupleZ
  | list => exact call_list_of
  | all => exact cr_all hc
  | any => exact cr_any hc
  | max => exact cr_max hc
  | dict => exact call_dictZ hc
  | sorted => exact cr_sortedD (hr65 hr)
theorem bools_rep {K : PySem.W.Frag} {F : Hp} : ∀ {vs : List V} {ds : List D} {bs : List Bool}, Reps K F vs ds → boolsD ds = some bs → vs = bs.map V.bl
  | _, _, _, .nil, e => by cases e; rfl
  | _, _, bs, .cons (d := d) h r, e => by
    cases h <;> first | cases e | skip
    obtain ⟨b', e1, e2⟩ := Option.map_eq_some_iff.mp e
    subst e2
    rw [bools_rep r e1]
    rfl
theorem ints_rep {K : PySem.W.Frag} {F : Hp} : ∀ {vs : List V} {ds : List D} {bs : List Int}, Reps K F vs ds → intsD ds = some bs → vs = bs.map V.int
  | _, _, _, .nil, e => by cases e; rfl
  | _, _, bs, .cons (d := d) h r, e => by
    cases h <;> first | cases e | skip
    obtain ⟨b', e1, e2⟩ := Option.map_eq_some_iff.mp e
    subst e2
    rw [ints_rep r e1]
    rfl
theorem maxL_spec : ∀ (r : List Int) (m : Int), (maxL r m = m ∨ maxL r m ∈ r) ∧ m ≤ maxL r m ∧ ∀ y ∈ r, y ≤ maxL r m
  | [], m => ⟨.inl rfl, Int.le_refl _, fun _ h => nomatch h⟩
  | x :: r, m => by
    have ih := maxL_spec r (if m < x then x else m)
    have e : maxL (x :: r) m = maxL r (if m < x then x else m) := rfl
    rw [e]
    obtain ⟨i1, i2, i3⟩ := ih
    by_cases h : m < x
    · rw [if_pos h] at i1 i2 i3 ⊢
      refine ⟨.inr ?_, by omega, fun y hy => ?_⟩
      · rcases i1 with i1 | i1
        · rw [i1]; exact List.mem_cons_self
        · exact List.mem_cons_of_mem _ i1
      · rcases List.mem_cons.mp hy with z | z
        · rw [z]; exact i2
        · exact i3 y z
    · rw [if_neg h] at i1 i2 i3 ⊢
      refine ⟨?_, i2, fun y hy => ?_⟩
      · rcases i1 with i1 | i1
        · exact .inl i1
        · exact .inr (List.mem_cons_of_mem _ i1)
      · rcases List.mem_cons.mp hy with z | z
        · rw [z]; omega
        · exact i3 y z
theorem putD_any {K : PySem.W.Frag} {F : Hp} {k : Str} : ∀ {kvs : List (Key × V)} {es : List (Str × D)}, RepK K F kvs es → (kvs.any fun kv => decide (kv.1 = Sum.inr k)) = es.any fun kv => decide (kv.1 = k)
  | _, _, .nil => rfl
  | _, _, .cons (x := x) h r => by
    rw [List.any_cons, List.any_cons, putD_any r]
    congr 1
    by_cases e : x = k
    · subst e; simp
    · have : ¬ (Sum.inr x : Key) = Sum.inr k := fun z => e (Sum.inr.inj z)
      simp [e]
theorem RepK.append {K : PySem.W.Frag} {F : Hp} : ∀ {a b : List (Key × V)} {x y : List (Str × D)}, RepK K F a x → RepK K F b y → RepK K F (a ++ b) (x ++ y)
  | _, _, _, _, .nil, s => s
  | _, _, _, _, .cons h r, s => .cons h (RepK.append r s)
theorem putD_map {K : PySem.W.Frag} {F : Hp} {k : Str} {v : V} {d : D} (hv : Rep K F v d) : ∀ {kvs : List (Key × V)} {es : List (Str × D)}, RepK K F kvs es → RepK K F (kvs.map fun kv => if kv.1 = Sum.inr k then (kv.1, v) else kv) (es.map fun kv => if kv.1 = k then (kv.1, d) else kv)
  | _, _, .nil => .nil
  | _, _, .cons (x := x) h r => by
    rw [List.map_cons, List.map_cons]
    by_cases e : x = k
    · subst e
      rw [if_pos rfl, if_pos rfl]
      exact .cons hv (putD_map hv r)
    · have e' : ¬ (Sum.inr x : Key) = Sum.inr k := fun z => e (Sum.inr.inj z)
      rw [if_neg e', if_neg e]
      exact .cons h (putD_map hv r)
theorem RepK.put {K : PySem.W.Frag} {F : Hp} {kvs : List (Key × V)} {es : List (Str × D)} {k : Str} {v : V} {d : D} (r : RepK K F kvs es) (hv : Rep K F v d) : RepK K F (putK kvs (.inr k) v) (putD es k d) := by
  unfold putK putD
  rw [putD_any r]
  split
  · exact putD_map hv r
  · exact r.append (.cons hv .nil)
theorem RepK.merge {K : PySem.W.Frag} {F : Hp} : ∀ {more : List (Key × V)} {ms : List (Str × D)} {kvs : List (Key × V)} {es : List (Str × D)}, RepK K F more ms → RepK K F kvs es → RepK K F (more.foldl (fun acc kv => putK acc kv.1 kv.2) kvs) (ms.foldl (fun acc kv => putD acc kv.1 kv.2) es)
  | _, _, _, _, .nil, s => s
  | _, _, _, _, .cons h r, s => by
    rw [List.foldl_cons, List.foldl_cons]
    exact RepK.merge r (s.put h)
theorem pairs_rep {K : PySem.W.Frag} {F H : Hp} (e : Sub F H) : ∀ {vs : List V} {ds : List D} {es : List (Str × D)}, Reps K F vs ds → pairsD ds = some es → ∃ (ps : List Addr) (kvs : List (Key × V)), vs = ps.map V.ref ∧ Paired (fun p kv => SqT K H p [kV kv.1, kv.2]) ps kvs ∧ RepK K F kvs es
  | _, _, _, .nil, h => by cases h; exact ⟨[], [], rfl, .nil, .nil⟩
  | _, _, es, .cons (d := d) h r, q => by
    unfold pairsD at q
    split at q
    · rename_i heq; cases heq
    · rename_i heq
      cases heq
      obtain ⟨es', e1, e2⟩ := Option.map_eq_some_iff.mp q
      subst e2
      obtain ⟨ps, kvs, h1, h2, h3⟩ := pairs_rep e r e1
      cases h with
      | tup hs hp hr =>
        cases hr with
        | cons ha ht =>
          cases ht with
          | cons hb hn =>
            cases hn
            cases ha
            exact ⟨_ :: ps, (.inr _, _) :: kvs, by rw [h1]; rfl, .cons (sqT_sub e hs) h2, .cons hb h3⟩
    · cases q
theorem Fin.dct {Y : Sys} {c : Cf Y} {K : PySem.W.Frag} {es : List (Str × D)} {kvs : List (Key × V)} {Q : VK} (q : Fin K c .t (.dct es) Q) (ok : Ok c) (r : RepK K c.F kvs es) : ∀ p, c.H p = none → Q (.ref p) (upd c.H p (.dK kvs)) := fun p hp =>
  q (.ref p) ⟨c.F, upd c.H p (.dK kvs), c.s⟩ rfl (Step.own ok hp _) (ok.own hp _) ⟨p, rfl, ⟨⟨kvs, upd_same, r⟩, ok.fr hp, fun z => ok.has p z hp⟩, hp⟩
/-! sorting -/
theorem ins_perm (x : D) : ∀ l, (insD x l).Perm (x :: l)
  | [] => .refl _
  | y :: r => by
    unfold insD
    split
    · exact .refl _
    · exact ((ins_perm x r).cons y).trans (.swap x y r)
theorem sort_perm : ∀ l, (sortD l).Perm l
  | [] => .refl _
  | x :: r => (ins_perm x _).trans ((sort_perm r).cons x)
theorem leD_eq : leD = PySem.W.dataLe false D.py := rfl
theorem leD_total : PySem.W.TotalLe leD := PySem.W.sortLe_total (PyProof.Rows.listOrd PyProof.Rows.itemOrd) false fun b : D => PySem.W.keyToks b.py
theorem ins_sorted (x : D) : ∀ l, l.Pairwise (fun a b => leD a b = true) → (insD x l).Pairwise (fun a b => leD a b = true)
  | [], _ => List.pairwise_singleton _ _
  | y :: r, h => by
    have hc := List.pairwise_cons.mp h
    unfold insD
    split
    · rename_i hl
      refine List.pairwise_cons.mpr ⟨fun z hz => ?_, h⟩
      rcases List.mem_cons.mp hz with e | e
      · rw [e]; exact hl
      · exact leD_total.1 _ _ _ hl (hc.1 z e)
    · rename_i hl
      refine List.pairwise_cons.mpr ⟨fun z hz => ?_, ins_sorted x r hc.2⟩
      rcases List.mem_cons.mp ((ins_perm x r).mem_iff.mp hz) with e | e
      · rw [e]
        have := leD_total.2 x y
        rcases this with t | t
        · exact absurd t hl
        · exact t
      · exact hc.1 z e
theorem sort_sorted : ∀ l, (sortD l).Pairwise (fun a b => leD a b = true)
  | [] => .nil
  | x :: r => ins_sorted x _ (sort_sorted r)
theorem ins_stable (c x : D) : ∀ l, (insD x l).filter (PySem.W.sameRank leD c) = (x :: l).filter (PySem.W.sameRank leD c)
  | [] => rfl
  | y :: r => by
    unfold insD
    split
    · rfl
    · rename_i hl
      have ih := ins_stable c x r
      rw [List.filter_cons, ih]
      cases hx : PySem.W.sameRank leD c x <;> cases hy : PySem.W.sameRank leD c y <;> simp [List.filter_cons, hx, hy]
      exfalso
      unfold PySem.W.sameRank at hx hy
      rw [Bool.and_eq_true] at hx hy
      exact hl (leD_total.1 _ _ _ hx.2 hy.1)
theorem sort_stab (c : D) : ∀ l, (sortD l).filter (PySem.W.sameRank leD c) = l.filter (PySem.W.sameRank leD c)
  | [] => rfl
  | x :: r => by
    show (insD x (sortD r)).filter _ = _
    rw [ins_stable c x (sortD r), List.filter_cons, List.filter_cons, sort_stab c r]
theorem sortD_eq (l : List D) : sortD l = l.mergeSort leD := PySem.W.sort_unique leD_total (sort_sorted l) fun c => sort_stab c l
theorem Reps.zip {K : PySem.W.Frag} {F : Hp} : ∀ {vs : List V} {ds : List D}, Reps K F vs ds → (vs.zip ds).map (·.1) = vs ∧ (vs.zip ds).map (·.2) = ds
  | _, _, .nil => ⟨rfl, rfl⟩
  | _, _, .cons h r => by
    obtain ⟨a, b⟩ := Reps.zip r
    exact ⟨by rw [List.zip_cons_cons, List.map_cons, a], by rw [List.zip_cons_cons, List.map_cons, b]⟩
theorem Reps.mem {K : PySem.W.Frag} {F : Hp} : ∀ {vs : List V} {ds : List D}, Reps K F vs ds → ∀ b ∈ vs.zip ds, Rep K F b.1 b.2
  | _, _, .nil, b, h => by cases h
  | _, _, .cons h r, b, hb => by
    rw [List.zip_cons_cons] at hb
    rcases List.mem_cons.mp hb with e | e
    · rw [e]; exact h
    · exact Reps.mem r b e
theorem Reps.of {K : PySem.W.Frag} {F : Hp} : ∀ {bs : List (V × D)}, (∀ b ∈ bs, Rep K F b.1 b.2) → Reps K F (bs.map (·.1)) (bs.map (·.2))
  | [], _ => .nil
  | b :: bs, h => .cons (h b List.mem_cons_self) (Reps.of fun z hz => h z (List.mem_cons_of_mem _ hz))
theorem sort_rep {K : PySem.W.Frag} {F : Hp} {vs : List V} {ds : List D} (r : Reps K F vs ds) : Reps K F (((vs.zip ds).mergeSort (PySem.W.dataLe false fun b : V × D => b.2.py)).map (·.1)) (sortD ds) := by
  have e : sortD ds = ((vs.zip ds).mergeSort (PySem.W.dataLe false fun b : V × D => b.2.py)).map (·.2) := by
    have q := PySem.W.sort_maps (r := PySem.W.dataLe false fun b : V × D => b.2.py) (s := leD) (l := vs.zip ds) (fun b : V × D => b.2) (fun a _ b _ => rfl)
    rw [(Reps.zip r).2] at q
    rw [sortD_eq, ← q]
  rw [e]
  exact Reps.of fun b hb => Reps.mem r b (List.mem_mergeSort.mp hb)
theorem pys_map : ∀ ds : List D, pys ds = ds.map D.py
  | [] => rfl
  | d :: ds => by rw [List.map_cons, ← pys_map ds]; rfl
theorem shs_mem {n : Nat} : ∀ {ds : List D}, shs n ds = true → ∀ d ∈ ds, d.sh n = true
  | _ :: _, h, d, hd => by
    have h := Bool.and_eq_true_iff.mp h
    rcases List.mem_cons.mp hd with e | e
    · rw [e]; exact h.1
    · exact shs_mem h.2 d e
theorem sortOk_all {ds : List D} (h : sortOk ds = true) : shs 59 ds = true ∧ PySem.W.AllAlike (ds.map D.py) ∧ PySem.W.Sortable (ds.map D.py) := by
  unfold sortOk at h
  rw [Bool.and_eq_true, Bool.and_eq_true, Bool.or_eq_true] at h
  obtain ⟨⟨h1, h2⟩, h3⟩ := h
  refine ⟨h1, fun d hd d' hd' => ?_, ?_⟩
  · obtain ⟨x, hx, rfl⟩ := List.mem_map.mp hd
    obtain ⟨y, hy, rfl⟩ := List.mem_map.mp hd'
    exact List.all_eq_true.mp (List.all_eq_true.mp h2 x hx) y hy
  · rcases h3 with h3 | h3
    · refine .inl fun d hd => ?_
      obtain ⟨x, hx, rfl⟩ := List.mem_map.mp hd
      have := List.all_eq_true.mp h3 x hx
      unfold tup1 at this
      split at this
      · exact ⟨_, _, rfl⟩
      · cases this
    · refine .inr fun d hd => ?_
      obtain ⟨x, hx, rfl⟩ := List.mem_map.mp hd
      have := List.all_eq_true.mp h3 x hx
      have hsx := shs_mem h1 x hx
      cases x with
      | non => cases this
      | tup _ => cases this
      | dct _ => rw [sh_dct] at hsx; cases hsx
      | adr _ => rw [sh_adr] at hsx; cases hsx
      | scr _ => rw [sh_scr] at hsx; cases hsx
      | bl _ => exact ⟨fun z => (nomatch z), fun _ z => (nomatch z)⟩
      | int _ => exact ⟨fun z => (nomatch z), fun _ z => (nomatch z)⟩
      | str _ => exact ⟨fun z => (nomatch z), fun _ z => (nomatch z)⟩
      | lst _ => exact ⟨fun z => (nomatch z), fun _ z => (nomatch z)⟩
theorem b1_use {Y : Sys} {c : Cf Y} {K : PySem.W.Frag} {H1 : Hp} {k1 k : K3} {x : V} {a d : D} {f : B1} {Q : VK} (ok : Ok c) (hx : Is K H1 c k1 x a) (e : b1D f a = some (k, d)) (q : Fin K c k d Q) : r1 K f [x] c.H Q := by
  unfold b1D at e
  split at e
  · cases e
    obtain ⟨p, vs, rfl, h1, r⟩ := hx.lst ok
    refine ⟨_, _, rfl, .inl ⟨vs, .inl (.inl h1), rfl⟩, ?_⟩
    rw [r.length]
    exact q.here ok (.int _)
  · cases e
    obtain ⟨p, vs, rfl, h1, _, r⟩ := hx.tup ok
    refine ⟨_, _, rfl, .inr ⟨vs, h1, rfl⟩, ?_⟩
    rw [r.length]
    exact q.here ok (.int _)
  · split at e
    · rename_i hl
      cases e
      rw [hx.str]
      exact ⟨_, _, rfl, ⟨szM hl, rfl⟩, q.here ok (.int _)⟩
    · cases e
  · cases e
    exact ⟨_, by rw [hx.int], q.here ok (.int _)⟩
  · cases e
    exact .inl ⟨_, by rw [hx.int], q.here ok (.int _)⟩
  · cases e
    exact .inr ⟨_, by rw [hx.bl], q.here ok (.int _)⟩
  · cases e
    obtain ⟨p, vs, rfl, h1, r⟩ := hx.lst ok
    exact ⟨p, vs, rfl, .inl ⟨.inl (.inl h1), q.tup ok r⟩⟩
  · cases e
    obtain ⟨p, vs, rfl, h1, h1', r⟩ := hx.tup ok
    exact ⟨p, vs, rfl, .inr ⟨h1, q.here ok (.tup h1'.1 h1'.2 r)⟩⟩
  · cases e
    obtain ⟨p, vs, rfl, h1, r⟩ := hx.lst ok
    exact ⟨p, vs, rfl, .inl (.inl (.inl h1)), q.lst ok r⟩
  · cases e
    obtain ⟨p, vs, rfl, h1, h1', r⟩ := hx.tup ok
    exact ⟨p, vs, rfl, .inr h1, q.lst ok r⟩
  · obtain ⟨bs, e1, e2⟩ := Option.map_eq_some_iff.mp e
    cases e2
    obtain ⟨p, vs, rfl, h1, r⟩ := hx.lst ok
    have e3 := bools_rep r e1
    subst e3
    exact ⟨p, bs, rfl, .inl (.inl h1), q.here ok (.bl _)⟩
  · obtain ⟨bs, e1, e2⟩ := Option.map_eq_some_iff.mp e
    cases e2
    obtain ⟨p, vs, rfl, h1, r⟩ := hx.lst ok
    have e3 := bools_rep r e1
    subst e3
    exact ⟨p, bs, rfl, .inl (.inl h1), q.here ok (.bl _)⟩
  · obtain ⟨es, e1, e2⟩ := Option.map_eq_some_iff.mp e
    cases e2
    obtain ⟨p, vs, rfl, h1, r⟩ := hx.lst ok
    obtain ⟨ps, kvs, rfl, h2, h3⟩ := pairs_rep ok.sub r e1
    exact ⟨p, ps, kvs, rfl, .inl (.inl (.inl h1)), h2, q.dct ok (h3.merge .nil)⟩
  · obtain ⟨es, e1, e2⟩ := Option.map_eq_some_iff.mp e
    cases e2
    obtain ⟨p, vs, rfl, h1, h1', r⟩ := hx.tup ok
    obtain ⟨ps, kvs, rfl, h2, h3⟩ := pairs_rep ok.sub r e1
    exact ⟨p, ps, kvs, rfl, .inr ⟨h1, h1'.2.sub ok.sub⟩, h2, q.dct ok (h3.merge .nil)⟩
  · split at e
    · rename_i ds hs
      cases e
      obtain ⟨p, vs, rfl, h1, r⟩ := hx.lst ok
      obtain ⟨s1, s2, s3⟩ := sortOk_all hs
      obtain ⟨z1, z2⟩ := Reps.zip r
      have z3 : (vs.zip ds).map (fun b => b.2.py) = ds.map D.py := by
        rw [← z2, List.map_map, z2]
        rfl
      refine ⟨p, vs.zip ds, rfl, by rw [z1]; exact .inl (.inl h1), ?_, by rw [z3]; exact s2, by rw [z3]; exact s3, fun b hb => ?_, q.lst ok (sort_rep r)⟩
      · rw [z1, z3, ← pys_map]
        exact pys_dp ok.sub r s1
      · have hm : b.2 ∈ ds := by rw [← z2]; exact List.mem_map.mpr ⟨b, hb, rfl⟩
        exact Nat.le_trans (py_sh 59 b.2 (shs_mem s1 _ hm)).2 (by decide)
    · cases e
  · split at e
    · rename_i ms m r' hi
      cases e
      obtain ⟨p, vs, rfl, h1, r⟩ := hx.lst ok
      have e3 := ints_rep r hi
      subst e3
      obtain ⟨s1, s2, s3⟩ := maxL_spec r' m
      refine ⟨p, _, rfl, .inl (.inl h1), Nat.succ_pos _, fun M hM hmax => ?_⟩
      have : M = maxL r' m := by
        have l1 : maxL r' m ≤ M := by
          rcases s1 with s1 | s1
          · rw [s1]; exact hmax m List.mem_cons_self
          · exact hmax _ (List.mem_cons_of_mem _ s1)
        have l2 : M ≤ maxL r' m := by
          rcases List.mem_cons.mp hM with z | z
          · rw [z]; exact s2
          · exact s3 M z
        omega
      rw [this]
      exact q.here ok (.int _)
    · cases e
  · cases e
/-! ### methods of one argument -/
def nmM : M1 → Str
  | .sindex => "index" | .lindex => "index" | .lcount => "count"
def tyM : M1 → String
  | .sindex => "str" | .lindex => "list" | .lcount => "list"
def idM : M1 → String
  | .sindex => "str.index" | .lindex => "list.index" | .lcount => "list.count"
def rM (K : PySem.W.Frag) : M1 → V → List V → Hp → VK → Prop
  | .sindex => fun x xs H Q => ∃ a b i rest, x = .str a ∧ xs = [.str b] ∧ Builtin.Str.occurrences a b 0 a.length 1 = i :: rest ∧ Q (.int (i : Nat)) H
  | .lindex => rIndexD K
  | .lcount => rCntD K
theorem mt_M {X : Cx} {n : Nat} (hr : Room n X.A) (f : M1) : MtR X (idM f) (rM X.K f) := by
  cases f with
  | sindex => exact mt_sindex
  | lindex => exact mt_indexD (hr65 hr)
  | lcount => exact mt_countD (hr65 hr)
theorem rcv_ty {Y : Sys} {c : Cf Y} {K : PySem.W.Frag} {H1 : Hp} {k1 : K3} {x : V} {a : D} {f : M1} (ok : Ok c) (hx : Is K H1 c k1 x a) (h : rcvD f a = true) : tyV K (tyM f) x c.H := by
  unfold rcvD at h
  split at h
  · rw [hx.str]; exact rfl
  · obtain ⟨p, vs, rfl, h1, r⟩ := hx.lst ok
    exact .inl ⟨rfl, vs, .inl (.inl h1)⟩
  · obtain ⟨p, vs, rfl, h1, r⟩ := hx.lst ok
    exact .inl ⟨rfl, vs, .inl (.inl h1)⟩
  · cases h
theorem countP_pys {e : D} (he : e.sh 60 = true) : ∀ (ds : List D), shs 59 ds = true → ((pys ds).countP fun z => PyData.eqv z e.py) = ds.countP fun y => deq y e
  | [], _ => rfl
  | d :: ds, h => by
    have h := Bool.and_eq_true_iff.mp h
    show (d.py :: pys ds).countP _ = _
    rw [List.countP_cons, List.countP_cons, countP_pys he ds h.2, py_eqv 59 60 d e h.1 he]
theorem pys_get {i : Nat} {ds : List D} : (pys ds)[i]? = ds[i]?.map D.py := by rw [pys_map, List.getElem?_map]
theorem m1_use {Y : Sys} {c : Cf Y} {K : PySem.W.Frag} {H1 H2 : Hp} {k1 k2 k : K3} {x y : V} {a b d : D} {f : M1} {Q : VK} (ok : Ok c) (hx : Is K H1 c k1 x a) (hy : Is K H2 c k2 y b) (e : m1D f a b = some (k, d)) (q : Fin K c k d Q) : rM K f x [y] c.H Q := by
  unfold m1D at e
  split at e
  · split at e
    · rename_i i rest ho
      cases e
      exact ⟨_, _, _, _, hx.str, by rw [hy.str], ho, q.here ok (.int _)⟩
    · cases e
  · split at e
    · rename_i ds hs
      have hs := Bool.and_eq_true_iff.mp hs
      obtain ⟨j, e1, e2⟩ := Option.map_eq_some_iff.mp e
      cases e2
      obtain ⟨g1, g2, g3⟩ := List.findIdx?_eq_some_iff_getElem.mp e1
      have hd := hx.dp ok (show (D.lst ds).sh 60 = true from hs.2)
      obtain ⟨p, vs, rfl, h1, r⟩ := hx.lst ok
      refine ⟨p, y, _, pys ds, j, (ds[j]).py, rfl, rfl, hd, hy.dp ok hs.1, shaped_lst hs.2, shaped_of hs.1, ?_, ?_, ?_, q.here ok (.int _)⟩
      · rw [pys_get, List.getElem?_eq_getElem g1]; rfl
      · rw [py_eqv 59 60 _ _ (shs_mem hs.2 _ (List.getElem_mem g1)) hs.1]; exact g2
      · intro m z hm hz
        have hml : m < ds.length := by omega
        rw [pys_get, List.getElem?_eq_getElem hml] at hz
        cases hz
        rw [py_eqv 59 60 _ _ (shs_mem hs.2 _ (List.getElem_mem hml)) hs.1]
        have := g3 m hm
        simpa using this
    · cases e
  · split at e
    · rename_i ds hs
      have hs := Bool.and_eq_true_iff.mp hs
      cases e
      have hd := hx.dp ok (show (D.lst ds).sh 60 = true from hs.2)
      obtain ⟨p, vs, rfl, h1, r⟩ := hx.lst ok
      refine ⟨p, vs, y, _, pys ds, rfl, rfl, .inl (.inl h1), pys_dp ok.sub r hs.2, hy.dp ok hs.1, shaped_lst hs.2, shaped_of hs.1, ?_⟩
      rw [countP_pys hs.1 ds hs.2]
      exact q.here ok (.int _)
    · cases e
  · cases e
/-! ### isinstance -/
def nmT : Ty → String
  | .int => "int" | .bool => "bool" | .tuple => "tuple" | .str => "str" | .list => "list"
theorem isi_use {Y : Sys} {c : Cf Y} {K : PySem.W.Frag} {H1 : Hp} {k1 : K3} {x : V} {a : D} {t : Ty} {b : Bool} {Q : VK} (ok : Ok c) (hx : Is K H1 c k1 x a) (e : isiD t a = some b) (q : Q (.bl b) c.H) : rIsi K [x, .ty (nmT t)] c.H Q := by
  have go : ∀ {s : String}, TyX K c.H x (.type s) → kitB s (nmT t) = some b → rIsi K [x, .ty (nmT t)] c.H Q := fun h1 h2 => ⟨x, _, _, _, b, rfl, .ty _, h1, kit_ty h2, q⟩
  cases a with
  | non =>
    rw [hx.non] at go ⊢
    refine go (.base .non) ?_
    cases t <;> (cases e; first | (show _ = some true; decide +kernel) | (show _ = some false; decide +kernel))
  | bl v =>
    rw [hx.bl] at go ⊢
    refine go (.base (.bl _)) ?_
    cases t <;> (cases e; first | (show _ = some true; decide +kernel) | (show _ = some false; decide +kernel))
  | int v =>
    rw [hx.int] at go ⊢
    refine go (.base (.int _)) ?_
    cases t <;> (cases e; first | (show _ = some true; decide +kernel) | (show _ = some false; decide +kernel))
  | str v =>
    rw [hx.str] at go ⊢
    refine go (.base (.str _)) ?_
    cases t <;> (cases e; first | (show _ = some true; decide +kernel) | (show _ = some false; decide +kernel))
  | tup ds =>
    obtain ⟨p, vs, rfl, h1, h1', r⟩ := hx.tup ok
    refine go (s := "tuple") ?_ ?_
    · rcases h1 with (h | ⟨o, h⟩) | ⟨o, its, n, hk, hc, _⟩
      · exact .base (.tup h)
      · exact .fTuple h
      · exact .kTuple hk hc
    · cases t <;> (cases e; first | (show _ = some true; decide +kernel) | (show _ = some false; decide +kernel))
  | lst ds =>
    obtain ⟨p, vs, rfl, h1, r⟩ := hx.lst ok
    refine go (.base (.lst h1)) ?_
    cases t <;> (cases e; first | (show _ = some true; decide +kernel) | (show _ = some false; decide +kernel))
  | dct _ => cases t <;> cases e
  | adr _ => cases t <;> cases e
  | scr _ => cases t <;> cases e
/-! ### what is walked -/
def iSeq (K : PySem.W.Frag) (tl : TE) : TI := fun σ H R => tl σ H fun x H1 => (∃ a, x = .ref a ∧ (∃ xs, SqL K H1 a xs) ∧ R (Itl K a) H1) ∨ (∃ a, x = .ref a ∧ (∃ xs, SqT K H1 a xs) ∧ R (Itt K a) H1) ∨ ∃ z, x = .str z ∧ R (Its z) H1
theorem pi_seq {X : Cx} {tg l : Expr} {tl : TE} (hl : PE X l tl) : PI X tg l (iSeq X.K tl) := by
  refine ⟨fun pins s σ H R I h => ?_⟩
  refine thn (hl.run pins s σ H _ I h) fun v s1 ⟨x, H1, I1, r1, q1⟩ => ?_
  rcases q1 with ⟨a, e, ⟨xs, hq⟩, q⟩ | ⟨a, e, ⟨xs, hq⟩, q⟩ | ⟨z, e, q⟩
  · subst e
    cases r1
    obtain ⟨its, rv, p, hz⟩ := I1.list hq
    refine wpAny_pyIter_list p.isList ?_
    refine ⟨s1.heap.objs.size, [s1.heap.objs.size], _, _, H1, rfl, I1.kept (t' := s1.toks) fun b o e => Heap.get?_push_of_some _ e, turn_list a _, ⟨_, Heap.get?_push_size _ rfl, rfl, rfl⟩, fun b hb => ?_, q⟩
    have e : b = s1.heap.objs.size := by simpa using hb
    subst e
    exact I1.fpOk (Nat.le_refl _) (I1.hok.fresh (Nat.le_refl _))
  · subst e
    cases r1
    obtain ⟨its, rv, p, hz⟩ := I1.tuple hq
    refine wpAny_pyIter_tuple (show s1.heap.IsTuple a its.toArray from p) ?_
    refine ⟨s1.heap.objs.size, [s1.heap.objs.size], _, _, H1, rfl, I1.kept (t' := s1.toks) fun b o e => Heap.get?_push_of_some _ e, turn_tuple a _, ⟨_, Heap.get?_push_size _ rfl, rfl, rfl⟩, fun b hb => ?_, q⟩
    have e : b = s1.heap.objs.size := by simpa using hb
    subst e
    exact I1.fpOk (Nat.le_refl _) (I1.hok.fresh (Nat.le_refl _))
  · subst e
    obtain ⟨t, rfl⟩ := r1
    cases ha : z.cps.all (· < 128)
    · exact wpAny_pyIter_wide ha (pi_one (tk := s1.toks) I1 _ (turn_str _ z t "str_iterator" (.inr rfl)) ⟨_, Heap.get?_push_size _ rfl, rfl, rfl⟩ q)
    · exact wpAny_pyIter_ascii ha (pi_one (tk := s1.toks) I1 _ (turn_str _ z t "str_ascii_iterator" (.inl rfl)) ⟨_, Heap.get?_push_size _ rfl, rfl, rfl⟩ q)
end Mf
set_option Elab.async false
set_option linter.all false
set_option maxRecDepth 100000
set_option maxHeartbeats 1000000
namespace Mf
open PySem L2

/-! ### readings by the evaluator -/
section
variable {Y : Sys} (K : PySem.W.Frag) (mg : Str → Option Value) (W : WX)
def Post {α β : Type} (σ : L2.St) (c : Cf Y) (J : β → Cf Y → α → Prop) (Q : β → Hp → Prop) : Res Y.S α → Prop
  | .ok a s' => ∀ b (c' : Cf Y), c'.s = s' → Step c c' → Ok c' → J b c' a → Q b c'.H
  | .ex x s' => ∀ C (c' : Cf Y), mg x = some (.ref C) → c'.s = s' → Step c c' → Ok c' → W (.ref C) none σ c'.H
  | .er => False
def tR {α β : Type} (J : Cf Y → β → Cf Y → α → Prop) (f : List SV → Y.S → Res Y.S α) : L2.St → Hp → (β → Hp → Prop) → Prop :=
  fun σ H Q => ∃ (c : Cf Y) (H0 : Hp) (ρ : List SV), c.H = H ∧ Ok c ∧ Rel K H0 c σ ρ ∧ Post mg W σ c (J c) Q (f ρ c.s)
def JE (c : Cf Y) (v : V) (c' : Cf Y) (a : K3 × D) : Prop := Is K c.H c' a.1 v a.2
def JB (_ : Cf Y) (b : Bool) (_ : Cf Y) (a : Bool) : Prop := b = a
def JA (_ : Cf Y) (vs : List V) (c' : Cf Y) (ds : List D) : Prop := Reps K c'.F vs ds
/-- an item: data, or (of a zip, to be taken apart at once) a tuple of data -/
def RepW (z : Bool) (F : Hp) (v : V) (d : D) : Prop := Rep K F v d ∨ (z = true ∧ ∃ a vs ds, v = .ref a ∧ d = .tup ds ∧ SqT K F a vs ∧ Reps K F vs ds)
def zipI {S : Type} : CI S → Bool
  | .zip _ _ => true
  | _ => false
def Gd (z : Bool) (J : It) (G : Cf Y → Prop) (ds : List D) : Prop :=
  ∀ c : Cf Y, G c → Ok c → ∀ i : Nat, (ds.length ≤ i → J.stop i c.H) ∧
    ∀ d, ds[i]? = some d → J.go i c.H ∧ ∀ x H', J.yld i c.H x H' → ∃ c' : Cf Y, c'.H = H' ∧ c'.s = c.s ∧ Step c c' ∧ Ok c' ∧ RepW K z c'.F x d
def JI (st z : Bool) (_ : Cf Y) (J : It) (c' : Cf Y) (ds : List D) : Prop := ∃ G : Cf Y → Prop, Gd K z J G ds ∧ ∀ c'', (if st = true then Sub c'.F c''.F else Step c' c'') → G c''
abbrev tE (e : CE Y.S) : TE := tR K mg W (JE K) (ev e)
abbrev tT (e : CE Y.S) : TT := tR K mg W JB (fun ρ s => (ev e ρ s).bind tru)
abbrev tA (es : CA Y.S) : TA := tR K mg W (JA K) (evA es)
abbrev tI (st : Bool) (it : CI Y.S) : TI := tR K mg W (JI K st (zipI it)) (evI st it)
end
section
variable {Y : Sys} {K : PySem.W.Frag} {mg : Str → Option Value} {W : WX} {α β γ δ : Type} {σ : L2.St} {c c' : Cf Y} {H0 : Hp} {ρ : List SV}
theorem Post.shift {J J' : β → Cf Y → α → Prop} {Q : β → Hp → Prop} {r : Res Y.S α} (h : Post mg W σ c J Q r) (t : Step c c') (ok : Ok c') (hJ : ∀ b c'' a, J' b c'' a → J b c'' a) : Post mg W σ c' J' Q r := by
  cases r with
  | ok a s' => exact fun b c'' e t' ok'' j => h b c'' e (t.trans ok t') ok'' (hJ b c'' a j)
  | ex x s' => exact fun C c'' m e t' ok'' => h C c'' m e (t.trans ok t') ok''
  | er => exact h
theorem JE.back (t : Step c c') (ok : Ok c') (v : V) (c'' : Cf Y) (a : K3 × D) (h : JE K c' v c'' a) : JE K c v c'' a := Is.back h fun _ z => t.back ok z
theorem Post.shiftE {Q : VK} {r : Res Y.S (K3 × D)} (h : Post mg W σ c (JE K c) Q r) (t : Step c c') (ok : Ok c') : Post mg W σ c' (JE K c') Q r := h.shift t ok (JE.back t ok)
theorem tR.bind {J : Cf Y → β → Cf Y → α → Prop} {f : List SV → Y.S → Res Y.S α} {J' : γ → Cf Y → δ → Prop} {Q' : γ → Hp → Prop} {R : α → Y.S → Res Y.S δ} {Qa : β → Hp → Prop}
    (ok : Ok c) (rel : Rel K H0 c σ ρ) (h : Post mg W σ c J' Q' ((f ρ c.s).bind R))
    (k : ∀ b (c' : Cf Y) a, f ρ c.s = .ok a c'.s → Step c c' → Ok c' → Rel K H0 c' σ ρ → J c b c' a → Post mg W σ c J' Q' (R a c'.s) → Qa b c'.H) : tR K mg W J f σ c.H Qa := by
  refine ⟨c, H0, ρ, rfl, ok, rel, ?_⟩
  cases e : f ρ c.s with
  | ok a s' =>
    rw [e] at h
    intro b c' es t ok' j
    subst es
    exact k b c' a e t ok' (rel.step t) j h
  | ex x s' => rw [e] at h; exact h
  | er => rw [e] at h; exact h
theorem Post.fin {J : β → Cf Y → α → Prop} {Q : β → Hp → Prop} {a : α} {b : β} (h : Post mg W σ c J Q (.ok a c.s)) (ok : Ok c) (j : J b c a) : Q b c.H := h b c rfl (Step.refl c) ok j
/-- the machine's step behind the operands -/
theorem Post.fi {Q : VK} {k : K3} {d : D} (h : Post mg W σ c (JE K c) Q (.ok (k, d) c.s))   : Mf.Fin K c k d Q := fun v c' e t ok i => h v c' e t ok i
theorem Post.lift {Q : VK} {o : Option (K3 × D)} (h : Post mg W σ c (JE K c) Q (liftO c.s o)) : ∃ k d, o = some (k, d) ∧ Mf.Fin K c k d Q := by
  cases o with
  | none => exact h.elim
  | some x => exact ⟨x.1, x.2, rfl, h.fi⟩
theorem Post.kd {Q : VK} {o : Option D} (h : Post mg W σ c (JE K c) Q (kd c.s o)) : ∃ d, o = some d ∧ Mf.Fin K c .v d Q := by
  cases o with
  | none => exact h.elim
  | some x => exact ⟨x, rfl, h.fi⟩
theorem Post.tru {J : β → Cf Y → α → Prop} {Q : β → Hp → Prop} {R : Bool → Y.S → Res Y.S α} {x : K3 × D} {s : Y.S} (h : Post mg W σ c J Q ((Mf.tru x s).bind R)) : ∃ b, x.2 = .bl b ∧ Post mg W σ c J Q (R b s) := by
  obtain ⟨k, d⟩ := x
  cases d with
  | bl b => exact ⟨b, rfl, h⟩
  | _ => exact h.elim
theorem Post.int {J : β → Cf Y → α → Prop} {Q : β → Hp → Prop} {R : Int → Y.S → Res Y.S α} {x : K3 × D} {s : Y.S} (h : Post mg W σ c J Q ((intOf x s).bind R)) : ∃ b, x.2 = .int b ∧ Post mg W σ c J Q (R b s) := by
  obtain ⟨k, d⟩ := x
  cases d with
  | int b => exact ⟨b, rfl, h⟩
  | _ => exact h.elim
theorem Post.dat {J : β → Cf Y → α → Prop} {Q : β → Hp → Prop} {R : D → Y.S → Res Y.S α} {x : K3 × D} {s : Y.S} (h : Post mg W σ c J Q ((Mf.dat x s).bind R)) : x.1 ≠ .o ∧ Post mg W σ c J Q (R x.2 s) := by
  obtain ⟨k, d⟩ := x
  cases k with
  | v => exact ⟨fun z => (nomatch z), h⟩
  | t => exact ⟨fun z => (nomatch z), h⟩
  | o => exact h.elim
theorem Post.stk {J : β → Cf Y → α → Prop} {Q : β → Hp → Prop} {st : Bool} {R : K3 × D → Y.S → Res Y.S α} {x : K3 × D} {s : Y.S} (h : Post mg W σ c J Q ((Mf.stk st x s).bind R)) : (st = true → x.1 ≠ .o) ∧ Post mg W σ c J Q (R x s) := by
  obtain ⟨k, d⟩ := x
  cases st with
  | false => exact ⟨fun z => (nomatch z), h⟩
  | true =>
    cases k with
    | v => exact ⟨fun _ z => (nomatch z), h⟩
    | t => exact ⟨fun _ z => (nomatch z), h⟩
    | o => exact h.elim
end
theorem _root_.L2.PE.weak {X : Cx} {e : Expr} {t t' : TE} (h : PE X e t) (k : ∀ σ H Q, t' σ H Q → t σ H Q) : PE X e t' := ⟨fun pins s σ H Q I q => h.run pins s σ H Q I (k σ H Q q)⟩
theorem _root_.L2.PT.weak {X : Cx} {e : Expr} {t t' : TT} (h : PT X e t) (k : ∀ σ H Q, t' σ H Q → t σ H Q) : PT X e t' := ⟨fun pins s σ H Q I q => h.run pins s σ H Q I (k σ H Q q)⟩
theorem _root_.L2.PW.weak {X : Cx} {e : Expr} {t t' : TT} (h : PW X e t) (k : ∀ σ H Q, t' σ H Q → t σ H Q) : PW X e t' := ⟨fun w pins s σ H Q I q => h.run w pins s σ H Q I (k σ H Q q)⟩
theorem _root_.L2.PA.weak {X : Cx} {es : List Expr} {t t' : TA} (h : PA X es t) (k : ∀ σ H Q, t' σ H Q → t σ H Q) : PA X es t' := ⟨fun pos pins s σ H Q I q => h.run pos pins s σ H Q I (k σ H Q q)⟩
theorem _root_.L2.PI.weak {X : Cx} {tg e : Expr} {t t' : TI} (h : PI X tg e t) (k : ∀ σ H Q, t' σ H Q → t σ H Q) : PI X tg e t' := ⟨fun pins s σ H Q I q => h.run pins s σ H Q I (k σ H Q q)⟩

/-! ### the checker -/
def bltNames : List Str := ["len", "abs", "int", "tuple", "list", "all", "any", "max", "isinstance", "bool", "str", "range", "zip", "sorted", "set", "dict", "enumerate"]
def visB (sc : Scope) (x : Str) : Bool := (match sc.names.lookup x with | some .local => true | some .cell => true | some .free => true | _ => false) && !(x == ("__debug__" : Str)) && !(x == ("__classdict__" : Str))
def glB (sc : Scope) (x : Str) : Bool := (match sc.names.lookup x with | some .globalImplicit => true | _ => false) && !(x == ("__debug__" : Str)) && !(x == ("__name__" : Str))
def notStar : Expr → Bool
  | .Starred _ _ => false
  | _ => true
def notSet : Expr → Bool
  | .Set _ _ _ => false
  | _ => true
def notSlice : Expr → Bool
  | .Slice _ _ _ _ => false
  | _ => true
def notComp : Expr → Bool
  | .ListComp _ _ _ _ => false
  | .SetComp _ _ _ _ => false
  | .DictComp _ _ _ _ _ => false
  | _ => true
def isBO : Expr → Bool
  | .BoolOp _ _ _ => true
  | _ => false
/-- may stand as a test -/
def tstP : Expr → Bool
  | .Name _ _ => true
  | .Call _ _ _ _ => true
  | .Subscript _ _ _ => true
  | _ => false
def tstOk : Expr → Bool
  | .BoolOp _ _ _ => true
  | .Compare _ _ _ _ => true
  | .UnaryOp .Not _ _ => true
  | e => tstP e
def opEq : Bop → Operator → Bool
  | .add, .Add => true | .sub, .Sub => true | .mul, .Mult => true | .fdv, .FloorDiv => true | .mod, .Mod => true | _, _ => false
def cmpEq : Cop → CmpOp → Bool
  | .eq, .Eq => true | .ne, .NotEq => true | .lt, .Lt => true | .le, .LtE => true | .gt, .Gt => true | .ge, .GtE => true | .isin, .In => true | .notin, .NotIn => true | .is, .Is => true | .isnot, .IsNot => true | _, _ => false
def conEq : D → Const → Bool
  | .int i, .int j => decide (i = j)
  | .str x, .str y => x == y
  | .bl a, .bool b => a == b
  | .non, .none => true
  | _, _ => false
def lenTg : Tg → Nat
  | .cons _ r => lenTg r + 1
  | _ => 0
def slots : Tg → List Nat
  | .nm i => [i]
  | .nil => []
  | .cons t r => slots t ++ slots r
/-- fns: the names whose cells are made here -/
def chkTs (N : List Str) (sc : Scope) (fns : Str → Bool) : Tg → List Expr → Bool
  | .nil, [] => true
  | .cons (.nm i) r, .Name x _ :: es => (N[i]? == some x) && (match sc.names.lookup x with | some .local => true | some .cell => fns x | _ => false) && chkTs N sc fns r es
  | .cons (.cons t' r') r, .Tuple es' _ _ :: es => chkTs N sc fns (.cons t' r') es' && chkTs N sc fns r es
  | _, _ => false
def chkT (N : List Str) (sc : Scope) (fns : Str → Bool) (t : Tg) (e : Expr) : Bool := chkTs N sc fns (.cons t .nil) [e]
def rcvE : Expr → Bool
  | .Name _ _ => true
  | .Constant _ _ _ => true
  | _ => false
def isTupE : Expr → Bool
  | .Tuple _ _ _ => true
  | _ => false
mutual
def chkE {S : Type} (N : List Str) : Scope → CE S → Expr → Bool
  | sc, .var i, e0 => match e0 with
    | .Name x _ => (N[i]? == some x) && visB sc x
    | _ => false
  | _, .con d, e0 => match e0 with
    | .Constant k _ _ => conEq d k
    | _ => false
  | sc, .glb x _, e0 => match e0 with
    | .Name y _ => (y == x) && glB sc y
    | _ => false
  | sc, .tup es, e0 => match e0 with
    | .Tuple xs _ _ => chkA N sc es xs
    | _ => false
  | sc, .lst es, e0 => match e0 with
    | .List xs _ => chkA N sc es xs
    | _ => false
  | sc, .bin o a b, e0 => match e0 with
    | .BinOp a' o' b' _ => opEq o o' && chkE N sc a a' && chkE N sc b b'
    | _ => false
  | sc, .neg a, e0 => match e0 with
    | .UnaryOp .USub a' _ => chkE N sc a a'
    | _ => false
  | sc, .not a, e0 => match e0 with
    | .UnaryOp .Not a' _ => chkE N sc a a' && tstOk a'
    | _ => false
  | sc, .cmp o a b, e0 => match e0 with
    | .Compare a' [o'] [b'] _ => cmpEq o o' && notSet b' && chkE N sc a a' && chkE N sc b b'
    | _ => false
  | sc, .chn o p a b c, e0 => match e0 with
    | .Compare a' [o', p'] [b', c'] _ => cmpEq o o' && cmpEq p p' && notSet c' && chkE N sc a a' && chkE N sc b b' && chkE N sc c c'
    | _ => false
  | sc, .and a b, e0 => match e0 with
    | .BoolOp .And (a' :: b' :: r) pos => tstOk a' && chkE N sc a a' && chkE N sc b (.BoolOp .And (b' :: r) pos)
    | _ => false
  | sc, .or a b, e0 => match e0 with
    | .BoolOp .Or (a' :: b' :: r) pos => tstOk a' && chkE N sc a a' && chkE N sc b (.BoolOp .Or (b' :: r) pos)
    | _ => false
  | sc, .one a, e0 => match e0 with
    | .BoolOp _ [a'] _ => tstOk a' && chkE N sc a a'
    | _ => false
  | sc, .ife t a b, e0 => match e0 with
    | .IfExp t' a' b' _ => tstOk t' && chkE N sc t t' && chkE N sc a a' && chkE N sc b b'
    | _ => false
  | sc, .ix a i, e0 => match e0 with
    | .Subscript a' i' _ => notSlice i' && chkE N sc a a' && chkE N sc i i'
    | _ => false
  | sc, .slL a lo, e0 => match e0 with
    | .Subscript a' (.Slice (some lo') none none _) _ => chkE N sc a a' && chkE N sc lo lo'
    | _ => false
  | sc, .slH a hi, e0 => match e0 with
    | .Subscript a' (.Slice none (some hi') none _) _ => chkE N sc a a' && chkE N sc hi hi'
    | _ => false
  | sc, .slB a lo hi, e0 => match e0 with
    | .Subscript a' (.Slice (some lo') (some hi') none _) _ => chkE N sc a a' && chkE N sc lo lo' && chkE N sc hi hi'
    | _ => false
  | sc, .call x _ _ es, e0 => match e0 with
    | .Call (.Name y _) xs [] _ => (y == x) && glB sc y && chkA N sc es xs
    | _ => false
  | sc, .b1 f e, e0 => match e0 with
    | .Call (.Name y _) [e'] [] _ => (y == nmB f) && glB sc y && notStar e' && chkE N sc e e'
    | _ => false
  | sc, .m1 f a b, e0 => match e0 with
    | .Call (.Attribute a' m apos) [b'] [] cpos => (m == nmM f) && rcvE a' && notStar b' && (apos.endLine == cpos.line) && chkE N sc a a' && chkE N sc b b'
    | _ => false
  | sc, .isi e t, e0 => match e0 with
    | .Call (.Name y _) [e', .Name z _] [] _ => (y == ("isinstance" : Str)) && glB sc y && (z == (Str.ofString (nmT t))) && glB sc z && notStar e' && chkE N sc e e'
    | _ => false
  | sc, .lc it tg ifs elt vs, e0 => match e0 with
    | .ListComp elt' [⟨tg', iter', ifs', 0⟩] scope _ =>
      chkI N sc it iter' tg' && notSet iter' && blkC N sc scope (vs.map fun i => (N.getD i "", i)) && (slots tg).all (fun i => vs.contains i) &&
      chkT N (relS scope sc) (fun x => scope.names.lookup x == some .cell) tg tg' && chkC N (relS scope sc) ifs ifs' && chkE N (relS scope sc) elt elt'
    | _ => false
def chkA {S : Type} (N : List Str) : Scope → CA S → List Expr → Bool
  | _, .nil, [] => true
  | sc, .cons e es, x :: xs => notStar x && chkE N sc e x && chkA N sc es xs
  | _, _, _ => false
def chkC {S : Type} (N : List Str) : Scope → CA S → List Expr → Bool
  | _, .nil, [] => true
  | sc, .cons e .nil, [x] => tstOk x && chkE N sc e x
  | _, _, _ => false
def chkI {S : Type} (N : List Str) : Scope → CI S → Expr → Expr → Bool
  | sc, .seq e, x, _ => chkE N sc e x
  | sc, .rng e, x, _ => match x with
    | .Call (.Name y _) [x] [] _ => (y == ("range" : Str)) && glB sc y && notStar x && chkE N sc e x
    | _ => false
  | sc, .zip a b, x, tg => match x with
    | .Call (.Name y _) [x, z] [] _ => (y == ("zip" : Str)) && glB sc y && notStar x && notStar z && isTupE tg && chkE N sc a x && chkE N sc b z
    | _ => false
end
/-! ### what the names stand for -/
mutual
def needE {S : Type} (P : Str → Nat → Sem S → Prop) (G : Str → D → Prop) : CE S → Prop
  | .glb x d => G x d
  | .tup es => needA P G es
  | .lst es => needA P G es
  | .bin _ a b => needE P G a ∧ needE P G b
  | .neg a => needE P G a
  | .not a => needE P G a
  | .cmp _ a b => needE P G a ∧ needE P G b
  | .chn _ _ a b c => needE P G a ∧ needE P G b ∧ needE P G c
  | .and a b => needE P G a ∧ needE P G b
  | .or a b => needE P G a ∧ needE P G b
  | .one a => needE P G a
  | .ife t a b => needE P G t ∧ needE P G a ∧ needE P G b
  | .ix a i => needE P G a ∧ needE P G i
  | .slL a i => needE P G a ∧ needE P G i
  | .slH a i => needE P G a ∧ needE P G i
  | .slB a i j => needE P G a ∧ needE P G i ∧ needE P G j
  | .call x n g es => P x n g ∧ needA P G es
  | .b1 _ e => needE P G e
  | .m1 _ a b => needE P G a ∧ needE P G b
  | .isi e _ => needE P G e
  | .lc it _ ifs elt _ => needI P G it ∧ needA P G ifs ∧ needE P G elt
  | _ => True
def needA {S : Type} (P : Str → Nat → Sem S → Prop) (G : Str → D → Prop) : CA S → Prop
  | .nil => True
  | .cons e es => needE P G e ∧ needA P G es
def needI {S : Type} (P : Str → Nat → Sem S → Prop) (G : Str → D → Prop) : CI S → Prop
  | .seq e => needE P G e
  | .rng e => needE P G e
  | .zip a b => needE P G a ∧ needE P G b
end
/-- a def's promise: data to data -/
def spOf {Y : Sys} (K : PySem.W.Frag) (mg : Str → Option Value) (m : Nat) (g : Sem Y.S) : Sp := fun vs H Q E => ∃ (c : Cf Y) (ds : List D), c.H = H ∧ Ok c ∧ Reps K c.F vs ds ∧ vs.length = m ∧
  match g ds c.s with
  | .ok d s' => ∀ v (c' : Cf Y), c'.s = s' → Step c c' → Ok c' → Rep K c'.F v d → Q v c'.H
  | .ex x s' => ∀ C (c' : Cf Y), mg x = some (.ref C) → c'.s = s' → Step c c' → Ok c' → E (.ref C) none c'.H
  | .er => False
structure Has (P : Program) (w : World) (K : PySem.W.Frag) (mg : Str → Option Value) (base : Heap) (Y : Sys) (n : Nat) (x : Str) (m : Nat) (g : Sem Y.S) : Prop where
  has : ∃ (f : Addr) (fd : FuncData) (ps : List Str), ps.length = m ∧ FnOk P w K mg base (L2.CX P w) n f fd ps (spOf (Y := Y) K mg m g) ∧ mg x = some (.ref f) ∧ PySem.W.keepIn K (.ref f) = true ∧ Binds K fd ps []
def Glb (K : PySem.W.Frag) (mg : Str → Option Value) (x : Str) (d : D) : Prop := ∃ u v, mg x = some u ∧ RelV v u ∧ ∀ F, Rep K F v d
structure Cxt (X : Cx) (W : WX) (n : Nat) (N : List Str) (sc : Scope) : Prop where
  hN : X.N = N
  hs : X.env.scope = sc
  nd : N.Nodup
  calm : X.calm = true
  room : Room n X.A
  tk : Takes X W
  we : ∃ E : XK, W = fun cls d _ H => E cls d H
  blt : ∀ x ∈ bltNames, X.mg x = none
end Mf
set_option Elab.async false
set_option linter.all false
set_option maxRecDepth 100000
set_option maxHeartbeats 1000000
namespace Mf
open PySem L2

/-! ### side conditions from the checker -/
theorem visB_ok {sc : Scope} {x : Str} (h : visB sc x = true) : Vis sc x ∧ (x == ("__debug__" : Str)) = false ∧ (x == ("__classdict__" : Str)) = false := by
  unfold visB at h
  simp only [Bool.and_eq_true, Bool.not_eq_true'] at h
  obtain ⟨⟨h1, h2⟩, h3⟩ := h
  refine ⟨?_, h2, h3⟩
  unfold Vis
  split at h1
  · exact .inl (by assumption)
  · exact .inr (.inl (by assumption))
  · exact .inr (.inr (by assumption))
  · cases h1
theorem glB_ok {sc : Scope} {x : Str} (h : glB sc x = true) : sc.names.lookup x = some .globalImplicit ∧ (x == ("__debug__" : Str)) = false ∧ x ≠ "__name__" := by
  unfold glB at h
  simp only [Bool.and_eq_true, Bool.not_eq_true'] at h
  obtain ⟨⟨h1, h2⟩, h3⟩ := h
  refine ⟨?_, h2, beq_eq_false_iff_ne.mp h3⟩
  split at h1
  · assumption
  · cases h1
theorem star_cons {e : Expr} (h : notStar e = true) (es : List Expr) (env : Env) : starEach (e :: es) env = (false, eval e env) :: starEach es env := by
  cases e <;> first | rfl | cases h
theorem star_none {pos : Pos} {env : Env} : ∀ {S : Type} {N : List Str} {sc : Scope} {cs : CA S} {es : List Expr}, chkA N sc cs es = true → (backTo pos (starEach es env)).any (·.1) = false := by
  have key : ∀ {es : List Expr}, (∀ e ∈ es, notStar e = true) → (backTo pos (starEach es env)).any (·.1) = false := by
    intro es h
    have e : ∀ {es : List Expr}, (∀ e ∈ es, notStar e = true) → ∀ p ∈ starEach es env, p.1 = false := by
      intro es
      induction es with
      | nil => intro _ p hp; cases hp
      | cons x xs ih =>
        intro h p hp
        rw [star_cons (h x List.mem_cons_self)] at hp
        rcases List.mem_cons.mp hp with z | z
        · rw [z]
        · exact ih (fun e he => h e (List.mem_cons_of_mem _ he)) p z
    have e2 := e h
    rw [List.any_eq_false]
    intro p hp
    unfold backTo at hp
    simp only [List.mem_map] at hp
    obtain ⟨q, hq, rfl⟩ := hp
    simpa using e2 q hq
  intro S N sc cs es h
  refine key ?_
  revert cs
  induction es with
  | nil => intro _ _ e he; cases he
  | cons x xs ih =>
    intro cs h e he
    cases cs with
    | nil => cases h
    | cons c cs =>
      unfold chkA at h
      simp only [Bool.and_eq_true] at h
      rcases List.mem_cons.mp he with z | z
      · rw [z]; exact h.1.1
      · exact ih h.2 e z
theorem marks_ok {op : CmpOp} {b : Expr} (h : notSet b = true) : behindInMarks op b = false := by
  cases b <;> first | rfl | cases h
theorem set_ok {e : Expr} {env : Env} (h : notSet e = true) : ∀ x, foldedSetIterable e env x = pure x := by
  intro x
  cases e <;> first | rfl | cases h
theorem plain_ok {b : Expr} (h : notSlice b = true) : PlainIx b := by
  intro o i
  cases b <;> first | rfl | cases h
theorem test_ok {e : Expr} {env : Env} (h : tstP e = true) : ∀ whole, isTrue e env whole = (do let v ← whole; standAt e.pos; holding [v] (truthy v)) := by
  intro whole
  cases e <;> first | rfl | cases h
theorem opEq_ok {o : Bop} {o' : Operator} (h : opEq o o' = true) : o' = opB o := by
  cases o <;> cases o' <;> first | rfl | cases h
theorem cmpEq_ok {o : Cop} {o' : CmpOp} (h : cmpEq o o' = true) : o' = opC o := by
  cases o <;> cases o' <;> first | rfl | cases h

/-! ### tests by values -/
section
variable {Y : Sys} {K : PySem.W.Frag} {mg : Str → Option Value} {W : WX}
theorem tT_tE {e : CE Y.S} {σ : L2.St} {H : Hp} {Q : Bool → Hp → Prop} (h : tT K mg W e σ H Q) : tE K mg W e σ H (fun v H1 => ∃ k, v = .bl k ∧ Q k H1) := by
  obtain ⟨c, H0, ρ, rfl, ok, rel, p⟩ := h
  refine tR.bind ok rel p fun b c' a ea t ok' rel' j p' => ?_
  have p' : Post mg W σ c (JB c) Q ((tru a c'.s).bind fun b s => .ok b s) := by
    cases e2 : tru a c'.s <;> (rw [e2] at p'; exact p')
  obtain ⟨k, ek, p2⟩ := p'.tru
  obtain ⟨k3, d⟩ := a
  have ek : d = .bl k := ek
  subst ek
  exact ⟨k, Is.bl j, p2 k c' rfl t ok' rfl⟩
end
end Mf
set_option Elab.async false
set_option linter.all false
set_option maxRecDepth 100000
set_option maxHeartbeats 1000000
namespace Mf
open PySem L2

section
variable {X : Cx} {Y : Sys} {W : WX} {n : Nat} {N : List Str} {sc : Scope} {pos : Pos} {a' b' c' : Expr} {a b e : CE Y.S}
theorem se_var {i : Nat} {x : Str} (C : Cxt X W n N sc) (h1 : (N[i]? == some x) = true) (h2 : visB sc x = true) : PE X (.Name x pos) (tE (Y := Y) X.K X.mg W (.var i)) := by
  obtain ⟨v1, v2, v3⟩ := visB_ok h2
  refine (pe_var (X := X) (i := i) (x := x) (pos := pos) (by rw [C.hN]; exact beq_iff_eq.mp h1) (by rw [C.hs]; exact v1) v2 v3).weak fun σ H Q h => ?_
  obtain ⟨c, H0, ρ, rfl, ok, rel, p⟩ := h
  have p : Post X.mg W σ c (JE X.K c) Q (match ρ[i]? with | some (.va d) => .ok (.v, d) c.s | some (.ow d) => .ok (.o, d) c.s | _ => .er) := p
  split at p
  · rename_i d er
    obtain ⟨v, es, r⟩ := rel.va i d er
    exact ⟨v, es, p.fin ok r⟩
  · rename_i d er
    obtain ⟨q, es, r, _⟩ := rel.ow i d er
    exact ⟨.ref q, es, p.fin ok ⟨q, rfl, r⟩⟩
  · exact p.elim
theorem se_con {d : D} {k : Const} {j : Nat} (h : conEq d k = true) : PE X (.Constant k j pos) (tE (Y := Y) X.K X.mg W (.con d)) := by
  have go : ∀ {v : V}, PE X (.Constant k j pos) (tC v) → (∀ F, Rep X.K F v d) → PE X (.Constant k j pos) (tE (Y := Y) X.K X.mg W (.con d)) := fun {v} h1 h2 => h1.weak fun σ H Q h => by
    obtain ⟨c, H0, ρ, rfl, ok, rel, p⟩ := h
    have p : Post X.mg W σ c (JE X.K c) Q (.ok (.v, d) c.s) := p
    exact p.fin ok (h2 c.F)
  cases d <;> cases k <;> first | cases h | skip
  · exact go pe_non fun _ => .non
  · exact go (pe_bl) fun _ => by rw [show _ = _ from beq_iff_eq.mp h]; exact .bl _
  · exact go (pe_int) fun _ => by rw [of_decide_eq_true h]; exact .int _
  · exact go (pe_str) fun _ => by rw [show _ = _ from beq_iff_eq.mp h]; exact .str _
theorem se_glb {x : Str} {d : D} (C : Cxt X W n N sc) (h2 : glB sc x = true) (g : Glb X.K X.mg x d) : PE X (.Name x pos) (tE (Y := Y) X.K X.mg W (.glb x d)) := by
  obtain ⟨v1, v2, v3⟩ := glB_ok h2
  obtain ⟨u, v, e1, e2, e3⟩ := g
  refine (pe_glob (X := X) (x := x) (pos := pos) (by unfold Gl Env.kindOf; rw [C.hs]; exact v1) e1 e2 v2).weak fun σ H Q h => ?_
  obtain ⟨c, H0, ρ, rfl, ok, rel, p⟩ := h
  have p : Post X.mg W σ c (JE X.K c) Q (.ok (.v, d) c.s) := p
  exact p.fin ok (e3 c.F)
theorem se_bin {o : Bop} (ha : PE X a' (tE X.K X.mg W a)) (hb : PE X b' (tE X.K X.mg W b)) : PE X (.BinOp a' (opB o) b' pos) (tE X.K X.mg W (.bin o a b)) := by
  refine (pe_op (op_B o) ha hb).weak fun σ H Q h => ?_
  obtain ⟨c, H0, ρ, rfl, ok, rel, p⟩ := h
  have p : Post X.mg W σ c (JE X.K c) Q ((ev a ρ c.s).bind fun x s => (ev b ρ s).bind fun y s => liftO s (binD o x.2 y.2)) := p
  refine tR.bind ok rel p fun x c1 xa ea t1 ok1 rel1 j1 p1 => ?_
  refine tR.bind ok1 rel1 (p1.shiftE t1 ok1) fun y c2 xb eb t2 ok2 rel2 j2 p2 => ?_
  obtain ⟨k, d, e, q⟩ := (p2.shiftE t2 ok2).lift
  exact bin_use ok2 (Is.step j1 t2) j2 e q
theorem se_neg (ha : PE X a' (tE X.K X.mg W a)) : PE X (.UnaryOp .USub a' pos) (tE X.K X.mg W (.neg a)) := by
  refine (pe_un un_neg ha).weak fun σ H Q h => ?_
  obtain ⟨c, H0, ρ, rfl, ok, rel, p⟩ := h
  have p : Post X.mg W σ c (JE X.K c) Q ((ev a ρ c.s).bind fun x s => (intOf x s).bind fun i s => .ok (.v, .int (-i)) s) := p
  refine tR.bind ok rel p fun x c1 xa ea t1 ok1 rel1 j1 p1 => ?_
  obtain ⟨i, ei, q⟩ := (p1.shiftE t1 ok1).int
  obtain ⟨k, d⟩ := xa
  have ei : d = .int i := ei
  subst ei
  exact ⟨i, Is.int j1, q.fin ok1 (Rep.int (-i))⟩
theorem se_notE (ha : PE X a' (tE X.K X.mg W a)) : PE X (.UnaryOp .Not a' pos) (tE X.K X.mg W (.not a)) := by
  refine (pe_not ha).weak fun σ H Q h => ?_
  obtain ⟨c, H0, ρ, rfl, ok, rel, p⟩ := h
  have p : Post X.mg W σ c (JE X.K c) Q ((ev a ρ c.s).bind fun x s => (tru x s).bind fun b s => .ok (.v, .bl (!b)) s) := p
  refine tR.bind ok rel p fun x c1 xa ea t1 ok1 rel1 j1 p1 => ?_
  obtain ⟨i, ei, q⟩ := (p1.shiftE t1 ok1).tru
  obtain ⟨k, d⟩ := xa
  have ei : d = .bl i := ei
  subst ei
  exact ⟨i, Is.bl j1, q.fin ok1 (Rep.bl (!i))⟩
theorem bind_tru_tru {S : Type} (r : Res S (K3 × D)) : (r.bind fun x s => (tru x s).bind fun b s => (Res.ok (K3.v, D.bl (!b)) s : Res S (K3 × D))).bind tru = (r.bind tru).bind fun b s => .ok (!b) s := by
  cases r with
  | ok x s =>
    obtain ⟨k, d⟩ := x
    cases d <;> rfl
  | _ => rfl
theorem se_notT (ha : PT X a' (tT X.K X.mg W a)) : PT X (.UnaryOp .Not a' pos) (tT X.K X.mg W (.not a)) := by
  refine (pt_not ha).weak fun σ H Q h => ?_
  obtain ⟨c, H0, ρ, rfl, ok, rel, p⟩ := h
  have p : Post X.mg W σ c (JB c) Q (((ev a ρ c.s).bind fun x s => (tru x s).bind fun b s => .ok (.v, .bl (!b)) s).bind tru) := p
  rw [bind_tru_tru] at p
  refine tR.bind (f := fun ρ s => (ev a ρ s).bind tru) ok rel p fun x c1 xa ea t1 ok1 rel1 j1 p1 => ?_
  have j1 : x = xa := j1
  subst j1
  exact p1 (!x) c1 rfl t1 ok1 rfl
theorem se_cmpE {o : Cop} (C : Cxt X W n N sc) (hs : notSet b' = true) (ha : PE X a' (tE X.K X.mg W a)) (hb : PE X b' (tE X.K X.mg W b)) : PE X (.Compare a' [opC o] [b'] pos) (tE X.K X.mg W (.cmp o a b)) ∧ PT X (.Compare a' [opC o] [b'] pos) (tT X.K X.mg W (.cmp o a b)) := by
  have go : ∀ σ H Q, tE X.K X.mg W (.cmp o a b) σ H Q → tOp (rC X.K o) (tE X.K X.mg W a) (tE X.K X.mg W b) σ H Q := fun σ H Q h => by
    obtain ⟨c, H0, ρ, rfl, ok, rel, p⟩ := h
    have p : Post X.mg W σ c (JE X.K c) Q ((ev a ρ c.s).bind fun x s => (ev b ρ s).bind fun y s => kd s ((cmpD o x.2 y.2).map .bl)) := p
    refine tR.bind ok rel p fun x c1 xa ea t1 ok1 rel1 j1 p1 => ?_
    refine tR.bind ok1 rel1 (p1.shiftE t1 ok1) fun y c2 xb eb t2 ok2 rel2 j2 p2 => ?_
    obtain ⟨d, e, q⟩ := (p2.shiftE t2 ok2).kd
    obtain ⟨r, e1, e2⟩ := Option.map_eq_some_iff.mp e
    subst e2
    exact cmp_use ok2 (Is.step j1 t2) j2 e1 (q.here ok2 (.bl r))
  exact ⟨(pe_cmpR (op_C C.room o) ha hb (marks_ok hs)).weak go, (pt_cmpR (op_C C.room o) ha hb (marks_ok hs)).weak fun σ H Q h => go σ H _ (tT_tE h)⟩
theorem se_chn {o o2 : Cop} {c3 : CE Y.S} (C : Cxt X W n N sc) (hs : notSet c' = true) (ha : PE X a' (tE X.K X.mg W a)) (hb : PE X b' (tE X.K X.mg W b)) (hc : PE X c' (tE X.K X.mg W c3)) :
    PE X (.Compare a' [opC o, opC o2] [b', c'] pos) (tE X.K X.mg W (.chn o o2 a b c3)) ∧ PT X (.Compare a' [opC o, opC o2] [b', c'] pos) (tT X.K X.mg W (.chn o o2 a b c3)) := by
  have hm : lastMarks [opC o, opC o2] [b', c'] = false := marks_ok hs
  have go : ∀ σ H Q, tE X.K X.mg W (.chn o o2 a b c3) σ H Q → tChain (rC X.K o) (rC X.K o2) (tE X.K X.mg W a) (tE X.K X.mg W b) (tE X.K X.mg W c3) σ H Q := fun σ H Q h => by
    obtain ⟨c, H0, ρ, rfl, ok, rel, p⟩ := h
    have p : Post X.mg W σ c (JE X.K c) Q ((ev a ρ c.s).bind fun x s => (ev b ρ s).bind fun y s => (liftO s (cmpD o x.2 y.2)).bind fun k s =>
      if k then (ev c3 ρ s).bind fun z s => kd s ((cmpD o2 y.2 z.2).map .bl) else .ok (.v, .bl false) s) := p
    refine tR.bind ok rel p fun x c1 xa ea t1 ok1 rel1 j1 p1 => ?_
    refine tR.bind ok1 rel1 (p1.shiftE t1 ok1) fun y c2 xb eb t2 ok2 rel2 j2 p2 => ?_
    have p2 := p2.shiftE t2 ok2
    cases e : cmpD o xa.2 xb.2 with
    | none => rw [e] at p2; exact p2.elim
    | some k =>
      rw [e] at p2
      refine cmp_use ok2 (Is.step j1 t2) j2 e ⟨k, rfl, ?_⟩
      cases k with
      | false => exact iteF (p2.fin ok2 (Rep.bl false))
      | true =>
        refine iteT ?_
        have p2 : Post X.mg W σ c2 (JE X.K c2) Q ((ev c3 ρ c2.s).bind fun z s => kd s ((cmpD o2 xb.2 z.2).map .bl)) := p2
        refine tR.bind ok2 rel2 p2 fun z c3 xc ec t3 ok3 rel3 j3 p3 => ?_
        obtain ⟨d, e, q⟩ := (p3.shiftE t3 ok3).kd
        obtain ⟨r, e1, e2⟩ := Option.map_eq_some_iff.mp e
        subst e2
        exact cmp_use ok3 (Is.step j2 t3) j3 e1 (q.here ok3 (.bl r))
  exact ⟨(pe_chain (op_C C.room o) (op_C C.room o2) ha hb hc hm).weak go, (pt_chain (op_C C.room o) (op_C C.room o2) ha hb hc hm).weak fun σ H Q h => go σ H _ (tT_tE h)⟩
theorem se_andE {r : List Expr} (ha : PE X a' (tE X.K X.mg W a)) (hb : PE X (.BoolOp .And (b' :: r) pos) (tE X.K X.mg W b)) : PE X (.BoolOp .And (a' :: b' :: r) pos) (tE X.K X.mg W (.and a b)) := by
  refine (pe_and ha hb).weak fun σ H Q h => ?_
  obtain ⟨c, H0, ρ, rfl, ok, rel, p⟩ := h
  have p : Post X.mg W σ c (JE X.K c) Q ((ev a ρ c.s).bind fun x s => (tru x s).bind fun k s => if k then ev b ρ s else .ok (.v, .bl false) s) := p
  refine tR.bind ok rel p fun x c1 xa ea t1 ok1 rel1 j1 p1 => ?_
  obtain ⟨i, ei, q⟩ := (p1.shiftE t1 ok1).tru
  obtain ⟨k, d⟩ := xa
  have ei : d = .bl i := ei
  subst ei
  refine ⟨i, Is.bl j1, ?_⟩
  cases i with
  | false => exact iteF (q.fin ok1 (Rep.bl false))
  | true => exact iteT ⟨c1, H0, ρ, rfl, ok1, rel1, q⟩
theorem se_orE {r : List Expr} (ha : PE X a' (tE X.K X.mg W a)) (hb : PE X (.BoolOp .Or (b' :: r) pos) (tE X.K X.mg W b)) : PE X (.BoolOp .Or (a' :: b' :: r) pos) (tE X.K X.mg W (.or a b)) := by
  refine (pe_or ha hb).weak fun σ H Q h => ?_
  obtain ⟨c, H0, ρ, rfl, ok, rel, p⟩ := h
  have p : Post X.mg W σ c (JE X.K c) Q ((ev a ρ c.s).bind fun x s => (tru x s).bind fun k s => if k then .ok (.v, .bl true) s else ev b ρ s) := p
  refine tR.bind ok rel p fun x c1 xa ea t1 ok1 rel1 j1 p1 => ?_
  obtain ⟨i, ei, q⟩ := (p1.shiftE t1 ok1).tru
  obtain ⟨k, d⟩ := xa
  have ei : d = .bl i := ei
  subst ei
  refine ⟨i, Is.bl j1, ?_⟩
  cases i with
  | true => exact iteT (q.fin ok1 (Rep.bl true))
  | false => exact iteF ⟨c1, H0, ρ, rfl, ok1, rel1, q⟩
theorem bind_and {S : Type} (r : Res S (K3 × D)) (f : S → Res S (K3 × D)) : (r.bind fun x s => (tru x s).bind fun k s => if k then f s else .ok (K3.v, D.bl false) s).bind tru = (r.bind tru).bind fun k s => if k then (f s).bind tru else .ok false s := by
  cases r with
  | ok x s =>
    obtain ⟨k, d⟩ := x
    cases d with
    | bl b => cases b <;> rfl
    | _ => rfl
  | _ => rfl
theorem bind_or {S : Type} (r : Res S (K3 × D)) (f : S → Res S (K3 × D)) : (r.bind fun x s => (tru x s).bind fun k s => if k then .ok (K3.v, D.bl true) s else f s).bind tru = (r.bind tru).bind fun k s => if k then .ok true s else (f s).bind tru := by
  cases r with
  | ok x s =>
    obtain ⟨k, d⟩ := x
    cases d with
    | bl b => cases b <;> rfl
    | _ => rfl
  | _ => rfl
theorem se_andT {r : List Expr} (ha : PT X a' (tT X.K X.mg W a)) (hb : PW X (.BoolOp .And (b' :: r) pos) (tT X.K X.mg W b)) : PW X (.BoolOp .And (a' :: b' :: r) pos) (tT X.K X.mg W (.and a b)) := by
  refine (pw_and ha hb).weak fun σ H Q h => ?_
  obtain ⟨c, H0, ρ, rfl, ok, rel, p⟩ := h
  have p : Post X.mg W σ c (JB c) Q (((ev a ρ c.s).bind fun x s => (tru x s).bind fun k s => if k then ev b ρ s else .ok (.v, .bl false) s).bind tru) := p
  rw [bind_and] at p
  refine tR.bind (f := fun ρ s => (ev a ρ s).bind tru) ok rel p fun x c1 xa ea t1 ok1 rel1 j1 p1 => ?_
  have j1 : x = xa := j1
  subst j1
  have p1 := p1.shift (J' := JB c1) t1 ok1 fun _ _ _ z => z
  cases x with
  | false => exact iteF (p1.fin ok1 rfl)
  | true => exact iteT ⟨c1, H0, ρ, rfl, ok1, rel1, p1⟩
theorem se_orT {r : List Expr} (ha : PT X a' (tT X.K X.mg W a)) (hb : PW X (.BoolOp .Or (b' :: r) pos) (tT X.K X.mg W b)) : PW X (.BoolOp .Or (a' :: b' :: r) pos) (tT X.K X.mg W (.or a b)) := by
  refine (pw_or ha hb).weak fun σ H Q h => ?_
  obtain ⟨c, H0, ρ, rfl, ok, rel, p⟩ := h
  have p : Post X.mg W σ c (JB c) Q (((ev a ρ c.s).bind fun x s => (tru x s).bind fun k s => if k then .ok (.v, .bl true) s else ev b ρ s).bind tru) := p
  rw [bind_or] at p
  refine tR.bind (f := fun ρ s => (ev a ρ s).bind tru) ok rel p fun x c1 xa ea t1 ok1 rel1 j1 p1 => ?_
  have j1 : x = xa := j1
  subst j1
  have p1 := p1.shift (J' := JB c1) t1 ok1 fun _ _ _ z => z
  cases x with
  | true => exact iteT (p1.fin ok1 rfl)
  | false => exact iteF ⟨c1, H0, ρ, rfl, ok1, rel1, p1⟩
theorem bind_asso {S α β γ : Type} (r : Res S α) (f : α → S → Res S β) (g : β → S → Res S γ) : (r.bind f).bind g = r.bind fun a s => (f a s).bind g := by
  cases r <;> rfl
theorem se_ife {t' : Expr} {t : CE Y.S} (ht : PT X t' (tT X.K X.mg W t)) (ha : PE X a' (tE X.K X.mg W a)) (hb : PE X b' (tE X.K X.mg W b)) : PE X (.IfExp t' a' b' pos) (tE X.K X.mg W (.ife t a b)) := by
  refine (pe_ifExp ht ha hb).weak fun σ H Q h => ?_
  obtain ⟨c, H0, ρ, rfl, ok, rel, p⟩ := h
  have p : Post X.mg W σ c (JE X.K c) Q ((ev t ρ c.s).bind fun x s => (tru x s).bind fun k s => if k then ev a ρ s else ev b ρ s) := p
  rw [← bind_asso] at p
  refine tR.bind (f := fun ρ s => (ev t ρ s).bind tru) ok rel p fun x c1 xa ea t1 ok1 rel1 j1 p1 => ?_
  have j1 : x = xa := j1
  subst j1
  have p1 := p1.shiftE t1 ok1
  cases x with
  | true => exact iteT ⟨c1, H0, ρ, rfl, ok1, rel1, p1⟩
  | false => exact iteF ⟨c1, H0, ρ, rfl, ok1, rel1, p1⟩
theorem se_ix (C : Cxt X W n N sc) (hs : notSlice b' = true) (ha : PE X a' (tE X.K X.mg W a)) (hb : PE X b' (tE X.K X.mg W b)) : PE X (.Subscript a' b' pos) (tE X.K X.mg W (.ix a b)) := by
  refine (pe_ix (ix_X C.room) ha hb (plain_ok hs)).weak fun σ H Q h => ?_
  obtain ⟨c, H0, ρ, rfl, ok, rel, p⟩ := h
  have p : Post X.mg W σ c (JE X.K c) Q ((ev a ρ c.s).bind fun x s => (ev b ρ s).bind fun y s => kd s (ixD x.2 y.2)) := p
  refine tR.bind ok rel p fun x c1 xa ea t1 ok1 rel1 j1 p1 => ?_
  refine tR.bind ok1 rel1 (p1.shiftE t1 ok1) fun y c2 xb eb t2 ok2 rel2 j2 p2 => ?_
  obtain ⟨d, e, q⟩ := (p2.shiftE t2 ok2).kd
  exact ix_use ok2 (Is.step j1 t2) j2 e q
theorem se_slL {p2 : Pos} (ha : PE X a' (tE X.K X.mg W a)) (hb : PE X b' (tE X.K X.mg W b)) : PE X (.Subscript a' (.Slice (some b') none none p2) pos) (tE X.K X.mg W (.slL a b)) := by
  refine (pe_slice sl_S ha (po_some hb) po_none).weak fun σ H Q h => ?_
  obtain ⟨c, H0, ρ, rfl, ok, rel, p⟩ := h
  have p : Post X.mg W σ c (JE X.K c) Q ((ev a ρ c.s).bind fun x s => (ev b ρ s).bind fun y s => (intOf y s).bind fun i s => liftO s (slD x.2 (some i) none)) := p
  refine tR.bind ok rel p fun x c1 xa ea t1 ok1 rel1 j1 p1 => ?_
  refine tR.bind ok1 rel1 (p1.shiftE t1 ok1) fun y c2 xb eb t2 ok2 rel2 j2 p2 => ?_
  obtain ⟨i, ei, q⟩ := (p2.shiftE t2 ok2).int
  obtain ⟨k, d⟩ := xb
  have ei : d = .int i := ei
  subst ei
  obtain ⟨k, d, e, q⟩ := q.lift
  exact ⟨i, Is.int j2, sl_use ok2 (Is.step j1 t2) e q⟩
theorem se_slH {p2 : Pos} (ha : PE X a' (tE X.K X.mg W a)) (hb : PE X b' (tE X.K X.mg W b)) : PE X (.Subscript a' (.Slice none (some b') none p2) pos) (tE X.K X.mg W (.slH a b)) := by
  refine (pe_slice sl_S ha po_none (po_some hb)).weak fun σ H Q h => ?_
  obtain ⟨c, H0, ρ, rfl, ok, rel, p⟩ := h
  have p : Post X.mg W σ c (JE X.K c) Q ((ev a ρ c.s).bind fun x s => (ev b ρ s).bind fun y s => (intOf y s).bind fun i s => liftO s (slD x.2 none (some i))) := p
  refine tR.bind ok rel p fun x c1 xa ea t1 ok1 rel1 j1 p1 => ?_
  refine tR.bind ok1 rel1 (p1.shiftE t1 ok1) fun y c2 xb eb t2 ok2 rel2 j2 p2 => ?_
  obtain ⟨i, ei, q⟩ := (p2.shiftE t2 ok2).int
  obtain ⟨k, d⟩ := xb
  have ei : d = .int i := ei
  subst ei
  obtain ⟨k, d, e, q⟩ := q.lift
  exact ⟨i, Is.int j2, sl_use ok2 (Is.step j1 t2) e q⟩
theorem se_slB {p2 : Pos} {h' : Expr} {hi : CE Y.S} (ha : PE X a' (tE X.K X.mg W a)) (hb : PE X b' (tE X.K X.mg W b)) (hh : PE X h' (tE X.K X.mg W hi)) : PE X (.Subscript a' (.Slice (some b') (some h') none p2) pos) (tE X.K X.mg W (.slB a b hi)) := by
  refine (pe_slice sl_S ha (po_some hb) (po_some hh)).weak fun σ H Q h => ?_
  obtain ⟨c, H0, ρ, rfl, ok, rel, p⟩ := h
  have p : Post X.mg W σ c (JE X.K c) Q ((ev a ρ c.s).bind fun x s => (ev b ρ s).bind fun y s => (intOf y s).bind fun i s => (ev hi ρ s).bind fun z s => (intOf z s).bind fun j s => liftO s (slD x.2 (some i) (some j))) := p
  refine tR.bind ok rel p fun x c1 xa ea t1 ok1 rel1 j1 p1 => ?_
  refine tR.bind ok1 rel1 (p1.shiftE t1 ok1) fun y c2 xb eb t2 ok2 rel2 j2 p2 => ?_
  obtain ⟨i, ei, q⟩ := (p2.shiftE t2 ok2).int
  obtain ⟨k, d⟩ := xb
  have ei : d = .int i := ei
  subst ei
  refine ⟨i, Is.int j2, tR.bind ok2 rel2 q fun z c3 xc ec t3 ok3 rel3 j3 p3 => ?_⟩
  obtain ⟨j, ej, q⟩ := (p3.shiftE t3 ok3).int
  obtain ⟨k, d⟩ := xc
  have ej : d = .int j := ej
  subst ej
  obtain ⟨k, d, e, q⟩ := q.lift
  exact ⟨j, Is.int j3, sl_use ok3 (Is.step (Is.step j1 t2) t3) e q⟩
theorem se_tup {es : List Expr} {cs : CA Y.S} {k : Nat} (ha : PA X es (tA X.K X.mg W cs)) : PE X (.Tuple es k pos) (tE X.K X.mg W (.tup cs)) := by
  refine (pe_tupZ ha).weak fun σ H Q h => ?_
  obtain ⟨c, H0, ρ, rfl, ok, rel, p⟩ := h
  have p : Post X.mg W σ c (JE X.K c) Q ((evA cs ρ c.s).bind fun ds s => if lenOk ds.length then .ok (.v, .tup ds) s else .er) := p
  refine tR.bind ok rel p fun xs c1 ds ea t1 ok1 rel1 j1 p1 => ?_
  have j1 : Reps X.K c1.F xs ds := j1
  have p1 := p1.shiftE t1 ok1
  split at p1
  · rename_i hl
    exact ⟨by rw [j1.length]; exact szM hl, p1.fi.tup ok1 j1⟩
  · exact p1.elim
theorem se_lst {es : List Expr} {cs : CA Y.S} (ha : PA X es (tA X.K X.mg W cs)) : PE X (.List es pos) (tE X.K X.mg W (.lst cs)) := by
  refine (pe_lst ha).weak fun σ H Q h => ?_
  obtain ⟨c, H0, ρ, rfl, ok, rel, p⟩ := h
  have p : Post X.mg W σ c (JE X.K c) Q ((evA cs ρ c.s).bind fun ds s => if lenOk ds.length then .ok (.t, .lst ds) s else .er) := p
  refine tR.bind ok rel p fun xs c1 ds ea t1 ok1 rel1 j1 p1 => ?_
  have j1 : Reps X.K c1.F xs ds := j1
  have p1 := p1.shiftE t1 ok1
  split at p1
  · rename_i hl
    exact ⟨by rw [j1.length]; exact szM hl, p1.fi.lst ok1 j1⟩
  · exact p1.elim
theorem sa_nil : PA X [] (tA (Y := Y) X.K X.mg W .nil) := by
  refine pa_nil.weak fun σ H Q h => ?_
  obtain ⟨c, H0, ρ, rfl, ok, rel, p⟩ := h
  have p : Post X.mg W σ c (JA X.K c) Q (.ok [] c.s) := p
  exact p.fin ok Reps.nil
theorem sa_cons {es : List Expr} {cs : CA Y.S} (hs : notStar a' = true) (ha : PE X a' (tE X.K X.mg W a)) (hr : PA X es (tA X.K X.mg W cs)) : PA X (a' :: es) (tA X.K X.mg W (.cons a cs)) := by
  refine (pa_cons ha hr (star_cons hs _ _)).weak fun σ H Q h => ?_
  obtain ⟨c, H0, ρ, rfl, ok, rel, p⟩ := h
  have p : Post X.mg W σ c (JA X.K c) Q ((ev a ρ c.s).bind fun x s => (dat x s).bind fun d s => (evA cs ρ s).bind fun ds s => .ok (d :: ds) s) := p
  refine tR.bind ok rel p fun x c1 xa ea t1 ok1 rel1 j1 p1 => ?_
  obtain ⟨ko, p1⟩ := p1.dat
  obtain ⟨c2, es2, eh2, t2, ok2, r2⟩ := Is.data j1 ko t1 ok1
  rw [← eh2]
  rw [← es2] at p1
  have rel2 := rel.step t2
  have p1 := p1.shift (J' := JA X.K c2) t2 ok2 fun _ _ _ z => z
  refine tR.bind ok2 rel2 p1 fun vs c3 ds ea3 t3 ok3 rel3 j3 p3 => ?_
  have j3 : Reps X.K c3.F vs ds := j3
  exact (p3.shift (J' := JA X.K c3) t3 ok3 fun _ _ _ z => z).fin ok3 (Reps.cons (r2.mono t3.f) j3)
end
end Mf
set_option Elab.async false
set_option linter.all false
set_option maxRecDepth 100000
set_option maxHeartbeats 1000000
namespace Mf
open PySem L2

section
variable {X : Cx} {Y : Sys} {W : WX} {n : Nat} {N : List Str} {sc : Scope} {pos p p2 : Pos} {a' b' c' : Expr} {a b e : CE Y.S}
theorem Cxt.gl (C : Cxt X W n N sc) {x : Str} (h : glB sc x = true) : Gl X x := by
  unfold Gl Env.kindOf
  rw [C.hs]
  exact (glB_ok h).1
theorem Cxt.bltn (C : Cxt X W n N sc) {x : Str} (h : bltNames.contains x = true) : X.mg x = none := C.blt x (List.contains_iff_mem.mp h)
theorem se_call {x : Str} {m : Nat} {g : Sem Y.S} {es : List Expr} {cs : CA Y.S} (C : Cxt X W n N sc) (hg : glB sc x = true) (hx : Has X.prog X.w X.K X.mg X.base Y n x m g) (hc : chkA N sc cs es = true) (ha : PA X es (tA X.K X.mg W cs)) : PE X (.Call (.Name x p) es [] pos) (tE X.K X.mg W (.call x m g cs)) := by
  obtain ⟨f, fd, ps, hl, F, hm, hk, hb⟩ := hx.has
  obtain ⟨E, hE⟩ := C.we
  have tk : Takes X (fun cls d _ H => E cls d H) := by rw [← hE]; exact C.tk
  have ps' : Passes (L2.CX X.prog X.w) X E := passes_call tk fun _ _ _ _ z => z
  have hdb := (glB_ok hg).2.1
  have go : ∀ σ H Q, tE X.K X.mg W (.call x m g cs) σ H Q → tCall (spOf (Y := Y) X.K X.mg m g) [] E (tA X.K X.mg W cs) σ H Q := fun σ H Q h => by
    obtain ⟨c, H0, ρ, rfl, ok, rel, p⟩ := h
    have p : Post X.mg W σ c (JE X.K c) Q ((evA cs ρ c.s).bind fun ds s => if ds.length = m then (g ds s).bind fun d s => .ok (.v, d) s else .er) := p
    refine tR.bind ok rel p fun vs c1 ds ea t1 ok1 rel1 j1 p1 => ?_
    have j1 : Reps X.K c1.F vs ds := j1
    have p1 := p1.shiftE t1 ok1
    split at p1
    · rename_i hd
      rw [List.append_nil]
      refine ⟨c1, ds, rfl, ok1, j1, by rw [j1.length]; exact hd, ?_⟩
      cases er : g ds c1.s with
      | ok d s' =>
        rw [er] at p1
        exact fun v c2 es t2 ok2 r2 => p1 v c2 es t2 ok2 r2
      | ex y s' =>
        rw [er] at p1
        intro C' c2 e1 e2 t2 ok2
        have q := p1 C' c2 e1 e2 t2 ok2
        rw [hE] at q
        exact q
      | er => rw [er] at p1; exact p1
    · exact p1.elim
  cases es with
  | nil =>
    cases cs with
    | nil =>
      refine (pe_call0 F C.room (C.gl hg) hm hk hb .nil ps' hdb).weak fun σ H Q h => ?_
      obtain ⟨c, H0, ρ, rfl, ok, rel, p⟩ := h
      have p : Post X.mg W σ c (JE X.K c) Q (if ([] : List D).length = m then (g [] c.s).bind fun d s => .ok (.v, d) s else .er) := p
      split at p
      · rename_i hd
        refine ⟨c, [], rfl, ok, .nil, hd, ?_⟩
        cases er : g [] c.s with
        | ok d s' =>
          rw [er] at p
          exact fun v c2 es t2 ok2 r2 => p v c2 es t2 ok2 r2
        | ex y s' =>
          rw [er] at p
          intro C' c2 e1 e2 t2 ok2
          have q := p C' c2 e1 e2 t2 ok2
          rw [hE] at q
          exact q
        | er => rw [er] at p; exact p
      · exact p.elim
    | cons _ _ => cases hc
  | cons e1 es =>
    cases cs with
    | nil => cases hc
    | cons k ks =>
      unfold chkA at hc
      simp only [Bool.and_eq_true] at hc
      exact (pe_call F C.room (C.gl hg) hm hk hb .nil ps' ha hdb (star_cons hc.1.1 _ _) (star_none hc.2)).weak go
theorem pe_call1 {x : Str} {u : Value} {r : List V → Hp → VK → Prop} {t : TA} (hc : CallR X u r) (hu : (∃ id, u = .builtin id) ∨ ∃ T, u = .type T) (hg : Gl X x) (hm : X.mg x = none) (hv : bootBuiltins x = some u) (hn : x ≠ "__name__") (hdb : (x == ("__debug__" : Str)) = false) {es : List Expr} (ha : PA X (a' :: es) t) (hs : notStar a' = true)
    (hp : (backTo pos (starEach es X.env)).any (·.1) = false) : PE X (.Call (.Name x p) (a' :: es) [] pos) (tCB r t) := by
  rcases hu with ⟨id, rfl⟩ | ⟨T, rfl⟩
  · exact pe_callB hc hg hm hv ha hn hdb (star_cons hs _ _) hp
  · exact pe_callTy hc hg hm hv ha hn hdb (star_cons hs _ _) hp
theorem vlB_or (f : B1) : (∃ id, vlB f = .builtin id) ∨ ∃ T, vlB f = .type T := by
  cases f <;> first | exact .inl ⟨_, rfl⟩ | exact .inr ⟨_, rfl⟩
theorem boot_1 (f : B1) : bootBuiltins (nmB f) = some (vlB f) := by
  cases f <;> decide +kernel
theorem in_1 (f : B1) : bltNames.contains (nmB f) = true := by
  cases f <;> decide +kernel
theorem se_b1 {f : B1} (C : Cxt X W n N sc) (hg : glB sc (nmB f) = true) (hs : notStar a' = true) (ha : PE X a' (tE X.K X.mg W a)) : PE X (.Call (.Name (nmB f) p) [a'] [] pos) (tE X.K X.mg W (.b1 f a)) := by
  refine (pe_call1 (call_1 C.room C.calm f) (vlB_or f) (C.gl hg) (C.bltn (in_1 f)) (boot_1 f) (glB_ok hg).2.2 (glB_ok hg).2.1 (pa_cons ha pa_nil (star_cons hs _ _)) hs rfl).weak fun σ H Q h => ?_
  obtain ⟨c, H0, ρ, rfl, ok, rel, p⟩ := h
  have p : Post X.mg W σ c (JE X.K c) Q ((ev a ρ c.s).bind fun x s => liftO s (b1D f x.2)) := p
  refine tR.bind ok rel p fun x c1 xa ea t1 ok1 rel1 j1 p1 => ?_
  obtain ⟨k, d, e, q⟩ := (p1.shiftE t1 ok1).lift
  exact b1_use ok1 j1 e q
theorem few_ok {cpos : Pos} {e' : Expr} (hs : notStar e' = true) : ((backTo cpos (starEach [e'] X.env)).all (fun x => !x.1) && (backToKw cpos (keywordEach [] X.env)).all (fun x => x.1.isSome) && decide ([e'].length + ([] : List Keyword).length + (if ([] : List Keyword).isEmpty then 0 else 1) < 30)) = true := by
  rw [star_cons hs]
  rfl
theorem rcv_base {o : Expr} {m : Str} (h : rcvE o = true) : attributeBase o m X.env (eval o X.env) = eval o X.env := by
  cases o <;> first | rfl | cases h
theorem pe_bmM (f : M1) {o : Expr} {apos cpos : Pos} {to : TE} {t : TA} {r : V → List V → Hp → VK → Prop} (hm : MtR X (idM f) r) (ho : PE X o to) (ha : PA X [a'] t) (hr : rcvE o = true) (hs : notStar a' = true) (hl : (apos.endLine == cpos.line) = true) :
    PE X (.Call (.Attribute o (nmM f) apos) [a'] [] cpos) (tBM X.K (tyM f) r to t) := by
  cases f with
  | sindex => exact pe_bm PySem.F.plainAttrs_str PySem.F.slot_str_index PySem.F.type_str_index hm ho ha (rcv_base hr) (few_ok hs) hl (star_cons hs _ _) rfl
  | lindex => exact pe_bm PySem.F.plainAttrs_list PySem.F.slot_list_index PySem.F.type_list_index hm ho ha (rcv_base hr) (few_ok hs) hl (star_cons hs _ _) rfl
  | lcount => exact pe_bm PySem.F.plainAttrs_list PySem.F.slot_list_count PySem.F.type_list_count hm ho ha (rcv_base hr) (few_ok hs) hl (star_cons hs _ _) rfl
theorem se_m1 {f : M1} {apos cpos : Pos} (C : Cxt X W n N sc) (hr : rcvE a' = true) (hs : notStar b' = true) (hl : (apos.endLine == cpos.line) = true) (ha : PE X a' (tE X.K X.mg W a)) (hb : PE X b' (tE X.K X.mg W b)) :
    PE X (.Call (.Attribute a' (nmM f) apos) [b'] [] cpos) (tE X.K X.mg W (.m1 f a b)) := by
  refine (pe_bmM f (mt_M C.room f) ha (pa_cons hb pa_nil (star_cons hs _ _)) hr hs hl).weak fun σ H Q h => ?_
  obtain ⟨c, H0, ρ, rfl, ok, rel, p⟩ := h
  have p : Post X.mg W σ c (JE X.K c) Q ((ev a ρ c.s).bind fun x s => if rcvD f x.2 then (ev b ρ s).bind fun y s => liftO s (m1D f x.2 y.2) else .er) := p
  refine tR.bind ok rel p fun x c1 xa ea t1 ok1 rel1 j1 p1 => ?_
  have p1 := p1.shiftE t1 ok1
  split at p1
  · rename_i hrc
    refine ⟨rcv_ty ok1 j1 hrc, ?_⟩
    refine tR.bind ok1 rel1 p1 fun y c2 xb eb t2 ok2 rel2 j2 p2 => ?_
    obtain ⟨k, d, e, q⟩ := (p2.shiftE t2 ok2).lift
    exact m1_use ok2 (Is.step j1 t2) j2 e q
  · exact p1.elim
theorem boot_T (t : Ty) : bootBuiltins (Str.ofString (nmT t)) = some (.type (nmT t)) := by
  cases t <;> decide +kernel
theorem in_T (t : Ty) : bltNames.contains (Str.ofString (nmT t)) = true := by
  cases t <;> decide +kernel
theorem se_isi {t : Ty} {p3 : Pos} (C : Cxt X W n N sc) (hg : glB sc "isinstance" = true) (hg2 : glB sc (Str.ofString (nmT t)) = true) (hs : notStar a' = true) (ha : PE X a' (tE X.K X.mg W a)) : PE X (.Call (.Name "isinstance" p) [a', .Name (Str.ofString (nmT t)) p2] [] pos) (tE X.K X.mg W (.isi a t)) := by
  have hT : PE X (.Name (Str.ofString (nmT t)) p2) (tC (.ty (nmT t))) := pe_bltn (C.gl hg2) (C.bltn (in_T t)) (boot_T t) rfl (glB_ok hg2).2.2 (glB_ok hg2).2.1
  refine (pe_call1 call_isi (.inl ⟨_, rfl⟩) (C.gl hg) (C.bltn (by decide +kernel)) (by decide +kernel) (glB_ok hg).2.2 (glB_ok hg).2.1 (pa_cons ha (pa_cons hT pa_nil) (star_cons hs _ _)) hs rfl).weak fun σ H Q h => ?_
  obtain ⟨c, H0, ρ, rfl, ok, rel, p⟩ := h
  have p : Post X.mg W σ c (JE X.K c) Q ((ev a ρ c.s).bind fun x s => kd s ((isiD t x.2).map .bl)) := p
  refine tR.bind ok rel p fun x c1 xa ea t1 ok1 rel1 j1 p1 => ?_
  obtain ⟨d, e, q⟩ := (p1.shiftE t1 ok1).kd
  obtain ⟨r, e1, e2⟩ := Option.map_eq_some_iff.mp e
  subst e2
  exact isi_use ok1 j1 e1 (q.here ok1 (.bl r))
end

/-! ### what is walked -/
section
variable {Y : Sys} {K : PySem.W.Frag} {G : Cf Y → Prop} {z : Bool}
theorem gd_lst {q : Addr} {ds : List D} (h : ∀ c, G c → Ok c → ∃ vs, c.H q = some (.lst vs) ∧ Reps K c.F vs ds) : Gd K z (Itl K q) G ds := by
  intro c hG ok i
  obtain ⟨vs, e, r⟩ := h c hG ok
  refine ⟨fun hi => ⟨vs, .inl (.inl e), by rw [r.length]; exact hi⟩, fun d hd => ?_⟩
  obtain ⟨v, hv, rv⟩ := r.get hd
  refine ⟨⟨vs, v, .inl (.inl e), hv⟩, fun x H' hy => ?_⟩
  obtain ⟨rfl, hy⟩ := hy
  have ex : x = v := Option.some.inj ((hy vs (.inl (.inl e))).symm.trans hv)
  subst ex
  exact ⟨c, rfl, rfl, Step.refl c, ok, .inl rv⟩
theorem gd_tup {q : Addr} {ds : List D} (h : ∀ c, G c → Ok c → ∃ vs, SqT K c.H q vs ∧ Reps K c.F vs ds) : Gd K z (Itt K q) G ds := by
  intro c hG ok i
  obtain ⟨vs, e, r⟩ := h c hG ok
  refine ⟨fun hi => ⟨vs, e, by rw [r.length]; exact hi⟩, fun d hd => ?_⟩
  obtain ⟨v, hv, rv⟩ := r.get hd
  refine ⟨⟨vs, v, e, hv⟩, fun x H' hy => ?_⟩
  obtain ⟨rfl, hy⟩ := hy
  have ex : x = v := Option.some.inj ((hy vs e).symm.trans hv)
  subst ex
  exact ⟨c, rfl, rfl, Step.refl c, ok, .inl rv⟩
theorem gd_str {y : Str} : Gd K z (Its y) G (y.cps.toList.map fun c => .str ⟨#[c]⟩) := by
  intro c hG ok i
  refine ⟨fun hi => ?_, fun d hd => ?_⟩
  · rw [List.length_map, Array.length_toList] at hi
    exact hi
  · rw [List.getElem?_map, Array.getElem?_toList] at hd
    obtain ⟨cc, e1, e2⟩ := Option.map_eq_some_iff.mp hd
    refine ⟨(Array.getElem?_eq_some_iff.mp e1).1, fun x H' hy => ?_⟩
    obtain ⟨rfl, c2, e3, rfl⟩ := hy
    rw [e1] at e3
    cases e3
    subst e2
    exact ⟨c, rfl, rfl, Step.refl c, ok, .inl (.str _)⟩
theorem gd_rng {k : Nat} : Gd K z (Itr 0 k) G (rngD k) := by
  intro c hG ok i
  unfold rngD
  refine ⟨fun hi => ?_, fun d hd => ?_⟩
  · rw [List.length_map, List.length_range] at hi
    exact hi
  · rw [List.getElem?_map] at hd
    obtain ⟨j, e1, e2⟩ := Option.map_eq_some_iff.mp hd
    obtain ⟨hj, e3⟩ := List.getElem?_eq_some_iff.mp e1
    rw [List.getElem_range] at e3
    subst e3
    rw [List.length_range] at hj
    refine ⟨hj, fun x H' hy => ?_⟩
    obtain ⟨rfl, rfl⟩ := hy
    subst e2
    rw [Int.zero_add]
    exact ⟨c, rfl, rfl, Step.refl c, ok, .inl (.int _)⟩
theorem zipD_get : ∀ {xs ys : List D} {i : Nat} {d : D}, (zipD xs ys)[i]? = some d → ∃ x y, xs[i]? = some x ∧ ys[i]? = some y ∧ d = .tup [x, y]
  | [], _, i, d, h => by simp [zipD] at h
  | _ :: _, [], i, d, h => by simp [zipD] at h
  | x :: xs, y :: ys, 0, d, h => by
    simp [zipD] at h
    exact ⟨x, y, rfl, rfl, h.symm⟩
  | x :: xs, y :: ys, i + 1, d, h => by
    simp [zipD] at h
    obtain ⟨a, b, h1, h2, h3⟩ := zipD_get h
    exact ⟨a, b, by simpa using h1, by simpa using h2, h3⟩
theorem zipD_len : ∀ (xs ys : List D), (zipD xs ys).length = min xs.length ys.length
  | [], _ => by simp [zipD]
  | _ :: _, [] => by simp [zipD]
  | x :: xs, y :: ys => by
    simp [zipD, zipD_len xs ys]
theorem gd_pair {c : Cf Y} (ok : Ok c) {T : Addr} {x y : V} {d e : D} (hT : c.H T = none) (hx : Rep K c.F x d) (hy : Rep K c.F y e) :
    ∃ c' : Cf Y, c'.H = upd c.H T (.tup [x, y]) ∧ c'.s = c.s ∧ Step c c' ∧ Ok c' ∧ RepW K true c'.F (.ref T) (.tup [d, e]) :=
  ⟨⟨upd c.F T (.tup [x, y]), upd c.H T (.tup [x, y]), c.s⟩, rfl, rfl, Step.new ok hT _, ok.new hT _, .inr ⟨rfl, T, _, _, rfl, rfl, .inl (.inl upd_same), .cons (hx.mono (Step.new ok hT (.tup [x, y])).f) (.cons (hy.mono (Step.new ok hT (.tup [x, y])).f) .nil)⟩⟩
theorem gd_zipL {q q2 : Addr} {ds es : List D} (h : ∀ c, G c → Ok c → ∃ vs, c.H q = some (.lst vs) ∧ Reps K c.F vs ds) (h2 : ∀ c, G c → Ok c → ∃ vs, c.H q2 = some (.lst vs) ∧ Reps K c.F vs es) : Gd K true (Itz K q q2) G (zipD ds es) := by
  intro c hG ok i
  obtain ⟨vs, e, r⟩ := h c hG ok
  obtain ⟨vs2, e2, r2⟩ := h2 c hG ok
  refine ⟨fun hi => ⟨vs, vs2, .inl (.inl e), .inl (.inl e2), ?_⟩, fun d hd => ?_⟩
  · rw [zipD_len] at hi
    rw [r.length, r2.length]
    omega
  · obtain ⟨dx, dy, g1, g2, rfl⟩ := zipD_get hd
    obtain ⟨v, hv, rv⟩ := r.get g1
    obtain ⟨v2, hv2, rv2⟩ := r2.get g2
    refine ⟨⟨vs, vs2, v, v2, .inl (.inl e), .inl (.inl e2), hv, hv2⟩, fun x H' hy => ?_⟩
    obtain ⟨T, x1, x2, rfl, hT, rfl, f1, f2⟩ := hy
    have ex : x1 = v := Option.some.inj ((f1 vs (.inl (.inl e))).symm.trans hv)
    have ex2 : x2 = v2 := Option.some.inj ((f2 vs2 (.inl (.inl e2))).symm.trans hv2)
    subst ex ex2
    exact gd_pair ok hT rv rv2
theorem gd_zipT {q q2 : Addr} {ds es : List D} (h : ∀ c, G c → Ok c → ∃ vs, SqT K c.H q vs ∧ Reps K c.F vs ds) (h2 : ∀ c, G c → Ok c → ∃ vs, SqT K c.H q2 vs ∧ Reps K c.F vs es) : Gd K true (RZ.ItzT K q q2) G (zipD ds es) := by
  intro c hG ok i
  obtain ⟨vs, e, r⟩ := h c hG ok
  obtain ⟨vs2, e2, r2⟩ := h2 c hG ok
  refine ⟨fun hi => ⟨vs, vs2, e, e2, ?_⟩, fun d hd => ?_⟩
  · rw [zipD_len] at hi
    rw [r.length, r2.length]
    omega
  · obtain ⟨dx, dy, g1, g2, rfl⟩ := zipD_get hd
    obtain ⟨v, hv, rv⟩ := r.get g1
    obtain ⟨v2, hv2, rv2⟩ := r2.get g2
    refine ⟨⟨vs, vs2, v, v2, e, e2, hv, hv2⟩, fun x H' hy => ?_⟩
    obtain ⟨T, x1, x2, rfl, hT, rfl, f1, f2⟩ := hy
    have ex : x1 = v := Option.some.inj ((f1 vs e).symm.trans hv)
    have ex2 : x2 = v2 := Option.some.inj ((f2 vs2 e2).symm.trans hv2)
    subst ex ex2
    exact gd_pair ok hT rv rv2
/-- an operand that is walked: in a for it is given up first -/
theorem walk_of {st : Bool} {c c1 : Cf Y} {x : V} {k : K3} {d : D} (hk : st = true → k ≠ .o) (j : Is K c.H c1 k x d) (t : Step c c1) (ok : Ok c1) :
    ∃ c2 : Cf Y, ∃ k2 : K3, c2.s = c1.s ∧ c2.H = c1.H ∧ Step c c2 ∧ Ok c2 ∧ Is K c.H c2 k2 x d ∧ (st = true → k2 = .v) := by
  cases st with
  | false => exact ⟨c1, k, rfl, rfl, t, ok, j, fun z => nomatch z⟩
  | true =>
    obtain ⟨c2, e1, e2, t2, ok2, r⟩ := Is.data j (hk rfl) t ok
    exact ⟨c2, .v, e1, e2, t2, ok2, r, fun _ => rfl⟩
theorem Is.later {st : Bool} {Hs : Hp} {c c2 : Cf Y} {x : V} {k : K3} {d : D} (j : Is K Hs c k x d) (hk : st = true → k = .v) (h : if st = true then Sub c.F c2.F else Step c c2) : Is K Hs c2 k x d := by
  cases st with
  | false => exact Is.step j h
  | true =>
    have hk := hk rfl
    subst hk
    exact Rep.mono h j
end
section
variable {X : Cx} {Y : Sys} {W : WX} {n : Nat} {N : List Str} {sc : Scope} {pos p p2 : Pos} {a' b' c' tg : Expr} {a b e : CE Y.S} {st : Bool}
theorem si_seq (ha : PE X a' (tE X.K X.mg W a)) : PI X tg a' (tI X.K X.mg W st (.seq a)) := by
  refine (pi_seq ha).weak fun σ H R h => ?_
  obtain ⟨c, H0, ρ, rfl, ok, rel, p⟩ := h
  have p : Post X.mg W σ c (JI X.K st false c) R ((ev a ρ c.s).bind fun x s => (stk st x s).bind fun x s => liftO s (itemsD x.2)) := p
  refine tR.bind ok rel p fun x c1 xa ea t1 ok1 rel1 j1 p1 => ?_
  obtain ⟨hk, p1⟩ := p1.stk
  obtain ⟨k, d⟩ := xa
  obtain ⟨c2, k2, e1, e2, t2, ok2, j2, hv⟩ := walk_of hk j1 t1 ok1
  have p1 : Post X.mg W σ c (JI X.K st false c) R (liftO c1.s (itemsD d)) := p1
  have fin : ∀ {J : It} {ds : List D}, itemsD d = some ds → Gd X.K false J (fun c'' : Cf Y => Is X.K c.H c'' k2 x d) ds → R J c1.H := fun {J ds} ed g => by
    rw [ed] at p1
    rw [← e2]
    exact p1 J c2 e1 t2 ok2 ⟨_, g, fun c'' h => Is.later j2 hv h⟩
  cases d with
  | lst ds =>
    obtain ⟨q, vs, rfl, h1, r1⟩ := Is.lst j1 ok1
    refine .inl ⟨q, rfl, ⟨vs, .inl (.inl h1)⟩, fin rfl (gd_lst fun c'' g ok'' => ?_)⟩
    obtain ⟨q', vs', e3, h3, r3⟩ := Is.lst g ok''
    cases e3
    exact ⟨vs', h3, r3⟩
  | tup ds =>
    obtain ⟨q, vs, rfl, h1, _, r1⟩ := Is.tup j1 ok1
    refine .inr (.inl ⟨q, rfl, ⟨vs, h1⟩, fin rfl (gd_tup fun c'' g ok'' => ?_)⟩)
    obtain ⟨q', vs', e3, h3, _, r3⟩ := Is.tup g ok''
    cases e3
    exact ⟨vs', h3, r3⟩
  | str z => exact .inr (.inr ⟨z, Is.str j1, fin rfl gd_str⟩)
  | _ => exact p1.elim
theorem si_rng (C : Cxt X W n N sc) (hg : glB sc "range" = true) (hs : notStar a' = true) (ha : PE X a' (tE X.K X.mg W a)) : PI X tg (.Call (.Name "range" p) [a'] [] pos) (tI X.K X.mg W st (.rng a)) := by
  refine (pi_range1 (C.gl hg) (C.bltn (by decide +kernel)) (pa_cons ha pa_nil (star_cons hs _ _)) (star_cons hs _ _)).weak fun σ H R h => ?_
  obtain ⟨c, H0, ρ, rfl, ok, rel, p⟩ := h
  have p : Post X.mg W σ c (JI X.K st false c) R ((ev a ρ c.s).bind fun x s => (intOf x s).bind fun n s => if decide (-1000000 ≤ n) && decide (n ≤ 1000000) then .ok (rngD n.toNat) s else .er) := p
  refine tR.bind ok rel p fun x c1 xa ea t1 ok1 rel1 j1 p1 => ?_
  obtain ⟨i, ei, q⟩ := p1.int
  obtain ⟨k, d⟩ := xa
  have ei : d = .int i := ei
  subst ei
  split at q
  · rename_i hb
    simp only [Bool.and_eq_true, decide_eq_true_eq] at hb
    exact ⟨i, by rw [Is.int j1], by omega, by omega, q _ c1 rfl t1 ok1 ⟨fun _ => True, gd_rng, fun _ _ => trivial⟩⟩
  · exact q.elim
theorem si_zip (C : Cxt X W n N sc) (hg : glB sc "zip" = true) (hs : notStar a' = true) (hs2 : notStar b' = true) (ht : isTupE tg = true) (ha : PE X a' (tE X.K X.mg W a)) (hb : PE X b' (tE X.K X.mg W b)) : PI X tg (.Call (.Name "zip" p) [a', b'] [] pos) (tI X.K X.mg W st (.zip a b)) := by
  cases tg <;> first | cases ht | skip
  refine (RZ.pi_zipA (C.gl hg) (C.bltn (by decide +kernel)) (pa_cons ha (pa_cons hb pa_nil (star_cons hs2 _ _)) (star_cons hs _ _)) (star_cons hs _ _) (by rw [star_cons hs2]; rfl)).weak fun σ H R h => ?_
  obtain ⟨c, H0, ρ, rfl, ok, rel, p⟩ := h
  have p : Post X.mg W σ c (JI X.K st true c) R ((ev a ρ c.s).bind fun x s => (stk st x s).bind fun x s => (ev b ρ s).bind fun y s => (stk st y s).bind fun y s => liftO s (zipK x.2 y.2)) := p
  refine tR.bind ok rel p fun x c1 xa ea t1 ok1 rel1 j1 p1 => ?_
  obtain ⟨hk, p1⟩ := p1.stk
  obtain ⟨k, d⟩ := xa
  obtain ⟨c2, k2, e1, e2, t2, ok2, j2, hv⟩ := walk_of hk j1 t1 ok1
  rw [← e2]
  rw [← e1] at p1
  have p1 := p1.shift (J' := JI X.K st true c2) t2 ok2 fun _ _ _ z => z
  refine tR.bind ok2 (rel.step t2) p1 fun y c3 ya eb t3 ok3 rel3 j3 p3 => ?_
  obtain ⟨hk3, p3⟩ := p3.stk
  obtain ⟨k3, d3⟩ := ya
  obtain ⟨c4, k4, e3, e4, t4, ok4, j4, hv4⟩ := walk_of hk3 j3 t3 ok3
  have p3 : Post X.mg W σ c2 (JI X.K st true c2) R (liftO c3.s (zipK d d3)) := p3
  have fin : ∀ {J : It} {ds : List D}, zipK d d3 = some ds → Gd X.K true J (fun c'' : Cf Y => Is X.K c.H c'' k2 x d ∧ Is X.K c2.H c'' k4 y d3) ds → R J c3.H := fun {J ds} ed g => by
    rw [ed] at p3
    rw [← e4]
    refine p3 J c4 e3 t4 ok4 ⟨_, g, fun c'' h => ⟨?_, Is.later j4 hv4 h⟩⟩
    exact Is.later (Is.step j2 t4) hv h
  have j3' := Is.step j2 t3
  cases d with
  | lst ds =>
    cases d3 with
    | lst es =>
      obtain ⟨q, vs, rfl, h1, r1⟩ := Is.lst j3' ok3
      obtain ⟨q2, vs2, rfl, h2, r2⟩ := Is.lst j3 ok3
      refine ⟨q, q2, vs, vs2, rfl, .inl ⟨.inl (.inl h1), .inl (.inl h2), fin rfl (gd_zipL (fun c'' g ok'' => ?_) fun c'' g ok'' => ?_)⟩⟩
      · obtain ⟨q', vs', e3, h3, r3⟩ := Is.lst g.1 ok''
        cases e3
        exact ⟨vs', h3, r3⟩
      · obtain ⟨q', vs', e3, h3, r3⟩ := Is.lst g.2 ok''
        cases e3
        exact ⟨vs', h3, r3⟩
    | _ => exact p3.elim
  | tup ds =>
    cases d3 with
    | tup es =>
      obtain ⟨q, vs, rfl, h1, _, r1⟩ := Is.tup j3' ok3
      obtain ⟨q2, vs2, rfl, h2, _, r2⟩ := Is.tup j3 ok3
      refine ⟨q, q2, vs, vs2, rfl, .inr ⟨h1, h2, fin rfl (gd_zipT (fun c'' g ok'' => ?_) fun c'' g ok'' => ?_)⟩⟩
      · obtain ⟨q', vs', e3, h3, _, r3⟩ := Is.tup g.1 ok''
        cases e3
        exact ⟨vs', h3, r3⟩
      · obtain ⟨q', vs', e3, h3, _, r3⟩ := Is.tup g.2 ok''
        cases e3
        exact ⟨vs', h3, r3⟩
    | _ => exact p3.elim
  | _ => cases d3 <;> exact p3.elim
end
end Mf
set_option Elab.async false
set_option linter.all false
set_option maxRecDepth 100000
set_option maxHeartbeats 1000000
namespace Mf
open PySem L2

/-! ### slots -/
section
variable {Y : Sys} {K : PySem.W.Frag} {H0 : Hp} {c : Cf Y} {σ : L2.St} {ρ : List SV}
theorem Rel.set (r : Rel K H0 c σ ρ) {i : Nat} {v : V} {d : D} (h : Rep K c.F v d) (hi : i < ρ.length) : Rel K H0 c (σ.set i (some v)) (ρ.set i (.va d)) where
  len := by rw [List.length_set, List.length_set]; exact r.len
  va := fun j e hj => by
    by_cases q : i = j
    · subst q
      rw [List.getElem?_set_self hi] at hj
      cases hj
      exact ⟨v, List.getElem?_set_self (by rw [← r.len]; exact hi), h⟩
    · rw [List.getElem?_set_ne q] at hj
      obtain ⟨v', h1, h2⟩ := r.va j e hj
      exact ⟨v', by rw [List.getElem?_set_ne q]; exact h1, h2⟩
  ow := fun j e hj => by
    by_cases q : i = j
    · subst q
      rw [List.getElem?_set_self hi] at hj
      cases hj
    · rw [List.getElem?_set_ne q] at hj
      obtain ⟨v', h1, h2⟩ := r.ow j e hj
      exact ⟨v', by rw [List.getElem?_set_ne q]; exact h1, h2⟩
  ap := fun j k e e' p hjk hj hk hp => by
    by_cases q : i = j
    · subst q
      rw [List.getElem?_set_self hi] at hj
      cases hj
    · by_cases q' : i = k
      · subst q'
        rw [List.getElem?_set_self hi] at hk
        cases hk
      · rw [List.getElem?_set_ne q] at hj hp
        rw [List.getElem?_set_ne q'] at hk ⊢
        exact r.ap j k e e' p hjk hj hk hp
theorem Rel.unset (r : Rel K H0 c σ ρ) (i : Nat) (x : Option V) : Rel K H0 c (σ.set i x) (ρ.set i .no) where
  len := by rw [List.length_set, List.length_set]; exact r.len
  va := fun j e hj => by
    by_cases q : i = j
    · subst q
      by_cases hi : i < ρ.length
      · rw [List.getElem?_set_self hi] at hj; cases hj
      · rw [List.getElem?_eq_none (by rw [List.length_set]; omega)] at hj; cases hj
    · rw [List.getElem?_set_ne q] at hj
      obtain ⟨v', h1, h2⟩ := r.va j e hj
      exact ⟨v', by rw [List.getElem?_set_ne q]; exact h1, h2⟩
  ow := fun j e hj => by
    by_cases q : i = j
    · subst q
      by_cases hi : i < ρ.length
      · rw [List.getElem?_set_self hi] at hj; cases hj
      · rw [List.getElem?_eq_none (by rw [List.length_set]; omega)] at hj; cases hj
    · rw [List.getElem?_set_ne q] at hj
      obtain ⟨v', h1, h2⟩ := r.ow j e hj
      exact ⟨v', by rw [List.getElem?_set_ne q]; exact h1, h2⟩
  ap := fun j k e e' p hjk hj hk hp => by
    have no : ∀ {m : Nat} {e : D}, (ρ.set i .no)[m]? = some (SV.ow e) → i ≠ m := fun {m e} h q => by
      subst q
      by_cases hi : i < ρ.length
      · rw [List.getElem?_set_self hi] at h; cases h
      · rw [List.getElem?_eq_none (by rw [List.length_set]; omega)] at h; cases h
    have q := no hj
    have q' := no hk
    rw [List.getElem?_set_ne q] at hj hp
    rw [List.getElem?_set_ne q'] at hk ⊢
    exact r.ap j k e e' p hjk hj hk hp
theorem Rel.wipe (r : Rel K H0 c σ ρ) : ∀ vs : List Nat, Rel K H0 c (L2.wipe σ vs) (wipeR ρ vs)
  | [] => r
  | v :: vs => (Rel.wipe r vs).unset v none
end
theorem wipe_in {σ : L2.St} {i : Nat} : ∀ {vs : List Nat}, i ∈ vs → i < σ.length → (wipe σ vs)[i]? = some none
  | v :: vs, h, hi => by
    unfold wipe
    by_cases q : v = i
    · subst q
      exact List.getElem?_set_self (by rw [wipe_length]; exact hi)
    · rw [List.getElem?_set_ne q]
      exact wipe_in ((List.mem_cons.mp h).resolve_left fun z => q z.symm) hi
theorem wipe_ext {σ τ : L2.St} {vs : List Nat} (hl : σ.length = τ.length) (h : ∀ i, i ∉ vs → σ[i]? = τ[i]?) : wipe σ vs = wipe τ vs := by
  apply List.ext_getElem?
  intro i
  by_cases q : i ∈ vs
  · by_cases hi : i < σ.length
    · rw [wipe_in q hi, wipe_in q (by omega)]
    · rw [List.getElem?_eq_none (by rw [wipe_length]; omega), List.getElem?_eq_none (by rw [wipe_length]; omega)]
  · rw [wipe_out q, wipe_out q]
    exact h i q
theorem wipe_set {σ : L2.St} {i : Nat} {x : Option V} {vs : List Nat} (h : i ∈ vs) : wipe (σ.set i x) vs = wipe σ vs :=
  wipe_ext (by rw [List.length_set]) fun j hj => List.getElem?_set_ne (show i ≠ j from fun q => hj (q ▸ h))
theorem wipe_wipe {σ : L2.St} {vs : List Nat} : wipe (wipe σ vs) vs = wipe σ vs := wipe_ext (wipe_length _ _) fun i hi => wipe_out hi

/-! ### targets -/
def gL (K : PySem.W.Frag) : Tg → TGs
  | .nm _ => fun _ _ _ _ => False
  | .nil => gNil
  | .cons t r => gCons (match t with | .nm i => gName i | .nil => fun _ _ _ _ => False | .cons t' r' => gTup K (lenTg (.cons t' r')) (gL K (.cons t' r'))) (gL K r)
def gT (K : PySem.W.Frag) : Tg → TG
  | .nm i => gName i
  | .nil => fun _ _ _ _ => False
  | .cons t' r' => gTup K (lenTg (.cons t' r')) (gL K (.cons t' r'))
theorem asgL_len : ∀ {t : Tg} {ds : List D} {ρ ρ' : List SV}, asgL t ds ρ = some ρ' → ds.length = lenTg t
  | .nm _, _, _, _, h => by cases h
  | .nil, [], _, _, h => rfl
  | .nil, _ :: _, _, _, h => by cases h
  | .cons _ _, [], _, _, h => by cases h
  | .cons t r, d :: ds, ρ, ρ', h => by
    show ds.length + 1 = lenTg r + 1
    unfold asgL at h
    cases t with
    | nm i =>
      simp only at h
      split at h
      · rw [asgL_len h]
      · cases h
    | nil => cases h
    | cons t' r' =>
      simp only at h
      split at h
      · obtain ⟨ρ1, h1, h2⟩ := Option.bind_eq_some_iff.mp h
        rw [asgL_len h2]
      · cases h
theorem gL_use {Y : Sys} {K : PySem.W.Frag} {H0 : Hp} {c : Cf Y} (ok : Ok c) : ∀ {t : Tg} {ds : List D} {ρ ρ' : List SV} {σ : L2.St} {vs : List V} {Q : L2.St → Hp → Prop}, asgL t ds ρ = some ρ' → Rel K H0 c σ ρ → Reps K c.F vs ds →
    (∀ σ', Rel K H0 c σ' ρ' → σ'.length = σ.length → (∀ i, i ∉ slots t → σ'[i]? = σ[i]?) → Q σ' c.H) → gL K t vs σ c.H Q
  | .nm _, _, _, _, _, _, _, h, _, _, _ => by cases h
  | .nil, [], _, _, _, _, _, h, r, rv, q => by
    cases h
    cases rv
    exact ⟨rfl, q _ r rfl fun _ _ => rfl⟩
  | .nil, _ :: _, _, _, _, _, _, h, _, _, _ => by cases h
  | .cons _ _, [], _, _, _, _, _, h, _, _, _ => by cases h
  | .cons t r, d :: ds, ρ, ρ', σ, vs, Q, h, rel, rv, q => by
    cases rv with
    | cons rd rr =>
      rename_i v vr
      unfold gL
      refine ⟨v, vr, rfl, ?_⟩
      unfold asgL at h
      cases t with
      | nm i =>
        simp only at h
        split at h
        · rename_i hi
          refine gL_use ok h (rel.set rd hi) rr fun σ' r' l' s' => q σ' r' (by rw [l', List.length_set]) fun j hj => ?_
          rw [s' j fun z => hj (List.mem_append_right _ z)]
          exact List.getElem?_set_ne (show i ≠ j from fun z => hj (List.mem_append_left _ (by rw [← z]; exact List.mem_singleton_self _)))
        · cases h
      | nil =>
        cases h
      | cons t' r' =>
        simp only at h
        split at h
        · rename_i es
          obtain ⟨ρ1, h1, h2⟩ := Option.bind_eq_some_iff.mp h
          cases rd with
          | tup hq _ re =>
            refine ⟨_, _, rfl, sqT_sub ok.sub hq, by rw [re.length, asgL_len h1], ?_⟩
            refine gL_use ok h1 rel re fun σ1 rel1 l1 s1 => gL_use ok h2 rel1 rr fun σ' rel' l' s' => q σ' rel' (by rw [l', l1]) fun j hj => ?_
            rw [s' j fun z => hj (List.mem_append_right _ z)]
            exact s1 j fun z => hj (List.mem_append_left _ z)
        · cases h

/-- a tuple's target: what is in it alone counts -/
theorem gT_useW {Y : Sys} {K : PySem.W.Frag} {H0 : Hp} {c : Cf Y} (ok : Ok c) {t r : Tg} {ds : List D} {ρ ρ' : List SV} {σ : L2.St} {a : Addr} {vs : List V} {Q : L2.St → Hp → Prop} (h : asgT (.cons t r) (.tup ds) ρ = some ρ') (rel : Rel K H0 c σ ρ) (hq : SqT K c.F a vs) (rv : Reps K c.F vs ds)
    (q : ∀ σ', Rel K H0 c σ' ρ' → σ'.length = σ.length → (∀ i, i ∉ slots (.cons t r) → σ'[i]? = σ[i]?) → Q σ' c.H) : gT K (.cons t r) (.ref a) σ c.H Q := by
  unfold asgT asgL at h
  obtain ⟨ρ1, h1, h2⟩ := Option.bind_eq_some_iff.mp h
  cases h2
  exact ⟨a, vs, rfl, sqT_sub ok.sub hq, by rw [rv.length, asgL_len h1], gL_use ok h1 rel rv q⟩
theorem gT_use {Y : Sys} {K : PySem.W.Frag} {H0 : Hp} {c : Cf Y} (ok : Ok c) {t : Tg} {d : D} {ρ ρ' : List SV} {σ : L2.St} {v : V} {Q : L2.St → Hp → Prop} (h : asgT t d ρ = some ρ') (rel : Rel K H0 c σ ρ) (rv : Rep K c.F v d)
    (q : ∀ σ', Rel K H0 c σ' ρ' → σ'.length = σ.length → (∀ i, i ∉ slots t → σ'[i]? = σ[i]?) → Q σ' c.H) : gT K t v σ c.H Q := by
  have g := gL_use (Q := Q) ok h rel (Reps.cons rv .nil) fun σ' r' l' s' => q σ' r' l' fun i hi => s' i fun z => by
    rcases List.mem_append.mp z with z | z
    · exact hi z
    · cases z
  unfold gL at g
  obtain ⟨v', r', e, g⟩ := g
  cases e
  have fin : ∀ {σ : L2.St} {H : Hp}, gL K .nil [] σ H Q → Q σ H := fun g => by
    unfold gL at g
    exact g.2
  cases t with
  | nm i => exact fin g
  | nil => exact g
  | cons t' r' =>
    obtain ⟨a, xs, e1, e2, e3, g⟩ := g
    refine ⟨a, xs, e1, e2, e3, ?_⟩
    have mono : ∀ {t : Tg} {vs : List V} {σ : L2.St} {H : Hp} {Q Q' : L2.St → Hp → Prop}, (∀ σ H, Q σ H → Q' σ H) → gL K t vs σ H Q → gL K t vs σ H Q' := by
      intro t
      induction t with
      | nm i => intro vs σ H Q Q' _ h; exact h
      | nil => intro vs σ H Q Q' hq h; unfold gL at h ⊢; exact ⟨h.1, hq _ _ h.2⟩
      | cons t r iht ihr =>
        intro vs σ H Q Q' hq h
        unfold gL at h ⊢
        obtain ⟨v, rr, e, h⟩ := h
        refine ⟨v, rr, e, ?_⟩
        cases t with
        | nm i => exact ihr hq h
        | nil => exact h
        | cons t' r' =>
          obtain ⟨a, xs, f1, f2, f3, h⟩ := h
          exact ⟨a, xs, f1, f2, f3, iht (fun _ _ z => ihr hq z) h⟩
    exact mono (fun _ _ z => fin z) g
def consT : Tg → Bool
  | .cons _ _ => true
  | _ => false
theorem gT_any {Y : Sys} {K : PySem.W.Frag} {H0 : Hp} {c : Cf Y} {z : Bool} (ok : Ok c) {t : Tg} {d : D} {ρ ρ' : List SV} {σ : L2.St} {v : V} {Q : L2.St → Hp → Prop} (hz : z = true → consT t = true) (h : asgT t d ρ = some ρ') (rel : Rel K H0 c σ ρ) (rv : RepW K z c.F v d)
    (q : ∀ σ', Rel K H0 c σ' ρ' → σ'.length = σ.length → (∀ i, i ∉ slots t → σ'[i]? = σ[i]?) → Q σ' c.H) : gT K t v σ c.H Q := by
  rcases rv with rv | ⟨e, a, vs, ds, rfl, rfl, hq, rs⟩
  · exact gT_use ok h rel rv q
  · cases t with
    | cons t r => exact gT_useW ok h rel hq rs q
    | _ => cases hz e
section
variable {X : Cx} {N : List Str} {sc : Scope} {fns : Str → Bool}
theorem each_ok {env : Env} : ∀ {t : Tg} {es : List Expr}, chkTs N sc fns t es = true → (assignEach es env).length = lenTg t ∧ ∀ p ∈ assignEach es env, p.1 = false
  | .nm _, es, h => by cases es <;> cases h
  | .nil, [], _ => ⟨rfl, fun p hp => by cases hp⟩
  | .nil, _ :: _, h => by cases h
  | .cons t r, [], h => by cases t <;> cases h
  | .cons t r, e :: es, h => by
    cases t with
    | nm i =>
      cases e <;> first | cases h | skip
      unfold chkTs at h
      simp only [Bool.and_eq_true] at h
      obtain ⟨h1, h2⟩ := each_ok (env := env) h.2
      refine ⟨congrArg (· + 1) h1, fun p hp => ?_⟩
      rcases List.mem_cons.mp hp with z | z
      · rw [z]
      · exact h2 p z
    | nil => cases e <;> cases h
    | cons t' r' =>
      cases e <;> first | cases h | skip
      unfold chkTs at h
      simp only [Bool.and_eq_true] at h
      obtain ⟨h1, h2⟩ := each_ok (env := env) h.2
      refine ⟨congrArg (· + 1) h1, fun p hp => ?_⟩
      rcases List.mem_cons.mp hp with z | z
      · rw [z]
      · exact h2 p z
theorem pgs_ok (hN : X.N = N) (hs : X.env.scope = sc) (nd : N.Nodup) (hc : X.calm = true) (hf : X.fn = fns) : ∀ {t : Tg} {es : List Expr}, chkTs N sc fns t es = true → PGs X es (gL X.K t)
  | .nm _, es, h => by cases es <;> cases h
  | .nil, [], _ => by unfold gL; exact pgs_nil
  | .nil, _ :: _, h => by cases h
  | .cons t r, [], h => by cases t <;> cases h
  | .cons t r, e :: es, h => by
    cases t with
    | nm i =>
      cases e <;> first | cases h | skip
      rename_i x pos
      unfold chkTs at h
      simp only [Bool.and_eq_true] at h
      obtain ⟨⟨h1, h2⟩, h3⟩ := h
      unfold gL
      refine pgs_cons (pg_name (by rw [hN]; exact nd) (by rw [hN]; exact beq_iff_eq.mp h1) ?_ ?_) (pgs_ok hN hs nd hc hf h3) rfl
      · unfold L2.Loc
        rw [hs]
        split at h2
        · exact .inl (by assumption)
        · exact .inr (by assumption)
        · cases h2
      · rw [hf, hs]
        split at h2
        · exact .inr (by assumption)
        · exact .inl h2
        · cases h2
    | nil => cases e <;> cases h
    | cons t' r' =>
      cases e <;> first | cases h | skip
      rename_i es' kk pos
      unfold chkTs at h
      simp only [Bool.and_eq_true] at h
      unfold gL
      obtain ⟨e1, e2⟩ := each_ok (env := X.env) h.1
      refine pgs_cons (pg_tup hc (pgs_ok hN hs nd hc hf h.1) e1 ?_) (pgs_ok hN hs nd hc hf h.2) rfl
      rw [List.findIdx?_eq_none_iff]
      exact fun p hp => by simpa using e2 p hp
theorem pg_ok (hN : X.N = N) (hs : X.env.scope = sc) (nd : N.Nodup) (hc : X.calm = true) (hf : X.fn = fns) {t : Tg} {e : Expr} (h : chkT N sc fns t e = true) : PG X e (gT X.K t) := by
  unfold chkT at h
  cases t with
  | nm i =>
    cases e <;> first | cases h | skip
    rename_i x pos
    unfold chkTs at h
    simp only [Bool.and_eq_true] at h
    obtain ⟨⟨h1, h2⟩, h3⟩ := h
    refine pg_name (by rw [hN]; exact nd) (by rw [hN]; exact beq_iff_eq.mp h1) ?_ ?_
    · unfold L2.Loc
      rw [hs]
      split at h2
      · exact .inl (by assumption)
      · exact .inr (by assumption)
      · cases h2
    · rw [hf, hs]
      split at h2
      · exact .inr (by assumption)
      · exact .inl h2
      · cases h2
  | nil => cases e <;> cases h
  | cons t' r' =>
    cases e <;> first | cases h | skip
    rename_i es' kk pos
    unfold chkTs at h
    simp only [Bool.and_eq_true] at h
    obtain ⟨e1, e2⟩ := each_ok (env := X.env) h.1
    refine pg_tup hc (pgs_ok hN hs nd hc hf h.1) e1 ?_
    rw [List.findIdx?_eq_none_iff]
    exact fun p hp => by simpa using e2 p hp
end
end Mf
set_option Elab.async false
set_option linter.all false
set_option maxRecDepth 100000
set_option maxHeartbeats 1000000
namespace Mf
open PySem L2

abbrev W0 : WX := fun _ _ _ _ => False
/-- a comprehension's turn -/
def lcF {S : Type} (tg : Tg) (ifs : CA S) (elt : CE S) (ρ : List SV) : D → S → Res S (Option D) := fun d s => match asgT tg d ρ with
  | none => .er
  | some ρ' => (noEx (evT ifs ρ' s)).bind fun k s => if k then (noEx (ev elt ρ' s)).bind fun y s => (dat y s).bind fun e s => .ok (some e) s else .ok none s
theorem noEx_ok {S α : Type} {r : Res S α} {a : α} {s : S} (h : noEx r = .ok a s) : r = .ok a s := by
  cases r with
  | ok b t => exact h
  | _ => cases h
theorem bind_ok {S α β : Type} {r : Res S α} {f : α → S → Res S β} {b : β} {s : S} (h : r.bind f = .ok b s) : ∃ a t, r = .ok a t ∧ f a t = .ok b s := by
  cases r with
  | ok a t => exact ⟨a, t, rfl, h⟩
  | _ => cases h
theorem dat_ok {S : Type} {x : K3 × D} {s t : S} {d : D} (h : dat x s = .ok d t) : x.1 ≠ .o ∧ d = x.2 ∧ t = s := by
  obtain ⟨k, e⟩ := x
  cases k <;> cases h
  · exact ⟨fun z => (nomatch z), rfl, rfl⟩
  · exact ⟨fun z => (nomatch z), rfl, rfl⟩
theorem lcF_ok {S : Type} {tg : Tg} {ifs : CA S} {elt : CE S} {ρ : List SV} {d : D} {s s' : S} {o : Option D} (h : lcF tg ifs elt ρ d s = .ok o s') : ∃ ρ' k s1, asgT tg d ρ = some ρ' ∧ evT ifs ρ' s = .ok k s1 ∧
    ((k = true ∧ ∃ y, ev elt ρ' s1 = .ok y s' ∧ y.1 ≠ .o ∧ o = some y.2) ∨ (k = false ∧ o = none ∧ s' = s1)) := by
  unfold lcF at h
  split at h
  · cases h
  · rename_i ρ' e
    obtain ⟨k, s1, h1, h2⟩ := bind_ok h
    refine ⟨ρ', k, s1, e, noEx_ok h1, ?_⟩
    cases k with
    | true =>
      obtain ⟨y, s2, h3, h4⟩ := bind_ok (show (noEx (ev elt ρ' s1)).bind _ = _ from h2)
      obtain ⟨e', s3, h5, h6⟩ := bind_ok h4
      obtain ⟨h7, h8, h9⟩ := dat_ok h5
      subst h8 h9
      cases h6
      exact .inl ⟨rfl, y, noEx_ok h3, h7, rfl⟩
    | false =>
      have h2 : Res.ok none s1 = Res.ok o s' := h2
      cases h2
      exact .inr ⟨rfl, rfl, rfl⟩
theorem lcF_ex {S : Type} {tg : Tg} {ifs : CA S} {elt : CE S} {ρ : List SV} {d : D} {s s' : S} {x : Str} : lcF tg ifs elt ρ d s ≠ .ex x s' := by
  unfold lcF
  split
  · exact fun z => nomatch z
  · rename_i ρ' e
    cases evT ifs ρ' s with
    | ok k s1 =>
      cases k with
      | true =>
        show ((noEx (ev elt ρ' s1)).bind fun y s => (dat y s).bind fun e s => .ok (some e) s) ≠ _
        cases ev elt ρ' s1 with
        | ok y s2 =>
          obtain ⟨k3, dd⟩ := y
          cases k3 <;> exact fun z => nomatch z
        | _ => exact fun z => nomatch z
      | false => exact fun z => nomatch z
    | _ => exact fun z => nomatch z
theorem walkR_ex {S : Type} {f : D → S → Res S (Option D)} (hf : ∀ d s x s', f d s ≠ .ex x s') : ∀ (ds : List D) (s : S) (x : Str) (s' : S), walkR f ds s ≠ .ex x s'
  | [], _, _, _ => fun z => nomatch z
  | d :: ds, s, x, s' => by
    unfold walkR
    cases e : f d s with
    | ok o s1 =>
      show ((walkR f ds s1).bind _) ≠ _
      cases e2 : walkR f ds s1 with
      | ok r s2 => exact fun z => nomatch z
      | ex y s2 => exact absurd e2 (walkR_ex hf ds s1 y s2)
      | er => exact fun z => nomatch z
    | ex y s2 => exact absurd e (hf d s y s2)
    | er => exact fun z => nomatch z
theorem walkR_cons {S : Type} {f : D → S → Res S (Option D)} {d : D} {ds : List D} {s s' : S} {r : List D} (h : walkR f (d :: ds) s = .ok r s') : ∃ o s1 r', f d s = .ok o s1 ∧ walkR f ds s1 = .ok r' s' ∧ r = o.toList ++ r' := by
  unfold walkR at h
  obtain ⟨o, s1, h1, h2⟩ := bind_ok h
  obtain ⟨r', s2, h3, h4⟩ := bind_ok h2
  cases h4
  exact ⟨o, s1, r', h1, h3, rfl⟩
section
variable {Y : Sys} {K : PySem.W.Frag} {mg : Str → Option Value} {W : WX}
abbrev tTs (K : PySem.W.Frag) (mg : Str → Option Value) (W : WX) (ifs : CA Y.S) : TT := tR K mg W JB (evT ifs)
theorem lc_use {it : CI Y.S} {tg : Tg} {ifs : CA Y.S} {elt : CE Y.S} {vs : List Nat} (hz : zipI it = true → consT tg = true) (hsl : ∀ i ∈ slots tg, i ∈ vs) {σ : L2.St} {H : Hp} {Q : VK} (h : tE K mg W (.lc it tg ifs elt vs) σ H Q) :
    tLc (tI K mg W false it) (gT K tg) (tTs K mg W0 ifs) (tE K mg W0 elt) vs σ H Q := by
  obtain ⟨c, H0, ρ, rfl, ok, rel, p⟩ := h
  have p : Post mg W σ c (JE K c) Q ((evI false it ρ c.s).bind fun ds s => if !lenOk ds.length then .er else (walkR (lcF tg ifs elt (wipeR ρ vs)) ds s).bind fun r s => .ok (.t, .lst r) s) := p
  refine tR.bind ok rel p fun J c1 ds ea t1 ok1 rel1 j1 p1 => ?_
  obtain ⟨G, gd, hG⟩ := j1
  intro L hL
  have p1 := p1.shiftE t1 ok1
  split at p1
  · exact p1.elim
  rename_i hlen
  have hlen : lenOk ds.length = true := by simpa using hlen
  cases ew : walkR (lcF tg ifs elt (wipeR ρ vs)) ds c1.s with
  | er => rw [ew] at p1; exact p1.elim
  | ex x s' => exact absurd ew (walkR_ex (fun _ _ _ _ => lcF_ex) _ _ _ _)
  | ok r s' =>
    rw [ew] at p1
    have p1 : ∀ v (c' : Cf Y), c'.s = s' → Step c1 c' → Ok c' → Is K c1.H c' .t v (.lst r) → Q v c'.H := p1
    refine ⟨fun i m H => m = ds.length - i ∧ i ≤ ds.length ∧ ∃ (cc : Cf Y) (acc : List V) (done rest : List D), cc.H = H ∧ Ok cc ∧ Step c1 cc ∧ cc.H L = some (.lst acc) ∧ cc.F L = none ∧ ¬ Y.dm cc.s L ∧ Reps K cc.F acc done ∧ acc.length ≤ i ∧
      walkR (lcF tg ifs elt (wipeR ρ vs)) (ds.drop i) cc.s = .ok rest s' ∧ done ++ rest = r,
      ⟨ds.length, rfl, Nat.zero_le _, ⟨c1.F, upd c1.H L (.lst []), c1.s⟩, [], [], r, rfl, ok1.own hL _, Step.own ok1 hL _, upd_same, ok1.fr hL, fun z => ok1.has L z hL, .nil, Nat.le_refl _, ew, rfl⟩, fun i m H hW => ?_⟩
    obtain ⟨rfl, hi, cc, acc, done, rest, rfl, okc, tc, hacc, hF, hnd, racc, hal, hw, hr⟩ := hW
    by_cases hlt : i < ds.length
    · have hd : ds[i]? = some ds[i] := List.getElem?_eq_getElem hlt
      have edrop : ds.drop i = ds[i] :: ds.drop (i + 1) := List.drop_eq_getElem_cons hlt
      rw [edrop] at hw
      obtain ⟨o, s1, r', w1, w2, w3⟩ := walkR_cons hw
      obtain ⟨ρ', k, s2, a1, a2, a3⟩ := lcF_ok w1
      obtain ⟨go, yl⟩ := (gd cc (hG cc (by rw [if_neg Bool.false_ne_true]; exact tc)) okc i).2 _ hd
      refine .inr ⟨go, fun H' => ds.length - (i + 1) = ds.length - (i + 1) ∧ i + 1 ≤ ds.length ∧ ∃ (cc : Cf Y) (acc : List V) (done rest : List D), cc.H = H' ∧ Ok cc ∧ Step c1 cc ∧ cc.H L = some (.lst acc) ∧ cc.F L = none ∧ ¬ Y.dm cc.s L ∧ Reps K cc.F acc done ∧ acc.length ≤ i + 1 ∧
        walkR (lcF tg ifs elt (wipeR ρ vs)) (ds.drop (i + 1)) cc.s = .ok rest s' ∧ done ++ rest = r, fun H' hN => ⟨ds.length - (i + 1), by omega, hN⟩, fun x H' hy => ?_⟩
      obtain ⟨c2, rfl, es2, t2, ok2, rx⟩ := yl x H' hy
      have rel2 : Rel K H0 c2 (wipe σ vs) (wipeR ρ vs) := (rel1.step (tc.trans okc t2)).wipe vs
      refine gT_any ok2 hz a1 rel2 rx fun σ' rel' l' s' => ⟨?_, ?_⟩
      · rw [← wipe_wipe (σ := σ) (vs := vs)]
        exact wipe_ext l' fun j hj => s' j fun z => hj (hsl j z)
      · refine ⟨c2, H0, ρ', rfl, ok2, rel', ?_⟩
        rw [es2, a2]
        intro b c3 es3 t3 ok3 hb
        have hb : b = k := hb
        subst hb
        have obL : cc.H L ≠ none := by rw [hacc]; exact fun z => nomatch z
        rcases a3 with ⟨rfl, y, a4, a5, a6⟩ | ⟨rfl, a4, a5⟩
        · refine iteT ⟨c3, H0, ρ', rfl, ok3, rel'.step t3, ?_⟩
          rw [es3, a4]
          intro v c4 es4 t4 ok4 j4
          obtain ⟨c5, es5, eh5, t5, ok5, r5⟩ := Is.data j4 a5 t4 ok4
          have T : Step cc c5 := t2.trans ok2 (t3.trans ok3 t5)
          have hacc5 : c5.H L = some (.lst acc) := T.h L _ hacc hnd
          have hF5 : c5.F L = none := T.n L obL hF
          have hnd5 : ¬ Y.dm c5.s L := fun z => hnd (T.g L obL z)
          rw [← eh5]
          refine ⟨acc, hacc5, ?_, rfl, hlt, ⟨c5.F, upd c5.H L (.lst (acc ++ [v])), c5.s⟩, acc ++ [v], done ++ [y.2], r', rfl, ok5.mut hF5 hnd5 _, (tc.trans okc T).mut hL _, upd_same, hF5, hnd5, (racc.mono T.f).append (.cons r5 .nil), ?_, ?_, ?_⟩
          · have := of_decide_eq_true hlen
            have e : sizeLine = 16777216 := by decide
            omega
          · rw [List.length_append, List.length_singleton]
            omega
          · rw [es5, es4]
            exact w2
          · rw [← hr, w3, a6, List.append_assoc]
            rfl
        · refine iteF ⟨rfl, hlt, c3, acc, done, r', rfl, ok3, ?_⟩
          have T : Step cc c3 := t2.trans ok2 t3
          refine ⟨tc.trans okc T, T.h L _ hacc hnd, T.n L obL hF, fun z => hnd (T.g L obL z), racc.mono T.f, by omega, ?_, ?_⟩
          · rw [es3, ← a5]
            exact w2
          · rw [← hr, w3, a4]
            rfl
    · have ei : i = ds.length := by omega
      subst ei
      rw [List.drop_length] at hw
      cases hw
      rw [List.append_nil] at hr
      subst hr
      have st := (gd cc (hG cc (by rw [if_neg Bool.false_ne_true]; exact tc)) okc ds.length).1 (Nat.le_refl _)
      exact .inl ⟨st, p1 (.ref L) cc rfl tc okc ⟨L, rfl, ⟨⟨acc, hacc, racc⟩, hF, hnd⟩, hL⟩⟩
end
section
variable {X : Cx} {Y : Sys} {W : WX} {n : Nat} {N : List Str} {sc scope : Scope} {pos spos py : Pos} {tg' iter' elt' : Expr} {ifs' : List Expr} {it : CI Y.S} {tg : Tg} {ifs : CA Y.S} {elt : CE Y.S} {vs : List Nat}
theorem Cxt.blk (C : Cxt X W n N sc) (s : Shared) (H : Hp) (L : Addr) (cl : List (Str × Addr)) (fp : List Addr) : Cxt (X.blk s H scope (compEnvC scope cl L X.env) fp) W0 n N (relS scope sc) where
  hN := C.hN
  hs := by rw [← C.hs]; rfl
  nd := C.nd
  calm := C.calm
  room := C.room
  tk := takes0
  we := ⟨fun _ _ _ => False, rfl⟩
  blt := C.blt
theorem own_snd : (vs.map fun i => ((N.getD i "" : Str), i)).map (·.2) = vs := by
  rw [List.map_map]
  exact List.map_id _
theorem se_lc (C : Cxt X W n N sc) (hz : zipI it = true → consT tg = true) (hI : PI X tg' iter' (tI X.K X.mg W false it)) (hset : notSet iter' = true) (hblk : blkC N sc scope (vs.map fun i => (N.getD i "", i)) = true) (hsl : (slots tg).all (fun i => vs.contains i) = true)
    (hT : chkT N (relS scope sc) (fun x => scope.names.lookup x == some .cell) tg tg' = true)
    (hC : ∀ X' : Cx, X'.prog = X.prog → X'.w = X.w → X'.K = X.K → X'.mg = X.mg → X'.base = X.base → Cxt X' W0 n N (relS scope sc) → PTs X' ifs' (tTs X.K X.mg W0 ifs))
    (hE : ∀ X' : Cx, X'.prog = X.prog → X'.w = X.w → X'.K = X.K → X'.mg = X.mg → X'.base = X.base → Cxt X' W0 n N (relS scope sc) → PE X' elt' (tE X.K X.mg W0 elt)) :
    PE X (.ListComp elt' [⟨tg', iter', ifs', 0⟩] scope pos) (tE X.K X.mg W (.lc it tg ifs elt vs)) ∧
    (∀ {i : Nat} {y : Str}, N[i]? = some y → sc.names.lookup y = some .local → swapsWith (.ListComp elt' [⟨tg', iter', ifs', 0⟩] scope pos) (some (.Name y py)) spos.line X.env = pure true →
      PS X (.Assign [.Name y py] (.ListComp elt' [⟨tg', iter', ifs', 0⟩] scope pos) spos) (tAsg (tE X.K X.mg W (.lc it tg ifs elt vs)) (gName i))) := by
  have hsl' : ∀ i ∈ slots tg, i ∈ vs := fun i hi => List.contains_iff_mem.mp (List.all_eq_true.mp hsl i hi)
  have ok : BlkOk X.N X.env.scope scope (vs.map fun i => (N.getD i "", i)) := by
    rw [C.hN, C.hs]
    exact blkOk_by hblk
  have hg : ∀ (s : Shared) (H : Hp) (L : Addr) (cl : List (Str × Addr)) (fp : List Addr), PG (X.blk s H scope (compEnvC scope cl L X.env) fp) tg' (gT X.K tg) := fun s H L cl fp =>
    pg_ok (X := X.blk s H scope (compEnvC scope cl L X.env) fp) C.hN (C.blk s H L cl fp).hs C.nd C.calm rfl hT
  refine ⟨?_, fun {i y} hi hl hsw => ?_⟩
  · refine (pe_lc (own := vs.map fun i => (N.getD i "", i)) C.calm (by rw [C.hN]; exact C.nd) hI ok hg (fun s H L cl fp => hC _ rfl rfl rfl rfl rfl (C.blk s H L cl fp)) (fun s H L cl fp => hE _ rfl rfl rfl rfl rfl (C.blk s H L cl fp)) (set_ok hset)).weak fun σ H Q h => ?_
    rw [own_snd]
    exact lc_use hz hsl' h
  · have q := ps_setLc (i := i) (y := y) (py := py) (pos := pos) (spos := spos) (own := vs.map fun i => (N.getD i "", i)) C.calm (by rw [C.hN]; exact C.nd) (by rw [C.hN]; exact hi) (by rw [C.hs]; exact hl) hsw hI ok hg (fun s H L cl fp => hC _ rfl rfl rfl rfl rfl (C.blk s H L cl fp)) (fun s H L cl fp => hE _ rfl rfl rfl rfl rfl (C.blk s H L cl fp)) (set_ok hset)
    rw [own_snd] at q
    exact ⟨fun pins s σ H D I h => q.run pins s σ H D I (lc_use hz hsl' h)⟩
end
end Mf
set_option Elab.async false
set_option linter.all false
set_option maxRecDepth 100000
set_option maxHeartbeats 4000000
namespace Mf
open PySem L2

/-- an expression, as a value, as a test, as part of and | or -/
structure SE (X : Cx) {Y : Sys} (W : WX) (e : CE Y.S) (x : Expr) : Prop where
  pe : PE X x (tE X.K X.mg W e)
  pt : tstOk x = true → PT X x (tT X.K X.mg W e)
  pw : isBO x = true → PW X x (tT X.K X.mg W e)
section
variable {X : Cx} {Y : Sys} {W : WX} {n : Nat} {N : List Str} {sc : Scope}
theorem zip_cons {it : CI Y.S} {x tg' : Expr} {tg : Tg} {fns : Str → Bool} {sc' : Scope} (h : chkI N sc it x tg' = true) (hT : chkT N sc' fns tg tg' = true) : zipI it = true → consT tg = true := fun z => by
  cases it <;> first | cases z | skip
  unfold chkI at h
  split at h
  · simp only [Bool.and_eq_true] at h
    have ht := h.1.1.2
    cases tg' <;> first | cases ht | skip
    cases tg with
    | cons _ _ => rfl
    | _ => unfold chkT chkTs at hT; cases hT
  · cases h
theorem SE.plain {e : CE Y.S} {x : Expr} (h : PE X x (tE X.K X.mg W e)) (hb : isBO x = false) (ht : tstOk x = true → tstP x = true) : SE X W e x :=
  ⟨h, fun z => (pt_val h (test_ok (ht z))).weak fun σ H Q q => tT_tE q, fun z => by rw [hb] at z; cases z⟩
abbrev Pn (X : Cx) (Y : Sys) (n : Nat) : Str → Nat → Sem Y.S → Prop := fun x m g => Has X.prog X.w X.K X.mg X.base Y n x m g
mutual
theorem sound {X : Cx} {W : WX} {sc : Scope} (C : Cxt X W n N sc) : ∀ (e : CE Y.S) (x : Expr), chkE N sc e x = true → needE (Pn X Y n) (Glb X.K X.mg) e → SE X W e x
  | .var i, x, h, _ => by
    cases x <;> first | cases h | skip
    have h := Bool.and_eq_true_iff.mp h
    exact .plain (se_var C h.1 h.2) rfl fun z => z
  | .con d, x, h, _ => by
    cases x <;> first | cases h | skip
    exact .plain (se_con h) rfl fun z => z
  | .glb y d, x, h, g => by
    cases x <;> first | cases h | skip
    have h := Bool.and_eq_true_iff.mp h
    have e := beq_iff_eq.mp h.1
    subst e
    exact .plain (se_glb C h.2 g) rfl fun z => z
  | .tup es, x, h, g => by
    cases x <;> first | cases h | skip
    exact .plain (se_tup (soundA C es _ h g)) rfl fun z => z
  | .lst es, x, h, g => by
    cases x <;> first | cases h | skip
    exact .plain (se_lst (soundA C es _ h g)) rfl fun z => z
  | .bin o a b, x, h, g => by
    cases x <;> first | cases h | skip
    unfold chkE at h
    simp only [Bool.and_eq_true] at h
    rw [opEq_ok h.1.1]
    exact .plain (se_bin (sound C a _ h.1.2 g.1).pe (sound C b _ h.2 g.2).pe) rfl fun z => z
  | .neg a, x, h, g => by
    cases x <;> first | cases h | skip
    rename_i op _ _
    cases op <;> first | cases h | skip
    exact .plain (se_neg (sound C a _ h g).pe) rfl fun z => z
  | .not a, x, h, g => by
    cases x <;> first | cases h | skip
    rename_i op _ _
    cases op <;> first | cases h | skip
    unfold chkE at h
    simp only [Bool.and_eq_true] at h
    have s := sound C a _ h.1 g
    exact ⟨se_notE s.pe, fun _ => se_notT (s.pt h.2), fun z => nomatch z⟩
  | .cmp o a b, x, h, g => by
    unfold chkE at h
    split at h
    · rename_i a' o' b' pos
      simp only [Bool.and_eq_true] at h
      obtain ⟨⟨⟨h1, h2⟩, h3⟩, h4⟩ := h
      rw [cmpEq_ok h1]
      have s := se_cmpE (o := o) (pos := pos) C h2 (sound C a _ h3 g.1).pe (sound C b _ h4 g.2).pe
      exact ⟨s.1, fun _ => s.2, fun z => nomatch z⟩
    · cases h
  | .chn o p a b c, x, h, g => by
    unfold chkE at h
    split at h
    · rename_i a' o' p' b' c' pos
      simp only [Bool.and_eq_true] at h
      obtain ⟨⟨⟨⟨⟨h1, h2⟩, h3⟩, h4⟩, h5⟩, h6⟩ := h
      rw [cmpEq_ok h1, cmpEq_ok h2]
      have s := se_chn (o := o) (o2 := p) (pos := pos) C h3 (sound C a _ h4 g.1).pe (sound C b _ h5 g.2.1).pe (sound C c _ h6 g.2.2).pe
      exact ⟨s.1, fun _ => s.2, fun z => nomatch z⟩
    · cases h
  | .and a b, x, h, g => by
    unfold chkE at h
    split at h
    · rename_i a' b' r pos
      simp only [Bool.and_eq_true] at h
      obtain ⟨⟨h1, h2⟩, h3⟩ := h
      have s1 := sound C a _ h2 g.1
      have s2 := sound C b _ h3 g.2
      have w := se_andT (s1.pt h1) (s2.pw rfl)
      exact ⟨se_andE s1.pe s2.pe, fun _ => w.pt, fun _ => w⟩
    · cases h
  | .or a b, x, h, g => by
    unfold chkE at h
    split at h
    · rename_i a' b' r pos
      simp only [Bool.and_eq_true] at h
      obtain ⟨⟨h1, h2⟩, h3⟩ := h
      have s1 := sound C a _ h2 g.1
      have s2 := sound C b _ h3 g.2
      have w := se_orT (s1.pt h1) (s2.pw rfl)
      exact ⟨se_orE s1.pe s2.pe, fun _ => w.pt, fun _ => w⟩
    · cases h
  | .one a, x, h, g => by
    unfold chkE at h
    split at h
    · rename_i op a' pos
      simp only [Bool.and_eq_true] at h
      have s := sound C a _ h.2 g
      have w : PW X (.BoolOp op [a'] pos) (tT X.K X.mg W a) := by
        cases op with
        | And => exact pw_and1 (s.pt h.1)
        | Or => exact pw_or1 (s.pt h.1)
      have w2 : PW X (.BoolOp op [a'] pos) (tT X.K X.mg W (.one a)) := w.weak fun σ H Q q => q
      exact ⟨(pe_one s.pe).weak fun σ H Q q => q, fun _ => w2.pt, fun _ => w2⟩
    · cases h
  | .ife t a b, x, h, g => by
    unfold chkE at h
    split at h
    · rename_i t' a' b' pos
      simp only [Bool.and_eq_true] at h
      obtain ⟨⟨⟨h1, h2⟩, h3⟩, h4⟩ := h
      exact .plain (se_ife ((sound C t _ h2 g.1).pt h1) (sound C a _ h3 g.2.1).pe (sound C b _ h4 g.2.2).pe) rfl fun z => z
    · cases h
  | .ix a i, x, h, g => by
    unfold chkE at h
    split at h
    · rename_i a' i' pos
      simp only [Bool.and_eq_true] at h
      obtain ⟨⟨h1, h2⟩, h3⟩ := h
      exact .plain (se_ix C h1 (sound C a _ h2 g.1).pe (sound C i _ h3 g.2).pe) rfl fun z => z
    · cases h
  | .slL a lo, x, h, g => by
    unfold chkE at h
    split at h
    · simp only [Bool.and_eq_true] at h
      exact .plain (se_slL (sound C a _ h.1 g.1).pe (sound C lo _ h.2 g.2).pe) rfl fun z => z
    · cases h
  | .slH a hi, x, h, g => by
    unfold chkE at h
    split at h
    · simp only [Bool.and_eq_true] at h
      exact .plain (se_slH (sound C a _ h.1 g.1).pe (sound C hi _ h.2 g.2).pe) rfl fun z => z
    · cases h
  | .slB a lo hi, x, h, g => by
    unfold chkE at h
    split at h
    · simp only [Bool.and_eq_true] at h
      exact .plain (se_slB (sound C a _ h.1.1 g.1).pe (sound C lo _ h.1.2 g.2.1).pe (sound C hi _ h.2 g.2.2).pe) rfl fun z => z
    · cases h
  | .call y m gg es, x, h, g => by
    unfold chkE at h
    split at h
    · simp only [Bool.and_eq_true] at h
      obtain ⟨⟨h1, h2⟩, h3⟩ := h
      have e := beq_iff_eq.mp h1
      subst e
      exact .plain (se_call C h2 g.1 h3 (soundA C es _ h3 g.2)) rfl fun z => z
    · cases h
  | .b1 f e, x, h, g => by
    unfold chkE at h
    split at h
    · simp only [Bool.and_eq_true] at h
      obtain ⟨⟨⟨h1, h2⟩, h3⟩, h4⟩ := h
      have e := beq_iff_eq.mp h1
      subst e
      exact .plain (se_b1 C h2 h3 (sound C _ _ h4 g).pe) rfl fun z => z
    · cases h
  | .m1 f a b, x, h, g => by
    unfold chkE at h
    split at h
    · simp only [Bool.and_eq_true] at h
      obtain ⟨⟨⟨⟨⟨h1, h2⟩, h3⟩, h4⟩, h5⟩, h6⟩ := h
      have e1 := beq_iff_eq.mp h1
      subst e1
      exact .plain (se_m1 C h2 h3 h4 (sound C _ _ h5 g.1).pe (sound C _ _ h6 g.2).pe) rfl fun z => z
    · cases h
  | .isi e t, x, h, g => by
    unfold chkE at h
    split at h
    · simp only [Bool.and_eq_true] at h
      obtain ⟨⟨⟨⟨⟨h1, h2⟩, h3⟩, h4⟩, h5⟩, h6⟩ := h
      have e1 := beq_iff_eq.mp h1
      have e2 := beq_iff_eq.mp h3
      subst e1 e2
      exact .plain (se_isi (p3 := ⟨0, 0, 0, 0⟩) C h2 h4 h5 (sound C _ _ h6 g).pe) rfl fun z => z
    · cases h
  | .lc it tg ifs elt vs, x, h, g => by
    unfold chkE at h
    split at h
    · rename_i elt' tg' iter' ifs' scope pos
      simp only [Bool.and_eq_true] at h
      obtain ⟨⟨⟨⟨⟨⟨h1, h2⟩, h3⟩, h4⟩, h5⟩, h6⟩, h7⟩ := h
      refine .plain (se_lc (py := ⟨0, 0, 0, 0⟩) (spos := ⟨0, 0, 0, 0⟩) C (zip_cons h1 h5) (soundI C false it _ _ h1 g.1) h2 h3 h4 h5 (fun X' a1 a2 a3 a4 a5 C' => ?_) (fun X' a1 a2 a3 a4 a5 C' => ?_)).1 rfl fun z => z
      · have q := soundC C' ifs _ h6 (by unfold Pn; rw [a1, a2, a3, a4, a5]; exact g.2.1)
        rw [a3, a4] at q
        exact q
      · have q := (sound C' elt _ h7 (by unfold Pn; rw [a1, a2, a3, a4, a5]; exact g.2.2)).pe
        rw [a3, a4] at q
        exact q
    · cases h
theorem soundA {X : Cx} {W : WX} {sc : Scope} (C : Cxt X W n N sc) : ∀ (es : CA Y.S) (xs : List Expr), chkA N sc es xs = true → needA (Pn X Y n) (Glb X.K X.mg) es → PA X xs (tA X.K X.mg W es)
  | .nil, xs, h, _ => by
    cases xs <;> first | cases h | skip
    exact sa_nil
  | .cons e es, xs, h, g => by
    cases xs <;> first | cases h | skip
    unfold chkA at h
    simp only [Bool.and_eq_true] at h
    exact sa_cons h.1.1 (sound C e _ h.1.2 g.1).pe (soundA C es _ h.2 g.2)
theorem soundC {X : Cx} {W : WX} {sc : Scope} (C : Cxt X W n N sc) : ∀ (es : CA Y.S) (xs : List Expr), chkC N sc es xs = true → needA (Pn X Y n) (Glb X.K X.mg) es → PTs X xs (tTs X.K X.mg W es)
  | .nil, xs, h, _ => by
    cases xs with
    | nil =>
      refine ⟨fun pins s σ H Q I q => pts_nil.run pins s σ H Q I ?_⟩
      obtain ⟨c, H0, ρ, rfl, ok, rel, p⟩ := q
      have p : Post X.mg W σ c (JB c) Q (.ok true c.s) := p
      exact p.fin ok rfl
    | cons _ _ => unfold chkC at h; cases h
  | .cons e es, xs, h, g => by
    unfold chkC at h
    split at h
    · cases ‹CA.cons e es = _›
    · rename_i e1 x1 he
      cases he
      simp only [Bool.and_eq_true] at h
      have s := (sound C e _ h.2 g.1).pt h.1
      exact ⟨fun pins s' σ H Q I q => (pts_one s).run pins s' σ H Q I q⟩
    · cases h
theorem soundI {X : Cx} {W : WX} {sc : Scope} (C : Cxt X W n N sc) (st : Bool) : ∀ (it : CI Y.S) (x tg : Expr), chkI N sc it x tg = true → needI (Pn X Y n) (Glb X.K X.mg) it → PI X tg x (tI X.K X.mg W st it)
  | .seq e, x, tg, h, g => si_seq (sound C e x h g).pe
  | .rng e, x, tg, h, g => by
    unfold chkI at h
    split at h
    · simp only [Bool.and_eq_true] at h
      obtain ⟨⟨⟨h1, h2⟩, h3⟩, h4⟩ := h
      have e := beq_iff_eq.mp h1
      subst e
      exact si_rng C h2 h3 (sound C _ _ h4 g).pe
    · cases h
  | .zip a b, x, tg, h, g => by
    unfold chkI at h
    split at h
    · simp only [Bool.and_eq_true] at h
      obtain ⟨⟨⟨⟨⟨⟨h1, h2⟩, h3⟩, h4⟩, h5⟩, h6⟩, h7⟩ := h
      have e := beq_iff_eq.mp h1
      subst e
      exact si_zip C h2 h3 h4 h5 (sound C _ _ h6 g.1).pe (sound C _ _ h7 g.2).pe
    · cases h
end
end
end Mf
set_option Elab.async false
set_option linter.all false
set_option maxRecDepth 100000
set_option maxHeartbeats 1000000
namespace Mf
open PySem L2

/-! ### statements -/
mutual
inductive CS (S : Type) : Type where
  | asg (own : Bool) (i : Nat) (e : CE S)
  | asgT (tg : Tg) (e : CE S)
  | par (oi oj : Bool) (i j : Nat) (a b : CE S)
  | ret (e : CE S) | retN | expr (e : CE S) | never
  | ife (t : CE S) (a b : CSs S)
  | forr (tg : Tg) (it : CI S) (body : CSs S)
  | whl (t : CE S) (body : CSs S) (fuel : List SV → S → Nat)
  | app (i : Nat) (e : CE S) | ext (i : Nat) (e : CE S) | rem (i : Nat) (e : CE S) | seti (i : Nat) (k e : CE S)
  | frz (i : Nat) (c : CS S)
inductive CSs (S : Type) : Type where
  | nil | cons (c : CS S) (cs : CSs S)
end
inductive Out (S : Type) where
  | nx (ρ : List SV) (s : S) | rt (d : D) (s : S) | ex (x : Str) (s : S) | er
def Res.ob {S α : Type} : Res S α → (α → S → Out S) → Out S
  | .ok a s, f => f a s
  | .ex x s, _ => .ex x s
  | .er, _ => .er
def Out.sq {S : Type} : Out S → (List SV → S → Out S) → Out S
  | .nx ρ s, f => f ρ s
  | o, _ => o
/-- into a slot: owned or plain -/
def stow : Bool → K3 × D → Option SV
  | true, (.t, d) => some (.ow d)
  | false, (.v, d) => some (.va d)
  | false, (.t, d) => some (.va d)
  | _, _ => none
def put (ρ : List SV) (i : Nat) (x : SV) : Option (List SV) := if i < ρ.length then some (ρ.set i x) else none
def onO {S α : Type} (o : Option α) (f : α → Out S) : Out S := match o with | some a => f a | none => .er
def forR {S : Type} (f : D → List SV → S → Out S) : List D → List SV → S → Out S
  | [], ρ, s => .nx ρ s
  | d :: ds, ρ, s => (f d ρ s).sq (forR f ds)
def whlR {S : Type} (t : List SV → S → Res S Bool) (b : List SV → S → Out S) : Nat → List SV → S → Out S
  | 0, _, _ => .er
  | n + 1, ρ, s => (t ρ s).ob fun k s1 => if k then (b ρ s1).sq (whlR t b n) else .nx ρ s1
def ownL (ρ : List SV) (i : Nat) : Option (List D) := match ρ[i]? with | some (.ow (.lst ds)) => some ds | _ => none
/-- into an owned thing -/
def setD : SV → D → D → Option SV
  | .ow (.lst ds), .int k, v => (ixN ds.length k).map fun j => .ow (.lst (ds.set j v))
  | .ow (.dct es), .str k, v => if lenOk (es.length + 1) then some (.ow (.dct (putD es k v))) else none
  | _, _, _ => none
def isOw : Option SV → Bool
  | some (.ow _) => true
  | _ => false
mutual
def run {S : Type} : CS S → List SV → S → Out S
  | .asg own i e, ρ, s => (ev e ρ s).ob fun x s => onO (stow own x) fun v => onO (put ρ i v) fun ρ' => .nx ρ' s
  | .asgT tg e, ρ, s => (ev e ρ s).ob fun x s => (dat x s).ob fun d s => onO (asgT tg d ρ) fun ρ' => .nx ρ' s
  | .par oi oj i j a b, ρ, s => (ev a ρ s).ob fun x s => onO (stow oi x) fun u => (ev b ρ s).ob fun y s => onO (stow oj y) fun v => onO (put ρ i u) fun ρ1 => onO (put ρ1 j v) fun ρ2 => .nx ρ2 s
  | .ret e, ρ, s => (ev e ρ s).ob fun x s => (dat x s).ob fun d s => .rt d s
  | .retN, _, s => .rt .non s
  | .expr e, ρ, s => (ev e ρ s).ob fun _ s => .nx ρ s
  | .never, _, _ => .er
  | .ife t a b, ρ, s => ((ev t ρ s).bind tru).ob fun k s => if k then runs a ρ s else runs b ρ s
  | .forr tg it body, ρ, s => (evI true it ρ s).ob fun ds s => forR (fun d ρ s => onO (asgT tg d ρ) fun ρ' => runs body ρ' s) ds ρ s
  | .whl t body fuel, ρ, s => whlR (fun ρ s => (ev t ρ s).bind tru) (runs body) (fuel ρ s) ρ s
  | .app i e, ρ, s => onO (ownL ρ i) fun ds => (ev e ρ s).ob fun x s => (dat x s).ob fun d s => if lenOk (ds.length + 1) then .nx (ρ.set i (.ow (.lst (ds ++ [d])))) s else .er
  | .ext i e, ρ, s => onO (ownL ρ i) fun ds => (ev e ρ s).ob fun x s => match x.2 with | .lst es => if lenOk (ds.length + es.length) then .nx (ρ.set i (.ow (.lst (ds ++ es)))) s else .er | _ => .er
  | .rem i e, ρ, s => onO (ownL ρ i) fun ds => (ev e ρ s).ob fun x s => if x.2.sh 60 && shs 59 ds then onO (ds.findIdx? fun z => deq z x.2) fun j => .nx (ρ.set i (.ow (.lst (ds.eraseIdx j)))) s else .er
  | .seti i k e, ρ, s => (ev e ρ s).ob fun x s => (dat x s).ob fun d s => if isOw ρ[i]? then (ev k ρ s).ob fun y s => onO ((ρ[i]?).bind fun o => setD o y.2 d) fun o => .nx (ρ.set i o) s else .er
  | .frz i c, ρ, s => match ρ[i]? with | some (.ow d) => run c (ρ.set i (.va d)) s | _ => run c ρ s
def runs {S : Type} : CSs S → List SV → S → Out S
  | .nil, ρ, s => .nx ρ s
  | .cons c cs, ρ, s => (run c ρ s).sq (runs cs)
end
/-- a def -/
def fnR {S : Type} (n : Nat) (body : CSs S) : Sem S := fun ds s => match runs body (ds.map SV.va ++ List.replicate (n - ds.length) .no) s with
  | .nx _ s => .ok .non s
  | .rt d s => .ok d s
  | .ex x s => .ex x s
  | .er => .er

/-! ### the checker -/
def swB (sc : Scope) (y : Str) (py : Pos) (e : Expr) : Bool := match e with
  | .ListComp _ _ scope pos => decide (sc.names.lookup y = some .local) && (py.line == pos.line) && !(scope.names.any fun (n, k) => n == y && (k == .local || k == .cell))
  | _ => false
def locB (sc : Scope) (x : Str) : Bool := match sc.names.lookup x with | some .local => true | some .cell => true | _ => false
def isLc : Expr → Bool
  | .ListComp _ _ _ _ => true
  | _ => false
def noSC : Expr → Bool
  | .SetComp _ _ _ _ => false
  | .DictComp _ _ _ _ _ => false
  | _ => true
def isTup : Expr → Bool
  | .Tuple _ _ _ => true
  | _ => false
/-- a, b = e: the pair is made and taken apart -/
def noSwap (sc : Scope) (ts : List Expr) : Expr → Bool
  | .Tuple vs _ _ => vs.all (foldedForSure 8) || ts.any fun | .Name x _ => !(decide (sc.names.lookup x = some .local)) | _ => true
  | _ => true
def swapB (sc : Scope) (x y : Str) (px py : Pos) (a b : Expr) : Bool :=
  decide (sc.names.lookup x = some .local) && decide (sc.names.lookup y = some .local) && (py.line == px.line) && !(x == y) && notStar a && notStar b && !([a, b].all (foldedForSure 8)) && !([a, b].all (constantsAlone 8))
mutual
def chkS {S : Type} (N : List Str) (sc : Scope) : CS S → Stmt → Bool
  | .asg _ i e, st => match st with
    | .Assign [.Name x px] e' _ => (N[i]? == some x) && locB sc x && noSC e' && chkE N sc e e' && (!(isLc e') || swB sc x px e' || !(decide (sc.names.lookup x = some .local)))
    | _ => false
  | .asgT tg e, st => match st with
    | .Assign [.Tuple ts k p] e' _ => chkT N sc (fun _ => true) tg (.Tuple ts k p) && noSC e' && notComp e' && noSwap sc ts e' && chkE N sc e e'
    | _ => false
  | .par _ _ i j a b, st => match st with
    | .Assign [.Tuple [.Name x px, .Name y py] _ _] (.Tuple [a', b'] _ _) _ => (N[i]? == some x) && (N[j]? == some y) && swapB sc x y px py a' b' && chkE N sc a a' && chkE N sc b b'
    | _ => false
  | .ret e, st => match st with
    | .Return (some e') _ => chkE N sc e e'
    | _ => false
  | .retN, st => match st with
    | .Return none _ => true
    | _ => false
  | .expr e, st => match st with
    | .Expr e' _ => notComp e' && chkE N sc e e'
    | _ => false
  | .never, _ => true
  | .ife t a b, st => match st with
    | .If t' a' b' _ => tstOk t' && chkE N sc t t' && chkSs N sc a a' && chkSs N sc b b'
    | _ => false
  | .forr tg it body, st => match st with
    | .For tg' it' body' [] _ => chkT N sc (fun _ => true) tg tg' && notSet it' && chkI N sc it it' tg' && chkSs N sc body body'
    | _ => false
  | .whl t body _, st => match st with
    | .While t' body' [] _ => tstOk t' && chkE N sc t t' && chkSs N sc body body'
    | _ => false
  | .app i e, st => match st with
    | .Expr (.Call (.Attribute (.Name x p) m apos) [e'] [] cpos) _ => (N[i]? == some x) && visB sc x && (m == ("append" : Str)) && notStar e' && (apos.endLine == cpos.line) && chkE N sc e e'
    | _ => false
  | .ext i e, st => match st with
    | .Expr (.Call (.Attribute (.Name x p) m apos) [e'] [] cpos) _ => (N[i]? == some x) && visB sc x && (m == ("extend" : Str)) && notStar e' && (apos.endLine == cpos.line) && chkE N sc e e'
    | _ => false
  | .rem i e, st => match st with
    | .Expr (.Call (.Attribute (.Name x p) m apos) [e'] [] cpos) _ => (N[i]? == some x) && visB sc x && (m == ("remove" : Str)) && notStar e' && (apos.endLine == cpos.line) && chkE N sc e e'
    | _ => false
  | .seti i k e, st => match st with
    | .Assign [.Subscript (.Name x _) k' _] e' _ => (N[i]? == some x) && visB sc x && notSlice k' && notComp e' && chkE N sc k k' && chkE N sc e e'
    | _ => false
  | .frz _ c, st => chkS N sc c st
def chkSs {S : Type} (N : List Str) (sc : Scope) : CSs S → List Stmt → Bool
  | .nil, l => match l with
    | [] => true
    | _ => false
  | .cons c cs, l => match l with
    | st :: sts => chkS N sc c st && chkSs N sc cs sts
    | _ => false
end
mutual
def needS {S : Type} (P : Str → Nat → Sem S → Prop) (G : Str → D → Prop) : CS S → Prop
  | .asg _ _ e => needE P G e
  | .asgT _ e => needE P G e
  | .par _ _ _ _ a b => needE P G a ∧ needE P G b
  | .ret e => needE P G e
  | .retN => True
  | .expr e => needE P G e
  | .never => True
  | .ife t a b => needE P G t ∧ needSs P G a ∧ needSs P G b
  | .forr _ it b => needI P G it ∧ needSs P G b
  | .whl t b _ => needE P G t ∧ needSs P G b
  | .app _ e => needE P G e
  | .ext _ e => needE P G e
  | .rem _ e => needE P G e
  | .seti _ k e => needE P G k ∧ needE P G e
  | .frz _ c => needS P G c
def needSs {S : Type} (P : Str → Nat → Sem S → Prop) (G : Str → D → Prop) : CSs S → Prop
  | .nil => True
  | .cons c cs => needS P G c ∧ needSs P G cs
end
/-! ### readings -/
section
variable {Y : Sys} (K : PySem.W.Frag) (mg : Str → Option Value) (E : XK)
abbrev WofE : WX := fun cls d _ H => E cls d H
def PostS (c0 : Cf Y) (F0 : Hp) (D : Ends) : Out Y.S → Prop
  | .nx ρ' s' => ∀ σ' (c' : Cf Y), c'.s = s' → Step c0 c' → Sub F0 c'.F → Ok c' → Rel K c0.H c' σ' ρ' → D.nx σ' c'.H
  | .rt d s' => ∀ v (c' : Cf Y), c'.s = s' → Step c0 c' → Ok c' → Rep K c'.F v d → D.rt v c'.H
  | .ex x s' => ∀ C (c' : Cf Y), mg x = some (.ref C) → c'.s = s' → Step c0 c' → Ok c' → E (.ref C) none c'.H
  | .er => False
def tS (r : List SV → Y.S → Out Y.S) : TS := fun D σ H => ∃ (c0 : Cf Y) (F0 : Hp) (c : Cf Y) (ρ : List SV), c.H = H ∧ Step c0 c ∧ Sub F0 c.F ∧ Ok c ∧ Rel K c0.H c σ ρ ∧ PostS K mg E c0 F0 D (r ρ c.s)
end
theorem _root_.L2.PS.weak {X : Cx} {e : Stmt} {t t' : TS} (h : PS X e t) (k : ∀ D σ H, t' D σ H → t D σ H) : PS X e t' := ⟨fun pins s σ H D I q => h.run pins s σ H D I (k D σ H q)⟩
theorem _root_.L2.PSs.weak {X : Cx} {e : List Stmt} {t t' : TS} (h : PSs X e t) (k : ∀ D σ H, t' D σ H → t D σ H) : PSs X e t' := ⟨fun pins s σ H D I q => h.run pins s σ H D I (k D σ H q)⟩
structure SCxt (X : Cx) (E : XK) (n : Nat) (N : List Str) (sc : Scope) : Prop extends Cxt X (WofE E) n N sc where
  po : PassesOwn (model X.prog X.w) X.A X.env X.xe
  fn : X.fn = fun _ => true
  kd : sc.kind = .function
section
variable {Y : Sys} {K : PySem.W.Frag} {mg : Str → Option Value} {E : XK} {α β : Type} {σ : L2.St} {c0 c : Cf Y} {F0 : Hp} {ρ : List SV} {D : Ends}
/-- an expression ahead of the rest of a statement -/
theorem tR.ob {J : Cf Y → β → Cf Y → α → Prop} {f : List SV → Y.S → Res Y.S α} {R : α → Y.S → Out Y.S} {Qa : β → Hp → Prop}
    (t0 : Step c0 c) (ok : Ok c) (rel : Rel K c0.H c σ ρ) (h : PostS K mg E c0 F0 D ((f ρ c.s).ob R))
    (k : ∀ b (c' : Cf Y) a, Step c c' → Ok c' → Rel K c0.H c' σ ρ → J c b c' a → PostS K mg E c0 F0 D (R a c'.s) → Qa b c'.H) : tR K mg (WofE E) J f σ c.H Qa := by
  refine ⟨c, c0.H, ρ, rfl, ok, rel, ?_⟩
  cases e : f ρ c.s with
  | ok a s' =>
    rw [e] at h
    intro b c' es t ok' j
    subst es
    exact k b c' a t ok' (rel.step t) j h
  | ex x s' =>
    rw [e] at h
    intro C c' e1 e2 t ok'
    exact h C c' e1 e2 (t0.trans ok t) ok'
  | er => rw [e] at h; exact h
theorem PostS.onO {γ : Type} {o : Option γ} {f : γ → Out Y.S} (h : PostS K mg E c0 F0 D (Mf.onO o f)) : ∃ a, o = some a ∧ PostS K mg E c0 F0 D (f a) := by
  cases o with
  | none => exact h.elim
  | some a => exact ⟨a, rfl, h⟩
theorem PostS.dat {x : K3 × Mf.D} {s : Y.S} {f : Mf.D → Y.S → Out Y.S} (h : PostS K mg E c0 F0 D ((Mf.dat x s).ob f)) : x.1 ≠ .o ∧ PostS K mg E c0 F0 D (f x.2 s) := by
  obtain ⟨k, d⟩ := x
  cases k with
  | v => exact ⟨fun z => (nomatch z), h⟩
  | t => exact ⟨fun z => (nomatch z), h⟩
  | o => exact h.elim
theorem Rel.setO {H0 : Hp} (r : Rel K H0 c σ ρ) {i : Nat} {p : Addr} {d : Mf.D} (o : Own K c p d) (h0 : H0 p = none) (hi : i < ρ.length) (hne : ∀ (m : Nat) (e : Mf.D), m ≠ i → ρ[m]? = some (SV.ow e) → σ[m]? ≠ some (some (V.ref p))) : Rel K H0 c (σ.set i (some (.ref p))) (ρ.set i (.ow d)) where
  len := by rw [List.length_set, List.length_set]; exact r.len
  va := fun j e hj => by
    by_cases q : i = j
    · subst q
      rw [List.getElem?_set_self hi] at hj
      cases hj
    · rw [List.getElem?_set_ne q] at hj
      obtain ⟨v', h1, h2⟩ := r.va j e hj
      exact ⟨v', by rw [List.getElem?_set_ne q]; exact h1, h2⟩
  ow := fun j e hj => by
    by_cases q : i = j
    · subst q
      rw [List.getElem?_set_self hi] at hj
      cases hj
      exact ⟨p, List.getElem?_set_self (by rw [← r.len]; exact hi), o, h0⟩
    · rw [List.getElem?_set_ne q] at hj
      obtain ⟨v', h1, h2⟩ := r.ow j e hj
      exact ⟨v', by rw [List.getElem?_set_ne q]; exact h1, h2⟩
  ap := fun j k e e' p' hjk hj hk hp => by
    by_cases q : i = j
    · subst q
      rw [List.getElem?_set_self (by rw [← r.len]; exact hi)] at hp
      cases hp
      have hjk' : k ≠ i := fun z => hjk z.symm
      rw [List.getElem?_set_ne hjk] at hk ⊢
      exact hne k e' hjk' hk
    · rw [List.getElem?_set_ne q] at hj hp
      by_cases q' : i = k
      · subst q'
        rw [List.getElem?_set_self (by rw [← r.len]; exact hi)]
        intro z
        cases z
        exact hne j e (fun z => q z.symm) hj hp
      · rw [List.getElem?_set_ne q'] at hk ⊢
        exact r.ap j k e e' p' hjk hj hk hp
/-- a value on its way into a slot: cs the state ahead of its making -/
def Hold (K : PySem.W.Frag) (cs c : Cf Y) : Bool → V → Mf.D → Prop
  | false, v, d => Rep K c.F v d
  | true, v, d => ∃ p, v = .ref p ∧ Own K c p d ∧ cs.H p = none
theorem Hold.step {cs c c1 : Cf Y} {own : Bool} {v : V} {d : Mf.D} (h : Hold K cs c own v d) (t : Step c c1) : Hold K cs c1 own v d := by
  cases own with
  | false => exact Rep.mono t.f h
  | true => obtain ⟨p, e, o, z⟩ := h; exact ⟨p, e, o.step t, z⟩
theorem hold_of {c1 : Cf Y} {own : Bool} {x : K3 × Mf.D} {v : V} {u : SV} (hs : stow own x = some u) (t1 : Step c c1) (ok1 : Ok c1) (j : Is K c.H c1 x.1 v x.2) :
    u = (if own = true then .ow x.2 else .va x.2) ∧ ∃ c2 : Cf Y, c2.s = c1.s ∧ c2.H = c1.H ∧ Step c c2 ∧ Ok c2 ∧ Hold K c c2 own v x.2 := by
  obtain ⟨k, d⟩ := x
  have j : Is K c.H c1 k v d := j
  cases own with
  | false =>
    have hk : k ≠ .o ∧ u = .va d := by
      cases k <;> cases hs
      · exact ⟨fun z => (nomatch z), rfl⟩
      · exact ⟨fun z => (nomatch z), rfl⟩
    obtain ⟨c2, e1, e2, t2, ok2, r⟩ := Is.data j hk.1 t1 ok1
    exact ⟨by rw [if_neg Bool.false_ne_true]; exact hk.2, c2, e1, e2, t2, ok2, r⟩
  | true =>
    have hk : k = .t ∧ u = .ow d := by
      cases k <;> cases hs
      exact ⟨rfl, rfl⟩
    obtain ⟨rfl, rfl⟩ := hk
    exact ⟨by rw [if_pos rfl], c1, rfl, rfl, t1, ok1, j⟩
theorem Rel.hold {H0 : Hp} {cs : Cf Y} {own : Bool} {i : Nat} {v : V} {d : Mf.D} {ρ' : List SV} (r : Rel K H0 c σ ρ) (h : Hold K cs c own v d) (ex : ∀ (m : Nat) (e : Mf.D) (q : Addr), ρ[m]? = some (SV.ow e) → σ[m]? = some (some (V.ref q)) → cs.H q ≠ none) (h0 : ∀ q, cs.H q = none → H0 q = none)
    (hp : put ρ i (if own = true then .ow d else .va d) = some ρ') : Rel K H0 c (σ.set i (some v)) ρ' := by
  unfold put at hp
  split at hp
  · rename_i hi
    cases hp
    cases own with
    | false => exact r.set h hi
    | true =>
      obtain ⟨p, rfl, o, z⟩ := h
      exact r.setO o (h0 p z) hi fun m e hm he hp => ex m e p he hp z
  · cases hp
theorem Rel.ex {H0 : Hp} (r : Rel K H0 c σ ρ) (m : Nat) (e : Mf.D) (q : Addr) (h : ρ[m]? = some (SV.ow e)) (hq : σ[m]? = some (some (V.ref q))) : c.H q ≠ none := by
  obtain ⟨p', e1, o', _⟩ := r.ow m e h
  rw [hq] at e1
  cases e1
  exact o'.obj
/-- an owned thing changes -/
theorem Rel.mut {H0 : Hp} (r : Rel K H0 c σ ρ) {i : Nat} {p : Addr} {d d' : Mf.D} {o : HO} (hi : ρ[i]? = some (.ow d)) (hσ : σ[i]? = some (some (.ref p))) (ho : Own K (⟨c.F, upd c.H p o, c.s⟩ : Cf Y) p d') : Rel K H0 (⟨c.F, upd c.H p o, c.s⟩ : Cf Y) σ (ρ.set i (.ow d')) where
  len := by rw [List.length_set]; exact r.len
  va := fun j e hj => by
    by_cases q : i = j
    · subst q
      rw [List.getElem?_set_self (List.getElem?_eq_some_iff.mp hi).1] at hj
      cases hj
    · rw [List.getElem?_set_ne q] at hj
      exact r.va j e hj
  ow := fun j e hj => by
    by_cases q : i = j
    · subst q
      rw [List.getElem?_set_self (List.getElem?_eq_some_iff.mp hi).1] at hj
      cases hj
      obtain ⟨p', e1, _, z⟩ := r.ow i d hi
      rw [hσ] at e1
      cases e1
      exact ⟨p, hσ, ho, z⟩
    · rw [List.getElem?_set_ne q] at hj
      obtain ⟨p', e1, o', z⟩ := r.ow j e hj
      refine ⟨p', e1, o'.other (fun z => ?_) o, z⟩
      subst z
      exact r.ap i j d e p' q hi hj hσ e1
  ap := fun j k e e' p' hjk hj hk hp => by
    have tr : ∀ {m : Nat} {e : Mf.D}, (ρ.set i (.ow d'))[m]? = some (SV.ow e) → ∃ e', ρ[m]? = some (SV.ow e') := fun {m e} h => by
      by_cases q : i = m
      · subst q
        exact ⟨d, hi⟩
      · rw [List.getElem?_set_ne q] at h
        exact ⟨e, h⟩
    obtain ⟨e1, h1⟩ := tr hj
    obtain ⟨e2, h2⟩ := tr hk
    exact r.ap j k e1 e2 p' hjk h1 h2 hp
/-- an owned thing is given up -/
theorem Rel.frz {H0 : Hp} (r : Rel K H0 c σ ρ) (ok : Ok c) (t0 : Step c0 c) (e0 : H0 = c0.H) {i : Nat} {d : Mf.D} (hi : ρ[i]? = some (.ow d)) : ∃ c2 : Cf Y, c2.s = c.s ∧ c2.H = c.H ∧ Step c0 c2 ∧ Ok c2 ∧ Sub c.F c2.F ∧ Rel K H0 c2 σ (ρ.set i (.va d)) := by
  obtain ⟨p, hσ, o, z⟩ := r.ow i d hi
  obtain ⟨ob, hp, ok2, rp, sb⟩ := o.frz ok
  have hl := (List.getElem?_eq_some_iff.mp hi).1
  refine ⟨⟨upd c.F p ob, c.H, c.s⟩, rfl, rfl, t0.frz o.2.1 (by rw [← e0]; exact z) ob, ok2, sb, ?_⟩
  exact {
    len := by rw [List.length_set]; exact r.len
    va := fun j e hj => by
      by_cases q : i = j
      · subst q
        rw [List.getElem?_set_self hl] at hj
        cases hj
        exact ⟨.ref p, hσ, rp⟩
      · rw [List.getElem?_set_ne q] at hj
        obtain ⟨v, h1, h2⟩ := r.va j e hj
        exact ⟨v, h1, h2.mono sb⟩
    ow := fun j e hj => by
      by_cases q : i = j
      · subst q
        rw [List.getElem?_set_self hl] at hj
        cases hj
      · rw [List.getElem?_set_ne q] at hj
        obtain ⟨p', h1, h2, h3⟩ := r.ow j e hj
        exact ⟨p', h1, h2.frzo (fun z => r.ap i j d e p q hi hj hσ (by rw [h1, z])) o.2.1, h3⟩
    ap := fun j k e e' p' hjk hj hk hp => by
      have tr : ∀ {m : Nat} {e : Mf.D}, (ρ.set i (.va d))[m]? = some (SV.ow e) → ρ[m]? = some (SV.ow e) := fun {m e} h => by
        by_cases q : i = m
        · subst q
          rw [List.getElem?_set_self hl] at h
          cases h
        · rw [List.getElem?_set_ne q] at h
          exact h
      exact r.ap j k e e' p' hjk (tr hj) (tr hk) hp }
end
end Mf
set_option Elab.async false
set_option linter.all false
set_option maxRecDepth 100000
set_option maxHeartbeats 2000000
namespace Mf
open PySem L2

section
variable {X : Cx} {Y : Sys} {E : XK} {n : Nat} {N : List Str} {sc : Scope} {pos : Pos} {a' b' e' t' : Expr} {a b e t : CE Y.S}
theorem ss_ret (he : PE X e' (tE X.K X.mg (WofE E) e)) : PS X (.Return (some e') pos) (tS (Y := Y) X.K X.mg E (run (.ret e))) := by
  refine (ps_ret he).weak fun D σ H h => ?_
  obtain ⟨c0, F0, c, ρ, rfl, t0, sb, ok, rel, p⟩ := h
  have p : PostS X.K X.mg E c0 F0 D ((ev e ρ c.s).ob fun x s => (dat x s).ob fun d s => .rt d s) := p
  refine tR.ob t0 ok rel p fun v c1 x t1 ok1 rel1 j1 p1 => ?_
  obtain ⟨hk, p1⟩ := p1.dat
  obtain ⟨c2, e1, e2, t2, ok2, r⟩ := Is.data j1 hk t1 ok1
  rw [← e2]
  exact p1 v c2 e1 (t0.trans ok t2) ok2 r
theorem ss_retN : PS X (.Return none pos) (tS (Y := Y) X.K X.mg E (run .retN)) := by
  refine ps_retN.weak fun D σ H h => ?_
  obtain ⟨c0, F0, c, ρ, rfl, t0, sb, ok, rel, p⟩ := h
  have p : PostS X.K X.mg E c0 F0 D (.rt .non c.s) := p
  exact p .non c rfl t0 ok .non
theorem swNone {line : Nat} {env : Env} (h : notComp e' = true) : swapsWith e' none line env = pure false := by
  cases e' <;> first | rfl | cases h
theorem ss_expr (hc : notComp e' = true) (he : PE X e' (tE X.K X.mg (WofE E) e)) : PS X (.Expr e' pos) (tS (Y := Y) X.K X.mg E (run (.expr e))) := by
  refine (ps_expr he (swNone hc)).weak fun D σ H h => ?_
  obtain ⟨c0, F0, c, ρ, rfl, t0, sb, ok, rel, p⟩ := h
  have p : PostS X.K X.mg E c0 F0 D ((ev e ρ c.s).ob fun _ s => .nx ρ s) := p
  refine tR.ob t0 ok rel p fun v c1 x t1 ok1 rel1 j1 p1 => ?_
  exact p1 σ c1 rfl (t0.trans ok t1) (sb.trans t1.f) ok1 rel1
theorem ss_never {st : Stmt} : PS X st (tS (Y := Y) X.K X.mg E (run .never)) := by
  refine ps_never.weak fun D σ H h => ?_
  obtain ⟨c0, F0, c, ρ, rfl, t0, sb, ok, rel, p⟩ := h
  exact p
theorem asg_use {own : Bool} {i : Nat} {D : Ends} {σ : L2.St} {H : Hp} (h : tS (Y := Y) X.K X.mg E (run (.asg own i e)) D σ H) : tAsg (tE X.K X.mg (WofE E) e) (gName i) D σ H := by
  obtain ⟨c0, F0, c, ρ, rfl, t0, sb, ok, rel, p⟩ := h
  have p : PostS X.K X.mg E c0 F0 D ((ev e ρ c.s).ob fun x s => onO (stow own x) fun v => onO (put ρ i v) fun ρ' => .nx ρ' s) := p
  refine tR.ob t0 ok rel p fun v c1 x t1 ok1 rel1 j1 p1 => ?_
  obtain ⟨u, hu, p1⟩ := p1.onO
  obtain ⟨ρ', hp, p1⟩ := p1.onO
  obtain ⟨eu, c2, e1, e2, t2, ok2, hd⟩ := hold_of hu t1 ok1 j1
  rw [eu] at hp
  rw [← e2]
  exact p1 _ c2 e1 (t0.trans ok t2) (sb.trans t2.f) ok2 ((rel.step t2).hold hd (fun m e q h1 h2 => rel.ex m e q h1 h2) (fun q z => t0.back ok z) hp)
theorem loc_ok {x : Str} (C : SCxt X E n N sc) (h : locB sc x = true) : L2.Loc X.env.scope x := by
  unfold locB at h
  unfold L2.Loc
  rw [C.hs]
  split at h
  · exact .inl (by assumption)
  · exact .inr (by assumption)
  · cases h
theorem sw_lc {elt : Expr} {gs : List Comprehension} {scope : Scope} {p1 py : Pos} {y : Str} {line : Nat} (C : SCxt X E n N sc) (h : swB sc y py (.ListComp elt gs scope p1) = true) : swapsWith (.ListComp elt gs scope p1) (some (.Name y py)) line X.env = pure true := by
  unfold swB at h
  simp only [Bool.and_eq_true, decide_eq_true_eq] at h
  exact sw_true (by rw [C.hs]; exact C.kd) (by rw [C.hs]; exact h.1.1) h.1.2 (by simpa using h.2)
theorem sw_no {y : Str} {py : Pos} {line : Nat} (C : SCxt X E n N sc) (h1 : noSC e' = true) (h2 : (!(isLc e') || !(decide (sc.names.lookup y = some .local))) = true) : swapsWith e' (some (.Name y py)) line X.env = pure false := by
  cases e' <;> first | rfl | cases h1 | skip
  have h2 : sc.names.lookup y ≠ some .local := by simpa [isLc] using h2
  have hk : X.env.kindOf y ≠ some .local := by
    unfold Env.kindOf
    rw [C.hs]
    exact h2
  have hk2 : (X.env.kindOf y == some .local) = false := beq_eq_false_iff_ne.mpr hk
  unfold swapsWith
  simp only [hk2, Bool.and_false, Bool.false_and]
theorem ss_asg {own : Bool} {i : Nat} {x : Str} {px : Pos} (C : SCxt X E n N sc) (hi : (N[i]? == some x) = true) (hl : locB sc x = true) (h1 : noSC e' = true) (h2 : (!(isLc e') || !(decide (sc.names.lookup x = some .local))) = true) (he : PE X e' (tE X.K X.mg (WofE E) e)) : PS X (.Assign [.Name x px] e' pos) (tS (Y := Y) X.K X.mg E (run (.asg own i e))) :=
  (ps_set (i := i) (by rw [C.hN]; exact C.nd) (by rw [C.hN]; exact beq_iff_eq.mp hi) (loc_ok C hl) he (sw_no C h1 h2) (.inl (by rw [C.fn]))).weak fun _ _ _ h => asg_use h
theorem filterMap_lt {α β : Type} {f : α → Option β} : ∀ {l : List α}, (∃ t ∈ l, f t = none) → (l.filterMap f).length < l.length
  | [], h => by obtain ⟨t, h, _⟩ := h; cases h
  | x :: l, h => by
    rw [List.filterMap_cons]
    cases e : f x with
    | none => exact Nat.lt_succ_of_le (List.length_filterMap_le f l)
    | some y =>
      obtain ⟨t, ht, hn⟩ := h
      rcases List.mem_cons.mp ht with z | z
      · rw [z, e] at hn; cases hn
      · exact Nat.succ_lt_succ (filterMap_lt ⟨t, z, hn⟩)
theorem noSwap_ok {ts : List Expr} {k : Nat} {p : Pos} (C : SCxt X E n N sc) (h : noSwap sc ts e' = true) : swappedStores [.Tuple ts k p] e' X.env = pure none := by
  cases e' <;> first | rfl | skip
  rename_i vs k2 p2
  have h := Bool.or_eq_true_iff.mp h
  unfold swappedStores
  dsimp only
  split
  · rfl
  split
  · rfl
  split
  · rfl
  rename_i h3
  rcases h with h | h
  · rw [if_pos h]
  · exfalso
    apply h3
    refine Bool.or_eq_true_iff.mpr (.inl ?_)
    rw [bne_iff_ne]
    intro hl
    obtain ⟨t, ht, hn⟩ := List.any_eq_true.mp h
    refine absurd hl (Nat.ne_of_lt (filterMap_lt ⟨t, ht, ?_⟩))
    cases t <;> first | rfl | skip
    rename_i x px
    have hk : X.env.kindOf x ≠ some .local := by
      unfold Env.kindOf
      rw [C.hs]
      simpa using hn
    have hk2 : (X.env.kindOf x == some .local) = false := beq_eq_false_iff_ne.mpr hk
    simp only [hk2, Bool.false_and, Bool.false_eq_true, if_false]
theorem ss_asgT {tg : Tg} {ts : List Expr} {k : Nat} {p : Pos} (C : SCxt X E n N sc) (hT : chkT N sc (fun _ => true) tg (.Tuple ts k p) = true) (h1 : notComp e' = true) (h2 : noSwap sc ts e' = true) (he : PE X e' (tE X.K X.mg (WofE E) e)) : PS X (.Assign [.Tuple ts k p] e' pos) (tS (Y := Y) X.K X.mg E (run (.asgT tg e))) := by
  have hs : swapsWithSole [.Tuple ts k p] e' pos.line X.env = pure false := by
    cases e' <;> first | rfl | cases h1
  have hw : swappedStores [.Tuple ts k p] e' X.env = pure none := noSwap_ok C h2
  refine (ps_asg he (pg_ok C.hN C.hs C.nd C.calm C.fn hT) hs hw rfl).weak fun D σ H h => ?_
  obtain ⟨c0, F0, c, ρ, rfl, t0, sb, ok, rel, p⟩ := h
  have p : PostS X.K X.mg E c0 F0 D ((ev e ρ c.s).ob fun x s => (dat x s).ob fun d s => onO (asgT tg d ρ) fun ρ' => .nx ρ' s) := p
  refine tR.ob t0 ok rel p fun v c1 x t1 ok1 rel1 j1 p1 => ?_
  obtain ⟨hk, p1⟩ := p1.dat
  obtain ⟨ρ', ha, p1⟩ := p1.onO
  obtain ⟨c2, e1, e2, t2, ok2, r⟩ := Is.data j1 hk t1 ok1
  rw [← e2]
  exact gT_use ok2 ha (rel.step t2) r fun σ' r' _ _ => p1 σ' c2 e1 (t0.trans ok t2) (sb.trans t2.f) ok2 r'
theorem swap_ok {x y : Str} {px py pt p2 : Pos} {kt k2 : Nat} (C : SCxt X E n N sc) (h : swapB sc x y px py a' b' = true) : swappedStores [.Tuple [.Name x px, .Name y py] kt pt] (.Tuple [a', b'] k2 p2) X.env = pure (some [x, y]) := by
  unfold swapB at h
  simp only [Bool.and_eq_true, decide_eq_true_eq, Bool.not_eq_true'] at h
  obtain ⟨⟨⟨⟨⟨⟨⟨h1, h2⟩, h3⟩, h4⟩, h5⟩, h6⟩, h7⟩, h8⟩ := h
  have kx : X.env.kindOf x = some .local := by unfold Env.kindOf; rw [C.hs]; exact h1
  have ky : X.env.kindOf y = some .local := by unfold Env.kindOf; rw [C.hs]; exact h2
  have hb : X.env.blockKind = .function := by
    have : X.env.scope.kind = .function := by rw [C.hs]; exact C.kd
    unfold Env.blockKind
    rw [this]
    rfl
  have hst : ([a', b'].any fun | .Starred .. => true | _ => false) = false := by
    have s1 : ∀ {q : Expr}, notStar q = true → (match q with | .Starred .. => true | _ => false) = false := fun {q} hq => by cases q <;> first | rfl | cases hq
    simp only [List.any_cons, List.any_nil, s1 h5, s1 h6, Bool.or_false]
  have hne : (x == y) = false := h4
  have hxy : ([x, y] : List Str).eraseDups.length = 2 := by
    simp [List.eraseDups_cons, hne, bne, show (y == x) = false from by rw [beq_eq_false_iff_ne] at hne ⊢; exact fun z => hne z.symm]
  have hl : (py.line == px.line) = true := h3
  unfold swappedStores
  simp only [List.length_cons, List.length_nil, hb, kx, ky, hst, List.head?_cons, Option.map_some, Option.getD_some, Expr.pos, List.filterMap_cons, List.filterMap_nil, hl, h7, h8, hxy, beq_self_eq_true, Bool.and_self, Bool.and_true, if_true]
  refine Eq.trans (if_neg (by decide)) ?_
  refine Eq.trans (if_neg (by rw [Bool.not_eq_true]; exact hst)) ?_
  rfl
end
end Mf
set_option Elab.async false
set_option linter.all false
set_option maxRecDepth 100000
set_option maxHeartbeats 2000000
namespace Mf
open PySem L2

section
variable {X : Cx} {Y : Sys} {E : XK} {n : Nat} {N : List Str} {sc : Scope} {pos : Pos} {a' b' e' t' : Expr} {a b e t : CE Y.S}
theorem ss_par {oi oj : Bool} {i j : Nat} {x y : Str} {px py pt p2 : Pos} {kt k2 : Nat} (C : SCxt X E n N sc) (hi : (N[i]? == some x) = true) (hj : (N[j]? == some y) = true) (hsw : swapB sc x y px py a' b' = true)
    (ha : PE X a' (tE X.K X.mg (WofE E) a)) (hb : PE X b' (tE X.K X.mg (WofE E) b)) : PS X (.Assign [.Tuple [.Name x px, .Name y py] kt pt] (.Tuple [a', b'] k2 p2) pos) (tS (Y := Y) X.K X.mg E (run (.par oi oj i j a b))) := by
  have hi := beq_iff_eq.mp hi
  have hj := beq_iff_eq.mp hj
  have sw := hsw
  unfold swapB at hsw
  simp only [Bool.and_eq_true, decide_eq_true_eq, Bool.not_eq_true'] at hsw
  obtain ⟨⟨⟨⟨⟨⟨⟨h1, h2⟩, h3⟩, h4⟩, h5⟩, h6⟩, h7⟩, h8⟩ := hsw
  have hij : i ≠ j := fun z => by
    subst z
    rw [hi] at hj
    cases hj
    rw [beq_self_eq_true] at h4
    cases h4
  refine (ps_par (i := i) (j := j) C.calm (by rw [C.hN]; exact C.nd) (by rw [C.hN]; exact hi) (by rw [C.hN]; exact hj) hij (by rw [C.hs]; exact h1) (by rw [C.hs]; exact h2) (pa_cons ha (pa_cons hb pa_nil (star_cons h6 _ _)) (star_cons h5 _ _)) (swap_ok C sw)).weak fun D σ H h => ?_
  obtain ⟨c0, F0, c, ρ, rfl, t0, sb, ok, rel, p⟩ := h
  have p : PostS X.K X.mg E c0 F0 D ((ev a ρ c.s).ob fun x s => onO (stow oi x) fun u => (ev b ρ s).ob fun y s => onO (stow oj y) fun v => onO (put ρ i u) fun ρ1 => onO (put ρ1 j v) fun ρ2 => .nx ρ2 s) := p
  refine tR.ob t0 ok rel p fun v c1 x t1 ok1 rel1 j1 p1 => ?_
  obtain ⟨u, hu, p1⟩ := p1.onO
  obtain ⟨eu, c2, e1, e2, t2, ok2, hd⟩ := hold_of hu t1 ok1 j1
  rw [← e2]
  rw [← e1] at p1
  have rel2 := rel.step t2
  have t02 := t0.trans ok t2
  refine tR.ob t02 ok2 rel2 p1 fun w c3 y t3 ok3 rel3 j3 p3 => ?_
  obtain ⟨u', hu', p3⟩ := p3.onO
  obtain ⟨ρ1, hp1, p3⟩ := p3.onO
  obtain ⟨ρ2, hp2, p3⟩ := p3.onO
  obtain ⟨eu', c4, e3, e4, t4, ok4, hd'⟩ := hold_of hu' t3 ok3 j3
  rw [eu] at hp1
  rw [eu'] at hp2
  refine ⟨v, w, rfl, ?_⟩
  rw [← e4]
  have hd4 := hd.step t4
  have rA := (rel2.step t4).hold hd4 (fun m e q h1 h2 => rel.ex m e q h1 h2) (fun q z => t0.back ok z) hp1
  refine p3 _ c4 e3 (t02.trans ok2 t4) ((sb.trans t2.f).trans t4.f) ok4 (rA.hold hd' (fun m d q h1 h2 => ?_) (fun q z => t02.back ok2 z) hp2)
  -- every owned slot stood when the second value was made
  unfold put at hp1
  split at hp1
  · rename_i hil
    cases hp1
    by_cases hm : i = m
    · subst hm
      rw [List.getElem?_set_self hil] at h1
      rw [List.getElem?_set_self (by rw [← rel.len]; exact hil)] at h2
      cases oi with
      | false => cases h1
      | true =>
        obtain ⟨q', eq, o, _⟩ := hd
        subst eq
        cases h2
        exact o.obj
    · rw [List.getElem?_set_ne hm] at h1 h2
      exact t2.ne ok2 (rel.ex m d q h1 h2)
  · cases hp1
theorem ss_ife {A B : CSs Y.S} {as bs : List Stmt} (ht : PT X t' (tT X.K X.mg (WofE E) t)) (hA : PSs X as (tS X.K X.mg E (runs A))) (hB : PSs X bs (tS X.K X.mg E (runs B))) : PS X (.If t' as bs pos) (tS (Y := Y) X.K X.mg E (run (.ife t A B))) := by
  refine (ps_if ht hA hB).weak fun D σ H h => ?_
  obtain ⟨c0, F0, c, ρ, rfl, t0, sb, ok, rel, p⟩ := h
  have p : PostS X.K X.mg E c0 F0 D (((ev t ρ c.s).bind tru).ob fun k s => if k then runs A ρ s else runs B ρ s) := p
  refine tR.ob (f := fun ρ s => (ev t ρ s).bind tru) t0 ok rel p fun k c1 x t1 ok1 rel1 j1 p1 => ?_
  have j1 : k = x := j1
  subst j1
  cases k with
  | true => exact iteT ⟨c0, F0, c1, ρ, rfl, t0.trans ok t1, sb.trans t1.f, ok1, rel1, p1⟩
  | false => exact iteF ⟨c0, F0, c1, ρ, rfl, t0.trans ok t1, sb.trans t1.f, ok1, rel1, p1⟩
theorem ss_nil : PSs X [] (tS (Y := Y) X.K X.mg E (runs .nil)) := by
  refine pss_nil.weak fun D σ H h => ?_
  obtain ⟨c0, F0, c, ρ, rfl, t0, sb, ok, rel, p⟩ := h
  have p : PostS X.K X.mg E c0 F0 D (.nx ρ c.s) := p
  exact p σ c rfl t0 sb ok rel
theorem ss_cons {A : CS Y.S} {B : CSs Y.S} {st : Stmt} {sts : List Stmt} (hA : PS X st (tS X.K X.mg E (run A))) (hB : PSs X sts (tS X.K X.mg E (runs B))) : PSs X (st :: sts) (tS (Y := Y) X.K X.mg E (runs (.cons A B))) := by
  refine (pss_cons hA hB).weak fun D σ H h => ?_
  obtain ⟨c0, F0, c, ρ, rfl, t0, sb, ok, rel, p⟩ := h
  have p : PostS X.K X.mg E c0 F0 D ((run A ρ c.s).sq (runs B)) := p
  refine ⟨c0, F0, c, ρ, rfl, t0, sb, ok, rel, ?_⟩
  cases er : run A ρ c.s with
  | nx ρ' s' =>
    rw [er] at p
    intro σ' c' e1 t1 sb1 ok1 rel1
    subst e1
    exact ⟨c0, F0, c', ρ', rfl, t1, sb1, ok1, rel1, p⟩
  | rt d s' => rw [er] at p; exact p
  | ex x s' => rw [er] at p; exact p
  | er => rw [er] at p; exact p
theorem ss_for {tg : Tg} {it : CI Y.S} {body : CSs Y.S} {tg' it' : Expr} {body' : List Stmt} (C : SCxt X E n N sc) (hz : zipI it = true → consT tg = true) (hT : chkT N sc (fun _ => true) tg tg' = true) (hset : notSet it' = true) (hI : PI X tg' it' (tI X.K X.mg (WofE E) true it)) (hB : PSs X body' (tS X.K X.mg E (runs body))) :
    PS X (.For tg' it' body' [] pos) (tS (Y := Y) X.K X.mg E (run (.forr tg it body))) := by
  refine (ps_for C.po C.calm hI (pg_ok C.hN C.hs C.nd C.calm C.fn hT) hB (set_ok hset)).weak fun D σ H h => ?_
  obtain ⟨c0, F0, c, ρ, rfl, t0, sb, ok, rel, p⟩ := h
  have p : PostS X.K X.mg E c0 F0 D ((evI true it ρ c.s).ob fun ds s => forR (fun d ρ s => onO (asgT tg d ρ) fun ρ' => runs body ρ' s) ds ρ s) := p
  refine tR.ob t0 ok rel p fun J c1 ds t1 ok1 rel1 j1 p1 => ?_
  obtain ⟨G, gd, hG⟩ := j1
  have sb1 : Sub F0 c1.F := sb.trans t1.f
  refine ⟨fun i m σ H => m = ds.length - i ∧ i ≤ ds.length ∧ ∃ (cc : Cf Y) (ρ : List SV), cc.H = H ∧ Step c0 cc ∧ Ok cc ∧ Rel X.K c0.H cc σ ρ ∧ Sub c1.F cc.F ∧ PostS X.K X.mg E c0 F0 D (forR (fun d ρ s => onO (asgT tg d ρ) fun ρ' => runs body ρ' s) (ds.drop i) ρ cc.s),
    ⟨ds.length, rfl, Nat.zero_le _, c1, ρ, rfl, t0.trans ok t1, ok1, rel1, Sub.refl _, p1⟩, fun i m σ H hW => ?_⟩
  obtain ⟨rfl, hi, cc, ρ, rfl, tc, okc, relc, sbc, pc⟩ := hW
  have hG' := hG cc (by rw [if_pos rfl]; exact sbc)
  by_cases hlt : i < ds.length
  · have hd : ds[i]? = some ds[i] := List.getElem?_eq_getElem hlt
    have edrop : ds.drop i = ds[i] :: ds.drop (i + 1) := List.drop_eq_getElem_cons hlt
    rw [edrop] at pc
    obtain ⟨go, yl⟩ := (gd cc hG' okc i).2 _ hd
    refine .inr ⟨go, fun σ H => ds.length - (i + 1) = ds.length - (i + 1) ∧ i + 1 ≤ ds.length ∧ ∃ (cc : Cf Y) (ρ : List SV), cc.H = H ∧ Step c0 cc ∧ Ok cc ∧ Rel X.K c0.H cc σ ρ ∧ Sub c1.F cc.F ∧ PostS X.K X.mg E c0 F0 D (forR (fun d ρ s => onO (asgT tg d ρ) fun ρ' => runs body ρ' s) (ds.drop (i + 1)) ρ cc.s),
      fun σ' H' hN => ⟨ds.length - (i + 1), by omega, hN⟩, fun x H' hy => ?_⟩
    obtain ⟨c2, rfl, es2, t2, ok2, rx⟩ := yl x H' hy
    cases ea : asgT tg ds[i] ρ with
    | none =>
      have pc : PostS X.K X.mg E c0 F0 D ((onO (asgT tg ds[i] ρ) fun ρ' => runs body ρ' cc.s).sq (forR (fun d ρ s => onO (asgT tg d ρ) fun ρ' => runs body ρ' s) (ds.drop (i + 1)))) := pc
      rw [ea] at pc
      exact pc.elim
    | some ρ' =>
      have pc : PostS X.K X.mg E c0 F0 D ((onO (asgT tg ds[i] ρ) fun ρ' => runs body ρ' cc.s).sq (forR (fun d ρ s => onO (asgT tg d ρ) fun ρ' => runs body ρ' s) (ds.drop (i + 1)))) := pc
      rw [ea] at pc
      have pc : PostS X.K X.mg E c0 F0 D ((runs body ρ' cc.s).sq (forR (fun d ρ s => onO (asgT tg d ρ) fun ρ' => runs body ρ' s) (ds.drop (i + 1)))) := pc
      refine gT_any ok2 hz ea (relc.step t2) rx fun σ' rel' _ _ => ?_
      refine ⟨c0, c1.F, c2, ρ', rfl, tc.trans okc t2, sbc.trans t2.f, ok2, rel', ?_⟩
      rw [es2]
      cases er : runs body ρ' cc.s with
      | nx ρ2 s2 =>
        rw [er] at pc
        intro σ3 c3 e3 t3 sb3 ok3 rel3
        subst e3
        exact ⟨rfl, hlt, c3, ρ2, rfl, t3, ok3, rel3, sb3, pc⟩
      | rt d s2 => rw [er] at pc; exact pc
      | ex x s2 => rw [er] at pc; exact pc
      | er => rw [er] at pc; exact pc
  · have ei : i = ds.length := by omega
    subst ei
    rw [List.drop_length] at pc
    have pc : PostS X.K X.mg E c0 F0 D (.nx ρ cc.s) := pc
    exact .inl ⟨(gd cc hG' okc ds.length).1 (Nat.le_refl _), pc σ cc rfl tc (sb1.trans sbc) okc relc⟩
theorem ss_whl {body : CSs Y.S} {fuel : List SV → Y.S → Nat} {body' : List Stmt} (C : SCxt X E n N sc) (ht : PT X t' (tT X.K X.mg (WofE E) t)) (hB : PSs X body' (tS X.K X.mg E (runs body))) :
    PS X (.While t' body' [] pos) (tS (Y := Y) X.K X.mg E (run (.whl t body fuel))) := by
  refine (ps_while C.po ht hB).weak fun D σ H h => ?_
  obtain ⟨c0, F0, c, ρ, rfl, t0, sb, ok, rel, p⟩ := h
  have p : PostS X.K X.mg E c0 F0 D (whlR (fun ρ s => (ev t ρ s).bind tru) (runs body) (fuel ρ c.s) ρ c.s) := p
  refine ⟨fun m σ H => ∃ (cc : Cf Y) (ρ : List SV), cc.H = H ∧ Step c0 cc ∧ Ok cc ∧ Rel X.K c0.H cc σ ρ ∧ Sub F0 cc.F ∧ PostS X.K X.mg E c0 F0 D (whlR (fun ρ s => (ev t ρ s).bind tru) (runs body) m ρ cc.s), ⟨fuel ρ c.s, c, ρ, rfl, t0, ok, rel, sb, p⟩, fun m σ H hW => ?_⟩
  obtain ⟨cc, ρ, rfl, tc, okc, relc, sbc, pc⟩ := hW
  cases m with
  | zero => exact pc.elim
  | succ m =>
    have pc : PostS X.K X.mg E c0 F0 D (((ev t ρ cc.s).bind tru).ob fun k s1 => if k then (runs body ρ s1).sq (whlR (fun ρ s => (ev t ρ s).bind tru) (runs body) m) else .nx ρ s1) := pc
    refine tR.ob (f := fun ρ s => (ev t ρ s).bind tru) tc okc relc pc fun k c1 x t1 ok1 rel1 j1 p1 => ?_
    have j1 : k = x := j1
    subst j1
    cases k with
    | false => exact iteF (p1 σ c1 rfl (tc.trans okc t1) (sbc.trans t1.f) ok1 rel1)
    | true =>
      have p1 : PostS X.K X.mg E c0 F0 D ((runs body ρ c1.s).sq (whlR (fun ρ s => (ev t ρ s).bind tru) (runs body) m)) := p1
      refine iteT ⟨fun σ H => ∃ (cc : Cf Y) (ρ : List SV), cc.H = H ∧ Step c0 cc ∧ Ok cc ∧ Rel X.K c0.H cc σ ρ ∧ Sub F0 cc.F ∧ PostS X.K X.mg E c0 F0 D (whlR (fun ρ s => (ev t ρ s).bind tru) (runs body) m ρ cc.s), fun σ' H' hN => ⟨m, Nat.lt_succ_self m, hN⟩, ?_⟩
      refine ⟨c0, F0, c1, ρ, rfl, tc.trans okc t1, sbc.trans t1.f, ok1, rel1, ?_⟩
      cases er : runs body ρ c1.s with
      | nx ρ2 s2 =>
        rw [er] at p1
        intro σ3 c3 e3 t3 sb3 ok3 rel3
        subst e3
        exact ⟨c3, ρ2, rfl, t3, ok3, rel3, sb3, p1⟩
      | rt d s2 => rw [er] at p1; exact p1
      | ex x s2 => rw [er] at p1; exact p1
      | er => rw [er] at p1; exact p1
theorem ss_frz {i : Nat} {A : CS Y.S} {st : Stmt} (hA : PS X st (tS X.K X.mg E (run A))) : PS X st (tS (Y := Y) X.K X.mg E (run (.frz i A))) := by
  refine hA.weak fun D σ H h => ?_
  obtain ⟨c0, F0, c, ρ, rfl, t0, sb, ok, rel, p⟩ := h
  have p : PostS X.K X.mg E c0 F0 D (match ρ[i]? with | some (.ow d) => run A (ρ.set i (.va d)) c.s | _ => run A ρ c.s) := p
  split at p
  · rename_i d hd
    obtain ⟨c2, e1, e2, t2, ok2, sb2, rel2⟩ := rel.frz ok t0 rfl hd
    rw [← e1] at p
    exact ⟨c0, F0, c2, _, e2, t2, sb.trans sb2, ok2, rel2, p⟩
  · exact ⟨c0, F0, c, ρ, rfl, t0, sb, ok, rel, p⟩
theorem vis_ok {x : Str} (C : SCxt X E n N sc) (h : visB sc x = true) {i : Nat} {p : Pos} (hi : (N[i]? == some x) = true) : PE X (.Name x p) (tVar i) := by
  obtain ⟨v1, v2, v3⟩ := visB_ok h
  exact pe_var (by rw [C.hN]; exact beq_iff_eq.mp hi) (by rw [C.hs]; exact v1) v2 v3
theorem ss_app {i : Nat} {x : Str} {p apos cpos : Pos} (C : SCxt X E n N sc) (hi : (N[i]? == some x) = true) (hv : visB sc x = true) (hs : notStar e' = true) (hl : (apos.endLine == cpos.line) = true) (he : PE X e' (tE X.K X.mg (WofE E) e)) :
    PS X (.Expr (.Call (.Attribute (.Name x p) "append" apos) [e'] [] cpos) pos) (tS (Y := Y) X.K X.mg E (run (.app i e))) := by
  refine (ps_expr (pe_bm PySem.F.plainAttrs_list PySem.F.slot_list_append PySem.F.type_list_append mt_append (vis_ok C hv hi) (pa_cons he pa_nil (star_cons hs _ _)) rfl (few_ok hs) hl (star_cons hs _ _) rfl) rfl).weak fun D σ H h => ?_
  obtain ⟨c0, F0, c, ρ, rfl, t0, sb, ok, rel, p⟩ := h
  have p : PostS X.K X.mg E c0 F0 D (onO (ownL ρ i) fun ds => (ev e ρ c.s).ob fun x s => (dat x s).ob fun d s => if lenOk (ds.length + 1) then .nx (ρ.set i (.ow (.lst (ds ++ [d])))) s else .er) := p
  obtain ⟨ds, ho, p⟩ := p.onO
  have hρ : ρ[i]? = some (.ow (.lst ds)) := by
    unfold ownL at ho
    split at ho
    · cases ho; assumption
    · cases ho
  obtain ⟨q, hσ, o, z⟩ := rel.ow i _ hρ
  obtain ⟨vs, hq, rs⟩ := o.1
  refine ⟨.ref q, hσ, .inl ⟨rfl, vs, .inl (.inl hq)⟩, ?_⟩
  refine tR.ob t0 ok rel p fun v c1 x t1 ok1 rel1 j1 p1 => ?_
  obtain ⟨hk, p1⟩ := p1.dat
  obtain ⟨c2, e1, e2, t2, ok2, r⟩ := Is.data j1 hk t1 ok1
  have o2 := o.step t2
  split at p1
  · rename_i hlen
    have hq2 : c2.H q = some (.lst vs) := t2.h q _ hq o.2.2
    rw [← e2]
    refine ⟨q, vs, v, rfl, rfl, hq2, ?_, ?_⟩
    · rw [rs.length]
      have := of_decide_eq_true hlen
      have e : sizeLine = 16777216 := by decide
      omega
    · refine p1 σ ⟨c2.F, upd c2.H q (.lst (vs ++ [v])), c2.s⟩ e1 ((t0.trans ok t2).mut z _) (sb.trans t2.f) (ok2.mut o2.2.1 o2.2.2 _) ((rel.step t2).mut hρ hσ ?_)
      exact ⟨⟨_, upd_same, (rs.mono t2.f).append (.cons r .nil)⟩, o2.2.1, o2.2.2⟩
  · exact p1.elim
theorem ss_ext {i : Nat} {x : Str} {p apos cpos : Pos} (C : SCxt X E n N sc) (hi : (N[i]? == some x) = true) (hv : visB sc x = true) (hs : notStar e' = true) (hl : (apos.endLine == cpos.line) = true) (he : PE X e' (tE X.K X.mg (WofE E) e)) :
    PS X (.Expr (.Call (.Attribute (.Name x p) "extend" apos) [e'] [] cpos) pos) (tS (Y := Y) X.K X.mg E (run (.ext i e))) := by
  refine (ps_expr (pe_bm PySem.F.plainAttrs_list PySem.F.slot_list_extend PySem.F.type_list_extend mt_extend (vis_ok C hv hi) (pa_cons he pa_nil (star_cons hs _ _)) rfl (few_ok hs) hl (star_cons hs _ _) rfl) rfl).weak fun D σ H h => ?_
  obtain ⟨c0, F0, c, ρ, rfl, t0, sb, ok, rel, p⟩ := h
  have p : PostS X.K X.mg E c0 F0 D (onO (ownL ρ i) fun ds => (ev e ρ c.s).ob fun x s => match x.2 with | .lst es => if lenOk (ds.length + es.length) then .nx (ρ.set i (.ow (.lst (ds ++ es)))) s else .er | _ => .er) := p
  obtain ⟨ds, ho, p⟩ := p.onO
  have hρ : ρ[i]? = some (.ow (.lst ds)) := by
    unfold ownL at ho
    split at ho
    · cases ho; assumption
    · cases ho
  obtain ⟨q, hσ, o, z⟩ := rel.ow i _ hρ
  obtain ⟨vs, hq, rs⟩ := o.1
  refine ⟨.ref q, hσ, .inl ⟨rfl, vs, .inl (.inl hq)⟩, ?_⟩
  refine tR.ob t0 ok rel p fun v c1 x t1 ok1 rel1 j1 p1 => ?_
  obtain ⟨k, d⟩ := x
  have o2 := o.step t1
  cases d with
  | lst es =>
    have p1 : PostS X.K X.mg E c0 F0 D (if lenOk (ds.length + es.length) then .nx (ρ.set i (.ow (.lst (ds ++ es)))) c1.s else .er) := p1
    split at p1
    · rename_i hlen
      have hq2 : c1.H q = some (.lst vs) := t1.h q _ hq o.2.2
      obtain ⟨q2, vs2, rfl, hb, rb⟩ := Is.lst j1 ok1
      refine ⟨q, q2, vs, vs2, rfl, rfl, hq2, hb, ?_, ?_⟩
      · rw [rs.length, rb.length]
        exact szM hlen
      · refine p1 σ ⟨c1.F, upd c1.H q (.lst (vs ++ vs2)), c1.s⟩ rfl ((t0.trans ok t1).mut z _) (sb.trans t1.f) (ok1.mut o2.2.1 o2.2.2 _) ((rel.step t1).mut hρ hσ ?_)
        exact ⟨⟨_, upd_same, (rs.mono t1.f).append rb⟩, o2.2.1, o2.2.2⟩
    · exact p1.elim
  | _ => exact p1.elim
theorem findIdx_pys {e : D} (he : e.sh 60 = true) : ∀ (ds : List D), shs 59 ds = true → SeqAt.dataPlace (pys ds) e.py = ds.findIdx? fun y => deq y e
  | [], _ => rfl
  | d :: ds, h => by
    have h := Bool.and_eq_true_iff.mp h
    have ih := findIdx_pys he ds h.2
    unfold SeqAt.dataPlace at ih ⊢
    show (d.py :: pys ds).findIdx? _ = _
    rw [List.findIdx?_cons, List.findIdx?_cons, ih, py_eqv 59 60 d e h.1 he]
theorem ss_rem {i : Nat} {x : Str} {p apos cpos : Pos} (C : SCxt X E n N sc) (hi : (N[i]? == some x) = true) (hv : visB sc x = true) (hs : notStar e' = true) (hl : (apos.endLine == cpos.line) = true) (he : PE X e' (tE X.K X.mg (WofE E) e)) :
    PS X (.Expr (.Call (.Attribute (.Name x p) "remove" apos) [e'] [] cpos) pos) (tS (Y := Y) X.K X.mg E (run (.rem i e))) := by
  refine (ps_expr (pe_bm PySem.F.plainAttrs_list PySem.F.slot_list_remove PySem.F.type_list_remove (mt_removeD (hr65 C.room)) (vis_ok C hv hi) (pa_cons he pa_nil (star_cons hs _ _)) rfl (few_ok hs) hl (star_cons hs _ _) rfl) rfl).weak fun D σ H h => ?_
  obtain ⟨c0, F0, c, ρ, rfl, t0, sb, ok, rel, p⟩ := h
  have p : PostS X.K X.mg E c0 F0 D (onO (ownL ρ i) fun ds => (ev e ρ c.s).ob fun x s => if x.2.sh 60 && shs 59 ds then onO (ds.findIdx? fun z => deq z x.2) fun j => .nx (ρ.set i (.ow (.lst (ds.eraseIdx j)))) s else .er) := p
  obtain ⟨ds, ho, p⟩ := p.onO
  have hρ : ρ[i]? = some (.ow (.lst ds)) := by
    unfold ownL at ho
    split at ho
    · cases ho; assumption
    · cases ho
  obtain ⟨q, hσ, o, z⟩ := rel.ow i _ hρ
  obtain ⟨vs, hq, rs⟩ := o.1
  refine ⟨.ref q, hσ, .inl ⟨rfl, vs, .inl (.inl hq)⟩, ?_⟩
  refine tR.ob t0 ok rel p fun v c1 x t1 ok1 rel1 j1 p1 => ?_
  have o2 := o.step t1
  split at p1
  · rename_i hsh
    have hsh := Bool.and_eq_true_iff.mp hsh
    obtain ⟨j, hj, p1⟩ := p1.onO
    have hq2 : c1.H q = some (.lst vs) := t1.h q _ hq o.2.2
    refine ⟨q, vs, v, _, pys ds, j, rfl, rfl, hq2, pys_dp ok1.sub (rs.mono t1.f) hsh.2, Is.dp j1 ok1 hsh.1, shaped_lst hsh.2, shaped_of hsh.1, by rw [findIdx_pys hsh.1 ds hsh.2]; exact hj, ?_⟩
    refine p1 σ ⟨c1.F, upd c1.H q (.lst (vs.eraseIdx j)), c1.s⟩ rfl ((t0.trans ok t1).mut z _) (sb.trans t1.f) (ok1.mut o2.2.1 o2.2.2 _) ((rel.step t1).mut hρ hσ ?_)
    exact ⟨⟨_, upd_same, (rs.mono t1.f).erase j⟩, o2.2.1, o2.2.2⟩
  · exact p1.elim
def rSetX : TSet := fun o i v H Q => rSetL o i v H Q ∨ rSetD o i v H Q
theorem set_X (C : SCxt X E n N sc) : PSet X rSetX := by
  intro pins s σ H o i v ov iv u Q I ro ri rv h
  rcases h with h | h
  · exact set_list pins s σ H o i v ov iv u Q I ro ri rv h
  · exact set_dict (hu_of C.room) pins s σ H o i v ov iv u Q I ro ri rv h
theorem RepK.length {K : PySem.W.Frag} {F : Hp} : ∀ {kvs : List (Key × V)} {es : List (Str × Mf.D)}, RepK K F kvs es → kvs.length = es.length
  | _, _, .nil => rfl
  | _, _, .cons _ r => congrArg (· + 1) (RepK.length r)
theorem ss_seti {i : Nat} {x : Str} {p ps : Pos} {k : CE Y.S} {k' : Expr} (C : SCxt X E n N sc) (hi : (N[i]? == some x) = true) (hv : visB sc x = true) (hk' : notSlice k' = true) (hc : notComp e' = true) (hk : PE X k' (tE X.K X.mg (WofE E) k)) (he : PE X e' (tE X.K X.mg (WofE E) e)) :
    PS X (.Assign [.Subscript (.Name x p) k' ps] e' pos) (tS (Y := Y) X.K X.mg E (run (.seti i k e))) := by
  have hs : swapsWithSole [.Subscript (.Name x p) k' ps] e' pos.line X.env = pure false := by
    cases e' <;> first | rfl | cases hc
  have hw : swappedStores [.Subscript (.Name x p) k' ps] e' X.env = pure none := by
    cases e' <;> rfl
  have ha : ∀ v, assign (.Subscript (.Name x p) k' ps) X.env v = (do
      let ov ← holding [v] (eval (.Name x p) X.env)
      let iv ← holding [v, ov] (eval k' X.env)
      standAt ps
      holding [v, ov, iv] (setItem ov iv v)
      release [v, ov, iv] []) := by
    intro v
    cases k' <;> first | rfl | cases hk'
  refine (ps_asg he (pg_sub (vis_ok C hv hi) hk (set_X C) ha) hs hw rfl).weak fun D σ H h => ?_
  obtain ⟨c0, F0, c, ρ, rfl, t0, sb, ok, rel, p⟩ := h
  have p : PostS X.K X.mg E c0 F0 D ((ev e ρ c.s).ob fun x s => (dat x s).ob fun d s => if isOw ρ[i]? then (ev k ρ s).ob fun y s => onO ((ρ[i]?).bind fun o => setD o y.2 d) fun o => .nx (ρ.set i o) s else .er) := p
  refine tR.ob t0 ok rel p fun v c1 xd t1 ok1 rel1 j1 p1 => ?_
  obtain ⟨hkk, p1⟩ := p1.dat
  obtain ⟨c2, e1, e2, t2, ok2, r⟩ := Is.data j1 hkk t1 ok1
  rw [← e2]
  rw [← e1] at p1
  split at p1
  · rename_i hio
    have ho : ∃ d0, ρ[i]? = some (.ow d0) := by
      unfold isOw at hio
      split at hio
      · exact ⟨_, by assumption⟩
      · cases hio
    obtain ⟨d0, hρ⟩ := ho
    have rel2 := rel.step t2
    obtain ⟨q, hσ, o, z⟩ := rel2.ow i _ hρ
    refine ⟨.ref q, hσ, ?_⟩
    refine tR.ob (t0.trans ok t2) ok2 rel2 p1 fun y c3 xk t3 ok3 rel3 j3 p3 => ?_
    obtain ⟨o', hset, p3⟩ := p3.onO
    rw [hρ] at hset
    have hset : setD (.ow d0) xk.2 xd.2 = some o' := hset
    have o3 := o.step t3
    have t03 := (t0.trans ok t2).trans ok2 t3
    obtain ⟨kk, dk⟩ := xk
    obtain ⟨kx, dx⟩ := xd
    have hset : setD (.ow d0) dk dx = some o' := hset
    have r : Rep X.K c2.F v dx := r
    cases d0 with
    | lst ds =>
      cases dk with
      | int ki =>
        obtain ⟨j, hj, rfl⟩ := Option.map_eq_some_iff.mp hset
        obtain ⟨vs, hq, rs⟩ := o3.1
        refine .inl ⟨q, vs, ki, j, rfl, Is.int j3, hq, by rw [rs.length]; exact hj, ?_⟩
        refine p3 σ ⟨c3.F, upd c3.H q (.lst (vs.set j v)), c3.s⟩ rfl (t03.mut z _) ((sb.trans t2.f).trans t3.f) (ok3.mut o3.2.1 o3.2.2 _) (rel3.mut hρ hσ ?_)
        exact ⟨⟨_, upd_same, rs.set (r.mono t3.f) j⟩, o3.2.1, o3.2.2⟩
      | _ => cases hset
    | dct es =>
      cases dk with
      | str ks =>
        have hset : (if lenOk (es.length + 1) then some (SV.ow (.dct (putD es ks dx))) else none) = some o' := hset
        split at hset
        · rename_i hlen
          cases hset
          obtain ⟨kvs, hq, rs⟩ := o3.1
          have hL : kvs.length < sizeLine := by
            rw [RepK.length rs]
            exact szM hlen
          refine .inr ⟨q, _, rfl, by rw [Is.str j3]; exact DPut.k (k := .inr ks) hq hL, ?_⟩
          refine p3 σ ⟨c3.F, upd c3.H q (.dK (putK kvs (.inr ks) v)), c3.s⟩ rfl (t03.mut z _) ((sb.trans t2.f).trans t3.f) (ok3.mut o3.2.1 o3.2.2 _) (rel3.mut hρ hσ ?_)
          exact ⟨⟨_, upd_same, rs.put (r.mono t3.f)⟩, o3.2.1, o3.2.2⟩
        · cases hset
      | _ => cases hset
    | _ => exact o.1.elim
  · exact p1.elim
end
end Mf
set_option Elab.async false
set_option linter.all false
set_option maxRecDepth 100000
set_option maxHeartbeats 2000000
namespace Mf
open PySem L2

section
variable {Y : Sys} {n : Nat} {N : List Str} {sc : Scope} {E : XK}
mutual
theorem soundS {X : Cx} (C : SCxt X E n N sc) : ∀ (c : CS Y.S) (st : Stmt), chkS N sc c st = true → needS (Pn X Y n) (Glb X.K X.mg) c → PS X st (tS X.K X.mg E (run c))
  | .asg own i e, st, h, g => by
    unfold chkS at h
    split at h
    · rename_i x px e' pos
      simp only [Bool.and_eq_true] at h
      obtain ⟨⟨⟨⟨h1, h2⟩, h3⟩, h4⟩, h5⟩ := h
      by_cases hsw : swB sc x px e' = true
      · cases e' <;> first | cases hsw | skip
        rename_i elt' gs scope p1
        have hlx : sc.names.lookup x = some .local := by
          unfold swB at hsw
          simp only [Bool.and_eq_true, decide_eq_true_eq] at hsw
          exact hsw.1.1
        cases e with
        | lc it tg ifs elt vs =>
          unfold chkE at h4
          split at h4
          · rename_i elt2 tg2 iter2 ifs2 scope2 pos2 heq
            cases heq
            simp only [Bool.and_eq_true] at h4
            obtain ⟨⟨⟨⟨⟨⟨k1, k2⟩, k3⟩, k4⟩, k5⟩, k6⟩, k7⟩ := h4
            have q := (se_lc (py := px) (spos := pos) (pos := p1) (ifs := ifs) (elt := elt) C.toCxt (zip_cons k1 k5) (soundI C.toCxt false it _ _ k1 g.1) k2 k3 k4 k5 (fun X' a1 a2 a3 a4 a5 C' => ?_) (fun X' a1 a2 a3 a4 a5 C' => ?_)).2 (beq_iff_eq.mp h1) hlx (sw_lc C hsw)
            · exact q.weak fun _ _ _ z => asg_use z
            · have q := soundC C' ifs _ k6 (by unfold Pn; rw [a1, a2, a3, a4, a5]; exact g.2.1)
              rw [a3, a4] at q
              exact q
            · have q := (sound C' elt _ k7 (by unfold Pn; rw [a1, a2, a3, a4, a5]; exact g.2.2)).pe
              rw [a3, a4] at q
              exact q
          · cases h4
        | _ => unfold chkE at h4; cases h4
      · refine ss_asg C h1 h2 h3 ?_ (sound C.toCxt e _ h4 g).pe
        rw [Bool.not_eq_true] at hsw
        rw [hsw, Bool.or_false] at h5
        exact h5
    · cases h
  | .asgT tg e, st, h, g => by
    unfold chkS at h
    split at h
    · simp only [Bool.and_eq_true] at h
      obtain ⟨⟨⟨⟨h1, h2⟩, h3⟩, h4⟩, h5⟩ := h
      exact ss_asgT C h1 h3 h4 (sound C.toCxt e _ h5 g).pe
    · cases h
  | .par oi oj i j a b, st, h, g => by
    unfold chkS at h
    split at h
    · simp only [Bool.and_eq_true] at h
      obtain ⟨⟨⟨⟨h1, h2⟩, h3⟩, h4⟩, h5⟩ := h
      exact ss_par C h1 h2 h3 (sound C.toCxt a _ h4 g.1).pe (sound C.toCxt b _ h5 g.2).pe
    · cases h
  | .ret e, st, h, g => by
    unfold chkS at h
    split at h
    · exact ss_ret (sound C.toCxt e _ h g).pe
    · cases h
  | .retN, st, h, g => by
    unfold chkS at h
    split at h
    · exact ss_retN
    · cases h
  | .expr e, st, h, g => by
    unfold chkS at h
    split at h
    · simp only [Bool.and_eq_true] at h
      exact ss_expr h.1 (sound C.toCxt e _ h.2 g).pe
    · cases h
  | .never, st, h, g => ss_never
  | .ife t a b, st, h, g => by
    unfold chkS at h
    split at h
    · simp only [Bool.and_eq_true] at h
      obtain ⟨⟨⟨h1, h2⟩, h3⟩, h4⟩ := h
      exact ss_ife ((sound C.toCxt t _ h2 g.1).pt h1) (soundSs C a _ h3 g.2.1) (soundSs C b _ h4 g.2.2)
    · cases h
  | .forr tg it body, st, h, g => by
    unfold chkS at h
    split at h
    · simp only [Bool.and_eq_true] at h
      obtain ⟨⟨⟨h1, h2⟩, h3⟩, h4⟩ := h
      exact ss_for C (zip_cons h3 h1) h1 h2 (soundI C.toCxt true it _ _ h3 g.1) (soundSs C body _ h4 g.2)
    · cases h
  | .whl t body fuel, st, h, g => by
    unfold chkS at h
    split at h
    · simp only [Bool.and_eq_true] at h
      obtain ⟨⟨h1, h2⟩, h3⟩ := h
      exact ss_whl C ((sound C.toCxt t _ h2 g.1).pt h1) (soundSs C body _ h3 g.2)
    · cases h
  | .app i e, st, h, g => by
    unfold chkS at h
    split at h
    · simp only [Bool.and_eq_true] at h
      obtain ⟨⟨⟨⟨⟨h1, h2⟩, h3⟩, h4⟩, h5⟩, h6⟩ := h
      have em := beq_iff_eq.mp h3
      subst em
      exact ss_app C h1 h2 h4 h5 (sound C.toCxt e _ h6 g).pe
    · cases h
  | .ext i e, st, h, g => by
    unfold chkS at h
    split at h
    · simp only [Bool.and_eq_true] at h
      obtain ⟨⟨⟨⟨⟨h1, h2⟩, h3⟩, h4⟩, h5⟩, h6⟩ := h
      have em := beq_iff_eq.mp h3
      subst em
      exact ss_ext C h1 h2 h4 h5 (sound C.toCxt e _ h6 g).pe
    · cases h
  | .rem i e, st, h, g => by
    unfold chkS at h
    split at h
    · simp only [Bool.and_eq_true] at h
      obtain ⟨⟨⟨⟨⟨h1, h2⟩, h3⟩, h4⟩, h5⟩, h6⟩ := h
      have em := beq_iff_eq.mp h3
      subst em
      exact ss_rem C h1 h2 h4 h5 (sound C.toCxt e _ h6 g).pe
    · cases h
  | .seti i k e, st, h, g => by
    unfold chkS at h
    split at h
    · simp only [Bool.and_eq_true] at h
      obtain ⟨⟨⟨⟨⟨h1, h2⟩, h3⟩, h4⟩, h5⟩, h6⟩ := h
      exact ss_seti C h1 h2 h3 h4 (sound C.toCxt k _ h5 g.1).pe (sound C.toCxt e _ h6 g.2).pe
    · cases h
  | .frz i c, st, h, g => ss_frz (soundS C c st h g)
theorem soundSs {X : Cx} (C : SCxt X E n N sc) : ∀ (c : CSs Y.S) (st : List Stmt), chkSs N sc c st = true → needSs (Pn X Y n) (Glb X.K X.mg) c → PSs X st (tS X.K X.mg E (runs c))
  | .nil, st, h, g => by
    unfold chkSs at h
    split at h
    · exact ss_nil
    · cases h
  | .cons c cs, st, h, g => by
    unfold chkSs at h
    split at h
    · simp only [Bool.and_eq_true] at h
      exact ss_cons (soundS C c _ h.1 g.1) (soundSs C cs _ h.2 g.2)
    · cases h
end
end
/-! ### a def -/
theorem Rel.start {Y : Sys} {K : PySem.W.Frag} {c : Cf Y} {N : List Str} {vs : List V} {ds : List D} (r : Reps K c.F vs ds) : Rel K c.H c (L2.start N vs) (ds.map SV.va ++ List.replicate (N.length - ds.length) .no) where
  len := by
    unfold L2.start
    simp only [List.length_append, List.length_map, List.length_replicate, r.length]
  va := fun i d h => by
    by_cases hi : i < ds.length
    · rw [List.getElem?_append_left (by rw [List.length_map]; exact hi), List.getElem?_map] at h
      obtain ⟨d', h1, h2⟩ := Option.map_eq_some_iff.mp h
      cases h2
      obtain ⟨v, h3, h4⟩ := r.get h1
      refine ⟨v, ?_, h4⟩
      unfold L2.start
      rw [List.getElem?_append_left (by rw [List.length_map, r.length]; exact hi), List.getElem?_map, h3]
      rfl
    · rw [List.getElem?_append_right (by rw [List.length_map]; omega), List.getElem?_replicate] at h
      split at h <;> cases h
  ow := fun i d h => by
    by_cases hi : i < ds.length
    · rw [List.getElem?_append_left (by rw [List.length_map]; exact hi), List.getElem?_map] at h
      obtain ⟨d', h1, h2⟩ := Option.map_eq_some_iff.mp h
      cases h2
    · rw [List.getElem?_append_right (by rw [List.length_map]; omega), List.getElem?_replicate] at h
      split at h <;> cases h
  ap := fun i j d e p _ h => by
    by_cases hi : i < ds.length
    · rw [List.getElem?_append_left (by rw [List.length_map]; exact hi), List.getElem?_map] at h
      obtain ⟨d', h1, h2⟩ := Option.map_eq_some_iff.mp h
      cases h2
    · rw [List.getElem?_append_right (by rw [List.length_map]; omega), List.getElem?_replicate] at h
      split at h <;> cases h
section
variable {P : Program} {w : World} {K : PySem.W.Frag} {mg : Str → Option Value} {base : Heap} {Y : Sys} {n : Nat}
/-- a def of the text keeps the promise of its own tree -/
theorem fn_sound {x : Str} {st : Stmt} {f : Addr} {fd : FuncData} {N ps : List Str} {body : CSs Y.S} (F : Fun K x x st f fd) (S : FnScope N ps (defScope st)) (hm : mg x = some (.ref f)) (hb : Binds K fd ps []) (blt : ∀ y ∈ bltNames, mg y = none)
    (hc : chkSs N (defScope st) body (defBody st) = true) (g : needSs (fun x m g => Has P w K mg base Y n x m g) (Glb K mg) body) : Has P w K mg base Y (n + 1) x ps.length (fnR N.length body) := by
  refine ⟨f, fd, ps, rfl, ?_, hm, F.kp, hb⟩
  refine F.okX S (fun vs H Q E h => ?_) (fun cdv A outer s H vs Q E hr h => ?_)
  · obtain ⟨c, ds, _, _, _, h, _⟩ := h
    exact h
  · obtain ⟨c, ds, rfl, ok, rs, hl, h⟩ := h
    refine ⟨tS K mg E (runs body), ?_, ?_⟩
    · have C : SCxt (cxOf (L2.CX P w) P w K mg base N x (defScope st) f cdv A outer s c.H E) E n N (defScope st) :=
        { hN := rfl, hs := rfl, nd := S.nd, calm := rfl, room := hr, tk := takes_of rfl rfl rfl rfl, we := ⟨E, rfl⟩, blt := blt, po := passes_of rfl, fn := rfl, kd := S.kind }
      exact soundSs C body _ hc g
    · refine ⟨c, c.F, c, _, rfl, Step.refl c, Sub.refl _, ok, Rel.start (N := N) rs, ?_⟩
      unfold fnR at h
      cases er : runs body (ds.map SV.va ++ List.replicate (N.length - ds.length) .no) c.s with
      | nx ρ s' =>
        rw [er] at h
        exact fun σ' c' e1 t1 _ ok1 _ => h .non c' e1 t1 ok1 .non
      | rt d s' =>
        rw [er] at h
        exact h
      | ex y s' =>
        rw [er] at h
        exact h
      | er => rw [er] at h; exact h
theorem Has.mono {x : Str} {m k : Nat} {g : Sem Y.S} (h : Has P w K mg base Y n x m g) (hk : n ≤ k) : Has P w K mg base Y k x m g := by
  obtain ⟨f, fd, ps, hl, F, hm, hkp, hb⟩ := h.has
  exact ⟨f, fd, ps, hl, F.mono hk, hm, hkp, hb⟩
end
end Mf
set_option Elab.async false
set_option linter.all false
set_option maxRecDepth 100000
set_option maxHeartbeats 2000000
namespace Mf
open PySem L2

/-! ### the law's own town -/
def townSys (p : Addr) : Sys where
  S := List Int
  ok := fun t H => H p = some (.lst (t.map V.int))
  dm := fun _ a => a = p
  keep := fun s H H' h k => by rw [k p rfl]; exact h
/-- the value of a draw, and what is left -/
def dr (ns : List Int) (k : Int) (rest : List Int) (m : Int) : Int × List Int :=
  if ns = [] then (((k + 1) * (k + 1) * 7).fdiv 3 |>.fmod m, (k + 1) :: rest) else
    let at' := ((k + 1).fmod ns.length).toNat
    let left := rest.getD at' 0
    if ns.getD at' 0 ≥ 10 ^ 18 ∧ left > 0 then (left.fmod m, (k + 1) :: rest.set at' (left.fdiv m)) else
      let n1 := (ns.getD at' 0 + 104729 * (k + 1)).fmod 4294967291
      let n2 := (n1 ^ 5).fmod 4294967279
      ((((n2.fdiv 64 * 69621 + n2).fmod 4294967231).fdiv 8).fmod m, (k + 1) :: rest)
def g_draw (p : Addr) : Sem (List Int) := fun ds t => match ds, t with
  | [.scr ns, .adr q, .int m], k :: rest => if q = p ∧ 0 < m ∧ m < 1000000 ∧ 0 ≤ k ∧ k < 1000000000 ∧ rest.length = ns.length ∧ ns.length ≤ 63 then .ok (.int (dr ns k rest m).1) (dr ns k rest m).2 else .er
  | _, _ => .er
theorem dr_range {ns : List Int} {k : Int} {rest : List Int} {m : Int} (hm : 0 < m) : 0 ≤ (dr ns k rest m).1 ∧ (dr ns k rest m).1 < m := by
  have key : ∀ x : Int, 0 ≤ x.fmod m ∧ x.fmod m < m := fun x => ⟨Int.fmod_nonneg_of_pos _ hm, Int.fmod_lt_of_pos _ hm⟩
  unfold dr
  split
  · exact key _
  · dsimp only
    split <;> exact key _
theorem dr_len {ns : List Int} {k : Int} {rest : List Int} {m : Int} : ∃ rest', (dr ns k rest m).2 = (k + 1) :: rest' ∧ rest'.length = rest.length := by
  unfold dr
  split
  · exact ⟨_, rfl, rfl⟩
  · dsimp only
    split
    · exact ⟨_, rfl, List.length_set⟩
    · exact ⟨_, rfl, rfl⟩
/-- the heap behind a change of the town -/
theorem town_new {p : Addr} {K : PySem.W.Frag} {c : Cf (townSys p)} (ok : Ok c) (t : List Int) (H' : Hp) (hH : ∀ a, a ≠ p → H' a = c.H a) (hp : H' p = some (.lst (t.map V.int))) : Ok (⟨c.F, H', t⟩ : Cf (townSys p)) ∧ Step c (⟨c.F, H', t⟩ : Cf (townSys p)) := by
  refine ⟨⟨fun a o e => ?_, hp, ok.dis, fun a z => ?_⟩, ⟨Sub.refl _, fun a o e nd => ?_, fun _ _ z => z, fun _ z => z, fun _ _ z => z⟩⟩
  · have ne : a ≠ p := fun z => by
      have := ok.dis a z
      rw [show c.F a = some o from e] at this
      cases this
    rw [show (⟨c.F, H', t⟩ : Cf (townSys p)).H a = H' a from rfl, hH a ne]
    exact ok.sub a o e
  · have z : a = p := z
    subst z
    show H' a ≠ none
    rw [hp]
    exact fun z => nomatch z
  · show H' a = some o
    rw [hH a nd]
    exact e
theorem _root_.L2.PSs.ex {X : Cx} {st : List Stmt} {α : Type} {t : α → TS} (h : ∀ p, PSs X st (t p)) : PSs X st (fun D σ H => ∃ p, t p D σ H) := ⟨fun pins s σ H D I ⟨p, q⟩ => (h p).run pins s σ H D I q⟩
/-- _law_town -/
def spTown (K : PySem.W.Frag) : Sp := fun vs H Q _ => ∃ (a : Addr) (ns : List Int), vs = [.ref a] ∧ SqL K H a (ns.map V.int) ∧ ns.length ≤ 63 ∧ ∀ p H', H p = none → Same H H' → H' p = some (.lst ((0 :: ns).map V.int)) → Q (.ref p) H'
/-- what the law promises: its tree, run upon the script, gives True -/
def spLaw (K : PySem.W.Frag) (N : Nat) (body : Addr → CSs (List Int)) : Sp := fun vs H Q _ => ∃ (a : Addr) (ns : List Int), vs = [.ref a] ∧ SqL K H a (ns.map V.int) ∧ ns.length ≤ 63 ∧
  (∀ p, ∃ s', runs (body p) (.va (.scr ns) :: .va (.adr p) :: List.replicate (N - 2) .no) (0 :: ns) = .rt (.bl true) s') ∧ ∀ H', Q (.bl true) H'
section
variable {P : Program} {w : World} {K : PySem.W.Frag} {mg : Str → Option Value} {base : Heap}
theorem law_sound {st : Stmt} {f fT : Addr} {fd fdT : FuncData} {N : List Str} {n : Nat} {body : Addr → CSs (List Int)} {px p1 p2 p3 p4 : Pos} {rest : List Stmt} (F : Fun K "law" "law" st f fd) (S : FnScope N ["script"] (defScope st)) (hN0 : N[0]? = some ("script" : Str)) (hN1 : N[1]? = some ("town" : Str))
    (hs0 : visB (defScope st) "script" = true) (hs1 : locB (defScope st) "town" = true) (hsg : glB (defScope st) "_law_town" = true)
    (hbd : defBody st = .Assign [.Name "town" px] (.Call (.Name "_law_town" p1) [.Name "script" p2] [] p3) p4 :: rest)
    (GT : FnOk P w K mg base (L2.CX P w) n fT fdT ["script"] (spTown K)) (bT : Binds K fdT ["script"] []) (kT : PySem.W.keepIn K (.ref fT) = true) (gT : mg "_law_town" = some (.ref fT)) (blt : ∀ y ∈ bltNames, mg y = none)
    (hc : ∀ p, chkSs N (defScope st) (body p) rest = true) (g : ∀ p, needSs (fun x m g => Has P w K mg base (townSys p) n x m g) (Glb K mg) (body p)) : FnOk P w K mg base (L2.CX P w) (n + 1) f fd ["script"] (spLaw K N.length body) := by
  refine F.okX S (fun vs H Q E h => ?_) (fun cdv A outer s H vs Q E hr h => ?_)
  · obtain ⟨a, ns, rfl, _⟩ := h
    rfl
  · obtain ⟨a, ns, rfl, hS, h63, hrun, q⟩ := h
    have C : SCxt (cxOf (L2.CX P w) P w K mg base N "law" (defScope st) f cdv A outer s H E) E n N (defScope st) :=
      { hN := rfl, hs := rfl, nd := S.nd, calm := rfl, room := hr, tk := takes_of rfl rfl rfl rfl, we := ⟨E, rfl⟩, blt := blt, po := passes_of rfl, fn := rfl, kd := S.kind }
    rw [hbd]
    have hv : PE (cxOf (L2.CX P w) P w K mg base N "law" (defScope st) f cdv A outer s H E) (.Name "script" p2) (tVar 0) := vis_ok (n := n) C hs0 (beq_iff_eq.mpr hN0)
    refine ⟨_, pss_cons (ps_set (i := 1) S.nd hN1 (loc_ok C hs1) (pe_call GT hr (C.gl hsg) gT kT bT .nil passL (pa_cons hv pa_nil) (glB_ok hsg).2.1 rfl rfl) rfl (.inl rfl)) (PSs.ex fun p => soundSs (Y := townSys p) C (body p) rest (hc p) (g p)), ?_⟩
    have hl2 : 2 ≤ N.length := by
      have := (List.getElem?_eq_some_iff.mp hN1).1
      omega
    refine ⟨.ref a, rfl, a, ns, rfl, hS, h63, fun p H' hp sm hH' => ?_⟩
    obtain ⟨s', hr'⟩ := hrun p
    refine ⟨p, ?_⟩
    -- the configuration behind the first statement
    have ok : Ok (⟨H, H', 0 :: ns⟩ : Cf (townSys p)) := ⟨fun b o e => sm b o e, hH', fun b z => by
      have z : b = p := z
      subst z
      exact hp, fun b z => by
      have z : b = p := z
      subst z
      show H' b ≠ none
      rw [hH']
      exact fun z => nomatch z⟩
    have eσ : (L2.start N [V.ref a]).set 1 (some (.ref p)) = some (.ref a) :: some (.ref p) :: List.replicate (N.length - 2) none := by
      unfold L2.start
      obtain ⟨m, hm⟩ : ∃ m, N.length = m + 2 := ⟨N.length - 2, by omega⟩
      rw [hm]
      rfl
    show tS (Y := townSys p) K mg E (runs (body p)) _ ((L2.start N [V.ref a]).set 1 (some (.ref p))) H'
    rw [eσ]
    have hget : ∀ {α : Type} {x y z : α} {m i : Nat} {v : α}, (x :: y :: List.replicate m z)[i]? = some v → (i = 0 ∧ v = x) ∨ (i = 1 ∧ v = y) ∨ v = z := fun {α x y z m i v} h => by
      cases i with
      | zero => cases h; exact .inl ⟨rfl, rfl⟩
      | succ i =>
        cases i with
        | zero => cases h; exact .inr (.inl ⟨rfl, rfl⟩)
        | succ i =>
          have h : (List.replicate m z)[i]? = some v := h
          rw [List.getElem?_replicate] at h
          split at h
          · cases h; exact .inr (.inr rfl)
          · cases h
    have rel : Rel K (⟨H, H', 0 :: ns⟩ : Cf (townSys p)).H (⟨H, H', 0 :: ns⟩ : Cf (townSys p)) (some (.ref a) :: some (.ref p) :: List.replicate (N.length - 2) none) (.va (.scr ns) :: .va (.adr p) :: List.replicate (N.length - 2) .no) :=
      { len := by simp only [List.length_cons, List.length_replicate]
        va := fun i d h => by
          rcases hget h with ⟨rfl, e⟩ | ⟨rfl, e⟩ | e
          · cases e; exact ⟨_, rfl, .scr hS⟩
          · cases e; exact ⟨_, rfl, .adr p⟩
          · cases e
        ow := fun i d h => by
          rcases hget h with ⟨rfl, e⟩ | ⟨rfl, e⟩ | e <;> cases e
        ap := fun i j d e p _ h => by
          rcases hget h with ⟨rfl, e⟩ | ⟨rfl, e⟩ | e <;> cases e }
    refine ⟨⟨H, H', 0 :: ns⟩, H, ⟨H, H', 0 :: ns⟩, _, rfl, Step.refl _, Sub.refl _, ok, rel, ?_⟩
    have fin : PostS (Y := townSys p) K mg E ⟨H, H', 0 :: ns⟩ H { nx := fun _ H' => Q .non H', rt := Q } (Out.rt (.bl true) s') := by
      intro v c' e1 t1 ok1 r1
      cases r1
      exact q _
    exact (show (runs (S := (townSys p).S) (body p) (.va (.scr ns) :: .va (.adr p) :: List.replicate (N.length - 2) .no) (0 :: ns)) = Out.rt (.bl true) s' from hr') ▸ fin
end
/-- a def of the text, where it stands -/
def DefAt (K : PySem.W.Frag) (mg : Str → Option Value) (x : Str) (st : Stmt) : Prop := ∃ f fd, Fun K x x st f fd ∧ mg x = some (.ref f)
theorem defAt {K : PySem.W.Frag} {h : Heap} {mg : Str → Option Value} {x : Str} {st : Stmt} {f : Addr} {od an : Option Addr} {sl : Array (Option Value)} {oc kV dc pm cd ct : Value} (X : K.In h) (G : h.Ns mainGlobals mg)
    (a : PySem.W.nsIn K mainGlobals x = some (some (.ref f))) (l : K.lookup f = some ⟨oc, od, .func (PySem.W.fnOf x x (defArgs st) (defBody st) (defScope st) .none kV dc pm an cd ct), sl⟩) (c : PySem.W.codeIn K cd x = true) (k : PySem.W.keepIn K (.ref f) = true) : DefAt K mg x st :=
  ⟨f, _, fun_mk (st := st) l c k, PySem.W.mg_of X G a⟩
/-- a while's turns, by the int in a slot -/
def fuelAt {S : Type} (i : Nat) : List SV → S → Nat := fun ρ _ => match ρ[i]? with
  | some (.va (.int k)) => k.natAbs + 1
  | _ => 0
mutual
def sizeD : D → Nat
  | .int i => i.natAbs
  | .tup ds => sizeDs ds
  | .lst ds => sizeDs ds
  | _ => 0
def sizeDs : List D → Nat
  | [] => 0
  | d :: ds => sizeD d + sizeDs ds
end
/-- .. by the ints within what a slot holds -/
def fuelIn {S : Type} (i : Nat) : List SV → S → Nat := fun ρ _ => match ρ[i]? with
  | some (.va d) => sizeD d + 2
  | some (.ow d) => sizeD d + 2
  | _ => 0
end Mf
set_option Elab.async false
set_option linter.all false
set_option maxRecDepth 100000
set_option maxHeartbeats 2000000
namespace Mf
open PySem L2
/-! ### a constant of the text, read off the part K -/
def isTy (v : Value) (s : String) : Bool := match v with
  | .type t => t == s
  | _ => false
mutual
def repB (K : PySem.W.Frag) : Nat → Value → D → Bool
  | n, u, d => match d with
    | .non => match u with | .none => true | _ => false
    | .bl b => match u with | .bool a => a == b | _ => false
    | .int j => match u with | .int i _ => decide (i = j) | _ => false
    | .str y => match u with | .str x _ => x == y | _ => false
    | .tup ds => match n with
      | 0 => false
      | n + 1 => match u with
        | .ref a => match K.lookup a with
          | some o => isTy o.cls "tuple" && o.dict.isNone && (match o.data with
            | .seq its _ => decide (its.size ≤ 1000) && repBs K n its.toList ds
            | _ => false)
          | none => false
        | _ => false
    | _ => false
def repBs (K : PySem.W.Frag) : Nat → List Value → List D → Bool
  | _, [], [] => true
  | n, u :: us, d :: ds => repB K n u d && repBs K n us ds
  | _, _, _ => false
end
mutual
theorem repB_ok {K : PySem.W.Frag} : ∀ (n : Nat) (u : Value) (d : D), repB K n u d = true → ∃ v, RelV v u ∧ ∀ F, Rep K F v d
  | n, u, .non, h => by
    unfold repB at h
    dsimp only at h
    split at h
    · exact ⟨.non, rfl, fun _ => .non⟩
    · cases h
  | n, u, .bl b, h => by
    unfold repB at h
    dsimp only at h
    split at h
    · have := beq_iff_eq.mp h; subst this; exact ⟨.bl _, rfl, fun _ => .bl _⟩
    · cases h
  | n, u, .int j, h => by
    unfold repB at h
    dsimp only at h
    split at h
    · have := of_decide_eq_true h; subst this; exact ⟨.int _, ⟨_, rfl⟩, fun _ => .int _⟩
    · cases h
  | n, u, .str j, h => by
    unfold repB at h
    dsimp only at h
    split at h
    · have := beq_iff_eq.mp h; subst this; exact ⟨.str _, ⟨_, rfl⟩, fun _ => .str _⟩
    · cases h
  | 0, u, .tup ds, h => by
    unfold repB at h
    dsimp only at h
    cases h
  | n + 1, u, .tup ds, h => by
    unfold repB at h
    dsimp only at h
    cases u with
    | ref a =>
      dsimp only at h
      cases e : K.lookup a with
      | none => rw [e] at h; cases h
      | some o =>
        rw [e] at h
        dsimp only at h
        rw [Bool.and_eq_true, Bool.and_eq_true] at h
        obtain ⟨⟨h1, h2⟩, h3⟩ := h
        have hc : o.cls = .type "tuple" := by
          unfold isTy at h1
          split at h1
          · rename_i t ht
            rw [ht, beq_iff_eq.mp h1]
          · cases h1
        have hd : o.dict = none := Option.isNone_iff_eq_none.mp h2
        cases hs : o.data with
        | seq its m =>
          rw [hs] at h3
          dsimp only at h3
          rw [Bool.and_eq_true] at h3
          obtain ⟨vs, r1, r2⟩ := repBs_ok n its.toList ds h3.2
          exact ⟨.ref a, rfl, fun F => .tup (.inr ⟨o, its, m, e, hc, hs, Nat.le_trans (of_decide_eq_true h3.1) (by decide), r1⟩) (.inr ⟨o, e, hd⟩) (r2 F)⟩
        | _ => rw [hs] at h3; cases h3
    | _ => cases h
  | n, u, .lst ds, h => by
    unfold repB at h
    dsimp only at h
    cases h
  | n, u, .dct ds, h => by
    unfold repB at h
    dsimp only at h
    cases h
  | n, u, .adr ds, h => by
    unfold repB at h
    dsimp only at h
    cases h
  | n, u, .scr ds, h => by
    unfold repB at h
    dsimp only at h
    cases h
theorem repBs_ok {K : PySem.W.Frag} : ∀ (n : Nat) (us : List Value) (ds : List D), repBs K n us ds = true → ∃ vs, Vals vs us ∧ ∀ F, Reps K F vs ds
  | _, [], [], _ => ⟨[], .nil, fun _ => .nil⟩
  | n, u :: us, d :: ds, h => by
    have h := Bool.and_eq_true_iff.mp h
    obtain ⟨v, a, b⟩ := repB_ok n u d h.1
    obtain ⟨vs, a', b'⟩ := repBs_ok n us ds h.2
    exact ⟨v :: vs, .cons a a', fun F => .cons (b F) (b' F)⟩
  | _, [], _ :: _, h => by cases h
  | _, _ :: _, [], h => by cases h
end
theorem glb_of {K : PySem.W.Frag} {h : Heap} {mg : Str → Option Value} {x : Str} {u : Value} {d : D} (X : K.In h) (G : h.Ns mainGlobals mg) (e : PySem.W.nsIn K mainGlobals x = some (some u)) (r : repB K 20 u d = true) : Glb K mg x d := by
  obtain ⟨v, a, b⟩ := repB_ok 20 u d r
  exact ⟨u, v, PySem.W.mg_of X G e, a, b⟩
theorem cx_no {P : Program} {w : World} {H : Hp} {s : Shared} {e : Value} {s' : Shared} (h : L2.CX P w [] H s (fun _ _ _ => False) e s') : False := by
  obtain ⟨_, _, _, _, _, _, _, _, _, _, _, _, h⟩ := h
  exact h
end Mf
set_option Elab.async false
set_option linter.all false
set_option maxRecDepth 100000
set_option maxHeartbeats 1000000
namespace Mf
open PySem L2
/-! ### the evaluator's steps -/
section
variable {S α β : Type} {s : S}
theorem bindq_ok (a : α) (f : α → S → Res S β) : (Res.ok a s).bind f = f a s := rfl
theorem bind_er (f : α → S → Res S β) : (Res.er : Res S α).bind f = .er := rfl
theorem ob_ok (a : α) (f : α → S → Out S) : (Res.ok a s).ob f = f a s := rfl
theorem sq_nx {ρ : List SV} (f : List SV → S → Out S) : (Out.nx ρ s).sq f = f ρ s := rfl
theorem sq_rt {d : D} (f : List SV → S → Out S) : (Out.rt d s).sq f = .rt d s := rfl
theorem onO_some (a : α) (f : α → Out S) : onO (some a) f = f a := rfl
theorem liftO_some (a : α) : liftO s (some a) = .ok a s := rfl
theorem kd_some (d : D) : kd s (some d) = .ok (.v, d) s := rfl
theorem dat_v (d : D) : dat (.v, d) s = .ok d s := rfl
theorem dat_t (d : D) : dat (.t, d) s = .ok d s := rfl
theorem tru_bl (k : K3) (b : Bool) : tru (k, .bl b) s = .ok b s := rfl
theorem intOf_int (k : K3) (i : Int) : intOf (k, .int i) s = .ok i s := rfl
theorem noExq (a : α) : noEx (Res.ok a s) = .ok a s := rfl
theorem stk_v (b : Bool) (d : D) : stk b (.v, d) s = .ok (.v, d) s := by cases b <;> rfl
theorem stk_t (b : Bool) (d : D) : stk b (.t, d) s = .ok (.t, d) s := by cases b <;> rfl
theorem stk_o (d : D) : stk false (.o, d) s = .ok (.o, d) s := rfl
theorem stow_tt (d : D) : stow true (.t, d) = some (.ow d) := rfl
theorem stow_fv (d : D) : stow false (.v, d) = some (.va d) := rfl
theorem stow_ft (d : D) : stow false (.t, d) = some (.va d) := rfl
theorem runs_cons (c : CS S) (cs : CSs S) (ρ : List SV) : runs (.cons c cs) ρ s = (run c ρ s).sq (runs cs) := by rw [runs]
theorem runs_nil (ρ : List SV) : runs (.nil : CSs S) ρ s = .nx ρ s := by rw [runs]
theorem run_whl (t : CE S) (b : CSs S) (f : List SV → S → Nat) (ρ : List SV) : run (.whl t b f) ρ s = whlR (fun ρ s => (ev t ρ s).bind tru) (runs b) (f ρ s) ρ s := by rw [run]
theorem run_for (tg : Tg) (it : CI S) (body : CSs S) (ρ : List SV) : run (.forr tg it body) ρ s = (evI true it ρ s).ob fun ds s => forR (fun d ρ s => onO (asgT tg d ρ) fun ρ' => runs body ρ' s) ds ρ s := by rw [run]
theorem run_ife (t : CE S) (a b : CSs S) (ρ : List SV) : run (.ife t a b) ρ s = ((ev t ρ s).bind tru).ob fun k s => if k then runs a ρ s else runs b ρ s := by rw [run]
theorem fnR_rt {n : Nat} {body : CSs S} {ds : List D} {d : D} {s' : S} (h : runs body (ds.map SV.va ++ List.replicate (n - ds.length) .no) s = .rt d s') : fnR n body ds s = .ok d s' := by
  unfold fnR
  rw [h]
theorem fnR_nx {n : Nat} {body : CSs S} {ds : List D} {ρ : List SV} {s' : S} (h : runs body (ds.map SV.va ++ List.replicate (n - ds.length) .no) s = .nx ρ s') : fnR n body ds s = .ok .non s' := by
  unfold fnR
  rw [h]
theorem eqD_int (i j : Int) : eqD (.int i) (.int j) = some (decide (i = j)) := by
  show some (i == j) = _
  rfl
theorem cmp_ne (x y : D) : cmpD .ne x y = (eqD x y).map (!·) := by cases x <;> cases y <;> rfl
theorem cmp_eq (x y : D) : cmpD .eq x y = eqD x y := by cases x <;> cases y <;> rfl
theorem cmp_gt (i j : Int) : cmpD .gt (.int i) (.int j) = some (decide (j < i)) := rfl
theorem cmp_ge (i j : Int) : cmpD .ge (.int i) (.int j) = some (decide (j ≤ i)) := rfl
theorem cmp_lt (i j : Int) : cmpD .lt (.int i) (.int j) = some (decide (i < j)) := rfl
theorem cmp_le (i j : Int) : cmpD .le (.int i) (.int j) = some (decide (i ≤ j)) := rfl
theorem cmp_in (x y : D) : cmpD .isin x y = inD x y := by cases x <;> cases y <;> rfl
theorem cmp_notin (x y : D) : cmpD .notin x y = (inD x y).map (!·) := by cases x <;> cases y <;> rfl
theorem cmp_is (x y : D) : cmpD .is x y = isD x y := by cases x <;> cases y <;> rfl
theorem cmp_isnot (x y : D) : cmpD .isnot x y = (isD x y).map (!·) := by cases x <;> cases y <;> rfl
theorem bin_add (i j : Int) : binD .add (.int i) (.int j) = some (.v, .int (i + j)) := rfl
theorem bin_sub (i j : Int) : binD .sub (.int i) (.int j) = some (.v, .int (i - j)) := rfl
theorem bin_mul {i j : Int} (h : mulOk i j = true) : binD .mul (.int i) (.int j) = some (.v, .int (i * j)) := if_pos h
theorem bin_fdv {i j : Int} (h : divOk j = true) : binD .fdv (.int i) (.int j) = some (.v, .int (i.fdiv j)) := if_pos h
theorem bin_mod {i j : Int} (h : j ≠ 0) : binD .mod (.int i) (.int j) = some (.v, .int (i.fmod j)) := if_pos (decide_eq_true h)
theorem b1_abs (i : Int) : b1D .abs (.int i) = some (.v, .int (i.natAbs : Int)) := by
  show some (K3.v, D.int (if i < 0 then -i else i)) = _
  congr 3
  omega
theorem ix0 (a b : D) : ixD (.tup [a, b]) (.int 0) = some a := rfl
theorem ix1 (a b : D) : ixD (.tup [a, b]) (.int 1) = some b := rfl
end
theorem log2_lt {n k : Nat} (h : n < 2 ^ k) (hk : 0 < k) : n.log2 < k := by
  by_cases z : n = 0
  · subst z
    simpa using hk
  · exact (Nat.log2_lt z).mpr h
theorem mulOk_of {i j : Int} {a b : Nat} (hi : i.natAbs < 2 ^ a) (hj : j.natAbs < 2 ^ b) (h : a + b < 1000000) : mulOk i j = true := by
  refine decide_eq_true ?_
  have h1 := log2_lt (k := a + 1) (Nat.lt_of_lt_of_le hi (Nat.pow_le_pow_right (by decide) (Nat.le_succ a))) (Nat.succ_pos a)
  have h2 := log2_lt (k := b + 1) (Nat.lt_of_lt_of_le hj (Nat.pow_le_pow_right (by decide) (Nat.le_succ b))) (Nat.succ_pos b)
  omega
theorem divOk_of {j : Int} {b : Nat} (h0 : j ≠ 0) (hj : j.natAbs < 2 ^ b) (h : b < 9000) : divOk j = true := by
  refine Bool.and_eq_true_iff.mpr ⟨decide_eq_true h0, decide_eq_true ?_⟩
  have h1 := log2_lt (k := b + 1) (Nat.lt_of_lt_of_le hj (Nat.pow_le_pow_right (by decide) (Nat.le_succ b))) (Nat.succ_pos b)
  omega
/-! ### gcd -/
theorem fmod_lt (a : Int) {b : Int} (h : b ≠ 0) : (a.fmod b).natAbs < b.natAbs := by
  rcases Int.lt_or_gt_of_ne h with h | h
  · have h1 := Int.fmod_nonneg_of_pos (-a) (show 0 < -b by omega)
    have h2 := Int.fmod_lt_of_pos (-a) (show 0 < -b by omega)
    rw [Int.neg_fmod_neg] at h1 h2
    omega
  · have h1 := Int.fmod_nonneg_of_pos a h
    have h2 := Int.fmod_lt_of_pos a h
    omega
theorem gcd_fmod (a b : Int) : Int.gcd b (a.fmod b) = Int.gcd a b := by
  rw [Int.fmod_def, Int.gcd_comm a b]
  rw [Int.mul_comm]
  exact Int.gcd_sub_mul_right_right _ _ _
end Mf
set_option Elab.async false
set_option linter.all false
set_option maxRecDepth 100000
set_option maxHeartbeats 1000000
namespace Mf
open PySem L2
/-! ### fractions as Rat -/
def F (q : Rat) : D := .tup [.int q.num, .int q.den]
theorem F_inj {x y : Rat} (h : F x = F y) : x = y := by
  unfold F at h
  injection h with h
  injection h with h1 h2
  injection h1 with h1
  injection h2 with h2 _
  injection h2 with h2
  exact Rat.ext h1 (by omega)
theorem frac_nd {a b : Int} (hb : b ≠ 0) : a.fdiv ((Int.gcd a b : Nat) * (if decide (0 < b) = true then 1 else -1)) = (Rat.divInt a b).num ∧ b.fdiv ((Int.gcd a b : Nat) * (if decide (0 < b) = true then 1 else -1)) = ((Rat.divInt a b).den : Int) := by
  have hg : 0 < Int.gcd a b := Int.gcd_pos_of_ne_zero_right a hb
  rw [Rat.num_divInt, Rat.den_divInt, if_neg hb, Int.gcd_comm b a]
  generalize hG : Int.gcd a b = g at hg
  have hdb : (g : Int) ∣ b := by rw [← hG]; exact Int.gcd_dvd_right a b
  rcases Int.lt_or_gt_of_ne hb with h | h
  · have hn : ¬ (0 < b) := by omega
    have e : ((g : Int) * (if decide (0 < b) = true then 1 else -1)) = -(g : Int) := by simp [hn]
    rw [e, Int.sign_eq_neg_one_of_neg h]
    have f1 : ∀ x : Int, x.fdiv (-(g : Int)) = (-x) / (g : Int) := fun x => by
      rw [← Int.fdiv_eq_ediv_of_nonneg (-x) (by omega : (0 : Int) ≤ g), ← Int.neg_fdiv_neg (-x) (g : Int), Int.neg_neg]
    rw [f1, f1]
    refine ⟨by rw [Int.neg_one_mul], ?_⟩
    rw [Int.natCast_ediv]
    congr 1
    omega
  · have e : ((g : Int) * (if decide (0 < b) = true then 1 else -1)) = (g : Int) := by simp [h]
    rw [e, Int.sign_eq_one_of_pos h, Int.fdiv_eq_ediv_of_nonneg _ (by omega), Int.fdiv_eq_ediv_of_nonneg _ (by omega)]
    refine ⟨by rw [Int.one_mul], ?_⟩
    rw [Int.natCast_ediv]
    congr 1
    omega
/-- within so many bits -/
def bd (B : Nat) (x : Rat) : Prop := x.num.natAbs < 2 ^ B ∧ x.den < 2 ^ B
theorem bd.mono {A B : Nat} {x : Rat} (h : bd A x) (k : A ≤ B) : bd B x := ⟨Nat.lt_of_lt_of_le h.1 (Nat.pow_le_pow_right (by decide) k), Nat.lt_of_lt_of_le h.2 (Nat.pow_le_pow_right (by decide) k)⟩
theorem bd_divInt {a b : Int} {B : Nat} (hb : b ≠ 0) (ha : a.natAbs < 2 ^ B) (hB : b.natAbs < 2 ^ B) : bd B (Rat.divInt a b) := by
  constructor
  · rw [Rat.num_divInt]
    refine Nat.lt_of_le_of_lt (Int.natAbs_ediv_le_natAbs _ _) ?_
    rw [Int.natAbs_mul]
    rcases Int.lt_or_gt_of_ne hb with h | h
    · rw [Int.sign_eq_neg_one_of_neg h]; simpa using ha
    · rw [Int.sign_eq_one_of_pos h]; simpa using ha
  · rw [Rat.den_divInt, if_neg hb]
    exact Nat.lt_of_le_of_lt (Nat.div_le_self _ _) hB
theorem mul_lt {i j : Int} {a b : Nat} (hi : i.natAbs < 2 ^ a) (hj : j.natAbs < 2 ^ b) : (i * j).natAbs < 2 ^ (a + b) := by
  rw [Int.natAbs_mul, Nat.pow_add]
  exact Nat.mul_lt_mul'' hi hj
theorem add_lt {i j : Int} {a : Nat} (hi : i.natAbs < 2 ^ a) (hj : j.natAbs < 2 ^ a) : (i + j).natAbs < 2 ^ (a + 1) := by
  have := Int.natAbs_add_le i j
  rw [Nat.pow_succ]
  omega
theorem den_ne (x : Rat) : (x.den : Int) ≠ 0 := by have := x.den_nz; omega
theorem num_ne {x : Rat} (h : x ≠ 0) : x.num ≠ 0 := fun z => h (Rat.num_eq_zero.mp z)
theorem bd.den {B : Nat} {x : Rat} (h : bd B x) : ((x.den : Int)).natAbs < 2 ^ B := by simpa using h.2
/-- sums, products and quotients as the program makes them -/
theorem plus_eq (x y : Rat) : Rat.divInt (x.num * y.den + y.num * x.den) (x.den * y.den) = x + y := by
  rw [← Rat.divInt_add_divInt _ _ (den_ne x) (den_ne y), Rat.num_divInt_den, Rat.num_divInt_den]
theorem times_eq (x y : Rat) : Rat.divInt (x.num * y.num) (x.den * y.den) = x * y := by
  rw [← Rat.divInt_mul_divInt, Rat.num_divInt_den, Rat.num_divInt_den]
theorem over_eq (x y : Rat) : Rat.divInt (x.num * y.den) (x.den * y.num) = x / y := by
  rw [← Rat.divInt_mul_divInt, Rat.num_divInt_den, Rat.div_def]
  congr 1
  rw [← Rat.inv_divInt, Rat.num_divInt_den]
theorem bd_plus {A B : Nat} {x y : Rat} (hx : bd A x) (hy : bd B y) : bd (A + B + 1) (x + y) := by
  rw [← plus_eq]
  refine bd_divInt (Int.mul_ne_zero (den_ne x) (den_ne y)) ?_ ?_
  · refine add_lt (mul_lt hx.1 hy.den) ?_
    have := mul_lt hy.1 hx.den
    rw [Nat.add_comm] at this
    exact this
  · refine Nat.lt_of_lt_of_le (mul_lt hx.den hy.den) (Nat.pow_le_pow_right (by decide) (by omega))
theorem bd_times {A B : Nat} {x y : Rat} (hx : bd A x) (hy : bd B y) : bd (A + B) (x * y) := by
  rw [← times_eq]
  exact bd_divInt (Int.mul_ne_zero (den_ne x) (den_ne y)) (mul_lt hx.1 hy.1) (mul_lt hx.den hy.den)
theorem bd_over {A B : Nat} {x y : Rat} (hx : bd A x) (hy : bd B y) (h : y ≠ 0) : bd (A + B) (x / y) := by
  rw [← over_eq]
  exact bd_divInt (Int.mul_ne_zero (den_ne x) (num_ne h)) (mul_lt hx.1 hy.den) (mul_lt hx.den hy.1)
/-! ### data of fractions compared -/
theorem sh_F (n : Nat) (x : Rat) : (F x).sh (n + 1) = true := by
  show shs n [D.int x.num, D.int x.den] = true
  cases n <;> rfl
theorem deq_F (x y : Rat) : deq (F x) (F y) = decide (x = y) := by
  show ((x.num == y.num) && (((x.den : Int) == (y.den : Int)) && true)) = _
  by_cases h : x = y
  · subst h; simp
  · rw [decide_eq_false h]
    cases h1 : (x.num == y.num) with
    | false => rfl
    | true =>
      have e1 := beq_iff_eq.mp h1
      have e2 : ¬ x.den = y.den := fun z => h (Rat.ext e1 z)
      have : ((x.den : Int) == (y.den : Int)) = false := beq_eq_false_iff_ne.mpr (by omega)
      rw [this]
      rfl
theorem eqD_F (x y : Rat) : eqD (F x) (F y) = some (decide (x = y)) := by
  unfold eqD
  rw [sh_F 59, sh_F 59, deq_F]
  rfl
/-- a row of fractions -/
def row (r : List Rat) : D := .tup (r.map F)
theorem shs_F (n : Nat) : ∀ r : List Rat, shs (n + 1) (r.map F) = true
  | [] => rfl
  | x :: r => by
    show ((F x).sh (n + 1) && shs (n + 1) (r.map F)) = true
    rw [sh_F, shs_F n r]
    rfl
theorem sh_row (n : Nat) (r : List Rat) : (row r).sh (n + 2) = true := shs_F n r
theorem deqs_F : ∀ x y : List Rat, deqs (x.map F) (y.map F) = decide (x = y)
  | [], [] => rfl
  | [], _ :: _ => rfl
  | _ :: _, [] => rfl
  | a :: x, b :: y => by
    show (deq (F a) (F b) && deqs (x.map F) (y.map F)) = _
    rw [deq_F, deqs_F x y]
    by_cases h : a = b <;> by_cases h' : x = y <;> simp [h, h']
theorem deq_row (x y : List Rat) : deq (row x) (row y) = decide (x = y) := deqs_F x y
theorem eqD_row (x y : List Rat) : eqD (row x) (row y) = some (decide (x = y)) := by
  unfold eqD
  rw [sh_row 58, sh_row 58, deq_row]
  rfl
/-! ### walks -/
section
variable {S : Type} {s : S}
theorem walkR_map {α : Type} {f : D → S → Res S (Option D)} {e g : α → D} : ∀ {l : List α}, (∀ a ∈ l, f (e a) s = .ok (some (g a)) s) → walkR f (l.map e) s = .ok (l.map g) s
  | [], _ => rfl
  | a :: l, h => by
    show (f (e a) s).bind _ = _
    rw [h a List.mem_cons_self]
    show (walkR f (l.map e) s).bind _ = _
    rw [walkR_map fun b hb => h b (List.mem_cons_of_mem _ hb)]
    rfl
theorem walkR_filter {α : Type} {f : D → S → Res S (Option D)} {e g : α → D} {t : α → Bool} : ∀ {l : List α}, (∀ a ∈ l, f (e a) s = .ok (if t a then some (g a) else none) s) → walkR f (l.map e) s = .ok ((l.filter t).map g) s
  | [], _ => rfl
  | a :: l, h => by
    show (f (e a) s).bind _ = _
    rw [h a List.mem_cons_self]
    show (walkR f (l.map e) s).bind _ = _
    rw [walkR_filter fun b hb => h b (List.mem_cons_of_mem _ hb)]
    cases ht : t a <;> simp [ht, List.filter_cons, bindq_ok]
theorem asg1 (i : Nat) (d : D) {ρ : List SV} (h : i < ρ.length) : asgT (.nm i) d ρ = some (ρ.set i (.va d)) := by
  simp [asgT, asgL, h]
theorem asg2 {i j : Nat} (a b : D) {ρ : List SV} (h : i < ρ.length) (h' : j < ρ.length) : asgT (.cons (.nm i) (.cons (.nm j) .nil)) (.tup [a, b]) ρ = some ((ρ.set i (.va a)).set j (.va b)) := by
  simp [asgT, asgL, h, h']
end
section
variable {S : Type} {s : S}
theorem ev_lc {α : Type} {it : CI S} {tg : Tg} {elt : CE S} {vs : List Nat} {ρ : List SV} {l : List α} {e g : α → D} (hi : evI false it ρ s = .ok (l.map e) s) (hl : l.length ≤ 1000000)
    (hb : ∀ a ∈ l, ∃ ρ', asgT tg (e a) (wipeR ρ vs) = some ρ' ∧ ∃ k, k ≠ K3.o ∧ ev elt ρ' s = .ok (k, g a) s) : ev (.lc it tg .nil elt vs) ρ s = .ok (.t, .lst (l.map g)) s := by
  rw [ev, hi]
  simp only [bindq_ok, List.length_map, lenOk, decide_eq_true hl, Bool.not_true, Bool.false_eq_true, if_false]
  rw [walkR_map (g := g)]
  · rfl
  · intro a ha
    obtain ⟨ρ', h1, k, h2, h3⟩ := hb a ha
    simp only [h1, evT, noExq, bindq_ok, if_true, h3]
    cases k with
    | v => rfl
    | t => rfl
    | o => exact absurd rfl h2
theorem ev_lcf {α : Type} {it : CI S} {tg : Tg} {elt tt : CE S} {vs : List Nat} {ρ : List SV} {l : List α} {e g : α → D} {t : α → Bool} (hi : evI false it ρ s = .ok (l.map e) s) (hl : l.length ≤ 1000000)
    (hb : ∀ a ∈ l, ∃ ρ', asgT tg (e a) (wipeR ρ vs) = some ρ' ∧ (∃ k, ev tt ρ' s = .ok (k, .bl (t a)) s) ∧ (t a = true → ∃ k, k ≠ K3.o ∧ ev elt ρ' s = .ok (k, g a) s)) : ev (.lc it tg (.cons tt .nil) elt vs) ρ s = .ok (.t, .lst ((l.filter t).map g)) s := by
  rw [ev, hi]
  simp only [bindq_ok, List.length_map, lenOk, decide_eq_true hl, Bool.not_true, Bool.false_eq_true, if_false]
  rw [walkR_filter (g := g) (t := t)]
  · rfl
  · intro a ha
    obtain ⟨ρ', h1, ⟨k0, h2⟩, h3⟩ := hb a ha
    simp only [h1, evT, h2, bindq_ok, tru_bl, noExq]
    cases ht : t a with
    | false => rfl
    | true =>
      obtain ⟨k, hk, h4⟩ := h3 ht
      simp only [if_true, h4, noExq, bindq_ok]
      cases k with
      | v => rfl
      | t => rfl
      | o => exact absurd rfl hk
theorem forR_ind {α : Type} {f : D → List SV → S → Out S} {e : α → D} {P : List α → List SV → S → Prop} (h : ∀ a l ρ s, P (a :: l) ρ s → ∃ ρ' s', f (e a) ρ s = .nx ρ' s' ∧ P l ρ' s') : ∀ l ρ s, P l ρ s → ∃ ρ' s', forR f (l.map e) ρ s = .nx ρ' s' ∧ P [] ρ' s'
  | [], ρ, s, p => ⟨ρ, s, rfl, p⟩
  | a :: l, ρ, s, p => by
    obtain ⟨ρ', s', h1, h2⟩ := h a l ρ s p
    obtain ⟨ρ2, s2, h3, h4⟩ := forR_ind h l ρ' s' h2
    refine ⟨ρ2, s2, ?_, h4⟩
    show (f (e a) ρ s).sq (forR f (l.map e)) = _
    rw [h1]
    exact h3
end
theorem seq_nx {S : Type} {c : CS S} {cs : CSs S} {ρ ρ' : List SV} {s s' : S} {r : Out S} (h : run c ρ s = .nx ρ' s') (h2 : runs cs ρ' s' = r) : runs (.cons c cs) ρ s = r := by
  rw [runs_cons, h]
  exact h2
theorem seq_rt {S : Type} {c : CS S} {cs : CSs S} {ρ : List SV} {s s' : S} {d : D} (h : run c ρ s = .rt d s') : runs (.cons c cs) ρ s = .rt d s' := by
  rw [runs_cons, h]
  rfl
theorem run_forq {S : Type} {tg : Tg} {it : CI S} {body : CSs S} {ρ : List SV} {s s1 : S} {ds : List D} {o : Out S} (h : evI true it ρ s = .ok ds s1) (h2 : forR (fun d ρ s => onO (asgT tg d ρ) fun ρ' => runs body ρ' s) ds ρ s1 = o) : run (.forr tg it body) ρ s = o := by
  rw [run_for, h]
  exact h2
theorem run_asgq {S : Type} {own : Bool} {i : Nat} {e : CE S} {ρ ρ' : List SV} {s s1 : S} {x : K3 × D} (h : ev e ρ s = .ok x s1) {v : SV} (hv : stow own x = some v) (hp : put ρ i v = some ρ') : run (.asg own i e) ρ s = .nx ρ' s1 := by
  rw [run, h, ob_ok, hv, onO_some, hp]
  rfl
theorem run_retq {S : Type} {e : CE S} {ρ : List SV} {s s1 : S} {k : K3} {d : D} (h : ev e ρ s = .ok (k, d) s1) (hk : k ≠ .o) : run (.ret e) ρ s = .rt d s1 := by
  rw [run, h]
  cases k with
  | v => rfl
  | t => rfl
  | o => exact absurd rfl hk
theorem run_ifq {S : Type} {t : CE S} {a b : CSs S} {ρ : List SV} {s s1 : S} {k : Bool} {k3 : K3} {o : Out S} (h : ev t ρ s = .ok (k3, .bl k) s1) (h2 : (if k then runs a ρ s1 else runs b ρ s1) = o) : run (.ife t a b) ρ s = o := by
  rw [run_ife, h]
  exact h2
theorem zipD_map {α β : Type} (e : α → D) (g : β → D) : ∀ (x : List α) (y : List β), zipD (x.map e) (y.map g) = (x.zip y).map fun p => .tup [e p.1, g p.2]
  | [], _ => by simp [zipD]
  | _ :: _, [] => by simp [zipD]
  | a :: x, b :: y => by
    show D.tup [e a, g b] :: zipD (x.map e) (y.map g) = _
    rw [zipD_map e g x y]
    rfl
def bds (B : Nat) (r : List Rat) : Prop := ∀ x ∈ r, bd B x
theorem bds.mono {A B : Nat} {r : List Rat} (h : bds A r) (k : A ≤ B) : bds B r := fun x hx => (h x hx).mono k
def radd (a b : List Rat) (m : Rat) : List Rat := (a.zip b).map fun p => p.1 + p.2 * m
theorem radd_length {a b : List Rat} (h : a.length = b.length) (m : Rat) : (radd a b m).length = a.length := by simp [radd, h]
theorem bds_radd {A B C : Nat} {a b : List Rat} {m : Rat} (ha : bds A a) (hb : bds B b) (hm : bd C m) : bds (A + (B + C) + 1) (radd a b m) := by
  intro x hx
  obtain ⟨p, hp, rfl⟩ := List.mem_map.mp hx
  have := List.of_mem_zip hp
  exact bd_plus (ha _ this.1) (bd_times (hb _ this.2) hm)
theorem lenOk_of {n : Nat} (h : n ≤ 1000000) : lenOk n = true := decide_eq_true h
end Mf
set_option Elab.async false
set_option linter.all false
set_option maxRecDepth 100000
set_option maxHeartbeats 1000000
namespace Mf
open PySem L2
/-! ### rows reduced -/
def rows (l : List (List Rat)) : D := .lst (l.map row)
def rneg (r h : List Rat) (p : Nat) : List Rat := radd r h (r.getD p 0 * -1)
def redStep (st : List (List Rat) × List (List Rat)) (p : Nat) : List (List Rat) × List (List Rat) :=
  match st.2.filter (fun r => decide (r.getD p 0 ≠ 0)) with
  | [] => st
  | h :: _ => (st.1.map (fun r => rneg r (h.map (· / h.getD p 0)) p) ++ [h.map (· / h.getD p 0)], (st.2.erase h).map fun r => rneg r (h.map (· / h.getD p 0)) p)
def redQ (l : List (List Rat)) (n : Nat) : List (List Rat) × List (List Rat) := (List.range n).foldl redStep ([], l)
def RV (B W : Nat) (l : List (List Rat)) : Prop := ∀ r ∈ l, r.length = W ∧ bds B r
theorem ix_row {r : List Rat} {p : Nat} (h : p < r.length) : ixD (row r) (.int (p : Int)) = some (F (r.getD p 0)) := by
  show atI (r.map F) (p : Int) = _
  refine atI_nat ?_
  rw [List.getElem?_map, List.getElem?_eq_getElem h, List.getD_eq_getElem?_getD, List.getElem?_eq_getElem h]
  rfl
theorem items_lst (ds : List D) : itemsD (.lst ds) = some ds := rfl
theorem items_row (r : List Rat) : itemsD (row r) = some (r.map F) := rfl
theorem shs_rows (n : Nat) : ∀ l : List (List Rat), shs (n + 2) (l.map row) = true
  | [] => rfl
  | r :: l => by
    show ((row r).sh (n + 2) && shs (n + 2) (l.map row)) = true
    rw [sh_row, shs_rows n l]
    rfl
theorem eqD_nil (l : List (List Rat)) : eqD (.lst (l.map row)) (.lst []) = some l.isEmpty := by
  unfold eqD
  have h : (D.lst (l.map row)).sh 60 = true := shs_rows 57 l
  rw [h]
  cases l <;> rfl
theorem find_row (h : List Rat) : ∀ l : List (List Rat), (l.map row).findIdx? (fun z => deq z (row h)) = l.findIdx? (fun r => decide (r = h))
  | [] => rfl
  | r :: l => by
    rw [List.map_cons, List.findIdx?_cons, List.findIdx?_cons, deq_row, find_row h l]
theorem erase_row {h : List Rat} : ∀ {l : List (List Rat)}, h ∈ l → ∃ j, l.findIdx? (fun r => decide (r = h)) = some j ∧ (l.map row).eraseIdx j = (l.erase h).map row
  | r :: l, hm => by
    rw [List.findIdx?_cons]
    by_cases e : r = h
    · subst e
      exact ⟨0, by simp, by simp⟩
    · obtain ⟨j, h1, h2⟩ := erase_row (h := h) (l := l) (by rcases List.mem_cons.mp hm with z | z; exact absurd z.symm e; exact z)
      refine ⟨j + 1, by simp [e, h1], ?_⟩
      rw [List.erase_cons, if_neg (by simpa using e)]
      simp only [List.map_cons, List.eraseIdx_cons_succ, h2]
theorem F_neg1 : D.tup [.int (-1), .int 1] = F (-1) := rfl
theorem bd_neg1 : bd 1 (-1) := ⟨by decide, by decide⟩
theorem RV.mono {A B W : Nat} {l : List (List Rat)} (h : RV A W l) (k : A ≤ B) : RV B W l := fun r hr => ⟨(h r hr).1, (h r hr).2.mono k⟩
theorem getD_mem {r : List Rat} {p : Nat} (h : p < r.length) : r.getD p 0 ∈ r := by
  rw [List.getD_eq_getElem?_getD, List.getElem?_eq_getElem h]
  exact List.getElem_mem h
theorem head_bd {B W p : Nat} {h : List Rat} (hw : h.length = W) (hb : bds B h) (hp : p < W) (h0 : h.getD p 0 ≠ 0) : bds (B + B) (h.map (· / h.getD p 0)) := fun x hx => by
  obtain ⟨y, hy, rfl⟩ := List.mem_map.mp hx
  exact bd_over (hb y hy) (hb _ (getD_mem (by omega))) h0
theorem rneg_RV {B W p : Nat} {r h : List Rat} (hr : r.length = W) (hb : bds B r) (hw : h.length = W) (hh : bds (B + B) h) (hp : p < W) : (rneg r h p).length = W ∧ bds (4 * B + 2) (rneg r h p) := by
  refine ⟨by unfold rneg; rw [radd_length (by omega)]; exact hr, ?_⟩
  unfold rneg
  exact (bds_radd hb hh (bd_times (hb _ (getD_mem (by omega))) bd_neg1)).mono (by omega)
/-- what a step keeps -/
theorem redStep_inv {B W p : Nat} {st : List (List Rat) × List (List Rat)} (h1 : RV B W st.1) (h2 : RV B W st.2) (hp : p < W) :
    (redStep st p = st) ∨ (RV (4 * B + 2) W (redStep st p).1 ∧ RV (4 * B + 2) W (redStep st p).2 ∧ (redStep st p).2.length + 1 = st.2.length ∧ (redStep st p).1.length = st.1.length + 1) := by
  unfold redStep
  split
  · exact .inl rfl
  · rename_i h t hf
    right
    have hm : h ∈ st.2.filter (fun r => decide (r.getD p 0 ≠ 0)) := by rw [hf]; exact List.mem_cons_self
    obtain ⟨hm1, hm2⟩ := List.mem_filter.mp hm
    have h0 : h.getD p 0 ≠ 0 := of_decide_eq_true hm2
    obtain ⟨hw, hb⟩ := h2 h hm1
    have hh := head_bd hw hb hp h0
    have hwl : (h.map (· / h.getD p 0)).length = W := by rw [List.length_map]; exact hw
    refine ⟨fun r hr => ?_, fun r hr => ?_, ?_, by simp⟩
    · rcases List.mem_append.mp hr with hr | hr
      · obtain ⟨r', hr', rfl⟩ := List.mem_map.mp hr
        exact rneg_RV (h1 r' hr').1 (h1 r' hr').2 hwl hh hp
      · rw [List.mem_singleton.mp hr]
        exact ⟨hwl, hh.mono (by omega)⟩
    · obtain ⟨r', hr', rfl⟩ := List.mem_map.mp hr
      have := List.mem_of_mem_erase hr'
      exact rneg_RV (h2 r' this).1 (h2 r' this).2 hwl hh hp
    · rw [List.length_map, List.length_erase_of_mem hm1]
      have : 0 < st.2.length := List.length_pos_of_mem hm1
      omega
def bt (B : Nat) : Nat → Nat
  | 0 => B
  | j + 1 => 4 * bt B j + 2
end Mf
set_option Elab.async false
set_option linter.all false
set_option maxRecDepth 100000
set_option maxHeartbeats 1000000
namespace Mf
open PySem L2
/-! ### draws -/
def Tw (ns : List Int) (n : Nat) (s : List Int) : Prop := ∃ k rest, s = k :: rest ∧ 0 ≤ k ∧ k ≤ n ∧ rest.length = ns.length ∧ ns.length ≤ 63
theorem Tw.mono {ns s : List Int} {n m : Nat} (h : Tw ns n s) (k : n ≤ m) : Tw ns m s := by
  obtain ⟨a, b, c, d, e, f⟩ := h
  exact ⟨a, b, c, d, by omega, f⟩
theorem Tw.zero {ns : List Int} (h : ns.length ≤ 63) : Tw ns 0 (0 :: ns) := ⟨0, ns, rfl, Int.le_refl _, Int.le_refl _, rfl, h⟩
theorem draw_ok {p : Addr} {ns s : List Int} {n : Nat} {m : Int} (h : Tw ns n s) (hn : n < 100000000) (h0 : 0 < m) (h1 : m < 1000000) : ∃ d s', g_draw p [.scr ns, .adr p, .int m] s = .ok (.int d) s' ∧ 0 ≤ d ∧ d < m ∧ Tw ns (n + 1) s' := by
  obtain ⟨k, rest, rfl, hk0, hk1, hl, h63⟩ := h
  obtain ⟨rest', e, hl'⟩ := dr_len (ns := ns) (k := k) (rest := rest) (m := m)
  obtain ⟨d0, d1⟩ := dr_range (ns := ns) (k := k) (rest := rest) h0
  refine ⟨(dr ns k rest m).1, (dr ns k rest m).2, ?_, d0, d1, k + 1, rest', e, by omega, by omega, by omega, h63⟩
  show (if p = p ∧ 0 < m ∧ m < 1000000 ∧ 0 ≤ k ∧ k < 1000000000 ∧ rest.length = ns.length ∧ ns.length ≤ 63 then _ else _) = _
  rw [if_pos ⟨rfl, h0, h1, hk0, by omega, hl, h63⟩]
section
variable {S : Type}
theorem walkR_st {α : Type} {f : D → S → Res S (Option D)} {e : α → D} {P : List α → S → Prop} {G : D → Prop} (h : ∀ a l s, P (a :: l) s → ∃ d s', f (e a) s = .ok (some d) s' ∧ G d ∧ P l s') : ∀ l s, P l s → ∃ ds s', walkR f (l.map e) s = .ok ds s' ∧ ds.length = l.length ∧ (∀ d ∈ ds, G d) ∧ P [] s'
  | [], s, p => ⟨[], s, rfl, rfl, fun _ h => (nomatch h), p⟩
  | a :: l, s, p => by
    obtain ⟨d, s1, h1, h2, h3⟩ := h a l s p
    obtain ⟨ds, s2, h4, h5, h6, h7⟩ := walkR_st h l s1 h3
    refine ⟨d :: ds, s2, ?_, by simp [h5], fun x hx => ?_, h7⟩
    · show (f (e a) s).bind _ = _
      rw [h1]
      show (walkR f (l.map e) s1).bind _ = _
      rw [h4]
      rfl
    · rcases List.mem_cons.mp hx with z | z
      · rw [z]; exact h2
      · exact h6 x z
theorem ev_lc_st {α : Type} {it : CI S} {tg : Tg} {elt : CE S} {vs : List Nat} {ρ : List SV} {s : S} {l : List α} {e : α → D} {P : List α → S → Prop} {G : D → Prop} (hi : evI false it ρ s = .ok (l.map e) s) (hl : l.length ≤ 1000000) (hp : P l s)
    (hb : ∀ a l s, P (a :: l) s → ∃ ρ', asgT tg (e a) (wipeR ρ vs) = some ρ' ∧ ∃ d s', ev elt ρ' s = .ok (.v, d) s' ∧ G d ∧ P l s') : ∃ ds s', ev (.lc it tg .nil elt vs) ρ s = .ok (.t, .lst ds) s' ∧ ds.length = l.length ∧ (∀ d ∈ ds, G d) ∧ P [] s' := by
  obtain ⟨ds, s', h1, h2, h3, h4⟩ := walkR_st (f := fun d s => match asgT tg d (wipeR ρ vs) with
      | none => .er
      | some ρ' => (noEx (evT .nil ρ' s)).bind fun k s => if k then (noEx (ev elt ρ' s)).bind fun y s => (dat y s).bind fun e s => .ok (some e) s else .ok none s) (e := e) (P := P) (G := G) (fun a l s p => by
    obtain ⟨ρ', h1, d, s', h2, h3, h4⟩ := hb a l s p
    refine ⟨d, s', ?_, h3, h4⟩
    simp only [h1, evT, noExq, bindq_ok, if_true, h2, dat_v]) l s hp
  refine ⟨ds, s', ?_, h2, h3, h4⟩
  rw [ev, hi]
  simp only [bindq_ok, List.length_map, lenOk, decide_eq_true hl, Bool.not_true, Bool.false_eq_true, if_false]
  exact congrArg (fun r : Res S (List D) => r.bind fun r s => Res.ok (K3.t, D.lst r) s) h1
end
/-! ### names, tables -/
def nm (i : Nat) : Str := ⟨#[97 + i]⟩
theorem items_names : itemsD (.str "abcdef") = some ((List.range 6).map fun i => .str (nm i)) := by rfl
def ent (i : Nat) (m : List Rat) : D := .tup [.str (nm i), row m]
def ents (ms : List (List Rat)) : List D := (List.range ms.length).map fun i => ent i (ms.getD i [])
def tab (ms : List (List Rat)) : D := .tup (ents ms)
theorem ents_snoc (ms : List (List Rat)) (m : List Rat) : ents (ms ++ [m]) = ents ms ++ [ent ms.length m] := by
  unfold ents
  rw [List.length_append, List.length_singleton, List.range_succ, List.map_append]
  congr 1
  · refine List.map_congr_left fun i hi => ?_
    have := List.mem_range.mp hi
    simp [List.getElem?_append_left this]
  · simp
theorem any_F {ds : List D} {Q : Rat → Prop} (h : ∀ d ∈ ds, ∃ x, Q x ∧ d = F x) : ∃ xs : List Rat, ds = xs.map F ∧ ∀ x ∈ xs, Q x := by
  induction ds with
  | nil => exact ⟨[], rfl, fun _ h => (nomatch h)⟩
  | cons d ds ih =>
    obtain ⟨x, hx, rfl⟩ := h d List.mem_cons_self
    obtain ⟨xs, rfl, h2⟩ := ih fun z hz => h z (List.mem_cons_of_mem _ hz)
    exact ⟨x :: xs, rfl, fun z hz => by
      rcases List.mem_cons.mp hz with e | e
      · rw [e]; exact hx
      · exact h2 z e⟩
/-- small exponents -/
def sm (x : Rat) : Prop := x.num.natAbs ≤ 2 ∧ (x.den = 1 ∨ x.den = 2)
theorem sm.bd {x : Rat} (h : sm x) : bd 2 x := ⟨by have := h.1; omega, by rcases h.2 with e | e <;> rw [e] <;> decide⟩
structure Tab (ms : List (List Rat)) : Prop where
  six : ms.length = 6
  three : ∀ m ∈ ms, m.length = 3
  sm : ∀ m ∈ ms, ∀ x ∈ m, sm x
end Mf
namespace Mf
open PySem L2
/-! ### tables of any names -/
def tabl (l : List (Nat × List Rat)) : D := .tup (l.map fun q => ent q.1 q.2)
theorem tab_tabl (ms : List (List Rat)) : tab ms = tabl ((List.range ms.length).map fun i => (i, ms.getD i [])) := by
  unfold tab tabl ents
  rw [List.map_map]
  rfl
theorem isi_F (x : Rat) : isiD .tuple (F x) = some true := rfl
theorem isi_row (r : List Rat) : isiD .tuple (row r) = some true := rfl
theorem isi_ent (i : Nat) (r : List Rat) : isiD .tuple (ent i r) = some true := rfl
theorem isi_tabl (l : List (Nat × List Rat)) : isiD .tuple (tabl l) = some true := rfl
theorem isi_int (i : Int) : isiD .int (.int i) = some true := rfl
theorem isi_bool (i : Int) : isiD .bool (.int i) = some false := rfl
theorem isi_str (x : Str) : isiD .str (.str x) = some true := rfl
theorem len_F (x : Rat) : b1D .len (F x) = some (.v, .int 2) := rfl
theorem len_row (r : List Rat) : b1D .len (row r) = some (.v, .int r.length) := by
  show some (K3.v, D.int ((r.map F).length : Nat)) = _
  rw [List.length_map]
theorem len_ent (i : Nat) (r : List Rat) : b1D .len (ent i r) = some (.v, .int 2) := rfl
theorem len_tabl (l : List (Nat × List Rat)) : b1D .len (tabl l) = some (.v, .int l.length) := by
  show some (K3.v, D.int ((l.map fun q => ent q.1 q.2).length : Nat)) = _
  rw [List.length_map]
theorem len_nm (i : Nat) : b1D .len (.str (nm i)) = some (.v, .int 1) := rfl
theorem ix_ent0 (i : Nat) (r : List Rat) : ixD (ent i r) (.int 0) = some (.str (nm i)) := rfl
theorem ix_ent1 (i : Nat) (r : List Rat) : ixD (ent i r) (.int 1) = some (row r) := rfl
theorem in_names {i : Nat} (h : i < 6) : inD (.str (nm i)) (.str "abcdef") = some true := by
  have key : ∀ i ∈ List.range 6, (!(Builtin.Str.occurrences "abcdef" (nm i) 0 ("abcdef" : Str).length 1).isEmpty) = true := by decide +kernel
  exact congrArg some (key i (List.mem_range.mpr h))
theorem lt_nm (i j : Nat) : cmpD .lt (.str (nm i)) (.str (nm j)) = some (decide (i < j)) := by
  show some (decide ([97 + i] < [97 + j])) = _
  have : ([97 + i] < [97 + j]) ↔ i < j := by
    rw [List.cons_lt_cons_iff]
    constructor
    · rintro (h | ⟨_, h⟩)
      · omega
      · cases h
    · intro h; left; omega
  simp only [this]
theorem nm_inj {i j : Nat} (h : nm i = nm j) : i = j := by
  unfold nm at h
  injection h with h
  have := congrArg Array.toList h
  simp at this
  exact this
theorem eq_nm {i j : Nat} (hi : i < 6) (hj : j < 6) : eqD (.str (nm i)) (.str (nm j)) = some (decide (i = j)) := by
  have key : ∀ i ∈ List.range 6, okS (nm i) = true := by decide +kernel
  unfold eqD
  have a : (D.str (nm i)).sh 60 = true := key i (List.mem_range.mpr hi)
  have b : (D.str (nm j)).sh 60 = true := key j (List.mem_range.mpr hj)
  rw [a, b]
  show some (nm i == nm j) = _
  congr 1
  by_cases e : i = j
  · subst e; simp
  · rw [decide_eq_false e]
    exact beq_eq_false_iff_ne.mpr fun z => e (nm_inj z)
theorem ix_tabl {l : List (Nat × List Rat)} {k : Nat} (h : k < l.length) : ixD (tabl l) (.int (k : Int)) = some (ent l[k].1 l[k].2) := by
  show atI (l.map fun q => ent q.1 q.2) (k : Int) = _
  refine atI_nat ?_
  rw [List.getElem?_map, List.getElem?_eq_getElem h]
  rfl
/-- a table as in arguments -/
structure TabL (l : List (Nat × List Rat)) : Prop where
  nm : ∀ q ∈ l, q.1 < 6
  three : ∀ q ∈ l, q.2.length = 3
  fit : ∀ q ∈ l, ∀ x ∈ q.2, x.num.natAbs ≤ 1000000000000 ∧ x.den ≤ 1000000000000
  up : ∀ (k : Nat) (h : k + 1 < l.length), (l[k]'(by omega)).1 < l[k + 1].1
theorem TabL.len {l : List (Nat × List Rat)} (T : TabL l) : l.length ≤ 6 := by
  have key : ∀ (k : Nat) (h : k < l.length), k ≤ (l[k]).1 := by
    intro k
    induction k with
    | zero => intro h; exact Nat.zero_le _
    | succ k ih => intro h; have := ih (by omega); have := T.up k h; omega
  by_cases z : l.length = 0
  · omega
  · have h1 := key (l.length - 1) (by omega)
    have h2 := T.nm l[l.length - 1] (List.getElem_mem (by omega))
    omega
theorem Tab.tabL {ms : List (List Rat)} (T : Tab ms) : TabL ((List.range ms.length).map fun i => (i, ms.getD i [])) := by
  have hm : ∀ q ∈ (List.range ms.length).map (fun i => (i, ms.getD i [])), q.1 < 6 ∧ q.2 ∈ ms := by
    intro q hq
    obtain ⟨i, hi, rfl⟩ := List.mem_map.mp hq
    have hi := List.mem_range.mp hi
    refine ⟨by have := T.six; dsimp only; omega, ?_⟩
    dsimp only
    rw [List.getD_eq_getElem?_getD, List.getElem?_eq_getElem hi]
    exact List.getElem_mem hi
  refine ⟨fun q hq => (hm q hq).1, fun q hq => T.three _ (hm q hq).2, fun q hq x hx => ?_, fun k h => by simp⟩
  have := T.sm _ (hm q hq).2 x hx
  exact ⟨by have := this.1; omega, by rcases this.2 with e | e <;> omega⟩
end Mf
set_option Elab.async false
set_option linter.all false
set_option maxRecDepth 100000
set_option maxHeartbeats 1000000
namespace Mf
/-! ### sums, products of rows -/
def sumTo : Nat → (Nat → Rat) → Rat
  | 0, _ => 0
  | n + 1, f => sumTo n f + f n
theorem sumTo_add (n : Nat) (f g : Nat → Rat) : sumTo n (fun q => f q + g q) = sumTo n f + sumTo n g := by
  induction n with
  | zero => simp only [sumTo]; grind
  | succ n ih => simp only [sumTo, ih]; grind
theorem sumTo_mul (n : Nat) (f : Nat → Rat) (c : Rat) : sumTo n (fun q => f q * c) = sumTo n f * c := by
  induction n with
  | zero => simp [sumTo]
  | succ n ih => simp only [sumTo, ih]; grind
theorem sumTo_congr {n : Nat} {f g : Nat → Rat} (h : ∀ q < n, f q = g q) : sumTo n f = sumTo n g := by
  induction n with
  | zero => rfl
  | succ n ih => simp only [sumTo]; rw [ih fun q hq => h q (by omega), h n (by omega)]
theorem sumTo_zero {n : Nat} {f : Nat → Rat} (h : ∀ q < n, f q = 0) : sumTo n f = 0 := by
  rw [sumTo_congr (g := fun _ => 0) h]
  induction n with
  | zero => rfl
  | succ n ih => simp only [sumTo]; rw [ih fun q hq => h q (by omega)]; grind
theorem sumTo_one {n k : Nat} {f : Nat → Rat} (hk : k < n) (h : ∀ q < n, q ≠ k → f q = 0) : sumTo n f = f k := by
  induction n with
  | zero => omega
  | succ n ih =>
    simp only [sumTo]
    by_cases e : k = n
    · subst e
      rw [sumTo_zero fun q hq => h q (by omega) (by omega)]
      grind
    · rw [ih (by omega) fun q hq hne => h q (by omega) hne, h n (by omega) (fun z => e z.symm)]
      grind
theorem sumTo_two {n k j : Nat} {f : Nat → Rat} (hk : k < n) (hj : j < n) (hkj : k ≠ j) (h : ∀ q < n, q ≠ k → q ≠ j → f q = 0) : sumTo n f = f k + f j := by
  have e : sumTo n f = sumTo n (fun q => (if q = k then f k else 0) + (if q = j then f j else 0)) := sumTo_congr fun q hq => by
    by_cases e1 : q = k
    · subst e1; simp [hkj]; grind
    · by_cases e2 : q = j
      · subst e2; simp [e1]; grind
      · simp [e1, e2, h q hq e1 e2]; grind
  rw [e, sumTo_add, sumTo_one (k := k) hk (fun q _ z => by simp [z]), sumTo_one (k := j) hj (fun q _ z => by simp [z])]
  simp
def dot (n : Nat) (r : List Rat) (v : Nat → Rat) : Rat := sumTo n fun q => r.getD q 0 * v q
theorem radd_get {a b : List Rat} {m : Rat} {q : Nat} (h : a.length = b.length) : (radd a b m).getD q 0 = a.getD q 0 + b.getD q 0 * m := by
  unfold radd
  simp only [List.getD_eq_getElem?_getD, List.getElem?_map, List.getElem?_zip_eq_some, List.zip]
  by_cases hq : q < a.length
  · rw [List.getElem?_zipWith, List.getElem?_eq_getElem hq, List.getElem?_eq_getElem (show q < b.length by omega)]
    rfl
  · rw [List.getElem?_zipWith, List.getElem?_eq_none (by omega), List.getElem?_eq_none (by omega)]
    simp
    grind
theorem rneg_get {r h : List Rat} {p q : Nat} (hl : r.length = h.length) : (rneg r h p).getD q 0 = r.getD q 0 - h.getD q 0 * r.getD p 0 := by
  unfold rneg
  rw [radd_get hl]
  grind
theorem over_get {h : List Rat} {c : Rat} {q : Nat} : (h.map (· / c)).getD q 0 = h.getD q 0 / c := by
  simp only [List.getD_eq_getElem?_getD, List.getElem?_map]
  cases h[q]? with
  | none => simp; grind
  | some x => rfl
theorem dot_rneg {n : Nat} {r h : List Rat} {p : Nat} {v : Nat → Rat} (hl : r.length = h.length) : dot n (rneg r h p) v = dot n r v - dot n h v * r.getD p 0 := by
  unfold dot
  have e : sumTo n (fun q => (rneg r h p).getD q 0 * v q) = sumTo n (fun q => (r.getD q 0 * v q) + (h.getD q 0 * v q) * (- r.getD p 0)) := sumTo_congr fun q _ => by rw [rneg_get hl]; grind
  rw [e, sumTo_add, sumTo_mul]
  grind
theorem dot_over {n : Nat} {h : List Rat} {c : Rat} {v : Nat → Rat} (hc : c ≠ 0) : dot n (h.map (· / c)) v = dot n h v / c := by
  unfold dot
  have e : sumTo n (fun q => (h.map (· / c)).getD q 0 * v q) = sumTo n (fun q => (h.getD q 0 * v q) * (1 / c)) := sumTo_congr fun q _ => by rw [over_get]; grind
  rw [e, sumTo_mul]
  grind
/-! ### what reduced keeps -/
structure Hd (p : Nat) (ps : List (List Rat × Nat)) : Prop where
  lt : ∀ x ∈ ps, x.2 < p
  one : ∀ x ∈ ps, x.1.getD x.2 0 = 1
  ahead : ∀ x ∈ ps, ∀ q < x.2, x.1.getD q 0 = 0
  alone : ∀ x ∈ ps, ∀ y ∈ ps, y.2 ≠ x.2 → x.1.getD y.2 0 = 0
  up : ps.Pairwise fun x y => x.2 < y.2
structure RI (W : Nat) (l : List (List Rat)) (p : Nat) (st : List (List Rat) × List (List Rat)) : Prop where
  hd : ∃ ps : List (List Rat × Nat), st.1 = ps.map Prod.fst ∧ Hd p ps
  len : ∀ r ∈ st.1 ++ st.2, r.length = W
  left : ∀ r ∈ st.2, ∀ q < p, r.getD q 0 = 0
  same : ∀ v, (∀ r ∈ l, dot W r v = 0) ↔ ∀ r ∈ st.1 ++ st.2, dot W r v = 0
  cnt : st.1.length + st.2.length = l.length
theorem RI.step {W : Nat} {l : List (List Rat)} {p : Nat} {st : List (List Rat) × List (List Rat)} (I : RI W l p st) (hp : p < W) : RI W l (p + 1) (redStep st p) := by
  obtain ⟨⟨ps, hps, H⟩, hlen, hleft, hsame, hcnt⟩ := I
  unfold redStep
  split
  · rename_i hf
    refine ⟨⟨ps, hps, ⟨fun x hx => Nat.lt_succ_of_lt (H.lt x hx), H.one, H.ahead, H.alone, H.up⟩⟩, hlen, fun r hr q hq => ?_, hsame, hcnt⟩
    by_cases e : q = p
    · subst e
      have := List.filter_eq_nil_iff.mp hf r hr
      simpa using this
    · exact hleft r hr q (by omega)
  · rename_i h t hf
    have hm : h ∈ st.2.filter (fun r => decide (r.getD p 0 ≠ 0)) := by rw [hf]; exact List.mem_cons_self
    obtain ⟨hm1, hm2⟩ := List.mem_filter.mp hm
    have h0 : h.getD p 0 ≠ 0 := of_decide_eq_true hm2
    have hw : h.length = W := hlen h (List.mem_append_right _ hm1)
    have hwl : (h.map (· / h.getD p 0)).length = W := by rw [List.length_map]; exact hw
    have hh1 : (h.map (· / h.getD p 0)).getD p 0 = 1 := by rw [over_get]; grind
    have hh0 : ∀ q < p, (h.map (· / h.getD p 0)).getD q 0 = 0 := fun q hq => by rw [over_get, hleft h hm1 q hq]; grind
    have hl1 : ∀ r ∈ st.1, r.length = (h.map (· / h.getD p 0)).length := fun r hr => by rw [hwl]; exact hlen r (List.mem_append_left _ hr)
    have hl2 : ∀ r ∈ st.2.erase h, r.length = (h.map (· / h.getD p 0)).length := fun r hr => by rw [hwl]; exact hlen r (List.mem_append_right _ (List.mem_of_mem_erase hr))
    refine ⟨⟨ps.map (fun x => (rneg x.1 (h.map (· / h.getD p 0)) p, x.2)) ++ [(h.map (· / h.getD p 0), p)], ?_, ?_⟩, ?_, ?_, ?_, ?_⟩
    · dsimp only
      rw [hps, List.map_append, List.map_map, List.map_map]
      rfl
    · have mem1 : ∀ x ∈ ps, x.1.length = (h.map (· / h.getD p 0)).length := fun x hx => hl1 x.1 (by rw [hps]; exact List.mem_map.mpr ⟨x, hx, rfl⟩)
      have cases_ : ∀ z ∈ ps.map (fun x => (rneg x.1 (h.map (· / h.getD p 0)) p, x.2)) ++ [(h.map (· / h.getD p 0), p)], (∃ x ∈ ps, z = (rneg x.1 (h.map (· / h.getD p 0)) p, x.2)) ∨ z = (h.map (· / h.getD p 0), p) := fun z hz => by
        rcases List.mem_append.mp hz with hz | hz
        · obtain ⟨x, hx, rfl⟩ := List.mem_map.mp hz
          exact .inl ⟨x, hx, rfl⟩
        · exact .inr (List.mem_singleton.mp hz)
      refine ⟨fun z hz => ?_, fun z hz => ?_, fun z hz q hq => ?_, fun z hz y hy hne => ?_, ?_⟩
      · rcases cases_ z hz with ⟨x, hx, rfl⟩ | rfl
        · exact Nat.lt_succ_of_lt (H.lt x hx)
        · exact Nat.lt_succ_self p
      · rcases cases_ z hz with ⟨x, hx, rfl⟩ | rfl
        · dsimp only
          rw [rneg_get (mem1 x hx), hh0 _ (H.lt x hx), H.one x hx]
          grind
        · exact hh1
      · rcases cases_ z hz with ⟨x, hx, rfl⟩ | rfl
        · dsimp only at hq ⊢
          have := H.lt x hx
          rw [rneg_get (mem1 x hx), hh0 _ (by omega), H.ahead x hx q hq]
          grind
        · exact hh0 q hq
      · rcases cases_ z hz with ⟨x, hx, rfl⟩ | rfl
        · rcases cases_ y hy with ⟨w, hw', rfl⟩ | rfl
          · dsimp only at hne ⊢
            rw [rneg_get (mem1 x hx), hh0 _ (H.lt w hw'), H.alone x hx w hw' hne]
            grind
          · dsimp only at hne ⊢
            rw [rneg_get (mem1 x hx), hh1]
            grind
        · rcases cases_ y hy with ⟨w, hw', rfl⟩ | rfl
          · exact hh0 _ (H.lt w hw')
          · exact absurd rfl hne
      · refine List.pairwise_append.mpr ⟨?_, List.pairwise_singleton _ _, fun a ha b hb => ?_⟩
        · exact List.pairwise_map.mpr H.up
        · obtain ⟨x, hx, rfl⟩ := List.mem_map.mp ha
          rw [List.mem_singleton.mp hb]
          exact H.lt x hx
    · intro r hr
      dsimp only at hr
      rcases List.mem_append.mp hr with hr | hr
      · rcases List.mem_append.mp hr with hr | hr
        · obtain ⟨x, hx, rfl⟩ := List.mem_map.mp hr
          unfold rneg
          rw [radd_length (hl1 x hx)]
          exact hlen x (List.mem_append_left _ hx)
        · rw [List.mem_singleton.mp hr]; exact hwl
      · obtain ⟨x, hx, rfl⟩ := List.mem_map.mp hr
        unfold rneg
        rw [radd_length (hl2 x hx)]
        exact hlen x (List.mem_append_right _ (List.mem_of_mem_erase hx))
    · intro r hr q hq
      dsimp only at hr
      obtain ⟨x, hx, rfl⟩ := List.mem_map.mp hr
      rw [rneg_get (hl2 x hx)]
      by_cases e : q = p
      · subst e; rw [hh1]; grind
      · rw [hh0 q (by omega), hleft x (List.mem_of_mem_erase hx) q (by omega)]; grind
    · intro v
      rw [hsame v]
      have dh : dot W (h.map (· / h.getD p 0)) v = dot W h v / h.getD p 0 := dot_over h0
      constructor
      · intro hv r hr
        dsimp only at hr
        have hz : dot W (h.map (· / h.getD p 0)) v = 0 := by rw [dh, hv h (List.mem_append_right _ hm1)]; grind
        rcases List.mem_append.mp hr with hr | hr
        · rcases List.mem_append.mp hr with hr | hr
          · obtain ⟨x, hx, rfl⟩ := List.mem_map.mp hr
            rw [dot_rneg (hl1 x hx), hz, hv x (List.mem_append_left _ hx)]; grind
          · rw [List.mem_singleton.mp hr]; exact hz
        · obtain ⟨x, hx, rfl⟩ := List.mem_map.mp hr
          rw [dot_rneg (hl2 x hx), hz, hv x (List.mem_append_right _ (List.mem_of_mem_erase hx))]; grind
      · intro hv r hr
        dsimp only at hv
        have hz : dot W (h.map (· / h.getD p 0)) v = 0 := hv _ (List.mem_append_left _ (List.mem_append_right _ (List.mem_singleton.mpr rfl)))
        have hh : dot W h v = 0 := by rw [dh] at hz; grind
        rcases List.mem_append.mp hr with hr | hr
        · have := hv _ (List.mem_append_left _ (List.mem_append_left _ (List.mem_map.mpr ⟨r, hr, rfl⟩)))
          rw [dot_rneg (hl1 r hr), hz] at this
          grind
        · by_cases e : r = h
          · rw [e]; exact hh
          · have hr' : r ∈ st.2.erase h := (List.mem_erase_of_ne e).mpr hr
            have := hv _ (List.mem_append_right _ (List.mem_map.mpr ⟨r, hr', rfl⟩))
            rw [dot_rneg (hl2 r hr'), hz] at this
            grind
    · dsimp only
      rw [List.length_append, List.length_map, List.length_map, List.length_singleton, List.length_erase_of_mem hm1]
      have : 0 < st.2.length := List.length_pos_of_mem hm1
      omega
theorem redQ_inv {W n : Nat} {l : List (List Rat)} (hl : ∀ r ∈ l, r.length = W) (hn : n ≤ W) : RI W l n (redQ l n) := by
  unfold redQ
  induction n with
  | zero => exact ⟨⟨[], rfl, ⟨fun _ h => (nomatch h), fun _ h => (nomatch h), fun _ h => (nomatch h), fun _ h => (nomatch h), .nil⟩⟩, hl, fun _ _ q hq => by omega, fun v => Iff.rfl, by simp⟩
  | succ n ih =>
    rw [List.range_succ, List.foldl_append]
    exact (ih (by omega)).step (by omega)
end Mf
set_option Elab.async false
set_option linter.all false
set_option maxRecDepth 100000
set_option maxHeartbeats 1000000
namespace Mf
open PySem L2
/-! ### dicts by names -/
def kv (g : Nat → D) (L : List Nat) : List (Str × D) := L.map fun j => (nm j, g j)
theorem look_kv (g : Nat → D) {j : Nat} : ∀ {L : List Nat}, j ∈ L → lookD (nm j) (kv g L) = some (g j)
  | k :: L, h => by
    show (if nm k = nm j then some (g k) else lookD (nm j) (kv g L)) = _
    by_cases e : k = j
    · subst e; rw [if_pos rfl]
    · rw [if_neg fun z => e (nm_inj z)]
      exact look_kv g (by rcases List.mem_cons.mp h with z | z; exact absurd z.symm e; exact z)
theorem put_new {es : List (Str × D)} {k : Str} {v : D} (h : ∀ x ∈ es, x.1 ≠ k) : putD es k v = es ++ [(k, v)] := by
  unfold putD
  rw [if_neg]
  intro z
  obtain ⟨x, hx, e⟩ := List.any_eq_true.mp z
  exact h x hx (of_decide_eq_true e)
theorem dict_fold (g : Nat → D) : ∀ (L A : List Nat), (A ++ L).Nodup → (kv g L).foldl (fun acc x => putD acc x.1 x.2) (kv g A) = kv g (A ++ L)
  | [], A, _ => by rw [List.append_nil]; rfl
  | k :: L, A, h => by
    show (kv g L).foldl _ (putD (kv g A) (nm k) (g k)) = _
    have hk : k ∉ A := fun z => by
      rw [List.nodup_append] at h
      exact h.2.2 k z k List.mem_cons_self rfl
    rw [put_new (fun x hx => by
      obtain ⟨j, hj, rfl⟩ := List.mem_map.mp hx
      exact fun z => hk (by rw [← nm_inj z]; exact hj))]
    have e : kv g A ++ [(nm k, g k)] = kv g (A ++ [k]) := by simp [kv]
    rw [e, dict_fold g L (A ++ [k]) (by simpa using h)]
    simp
theorem dict_kv (g : Nat → D) {L : List Nat} (h : L.Nodup) : dictD (kv g L) = kv g L := by
  have := dict_fold g L [] (by simpa using h)
  simpa [dictD, kv] using this
theorem pairs_kv (g : Nat → D) : ∀ L : List Nat, pairsD (L.map fun j => .tup [.str (nm j), g j]) = some (kv g L)
  | [] => rfl
  | j :: L => by
    show (pairsD (L.map fun j => .tup [.str (nm j), g j])).map _ = _
    rw [pairs_kv g L]
    rfl
theorem put_kv (g : Nat → D) {j0 : Nat} {L : List Nat} (h : j0 ∈ L) (v : D) : putD (kv g L) (nm j0) v = kv (fun j => if j = j0 then v else g j) L := by
  have ha : ((kv g L).any fun kv => decide (kv.1 = nm j0)) = true := List.any_eq_true.mpr ⟨(nm j0, g j0), List.mem_map.mpr ⟨j0, h, rfl⟩, by simp⟩
  unfold putD
  rw [if_pos ha]
  unfold kv
  rw [List.map_map]
  refine List.map_congr_left fun j _ => ?_
  by_cases e : j = j0
  · subst e; simp
  · have : ¬ nm j = nm j0 := fun z => e (nm_inj z)
    simp [this, e]
theorem b1_dict_tab (ms : List (List Rat)) : b1D .dict (tab ms) = some (.t, .dct (kv (fun j => row (ms.getD j [])) (List.range ms.length))) := by
  show (pairsD ((List.range ms.length).map fun j => .tup [.str (nm j), row (ms.getD j [])])).map _ = _
  rw [pairs_kv (fun j => row (ms.getD j []))]
  show some (K3.t, D.dct (dictD (kv (fun j => row (ms.getD j [])) (List.range ms.length)))) = _
  rw [dict_kv _ List.nodup_range]
theorem b1_dict_lst (g : Nat → D) {L : List Nat} (h : L.Nodup) : b1D .dict (.lst (L.map fun j => .tup [.str (nm j), g j])) = some (.t, .dct (kv g L)) := by
  show (pairsD (L.map fun j => .tup [.str (nm j), g j])).map _ = _
  rw [pairs_kv]
  show some (K3.t, D.dct (dictD (kv g L))) = _
  rw [dict_kv _ h]
theorem ix_dctq (es : List (Str × D)) (k : Str) : ixD (.dct es) (.str k) = lookD k es := rfl
theorem bools_map {α : Type} (t : α → Bool) : ∀ l : List α, boolsD (l.map fun a => .bl (t a)) = some (l.map t)
  | [] => rfl
  | a :: l => by
    show (boolsD (l.map fun a => .bl (t a))).map _ = _
    rw [bools_map t l]
    rfl
theorem any_map {α : Type} (t : α → Bool) (l : List α) : b1D .any (.lst (l.map fun a => .bl (t a))) = some (.v, .bl (l.any t)) := by
  show (boolsD (l.map fun a => .bl (t a))).map _ = _
  rw [bools_map]
  simp
theorem all_map {α : Type} (t : α → Bool) (l : List α) : b1D .all (.lst (l.map fun a => .bl (t a))) = some (.v, .bl (l.all t)) := by
  show (boolsD (l.map fun a => .bl (t a))).map _ = _
  rw [bools_map]
  simp
/-! ### the matrix of a name -/
def oth (i : Nat) : List Nat := (List.range 6).filter fun j => !decide (j = i)
theorem oth_len : ∀ {i : Nat}, i < 6 → (oth i).length = 5 := by
  have key : ∀ i ∈ List.range 6, (oth i).length = 5 := by decide +kernel
  intro i h
  exact key i (List.mem_range.mpr h)
theorem oth_lt {i j : Nat} (h : j ∈ oth i) : j < 6 ∧ j ≠ i := by
  have := List.mem_filter.mp h
  exact ⟨List.mem_range.mp this.1, by simpa using this.2⟩
theorem oth_nd (i : Nat) : (oth i).Nodup := List.nodup_range.filter _
def mget (ms : List (List Rat)) (j pl : Nat) : Rat := (ms.getD j []).getD pl 0
def mrow (ms : List (List Rat)) (i pl : Nat) : List Rat := (oth i).map (fun j => mget ms j pl) ++ [mget ms i pl]
def mat (ms : List (List Rat)) (i : Nat) : List (List Rat) := (List.range 3).map (mrow ms i)
theorem Tab.get {ms : List (List Rat)} (T : Tab ms) {j : Nat} (h : j < 6) : ms.getD j [] ∈ ms := by
  rw [List.getD_eq_getElem?_getD, List.getElem?_eq_getElem (by rw [T.six]; exact h)]
  exact List.getElem_mem _
theorem Tab.mget {ms : List (List Rat)} (T : Tab ms) {j pl : Nat} (h : j < 6) (hp : pl < 3) : Mf.sm (Mf.mget ms j pl) := by
  have := T.get h
  exact T.sm _ this _ (getD_mem (by rw [T.three _ this]; exact hp))
theorem mrow_RV {ms : List (List Rat)} (T : Tab ms) {i : Nat} (hi : i < 6) : RV 2 6 (mat ms i) := by
  intro r hr
  obtain ⟨pl, hpl, rfl⟩ := List.mem_map.mp hr
  have hpl := List.mem_range.mp hpl
  refine ⟨by unfold mrow; rw [List.length_append, List.length_map, oth_len hi]; rfl, fun x hx => ?_⟩
  rcases List.mem_append.mp hx with hx | hx
  · obtain ⟨j, hj, rfl⟩ := List.mem_map.mp hx
    exact (T.mget (oth_lt hj).1 hpl).bd
  · rw [List.mem_singleton.mp hx]
    exact (T.mget hi hpl).bd
def cupd (i : Nat) (c : Nat → Rat) (x : List Rat × Nat) : Nat → Rat := fun j => if j = (oth i).getD x.2 0 then x.1.getD 5 0 else c j
def cfin (i : Nat) (ps : List (List Rat × Nat)) : Nat → Rat := ps.foldl (cupd i) fun _ => 0
theorem first_head {x : List Rat × Nat} {n : Nat} (h1 : x.1.getD x.2 0 = 1) (h2 : ∀ q < x.2, x.1.getD q 0 = 0) (h3 : x.2 < n) : ∃ t, (List.range n).filter (fun p => decide (x.1.getD p 0 ≠ 0)) = x.2 :: t := by
  have e : List.range n = List.range x.2 ++ (x.2 :: (List.range' (x.2 + 1) (n - x.2 - 1))) := by
    have : n = x.2 + (n - x.2 - 1 + 1) := by omega
    rw [List.range_eq_range', List.range_eq_range', ← List.range'_succ]
    have h := List.range'_append_1 (s := 0) (m := x.2) (n := n - x.2 - 1 + 1)
    rw [Nat.zero_add] at h
    rw [h, ← this]
  rw [e, List.filter_append, List.filter_cons, if_pos (by rw [h1]; decide)]
  have : (List.range x.2).filter (fun p => decide (x.1.getD p 0 ≠ 0)) = [] := List.filter_eq_nil_iff.mpr fun p hp => by
    have := h2 p (List.mem_range.mp hp)
    simpa using this
  rw [this]
  exact ⟨_, rfl⟩
end Mf
set_option Elab.async false
set_option linter.all false
set_option maxRecDepth 100000
set_option maxHeartbeats 1000000
namespace Mf
/-! ### the law's rank -/
def elim (h : List Int) (p : Nat) (r : List Int) : List Int := (r.zip h).map fun z => z.1 * h.getD p 0 - z.2 * r.getD p 0
def rk : Nat → Nat → List (List Int) → Nat
  | 0, _, _ => 0
  | n + 1, p, l => match l.filter (fun r => decide (r.getD p 0 ≠ 0)) with
    | [] => rk n (p + 1) l
    | h :: _ => rk n (p + 1) ((l.erase h).map (elim h p)) + 1
theorem elim_get {h r : List Int} {p q : Nat} (hl : r.length = h.length) : (elim h p r).getD q 0 = r.getD q 0 * h.getD p 0 - h.getD q 0 * r.getD p 0 := by
  unfold elim
  simp only [List.getD_eq_getElem?_getD, List.getElem?_map, List.zip]
  by_cases hq : q < r.length
  · rw [List.getElem?_zipWith, List.getElem?_eq_getElem hq, List.getElem?_eq_getElem (show q < h.length by omega)]
    rfl
  · rw [List.getElem?_zipWith, List.getElem?_eq_none (l := r) (i := q) (by omega), List.getElem?_eq_none (l := h) (i := q) (by omega)]
    simp
theorem elim_len {h r : List Int} {p : Nat} (hl : r.length = h.length) : (elim h p r).length = r.length := by simp [elim, hl]
/-- v is a sum of multiples of the rows -/
def InS (W : Nat) : List (List Int) → (Nat → Rat) → Prop
  | [], v => ∀ q < W, v q = 0
  | x :: L, v => ∃ c : Rat, InS W L fun q => v q - c * (x.getD q 0 : Int)
theorem InS.zero {W : Nat} : ∀ {L : List (List Int)} {v : Nat → Rat}, (∀ q < W, v q = 0) → InS W L v
  | [], _, h => h
  | x :: L, v, h => ⟨0, InS.zero fun q hq => by rw [h q hq]; grind⟩
theorem InS.congr {W : Nat} : ∀ {L : List (List Int)} {v w : Nat → Rat}, (∀ q, v q = w q) → InS W L v → InS W L w := by
  intro L v w h z
  have : v = w := funext h
  exact this ▸ z
theorem InS.at {W p : Nat} (hp : p < W) : ∀ {L : List (List Int)} {v : Nat → Rat}, (∀ x ∈ L, x.getD p 0 = 0) → InS W L v → v p = 0
  | [], v, _, h => h p hp
  | x :: L, v, hz, ⟨c, h⟩ => by
    have := InS.at hp (fun y hy => hz y (List.mem_cons_of_mem _ hy)) h
    rw [hz x List.mem_cons_self] at this
    grind
theorem InS.erase {W : Nat} {h : List Int} : ∀ {L : List (List Int)} {v : Nat → Rat}, h ∈ L → (InS W L v ↔ ∃ c : Rat, InS W (L.erase h) fun q => v q - c * (h.getD q 0 : Int))
  | x :: L, v, hm => by
    by_cases e : x = h
    · subst e
      rw [List.erase_cons_head]
      exact Iff.rfl
    · have hm' : h ∈ L := by rcases List.mem_cons.mp hm with z | z; exact absurd z.symm e; exact z
      rw [List.erase_cons_tail (by simpa using e)]
      constructor
      · rintro ⟨c, z⟩
        obtain ⟨d, z⟩ := (InS.erase hm').mp z
        exact ⟨d, c, z.congr fun q => by grind⟩
      · rintro ⟨d, c, z⟩
        exact ⟨c, (InS.erase hm').mpr ⟨d, z.congr fun q => by grind⟩⟩
theorem InS.elim {W p : Nat} {h : List Int} (hp : p < W) (h0 : h.getD p 0 ≠ 0) : ∀ {M : List (List Int)} {v : Nat → Rat}, (∀ x ∈ M, x.length = h.length) →
    (InS W (M.map (elim h p)) (fun q => v q * (h.getD p 0 : Int) - (h.getD q 0 : Int) * v p) ↔ ∃ c : Rat, InS W M fun q => v q - c * (h.getD q 0 : Int))
  | [], v, _ => by
    have ha : ((h.getD p 0 : Int) : Rat) ≠ 0 := by exact_mod_cast h0
    constructor
    · intro z
      refine ⟨v p / (h.getD p 0 : Int), fun q hq => ?_⟩
      have := z q hq
      grind
    · rintro ⟨c, z⟩ q hq
      have z1 := z q hq
      have z2 := z p hp
      grind
  | x :: M, v, hl => by
    have hl' := fun y hy => hl y (List.mem_cons_of_mem _ hy)
    have hx := hl x List.mem_cons_self
    have key : ∀ d : Rat, (InS W (M.map (Mf.elim h p)) (fun q => (v q * (h.getD p 0 : Int) - (h.getD q 0 : Int) * v p) - d * ((Mf.elim h p x).getD q 0 : Int)) ↔ ∃ c : Rat, InS W M fun q => (v q - d * (x.getD q 0 : Int)) - c * (h.getD q 0 : Int)) := fun d => by
      have ih := InS.elim (W := W) hp h0 (M := M) (v := fun q => v q - d * (x.getD q 0 : Int)) hl'
      have e : (fun q => (v q * (h.getD p 0 : Int) - (h.getD q 0 : Int) * v p) - d * ((Mf.elim h p x).getD q 0 : Int)) = (fun q => (v q - d * (x.getD q 0 : Int)) * (h.getD p 0 : Int) - (h.getD q 0 : Int) * (v p - d * (x.getD p 0 : Int))) := by
        funext q
        rw [elim_get hx]
        push_cast
        grind
      rw [e]
      exact ih
    constructor
    · rintro ⟨d, z⟩
      obtain ⟨c, z⟩ := (key d).mp z
      exact ⟨c, d, z.congr fun q => by grind⟩
    · rintro ⟨c, d, z⟩
      exact ⟨d, (key d).mpr ⟨c, z.congr fun q => by grind⟩⟩
/-- rows by rows, nonzero multiples -/
inductive Sc : List (List Int) → List (List Int) → Prop
  | nil : Sc [] []
  | cons {x y : List Int} {l m : List (List Int)} {c : Int} : c ≠ 0 → x.length = y.length → (∀ q, y.getD q 0 = c * x.getD q 0) → Sc l m → Sc (x :: l) (y :: m)
theorem split_at (p : Nat) : ∀ l : List (List Int), (∀ x ∈ l, x.getD p 0 = 0) ∨ ∃ A h B, l = A ++ h :: B ∧ (∀ x ∈ A, x.getD p 0 = 0) ∧ h.getD p 0 ≠ 0
  | [] => .inl fun _ h => (nomatch h)
  | x :: l => by
    by_cases e : x.getD p 0 = 0
    · rcases split_at p l with h | ⟨A, h, B, rfl, h1, h2⟩
      · refine .inl fun y hy => ?_
        rcases List.mem_cons.mp hy with z | z
        · rw [z]; exact e
        · exact h y z
      · refine .inr ⟨x :: A, h, B, rfl, fun y hy => ?_, h2⟩
        rcases List.mem_cons.mp hy with z | z
        · rw [z]; exact e
        · exact h1 y z
    · exact .inr ⟨[], x, l, rfl, fun _ h => (nomatch h), e⟩
theorem rk_none {n p : Nat} {l : List (List Int)} (h : ∀ x ∈ l, x.getD p 0 = 0) : rk (n + 1) p l = rk n (p + 1) l := by
  have : l.filter (fun r => decide (r.getD p 0 ≠ 0)) = [] := List.filter_eq_nil_iff.mpr fun x hx => by have := h x hx; simpa using this
  rw [rk, this]
theorem rk_some {n p : Nat} {A B : List (List Int)} {h : List Int} (hA : ∀ x ∈ A, x.getD p 0 = 0) (h0 : h.getD p 0 ≠ 0) : rk (n + 1) p (A ++ h :: B) = rk n (p + 1) ((A ++ B).map (elim h p)) + 1 := by
  have e1 : (A ++ h :: B).filter (fun r => decide (r.getD p 0 ≠ 0)) = h :: B.filter (fun r => decide (r.getD p 0 ≠ 0)) := by
    rw [List.filter_append, List.filter_eq_nil_iff.mpr (fun x hx => by have := hA x hx; simpa using this), List.filter_cons, if_pos (decide_eq_true h0), List.nil_append]
  have e2 : (A ++ h :: B).erase h = A ++ B := by
    rw [List.erase_append_right _ fun z => h0 (hA h z), List.erase_cons_head]
  rw [rk, e1]
  dsimp only
  rw [e2]
theorem Sc.split {h : List Int} : ∀ {A B m : List (List Int)}, Sc (A ++ h :: B) m → ∃ A' h' B' c, m = A' ++ h' :: B' ∧ Sc A A' ∧ Sc B B' ∧ c ≠ 0 ∧ h.length = h'.length ∧ ∀ q, h'.getD q 0 = c * h.getD q 0
  | [], B, _, .cons (c := c) h1 h2 h3 h4 => ⟨[], _, _, c, rfl, .nil, h4, h1, h2, h3⟩
  | x :: A, B, _, .cons (y := y) h1 h2 h3 h4 => by
    obtain ⟨A', h', B', c, rfl, a, b, d, e, f⟩ := Sc.split h4
    exact ⟨y :: A', h', B', c, rfl, .cons h1 h2 h3 a, b, d, e, f⟩
theorem Sc.append : ∀ {A A' B B' : List (List Int)}, Sc A A' → Sc B B' → Sc (A ++ B) (A' ++ B')
  | _, _, _, _, .nil, h => h
  | _, _, _, _, .cons a b c d, h => .cons a b c (Sc.append d h)
theorem Sc.zero {p : Nat} : ∀ {A A' : List (List Int)}, Sc A A' → (∀ x ∈ A, x.getD p 0 = 0) → ∀ x ∈ A', x.getD p 0 = 0
  | _, _, .nil, _, x, hx => (nomatch hx)
  | _, _, .cons (c := c) h1 h2 h3 h4, hz, x, hx => by
    rcases List.mem_cons.mp hx with e | e
    · rw [e, h3, hz _ List.mem_cons_self]; simp
    · exact Sc.zero h4 (fun y hy => hz y (List.mem_cons_of_mem _ hy)) x e
theorem Sc.elim {h h' : List Int} {p : Nat} {c : Int} (hc : c ≠ 0) (hl : h.length = h'.length) (hh : ∀ q, h'.getD q 0 = c * h.getD q 0) : ∀ {A A' : List (List Int)}, Sc A A' → (∀ x ∈ A, x.length = h.length) → Sc (A.map (Mf.elim h p)) (A'.map (Mf.elim h' p))
  | _, _, .nil, _ => .nil
  | _, _, .cons (x := x) (y := y) (c := d) h1 h2 h3 h4, hx => by
    have hx0 := hx x List.mem_cons_self
    refine .cons (c := c * d) (Int.mul_ne_zero hc h1) ?_ (fun q => ?_) (Sc.elim hc hl hh h4 fun z hz => hx z (List.mem_cons_of_mem _ hz))
    · rw [elim_len hx0, elim_len (by omega)]; exact h2
    · rw [elim_get hx0, elim_get (by omega), hh, hh, h3, h3]
      grind
theorem Sc.len {W : Nat} : ∀ {A A' : List (List Int)}, Sc A A' → (∀ x ∈ A, x.length = W) → ∀ x ∈ A', x.length = W
  | _, _, .nil, _, x, hx => (nomatch hx)
  | _, _, .cons h1 h2 h3 h4, hz, x, hx => by
    rcases List.mem_cons.mp hx with e | e
    · rw [e, ← h2]; exact hz _ List.mem_cons_self
    · exact Sc.len h4 (fun y hy => hz y (List.mem_cons_of_mem _ hy)) x e
theorem Sc.rk {W : Nat} : ∀ (n p : Nat) {l m : List (List Int)}, Sc l m → (∀ x ∈ l, x.length = W) → Mf.rk n p l = Mf.rk n p m
  | 0, _, _, _, _, _ => rfl
  | n + 1, p, l, m, s, hl => by
    rcases split_at p l with h | ⟨A, h, B, rfl, h1, h2⟩
    · rw [rk_none h, rk_none (s.zero h)]
      exact Sc.rk n (p + 1) s hl
    · obtain ⟨A', h', B', c, rfl, a, b, d, e, f⟩ := s.split
      have hh : h.length = W := hl h (by simp)
      have hAB : ∀ x ∈ A ++ B, x.length = W := fun x hx => hl x (by rcases List.mem_append.mp hx with z | z <;> simp [z])
      rw [rk_some h1 h2, rk_some (a.zero h1) (by rw [f]; exact Int.mul_ne_zero d h2)]
      congr 1
      refine Sc.rk (W := W) n (p + 1) ((a.append b).elim d e f fun x hx => by rw [hAB x hx, hh]) fun x hx => ?_
      obtain ⟨y, hy, rfl⟩ := List.mem_map.mp hx
      rw [elim_len (by rw [hAB y hy, hh]), hAB y hy]
/-- the rank stays exactly if the row is a sum of multiples -/
theorem rk_iff {W : Nat} : ∀ (n p : Nat) {L : List (List Int)} {r : List Int}, n + p = W → (∀ x ∈ L, x.length = W) → r.length = W → (∀ x ∈ L, ∀ q < p, x.getD q 0 = 0) → (∀ q < p, r.getD q 0 = 0) → (rk n p (L ++ [r]) = rk n p L ↔ InS W L fun q => (r.getD q 0 : Int))
  | 0, p, L, r, hn, hL, hr, zL, zr => by
    refine ⟨fun _ => InS.zero fun q hq => ?_, fun _ => rfl⟩
    rw [zr q (by omega)]
    rfl
  | n + 1, p, L, r, hn, hL, hr, zL, zr => by
    have hp : p < W := by omega
    rcases split_at p L with h | ⟨A, h, B, rfl, h1, h2⟩
    · by_cases e : r.getD p 0 = 0
      · rw [rk_none h, rk_none (l := L ++ [r]) (fun x hx => by
          rcases List.mem_append.mp hx with z | z
          · exact h x z
          · rw [List.mem_singleton.mp z]; exact e)]
        refine rk_iff n (p + 1) (by omega) hL hr (fun x hx q hq => ?_) (fun q hq => ?_)
        · by_cases z : q = p
          · rw [z]; exact h x hx
          · exact zL x hx q (by omega)
        · by_cases z : q = p
          · rw [z]; exact e
          · exact zr q (by omega)
      · have sc : ∀ (M : List (List Int)), (∀ x ∈ M, x.length = W) → (∀ x ∈ M, x.getD p 0 = 0) → Sc M (M.map (elim r p)) := fun M => by
          induction M with
          | nil => intro _ _; exact .nil
          | cons x M ih =>
            intro a b
            have hx := a x List.mem_cons_self
            refine .cons (c := r.getD p 0) e (by rw [elim_len (by omega)]) (fun q => ?_) (ih (fun y hy => a y (List.mem_cons_of_mem _ hy)) fun y hy => b y (List.mem_cons_of_mem _ hy))
            rw [elim_get (by omega), b x List.mem_cons_self]
            grind
        have e1 : rk (n + 1) p (L ++ [r]) = rk n (p + 1) L + 1 := by
          rw [rk_some h e, List.append_nil, ← Sc.rk n (p + 1) (sc L hL h) hL]
        rw [e1, rk_none h]
        refine ⟨fun z => by omega, fun z => ?_⟩
        have := InS.at hp h z
        exact absurd (by exact_mod_cast this) e
    · have hh : h.length = W := hL h (by simp)
      have hAB : ∀ x ∈ A ++ B, x ∈ A ++ h :: B := fun x hx => by rcases List.mem_append.mp hx with z | z <;> simp [z]
      have hABl : ∀ x ∈ A ++ B, x.length = W := fun x hx => hL x (hAB x hx)
      have e1 : A ++ h :: B ++ [r] = A ++ h :: (B ++ [r]) := by simp
      rw [e1, rk_some h1 h2, rk_some h1 h2, ← List.append_assoc, List.map_append, List.map_cons, List.map_nil]
      have hz : ∀ (x : List Int), x.length = W → (∀ q < p, x.getD q 0 = 0) → ∀ q < p + 1, (elim h p x).getD q 0 = 0 := fun x hx z q hq => by
        rw [elim_get (by omega)]
        by_cases e : q = p
        · subst e; grind
        · have hq' : q < p := by omega
          rw [z q hq', zL h (by simp) q hq']; simp
      have ih := rk_iff (W := W) n (p + 1) (L := (A ++ B).map (elim h p)) (r := elim h p r) (by omega) (fun x hx => by
        obtain ⟨y, hy, rfl⟩ := List.mem_map.mp hx
        rw [elim_len (by rw [hABl y hy, hh]), hABl y hy]) (by rw [elim_len (by omega)]; exact hr) (fun x hx q hq => by
        obtain ⟨y, hy, rfl⟩ := List.mem_map.mp hx
        exact hz y (hABl y hy) (zL y (hAB y hy)) q hq) (hz r hr zr)
      have ie := InS.erase (W := W) (h := h) (L := A ++ h :: B) (v := fun q => (r.getD q 0 : Int)) (by simp)
      have e2 : (A ++ h :: B).erase h = A ++ B := by rw [List.erase_append_right _ fun z => h2 (h1 h z), List.erase_cons_head]
      rw [e2] at ie
      have el := InS.elim (W := W) hp h2 (M := A ++ B) (v := fun q => (r.getD q 0 : Int)) (fun x hx => by rw [hABl x hx, hh])
      have e3 : (fun q => ((elim h p r).getD q 0 : Rat)) = fun q => ((r.getD q 0 : Int) : Rat) * (h.getD p 0 : Int) - (h.getD q 0 : Int) * ((r.getD p 0 : Int) : Rat) := by
        funext q
        rw [elim_get (by omega)]
        push_cast
        rfl
      rw [e3] at ih
      rw [ie, ← el, ← ih]
      omega
end Mf
set_option Elab.async false
set_option linter.all false
set_option maxRecDepth 100000
set_option maxHeartbeats 1000000
namespace Mf
theorem sumTo_front (n : Nat) (f : Nat → Rat) : sumTo (n + 1) f = f 0 + sumTo n fun k => f (k + 1) := by
  induction n with
  | zero => simp only [sumTo]; grind
  | succ n ih => rw [sumTo, ih]; simp only [sumTo]; grind
theorem InS.coef {W : Nat} : ∀ {L : List (List Int)} {v : Nat → Rat}, InS W L v ↔ ∃ a : Nat → Rat, ∀ q < W, v q = sumTo L.length fun k => a k * ((L.getD k []).getD q 0 : Int)
  | [], v => ⟨fun h => ⟨fun _ => 0, h⟩, fun ⟨a, h⟩ => h⟩
  | x :: L, v => by
    constructor
    · rintro ⟨c, z⟩
      obtain ⟨a, ha⟩ := InS.coef.mp z
      refine ⟨fun k => match k with | 0 => c | k + 1 => a k, fun q hq => ?_⟩
      rw [List.length_cons, sumTo_front]
      have := ha q hq
      simp only [List.getD_cons_zero, List.getD_cons_succ]
      grind
    · rintro ⟨a, ha⟩
      refine ⟨a 0, InS.coef.mpr ⟨fun k => a (k + 1), fun q hq => ?_⟩⟩
      have := ha q hq
      rw [List.length_cons, sumTo_front] at this
      simp only [List.getD_cons_zero, List.getD_cons_succ] at this
      grind
/-! ### the names' numbers -/
theorem oth_inj {i a b : Nat} (hi : i < 6) (ha : a < 5) (hb : b < 5) (h : (oth i).getD a 0 = (oth i).getD b 0) : a = b := by
  have key : ∀ i ∈ List.range 6, ∀ a ∈ List.range 5, ∀ b ∈ List.range 5, (oth i).getD a 0 = (oth i).getD b 0 → a = b := by decide +kernel
  exact key i (List.mem_range.mpr hi) a (List.mem_range.mpr ha) b (List.mem_range.mpr hb) h
theorem oth_mem {i a : Nat} (hi : i < 6) (ha : a < 5) : (oth i).getD a 0 ∈ oth i := by
  rw [List.getD_eq_getElem?_getD, List.getElem?_eq_getElem (by rw [oth_len hi]; exact ha)]
  exact List.getElem_mem _
theorem cupd_none {i j : Nat} : ∀ {ps : List (List Rat × Nat)} {c : Nat → Rat}, (∀ x ∈ ps, (oth i).getD x.2 0 ≠ j) → ps.foldl (cupd i) c j = c j
  | [], c, _ => rfl
  | x :: ps, c, h => by
    rw [List.foldl_cons, cupd_none fun y hy => h y (List.mem_cons_of_mem _ hy)]
    unfold cupd
    rw [if_neg fun z => h x List.mem_cons_self z.symm]
theorem cfin_none {i j : Nat} {ps : List (List Rat × Nat)} (h : ∀ x ∈ ps, (oth i).getD x.2 0 ≠ j) : cfin i ps j = 0 := cupd_none h
theorem cfin_head {i : Nat} (hi : i < 6) {ps : List (List Rat × Nat)} (H : Hd 5 ps) {x : List Rat × Nat} (hx : x ∈ ps) : cfin i ps ((oth i).getD x.2 0) = x.1.getD 5 0 := by
  obtain ⟨A, B, e⟩ := List.append_of_mem hx
  unfold cfin
  rw [e, List.foldl_append, List.foldl_cons, cupd_none]
  · unfold cupd
    rw [if_pos rfl]
  · intro y hy z
    have hy' : y ∈ ps := by rw [e]; simp [hy]
    have := oth_inj hi (H.lt y hy') (H.lt x hx) z
    have up := H.up
    rw [e] at up
    have := (List.pairwise_cons.mp (List.pairwise_append.mp up).2.1).1 y hy
    omega
theorem cfin_self {i : Nat} (hi : i < 6) {ps : List (List Rat × Nat)} (H : Hd 5 ps) : cfin i ps i = 0 := cfin_none fun x hx => (oth_lt (oth_mem hi (H.lt x hx))).2
theorem mrow_get {ms : List (List Rat)} {i pl q : Nat} (hi : i < 6) (hq : q < 5) : (mrow ms i pl).getD q 0 = mget ms ((oth i).getD q 0) pl := by
  have hl := oth_len hi
  unfold mrow
  rw [List.getD_eq_getElem?_getD, List.getElem?_append_left (by rw [List.length_map]; omega), List.getElem?_map, List.getElem?_eq_getElem (by omega), List.getD_eq_getElem?_getD, List.getElem?_eq_getElem (by omega)]
  rfl
theorem mrow_get5 {ms : List (List Rat)} {i pl : Nat} (hi : i < 6) : (mrow ms i pl).getD 5 0 = mget ms i pl := by
  have hl := oth_len hi
  unfold mrow
  rw [List.getD_eq_getElem?_getD, List.getElem?_append_right (by rw [List.length_map]; omega), List.length_map, hl]
  rfl
/-- c for the others, -1 for the name -/
def vec (c : Nat → Rat) : Nat → Rat := fun q => if q < 5 then c q else -1
theorem dot_vec (r : List Rat) (c : Nat → Rat) : dot 6 r (vec c) = sumTo 5 (fun q => r.getD q 0 * c q) - r.getD 5 0 := by
  show sumTo 5 (fun q => r.getD q 0 * vec c q) + r.getD 5 0 * vec c 5 = _
  rw [sumTo_congr (g := fun q => r.getD q 0 * c q) fun q hq => by unfold vec; rw [if_pos hq]]
  have : vec c 5 = -1 := by unfold vec; rw [if_neg (by decide)]
  rw [this]
  grind
def vec2 (a : Nat → Rat) (pp : Nat) : Nat → Rat := fun q => if q < pp then a q else if q = pp then -1 else 0
theorem vec2_lt {a : Nat → Rat} {pp q : Nat} (h : q < pp) : vec2 a pp q = a q := if_pos h
theorem vec2_eq {a : Nat → Rat} {pp : Nat} : vec2 a pp pp = -1 := by unfold vec2; rw [if_neg (by omega), if_pos rfl]
theorem vec2_gt {a : Nat → Rat} {pp q : Nat} (h : pp < q) : vec2 a pp q = 0 := by unfold vec2; rw [if_neg (by omega), if_neg (by omega)]
section
variable {ms : List (List Rat)} {i : Nat} (T : Tab ms) (hi : i < 6)
include T hi
theorem mat_RI : RI 6 (mat ms i) 5 (redQ (mat ms i) 5) := redQ_inv (fun r hr => (mrow_RV T hi r hr).1) (by decide)
omit T in
/-- c solves the demands of the name -/
theorem solves_iff (c : Nat → Rat) : (∀ r ∈ mat ms i, dot 6 r (vec c) = 0) ↔ ∀ pl < 3, mget ms i pl = sumTo 5 fun q => mget ms ((oth i).getD q 0) pl * c q := by
  have key : ∀ pl, dot 6 (mrow ms i pl) (vec c) = (sumTo 5 fun q => mget ms ((oth i).getD q 0) pl * c q) - mget ms i pl := fun pl => by
    rw [dot_vec, mrow_get5 hi, sumTo_congr fun q hq => by rw [mrow_get hi hq]]
  constructor
  · intro h pl hp
    have := h (mrow ms i pl) (List.mem_map.mpr ⟨pl, List.mem_range.mpr hp, rfl⟩)
    rw [key] at this
    grind
  · intro h r hr
    obtain ⟨pl, hp, rfl⟩ := List.mem_map.mp hr
    rw [key, h pl (List.mem_range.mp hp)]
    grind
theorem no_of_solves {c : Nat → Rat} (h : ∀ r ∈ mat ms i, dot 6 r (vec c) = 0) : (redQ (mat ms i) 5).2.any (fun r => !decide (r.getD 5 0 = 0)) = false := by
  have R := mat_RI T hi
  rw [List.any_eq_false]
  intro r hr
  have h1 := (R.same (vec c)).mp h r (List.mem_append_right _ hr)
  rw [dot_vec, sumTo_zero fun q hq => by rw [R.left r hr q hq]; grind] at h1
  have : r.getD 5 0 = 0 := by grind
  simp only [this, decide_true, Bool.not_true, Bool.false_eq_true, not_false_eq_true]
theorem cfin_solves {ps : List (List Rat × Nat)} (ha : (redQ (mat ms i) 5).2.any (fun r => !decide (r.getD 5 0 = 0)) = false) (hps : (redQ (mat ms i) 5).1 = ps.map Prod.fst) (H : Hd 5 ps) : ∀ r ∈ mat ms i, dot 6 r (vec fun q => cfin i ps ((oth i).getD q 0)) = 0 := by
  have R := mat_RI T hi
  refine (R.same _).mpr fun r hr => ?_
  rcases List.mem_append.mp hr with hr | hr
  · rw [hps] at hr
    obtain ⟨x, hx, rfl⟩ := List.mem_map.mp hr
    rw [dot_vec, sumTo_one (k := x.2) (H.lt x hx) fun q hq hne => ?_]
    · rw [H.one x hx, cfin_head hi H hx]
      grind
    · by_cases hy : ∃ y ∈ ps, y.2 = q
      · obtain ⟨y, hy, rfl⟩ := hy
        rw [H.alone x hx y hy hne]
        grind
      · rw [cfin_none (ps := ps) (j := (oth i).getD q 0) fun y hy' z => hy ⟨y, hy', oth_inj hi (H.lt y hy') hq z⟩]
        grind
  · have h0 := List.any_eq_false.mp ha r hr
    have h5 : r.getD 5 0 = 0 := by simpa using h0
    rw [dot_vec, sumTo_zero fun q hq => by rw [R.left r hr q hq]; grind, h5]
    grind
/-- no head where a column is a sum of earlier ones -/
theorem told_zero {ps : List (List Rat × Nat)} (hps : (redQ (mat ms i) 5).1 = ps.map Prod.fst) (H : Hd 5 ps) {pp : Nat} (hpp : pp < 5) {a : Nat → Rat} (h : ∀ pl < 3, mget ms ((oth i).getD pp 0) pl = sumTo pp fun k => a k * mget ms ((oth i).getD k 0) pl) : cfin i ps ((oth i).getD pp 0) = 0 := by
  have R := mat_RI T hi
  refine cfin_none fun x hx z => ?_
  have e : x.2 = pp := oth_inj hi (H.lt x hx) hpp z
  have hz : ∀ (n : Nat) (f : Nat → Rat), pp < n → (∀ q < n, pp < q → f q = 0) → sumTo n f = sumTo pp f + f pp := fun n f => by
    induction n with
    | zero => intro hn; omega
    | succ n ih =>
      intro hn hf
      simp only [sumTo]
      by_cases en : pp = n
      · subst en; rfl
      · rw [ih (by omega) fun q hq => hf q (by omega), hf n (by omega) (by omega)]
        grind
  have hv : ∀ r ∈ mat ms i, dot 6 r (vec2 a pp) = 0 := fun r hr => by
    obtain ⟨pl, hp, rfl⟩ := List.mem_map.mp hr
    unfold dot
    rw [hz 6 _ (by omega) fun q hq hlt => by rw [vec2_gt hlt]; grind]
    rw [sumTo_congr (g := fun k => a k * mget ms ((oth i).getD k 0) pl) fun q hq => by rw [vec2_lt hq, mrow_get hi (by omega)]; grind, ← h pl (List.mem_range.mp hp), vec2_eq, mrow_get hi hpp]
    grind
  have := (R.same _).mp hv x.1 (List.mem_append_left _ (by rw [hps]; exact List.mem_map.mpr ⟨x, hx, rfl⟩))
  unfold dot at this
  rw [hz 6 _ (by omega) fun q hq hlt => by rw [vec2_gt hlt]; grind, sumTo_zero fun q hq => by rw [H.ahead x hx q (by omega)]; grind, vec2_eq, ← e, H.one x hx] at this
  grind
end
end Mf
set_option Elab.async false
set_option linter.all false
set_option maxRecDepth 100000
set_option maxHeartbeats 1000000
namespace Mf
open PySem L2
/-! ### rows of integers -/
def irow (r : List Int) : D := .lst (r.map D.int)
def irows (L : List (List Int)) : D := .lst (L.map irow)
theorem ix_irow {r : List Int} {p : Nat} (h : p < r.length) : ixD (irow r) (.int (p : Int)) = some (.int (r.getD p 0)) := by
  show atI (r.map D.int) (p : Int) = _
  refine atI_nat ?_
  rw [List.getElem?_map, List.getElem?_eq_getElem h, List.getD_eq_getElem?_getD, List.getElem?_eq_getElem h]
  rfl
theorem items_irow (r : List Int) : itemsD (irow r) = some (r.map D.int) := rfl
theorem shs_int (n : Nat) : ∀ r : List Int, shs n (r.map D.int) = true
  | [] => by cases n <;> rfl
  | x :: r => by
    show ((D.int x).sh n && shs n (r.map D.int)) = true
    rw [shs_int n r]
    cases n <;> rfl
theorem sh_irow (n : Nat) (r : List Int) : (irow r).sh (n + 1) = true := shs_int n r
theorem shs_irows (n : Nat) : ∀ l : List (List Int), shs (n + 1) (l.map irow) = true
  | [] => rfl
  | r :: l => by
    show ((irow r).sh (n + 1) && shs (n + 1) (l.map irow)) = true
    rw [sh_irow, shs_irows n l]
    rfl
theorem deqs_int : ∀ x y : List Int, deqs (x.map D.int) (y.map D.int) = decide (x = y)
  | [], [] => rfl
  | [], _ :: _ => rfl
  | _ :: _, [] => rfl
  | a :: x, b :: y => by
    show ((a == b) && deqs (x.map D.int) (y.map D.int)) = _
    rw [deqs_int x y]
    by_cases h : a = b <;> by_cases h' : x = y <;> simp [h, h']
theorem deq_irow (x y : List Int) : deq (irow x) (irow y) = decide (x = y) := deqs_int x y
theorem eqD_inil (l : List (List Int)) : eqD (.lst (l.map irow)) (.lst []) = some l.isEmpty := by
  unfold eqD
  have h : (D.lst (l.map irow)).sh 60 = true := shs_irows 58 l
  rw [h]
  cases l <;> rfl
theorem find_irow (h : List Int) : ∀ l : List (List Int), (l.map irow).findIdx? (fun z => deq z (irow h)) = l.findIdx? (fun r => decide (r = h))
  | [] => rfl
  | r :: l => by
    rw [List.map_cons, List.findIdx?_cons, List.findIdx?_cons, deq_irow, find_irow h l]
theorem erase_irow {h : List Int} : ∀ {l : List (List Int)}, h ∈ l → ∃ j, l.findIdx? (fun r => decide (r = h)) = some j ∧ (l.map irow).eraseIdx j = (l.erase h).map irow
  | r :: l, hm => by
    rw [List.findIdx?_cons]
    by_cases e : r = h
    · subst e
      exact ⟨0, by simp, by simp⟩
    · obtain ⟨j, h1, h2⟩ := erase_irow (h := h) (l := l) (by rcases List.mem_cons.mp hm with z | z; exact absurd z.symm e; exact z)
      refine ⟨j + 1, by simp [e, h1], ?_⟩
      rw [List.erase_cons, if_neg (by simpa using e)]
      simp only [List.map_cons, List.eraseIdx_cons_succ, h2]
theorem igetD_mem {r : List Int} {p : Nat} (h : p < r.length) : r.getD p 0 ∈ r := by
  rw [List.getD_eq_getElem?_getD, List.getElem?_eq_getElem h]
  exact List.getElem_mem h
def IV (B W : Nat) (L : List (List Int)) : Prop := ∀ r ∈ L, r.length = W ∧ ∀ x ∈ r, x.natAbs < 2 ^ B
def rkStep (st : List (List Int) × Nat) (p : Nat) : List (List Int) × Nat :=
  match st.1.filter (fun r => decide (r.getD p 0 ≠ 0)) with
  | [] => st
  | h :: _ => ((st.1.erase h).map (elim h p), st.2 + 1)
theorem rkStep_fold : ∀ (n p : Nat) (st : List (List Int) × Nat), ((List.range' p n).foldl rkStep st).2 = st.2 + rk n p st.1
  | 0, p, st => rfl
  | n + 1, p, st => by
    rw [List.range'_succ, List.foldl_cons, rkStep_fold n (p + 1)]
    unfold rkStep
    rw [rk]
    split
    · rename_i e
      first
        | rfl
        | rw [e]
    · rename_i h t e
      first
        | (rw [e]; dsimp only; omega)
        | (dsimp only; omega)
theorem rk_nil : ∀ n p, rk n p [] = 0
  | 0, _ => rfl
  | n + 1, p => by rw [rk_none (l := []) (fun x hx => by cases hx)]; exact rk_nil n (p + 1)
theorem sub_lt {i j : Int} {a : Nat} (hi : i.natAbs < 2 ^ a) (hj : j.natAbs < 2 ^ a) : (i - j).natAbs < 2 ^ (a + 1) := by
  rw [Int.sub_eq_add_neg]
  exact add_lt hi (by rwa [Int.natAbs_neg])
theorem rkStep_inv {B W p : Nat} {st : List (List Int) × Nat} (h : IV B W st.1) (hp : p < W) : IV (2 * B + 1) W (rkStep st p).1 ∧ (rkStep st p).1.length ≤ st.1.length := by
  unfold rkStep
  split
  · exact ⟨fun r hr => ⟨(h r hr).1, fun x hx => Nat.lt_of_lt_of_le ((h r hr).2 x hx) (Nat.pow_le_pow_right (by decide) (by omega))⟩, Nat.le_refl _⟩
  · rename_i hd t hf
    have hm : hd ∈ st.1.filter (fun r => decide (r.getD p 0 ≠ 0)) := by rw [hf]; exact List.mem_cons_self
    obtain ⟨hm1, hm2⟩ := List.mem_filter.mp hm
    refine ⟨fun r hr => ?_, by rw [List.length_map]; exact List.length_erase_le⟩
    obtain ⟨y, hy, rfl⟩ := List.mem_map.mp hr
    have hy' := List.mem_of_mem_erase hy
    refine ⟨by rw [elim_len (by rw [(h y hy').1, (h hd hm1).1]), (h y hy').1], fun x hx => ?_⟩
    unfold elim at hx
    obtain ⟨z, hz, rfl⟩ := List.mem_map.mp hx
    have hz' := List.of_mem_zip hz
    have e : 2 * B + 1 = (B + B) + 1 := by omega
    rw [e]
    exact sub_lt (mul_lt ((h y hy').2 _ hz'.1) ((h hd hm1).2 _ (igetD_mem (by rw [(h hd hm1).1]; exact hp)))) (mul_lt ((h hd hm1).2 _ hz'.2) ((h y hy').2 _ (igetD_mem (by rw [(h y hy').1]; exact hp))))
def bi (B : Nat) : Nat → Nat
  | 0 => B
  | j + 1 => 2 * bi B j + 1
theorem bi_mono {B j k : Nat} (h : j ≤ k) : bi B j ≤ bi B k := by
  induction h with
  | refl => exact Nat.le_refl _
  | step _ ih => exact Nat.le_trans ih (by show _ ≤ 2 * bi B _ + 1; omega)
theorem seq_asg {S : Type} {own : Bool} {i : Nat} {e : CE S} {cs : CSs S} {ρ ρ' : List SV} {s : S} {x : K3 × D} {r : Out S} (h : ev e ρ s = .ok x s) {v : SV} (hv : stow own x = some v) (hp : put ρ i v = some ρ') (h2 : runs cs ρ' s = r) : runs (.cons (.asg own i e) cs) ρ s = r := seq_nx (run_asgq h hv hp) h2
theorem seq_ret {S : Type} {e : CE S} {cs : CSs S} {ρ : List SV} {s : S} {k : K3} {d : D} (h : ev e ρ s = .ok (k, d) s) (hk : k ≠ .o) : runs (.cons (.ret e) cs) ρ s = .rt d s := seq_rt (run_retq h hk)
theorem seq_if {S : Type} {t : CE S} {a b cs : CSs S} {ρ : List SV} {s : S} {k : Bool} {k3 : K3} {r : Out S} (h : ev t ρ s = .ok (k3, .bl k) s) (h2 : (if k then runs a ρ s else runs b ρ s).sq (runs cs) = r) : runs (.cons (.ife t a b) cs) ρ s = r := by
  rw [runs_cons, run_ifq h rfl]
  exact h2
end Mf
set_option Elab.async false
set_option linter.all false
set_option maxRecDepth 100000
set_option maxHeartbeats 1000000
namespace Mf
open PySem L2
/-! ### bounds of what reduced gives -/
theorem bt_mono {B j k : Nat} (h : j ≤ k) : bt B j ≤ bt B k := by
  induction h with
  | refl => exact Nat.le_refl _
  | step _ ih => exact Nat.le_trans ih (by show _ ≤ 4 * bt B _ + 2; omega)
theorem redQ_RV {B W n : Nat} {l : List (List Rat)} (hl : RV B W l) (hn : n ≤ W) : RV (bt B l.length) W (redQ l n).1 ∧ RV (bt B l.length) W (redQ l n).2 := by
  have key : ∀ n ≤ W, ∃ j, RV (bt B j) W (redQ l n).1 ∧ RV (bt B j) W (redQ l n).2 ∧ (redQ l n).2.length + j = l.length := by
    intro n
    induction n with
    | zero => intro _; exact ⟨0, fun _ h => (nomatch h), hl, rfl⟩
    | succ n ih =>
      intro hn
      obtain ⟨j, a, b, c⟩ := ih (by omega)
      unfold redQ at *
      rw [List.range_succ, List.foldl_append]
      rcases redStep_inv (p := n) a b (by omega) with e | ⟨q1, q2, q3, q4⟩
      · rw [List.foldl_cons, List.foldl_nil, e]; exact ⟨j, a, b, c⟩
      · exact ⟨j + 1, q1, q2, by rw [List.foldl_cons, List.foldl_nil]; omega⟩
  obtain ⟨j, a, b, c⟩ := key n hn
  exact ⟨a.mono (bt_mono (by omega)), b.mono (bt_mono (by omega))⟩
/-! ### twice a measure -/
def dbl1 (x : Rat) : Int := x.num * (2 : Int).fdiv x.den
def dbl (m : List Rat) : List Int := m.map dbl1
theorem dbl1_eq {x : Rat} (h : sm x) : ((dbl1 x : Int) : Rat) = 2 * x := by
  have hx : ((x.num : Int) : Rat) / (((x.den : Nat) : Int) : Rat) = x := by rw [← Rat.divInt_eq_div]; exact Rat.num_divInt_den x
  unfold dbl1
  have h2 := h.2
  generalize x.num = u at hx
  generalize x.den = v at hx h2
  rcases h2 with d | d <;> rw [d] at hx ⊢
  · have : (2 : Int).fdiv ((1 : Nat) : Int) = 2 := by decide
    rw [this]
    push_cast
    push_cast at hx
    grind
  · have : (2 : Int).fdiv ((2 : Nat) : Int) = 1 := by decide
    rw [this]
    push_cast
    push_cast at hx
    grind
theorem dbl1_bd {x : Rat} (h : sm x) : (dbl1 x).natAbs < 2 ^ 3 := by
  unfold dbl1
  rw [Int.natAbs_mul]
  have h1 := h.1
  rcases h.2 with d | d <;> rw [d]
  · have : ((2 : Int).fdiv ((1 : Nat) : Int)).natAbs = 2 := by decide
    rw [this]; omega
  · have : ((2 : Int).fdiv ((2 : Nat) : Int)).natAbs = 1 := by decide
    rw [this]; omega
theorem dbl_get {m : List Rat} (h : ∀ x ∈ m, sm x) (q : Nat) : (((dbl m).getD q 0 : Int) : Rat) = 2 * m.getD q 0 := by
  unfold dbl
  simp only [List.getD_eq_getElem?_getD, List.getElem?_map]
  by_cases hq : q < m.length
  · rw [List.getElem?_eq_getElem hq]
    exact dbl1_eq (h _ (List.getElem_mem hq))
  · rw [List.getElem?_eq_none (by omega)]
    simp
def drows (ms : List (List Rat)) (i : Nat) : List (List Int) := (oth i).map fun j => dbl (ms.getD j [])
section
variable {ms : List (List Rat)} {i : Nat} (T : Tab ms) (hi : i < 6)
include T hi
omit hi in
theorem dbl_IV {j : Nat} (hj : j < 6) : (dbl (ms.getD j [])).length = 3 ∧ ∀ x ∈ dbl (ms.getD j []), x.natAbs < 2 ^ 3 := by
  refine ⟨by unfold dbl; rw [List.length_map, T.three _ (T.get hj)], fun x hx => ?_⟩
  obtain ⟨y, hy, rfl⟩ := List.mem_map.mp hx
  exact dbl1_bd (T.sm _ (T.get hj) y hy)
omit hi in
theorem drows_IV : IV 3 3 (drows ms i) := fun r hr => by
  obtain ⟨j, hj, rfl⟩ := List.mem_map.mp hr
  exact dbl_IV T (oth_lt hj).1
omit T in
theorem drows_len : (drows ms i).length = 5 := by unfold drows; rw [List.length_map, oth_len hi]
omit T in
theorem drows_get {k : Nat} (hk : k < 5) : (drows ms i).getD k [] = dbl (ms.getD ((oth i).getD k 0) []) := by
  have hl := oth_len hi
  unfold drows
  rw [List.getD_eq_getElem?_getD, List.getElem?_map, List.getElem?_eq_getElem (by omega), List.getD_eq_getElem?_getD (l := oth i), List.getElem?_eq_getElem (by omega)]
  rfl
omit T in
theorem take_get {pp k : Nat} (h : k < pp) (hp : pp ≤ 5) : ((drows ms i).take pp).getD k [] = dbl (ms.getD ((oth i).getD k 0) []) := by
  rw [← drows_get hi (show k < 5 by omega), List.getD_eq_getElem?_getD, List.getElem?_take_of_lt h, List.getD_eq_getElem?_getD]
theorem ins_iff {pp j : Nat} (hp : pp ≤ 5) (hj : j < 6) : InS 3 ((drows ms i).take pp) (fun q => ((dbl (ms.getD j [])).getD q 0 : Int)) ↔ ∃ a : Nat → Rat, ∀ q < 3, mget ms j q = sumTo pp fun k => a k * mget ms ((oth i).getD k 0) q := by
  rw [InS.coef]
  have hl : ((drows ms i).take pp).length = pp := by rw [List.length_take, drows_len hi]; omega
  rw [hl]
  have key : ∀ (a : Nat → Rat) q, (((dbl (ms.getD j [])).getD q 0 : Int) : Rat) = sumTo pp (fun k => a k * ((((drows ms i).take pp).getD k []).getD q 0 : Int)) ↔ mget ms j q = sumTo pp fun k => a k * mget ms ((oth i).getD k 0) q := fun a q => by
    rw [dbl_get (T.sm _ (T.get hj)), sumTo_congr (g := fun k => (a k * mget ms ((oth i).getD k 0) q) * 2) fun k hk => by
      rw [take_get hi hk hp, dbl_get (T.sm _ (T.get (oth_lt (oth_mem hi (show k < 5 by omega))).1))]
      unfold mget
      grind, sumTo_mul]
    unfold mget
    constructor <;> intro h <;> grind
  constructor
  · rintro ⟨a, h⟩
    exact ⟨a, fun q hq => (key a q).mp (h q hq)⟩
  · rintro ⟨a, h⟩
    exact ⟨a, fun q hq => (key a q).mpr (h q hq)⟩
theorem rk_ins {pp j : Nat} (hp : pp ≤ 5) (hj : j < 6) : rk 3 0 ((drows ms i).take pp ++ [dbl (ms.getD j [])]) = rk 3 0 ((drows ms i).take pp) ↔ ∃ a : Nat → Rat, ∀ q < 3, mget ms j q = sumTo pp fun k => a k * mget ms ((oth i).getD k 0) q := by
  rw [← ins_iff T hi hp hj]
  exact rk_iff 3 0 rfl (fun x hx => (drows_IV T x (List.mem_of_mem_take hx)).1) (dbl_IV T hj).1 (fun _ _ q hq => by omega) (fun q hq => by omega)
/-- can -/
theorem can_iff : rk 3 0 (drows ms i ++ [dbl (ms.getD i [])]) = rk 3 0 (drows ms i) ↔ (redQ (mat ms i) 5).2.any (fun r => !decide (r.getD 5 0 = 0)) = false := by
  have h := rk_ins T hi (pp := 5) (j := i) (Nat.le_refl _) hi
  rw [List.take_of_length_le (by rw [drows_len hi]; exact Nat.le_refl _)] at h
  rw [h]
  constructor
  · rintro ⟨a, ha⟩
    refine no_of_solves T hi (c := a) ((solves_iff hi a).mpr fun pl hp => ?_)
    rw [ha pl hp]
    exact sumTo_congr fun k _ => by grind
  · intro ha
    obtain ⟨ps, hps, H⟩ := (mat_RI T hi).hd
    have := (solves_iff hi _).mp (cfin_solves T hi ha hps H)
    refine ⟨fun q => cfin i ps ((oth i).getD q 0), fun q hq => ?_⟩
    rw [this q hq]
    exact sumTo_congr fun k _ => by grind
/-- results -/
theorem results_zero {ps : List (List Rat × Nat)} (hps : (redQ (mat ms i) 5).1 = ps.map Prod.fst) (H : Hd 5 ps) {pp : Nat} (hpp : pp < 5) (h : rk 3 0 ((drows ms i).take (pp + 1)) = rk 3 0 ((drows ms i).take pp)) : cfin i ps ((oth i).getD pp 0) = 0 := by
  have e : (drows ms i).take (pp + 1) = (drows ms i).take pp ++ [dbl (ms.getD ((oth i).getD pp 0) [])] := by
    rw [List.take_add_one, List.getElem?_eq_getElem (by rw [drows_len hi]; omega)]
    congr 1
    have := drows_get (ms := ms) hi hpp
    rw [List.getD_eq_getElem?_getD, List.getElem?_eq_getElem (by rw [drows_len hi]; omega)] at this
    simpa using this
  rw [e, rk_ins T hi (by omega) (oth_lt (oth_mem hi hpp)).1] at h
  obtain ⟨a, ha⟩ := h
  exact told_zero T hi hps H hpp ha
/-- what the law adds up -/
theorem found_eq {ps : List (List Rat × Nat)} (ha : (redQ (mat ms i) 5).2.any (fun r => !decide (r.getD 5 0 = 0)) = false) (hps : (redQ (mat ms i) 5).1 = ps.map Prod.fst) (H : Hd 5 ps) {pl : Nat} (hpl : pl < 3) : sumTo 6 (fun j => mget ms j pl * cfin i ps j) = mget ms i pl := by
  have h1 := (solves_iff hi _).mp (cfin_solves T hi ha hps H) pl hpl
  have key : ∀ i < 6, ∀ f : Nat → Rat, f i = 0 → sumTo 6 f = sumTo 5 fun q => f ((oth i).getD q 0) := by
    intro i hi f h0
    have o : ∀ i ∈ List.range 6, oth i = [[1, 2, 3, 4, 5], [0, 2, 3, 4, 5], [0, 1, 3, 4, 5], [0, 1, 2, 4, 5], [0, 1, 2, 3, 5], [0, 1, 2, 3, 4]].getD i [] := by decide +kernel
    rw [o i (List.mem_range.mpr hi)]
    match i, hi with
    | 0, _ => simp [sumTo]; grind
    | 1, _ => simp [sumTo]; grind
    | 2, _ => simp [sumTo]; grind
    | 3, _ => simp [sumTo]; grind
    | 4, _ => simp [sumTo]; grind
    | 5, _ => simp [sumTo]; grind
  rw [key i hi _ (by rw [cfin_self hi H]; grind)]
  exact h1.symm
theorem cfin_bd {ps : List (List Rat × Nat)} (hps : (redQ (mat ms i) 5).1 = ps.map Prod.fst) (H : Hd 5 ps) (j : Nat) : bd 170 (cfin i ps j) := by
  have hR := (redQ_RV (n := 5) (mrow_RV T hi) (by decide)).1
  have e3 : (mat ms i).length = 3 := by unfold mat; rw [List.length_map, List.length_range]
  rw [e3] at hR
  by_cases h : ∃ x ∈ ps, (oth i).getD x.2 0 = j
  · obtain ⟨x, hx, rfl⟩ := h
    rw [cfin_head hi H hx]
    have := hR x.1 (by rw [hps]; exact List.mem_map.mpr ⟨x, hx, rfl⟩)
    exact this.2 _ (getD_mem (by rw [this.1]; decide))
  · rw [cfin_none fun x hx z => h ⟨x, hx, z⟩]
    exact ⟨by decide, by decide⟩
end

/-! ### walks over numbers -/
theorem forR_range {S : Type} {f : D → List SV → S → Out S} {e : Nat → D} {P : Nat → List SV → S → Prop} {n : Nat} (h : ∀ k < n, ∀ ρ s, P k ρ s → ∃ ρ' s', f (e k) ρ s = .nx ρ' s' ∧ P (k + 1) ρ' s') (ρ : List SV) (s : S) (h0 : P 0 ρ s) : ∃ ρ' s', forR f ((List.range n).map e) ρ s = .nx ρ' s' ∧ P n ρ' s' := by
  obtain ⟨ρ', s', h1, k, h2, h3, h4⟩ := forR_ind (f := f) (e := e) (P := fun l ρ s => ∃ k, k + l.length = n ∧ l = List.range' k (n - k) ∧ P k ρ s) (fun a l ρ s hP => by
    obtain ⟨k, hk, hl, hp⟩ := hP
    simp only [List.length_cons] at hk
    have e1 : n - k = (n - (k + 1)) + 1 := by omega
    rw [e1, List.range'_succ] at hl
    injection hl with hl1 hl2
    subst hl1
    obtain ⟨ρ', s', q1, q2⟩ := h a (by omega) ρ s hp
    exact ⟨ρ', s', q1, a + 1, by omega, hl2, q2⟩) (List.range n) ρ s ⟨0, by simp, by simp [List.range_eq_range'], h0⟩
  have : k = n := by simpa using h2
  subst this
  exact ⟨ρ', s', h1, h4⟩
theorem zipD_same {α : Type} (e g : α → D) : ∀ x : List α, zipD (x.map e) (x.map g) = x.map fun a => .tup [e a, g a]
  | [] => rfl
  | a :: x => by
    show D.tup [e a, g a] :: zipD (x.map e) (x.map g) = _
    rw [zipD_same e g x]
    rfl
theorem slH_lst {ds : List D} {k : Nat} (h : k ≤ ds.length) : slD (.lst ds) none (some (k : Int)) = some (.t, .lst (ds.take k)) := by
  show some (K3.t, D.lst ((ds.drop 0).take (HT.sIx ds.length ds.length (some (k : Int)) - 0))) = _
  rw [HT.sIx_nat, Nat.min_eq_left h]
  rfl
theorem index_nm {j : Nat} (h : j < 6) : m1D .sindex (.str "abcdef") (.str (nm j)) = some (.v, .int (j : Int)) := by
  have key : ∀ j ∈ List.range 6, Builtin.Str.occurrences "abcdef" (nm j) 0 ("abcdef" : Str).length 1 = [j] := by decide +kernel
  show (match Builtin.Str.occurrences "abcdef" (nm j) 0 ("abcdef" : Str).length 1 with | i :: _ => some (K3.v, D.int (i : Nat)) | [] => none) = _
  rw [key j (List.mem_range.mpr h)]
theorem shs_ents (ms : List (List Rat)) (h : ms.length ≤ 6) : shs 59 (ents ms) = true := by
  have key : ∀ i ∈ List.range 6, okS (nm i) = true := by decide +kernel
  have : ∀ L : List Nat, (∀ i ∈ L, i < 6) → shs 59 (L.map fun i => ent i (ms.getD i [])) = true := by
    intro L
    induction L with
    | nil => intro _; rfl
    | cons i L ih =>
      intro hL
      show ((ent i (ms.getD i [])).sh 59 && shs 59 (L.map fun i => ent i (ms.getD i []))) = true
      rw [ih fun j hj => hL j (List.mem_cons_of_mem _ hj)]
      show ((okS (nm i) && ((row (ms.getD i [])).sh 58 && true)) && true) = true
      rw [key i (List.mem_range.mpr (hL i List.mem_cons_self)), sh_row 56]
      rfl
  exact this _ fun i hi => by have := List.mem_range.mp hi; omega
theorem deq_ent (i j : Nat) (m m' : List Rat) : deq (ent i m) (ent j m') = (decide (i = j) && decide (m = m')) := by
  show ((nm i == nm j) && (deq (row m) (row m') && true)) = _
  rw [deq_row, Bool.and_true]
  congr 1
  by_cases e : i = j
  · subst e; simp
  · rw [decide_eq_false e]
    exact beq_eq_false_iff_ne.mpr fun z => e (nm_inj z)
theorem in_tab {ms : List (List Rat)} (T : Tab ms) {i : Nat} (hi : i < 6) : inD (ent i (ms.getD i [])) (tab ms) = some true := by
  have key : ∀ i ∈ List.range 6, okS (nm i) = true := by decide +kernel
  have h1 : (ent i (ms.getD i [])).sh 60 = true := by
    show (okS (nm i) && ((row (ms.getD i [])).sh 59 && true)) = true
    rw [key i (List.mem_range.mpr hi), sh_row 57]
    rfl
  have h2 := shs_ents ms (by rw [T.six]; exact Nat.le_refl _)
  show (if ((flatD (ent i (ms.getD i [])) && (ents ms).all flatD) || ((ent i (ms.getD i [])).sh 60 && shs 59 (ents ms))) = true then some ((ents ms).any fun y => deq y (ent i (ms.getD i []))) else none) = _
  rw [h1, h2]
  simp only [Bool.and_self, Bool.or_true, if_true]
  congr 1
  refine List.any_eq_true.mpr ⟨ent i (ms.getD i []), List.mem_map.mpr ⟨i, List.mem_range.mpr (by rw [T.six]; exact hi), rfl⟩, ?_⟩
  rw [deq_ent]
  simp
theorem three_eq {m : List Rat} (h : m.length = 3) : m = (List.range 3).map fun q => m.getD q 0 := by
  match m, h with
  | [a, b, c], _ => rfl
def acc (ms : List (List Rat)) (c : Nat → Rat) (k : Nat) : List Rat := (List.range 3).map fun pl => sumTo k fun j => mget ms j pl * c j
theorem acc_succ {ms : List (List Rat)} (T : Tab ms) (c : Nat → Rat) {k : Nat} (hk : k < 6) : radd (acc ms c k) (ms.getD k []) (c k) = acc ms c (k + 1) := by
  rw [three_eq (T.three _ (T.get hk))]
  rfl
theorem acc_fin {ms : List (List Rat)} (T : Tab ms) {i : Nat} (hi : i < 6) {ps : List (List Rat × Nat)} (ha : (redQ (mat ms i) 5).2.any (fun r => !decide (r.getD 5 0 = 0)) = false) (hps : (redQ (mat ms i) 5).1 = ps.map Prod.fst) (H : Hd 5 ps) : acc ms (cfin i ps) 6 = ms.getD i [] := by
  rw [three_eq (T.three _ (T.get hi))]
  unfold acc
  refine List.map_congr_left fun pl hp => ?_
  rw [found_eq T hi ha hps H (List.mem_range.mp hp)]
  rfl
end Mf
set_option Elab.async false
set_option linter.all false
set_option maxRecDepth 100000
set_option maxHeartbeats 4000000
namespace Mf
open PySem L2
abbrev g__law_draw := g_draw
def top (i : Nat) : Stmt := PySem.Challenge.pw_measureforms_k31_names_as_products.main.body.getD i (.Pass ⟨0, 0, 0, 0⟩)
def d_NAMES : D := .str "abcdef"
def d_ZERO : D := .tup [.int 0, .int 1]
abbrev s__law_town : Stmt := top 33
abbrev s__law_draw : Stmt := top 34
abbrev s__law_pick : Stmt := top 35
abbrev s__law_frac : Stmt := top 36
abbrev s__law_measure : Stmt := top 40
abbrev s__law_table : Stmt := top 41
abbrev s_is_name : Stmt := top 16
abbrev s_is_between : Stmt := top 8
abbrev s_divisor : Stmt := top 9
abbrev s_is_fraction : Stmt := top 15
abbrev s_is_measure : Stmt := top 18
abbrev s_is_table : Stmt := top 19
abbrev s_check_table : Stmt := top 20
abbrev s_check_name : Stmt := top 17
abbrev s_check_complete : Stmt := top 24
abbrev s_fraction : Stmt := top 10
abbrev s_plus : Stmt := top 11
abbrev s_times : Stmt := top 12
abbrev s_added : Stmt := top 14
abbrev s_over : Stmt := top 13
abbrev s_reduced : Stmt := top 22
abbrev s_as_product : Stmt := top 31
abbrev s__law_doubled : Stmt := top 43
abbrev s__law_rank : Stmt := top 42
abbrev s__law_plus : Stmt := top 37
abbrev s__law_times : Stmt := top 38
abbrev s__law_all : Stmt := top 39
abbrev s_whole_measures : Stmt := top 25
abbrev s_less : Stmt := top 26
abbrev s_cleared : Stmt := top 27
abbrev s_kernel : Stmt := top 28
abbrev s_found_products : Stmt := top 29
abbrev s_plain_products : Stmt := top 30
abbrev s_law : Stmt := top 44
def c__law_pick (p : Addr) : CSs (List Int) :=
  (.cons (.ret (.ix (.var 2) (.call "_law_draw" 3 (g__law_draw p) (.cons (.var 0) (.cons (.var 1) (.cons (.b1 .len (.var 2)) .nil))))))
  .nil)
def g__law_pick (p : Addr) : Sem (List Int) := fnR 3 (c__law_pick p)
def b__law_frac_0 : CSs (List Int) :=
  (.cons (.par false false 2 3 (.var 3) (.bin .mod (.var 2) (.var 3)))
  .nil)
def c__law_frac : CSs (List Int) :=
  (.cons (.par false false 2 3 (.b1 .abs (.var 1)) (.b1 .abs (.var 0)))
  (.cons (.whl (.cmp .gt (.var 3) (.con (.int 0))) (b__law_frac_0) (fuelAt 3))
  (.cons (.asg false 2 (.ife (.cmp .gt (.var 1) (.con (.int 0))) (.var 2) (.neg (.var 2))))
  (.cons (.ret (.tup (.cons (.bin .fdv (.var 0) (.var 2)) (.cons (.bin .fdv (.var 1) (.var 2)) .nil))))
  .nil))))
def g__law_frac : Sem (List Int) := fnR 4 (c__law_frac)
def c__law_measure (p : Addr) : CSs (List Int) :=
  (.cons (.asg false 2 (.call "_law_pick" 3 (g__law_pick p) (.cons (.var 0) (.cons (.var 1) (.cons (.lst (.cons (.con (.int 1)) (.cons (.con (.int 1)) (.cons (.con (.int 1)) (.cons (.con (.int 2)) .nil))))) .nil)))))
  (.cons (.ret (.b1 .tuple (.lc (.rng (.con (.int 3))) (.nm 3) .nil (.call "_law_frac" 2 g__law_frac (.cons (.call "_law_pick" 3 (g__law_pick p) (.cons (.var 0) (.cons (.var 1) (.cons (.lst (.cons (.con (.int 0)) (.cons (.con (.int 0)) (.cons (.con (.int 0)) (.cons (.con (.int 1)) (.cons (.neg (.con (.int 1))) (.cons (.con (.int 2)) (.cons (.neg (.con (.int 2))) .nil)))))))) .nil)))) (.cons (.var 2) .nil))) [3])))
  .nil))
def g__law_measure (p : Addr) : Sem (List Int) := fnR 4 (c__law_measure p)
def b__law_table_0 (p : Addr) : CSs (List Int) :=
  (.cons (.asg false 5 (.call "_law_measure" 2 (g__law_measure p) (.cons (.var 0) (.cons (.var 1) .nil))))
  (.cons (.ife (.or (.cmp .eq (.var 2) (.con (.int 0))) (.one (.cmp .gt (.call "_law_draw" 3 (g__law_draw p) (.cons (.var 0) (.cons (.var 1) (.cons (.var 2) .nil)))) (.con (.int 0))))) (.cons (.app 3 (.tup (.cons (.var 4) (.cons (.var 5) .nil))))
   .nil) .nil)
  .nil))
def c__law_table (p : Addr) : CSs (List Int) :=
  (.cons (.asg true 3 (.lst .nil))
  (.cons (.forr (.nm 4) (.seq (.con (.str "abcdef"))) (b__law_table_0 p))
  (.cons (.frz 3 (.ret (.b1 .tuple (.var 3))))
  .nil)))
def g__law_table (p : Addr) : Sem (List Int) := fnR 6 (c__law_table p)
def c_is_name : CSs (List Int) :=
  (.cons (.ret (.and (.isi (.var 0) .str) (.and (.cmp .eq (.b1 .len (.var 0)) (.con (.int 1))) (.one (.cmp .isin (.var 0) (.glb "NAMES" d_NAMES))))))
  .nil)
def g_is_name : Sem (List Int) := fnR 1 (c_is_name)
def c_is_between : CSs (List Int) :=
  (.cons (.ret (.and (.isi (.var 0) .int) (.and (.not (.isi (.var 0) .bool)) (.one (.chn .le .le (.var 1) (.var 0) (.var 2))))))
  .nil)
def g_is_between : Sem (List Int) := fnR 3 (c_is_between)
def b_divisor_0 : CSs (List Int) :=
  (.cons (.par false false 0 1 (.var 1) (.bin .mod (.var 0) (.var 1)))
  .nil)
def c_divisor : CSs (List Int) :=
  (.cons (.whl (.cmp .ne (.var 1) (.con (.int 0))) (b_divisor_0) (fuelAt 1))
  (.cons (.ret (.b1 .abs (.var 0)))
  .nil))
def g_divisor : Sem (List Int) := fnR 2 (c_divisor)
def c_is_fraction : CSs (List Int) :=
  (.cons (.ife (.or (.not (.isi (.var 0) .tuple)) (.or (.cmp .ne (.b1 .len (.var 0)) (.con (.int 2))) (.one (.not (.call "is_between" 3 g_is_between (.cons (.ix (.var 0) (.con (.int 1))) (.cons (.con (.int 1)) (.cons (.var 3) .nil)))))))) (.cons (.ret (.con (.bl false)))
   .nil) .nil)
  (.cons (.ret (.and (.call "is_between" 3 g_is_between (.cons (.ix (.var 0) (.con (.int 0))) (.cons (.var 2) (.cons (.var 1) .nil)))) (.one (.cmp .eq (.call "divisor" 2 g_divisor (.cons (.ix (.var 0) (.con (.int 0))) (.cons (.ix (.var 0) (.con (.int 1))) .nil))) (.con (.int 1))))))
  .nil))
def g_is_fraction : Sem (List Int) := fnR 4 (c_is_fraction)
def c_is_measure : CSs (List Int) :=
  (.cons (.asg false 1 (.con (.int 1000000000000)))
  (.cons (.ife (.or (.not (.isi (.var 0) .tuple)) (.one (.cmp .ne (.b1 .len (.var 0)) (.con (.int 3))))) (.cons (.ret (.con (.bl false)))
   .nil) .nil)
  (.cons (.ret (.b1 .all (.lc (.seq (.var 0)) (.nm 2) .nil (.call "is_fraction" 4 g_is_fraction (.cons (.var 2) (.cons (.var 1) (.cons (.neg (.var 1)) (.cons (.var 1) .nil))))) [2])))
  .nil)))
def g_is_measure : Sem (List Int) := fnR 3 (c_is_measure)
def b_is_table_0 : CSs (List Int) :=
  (.cons (.ife (.or (.not (.isi (.var 1) .tuple)) (.or (.cmp .ne (.b1 .len (.var 1)) (.con (.int 2))) (.or (.not (.call "is_name" 1 g_is_name (.cons (.ix (.var 1) (.con (.int 0))) .nil))) (.one (.not (.call "is_measure" 1 g_is_measure (.cons (.ix (.var 1) (.con (.int 1))) .nil))))))) (.cons (.ret (.con (.bl false)))
   .nil) .nil)
  .nil)
def c_is_table : CSs (List Int) :=
  (.cons (.ife (.not (.isi (.var 0) .tuple)) (.cons (.ret (.con (.bl false)))
   .nil) .nil)
  (.cons (.forr (.nm 1) (.seq (.var 0)) (b_is_table_0))
  (.cons (.ret (.b1 .all (.lc (.rng (.bin .sub (.b1 .len (.var 0)) (.con (.int 1)))) (.nm 2) .nil (.cmp .lt (.ix (.ix (.var 0) (.var 2)) (.con (.int 0))) (.ix (.ix (.var 0) (.bin .add (.var 2) (.con (.int 1)))) (.con (.int 0)))) [2])))
  .nil)))
def g_is_table : Sem (List Int) := fnR 3 (c_is_table)
def c_check_table : CSs (List Int) :=
  (.cons (.ife (.not (.call "is_table" 1 g_is_table (.cons (.var 0) .nil))) (.cons .never
   .nil) .nil)
  .nil)
def g_check_table : Sem (List Int) := fnR 1 (c_check_table)
def c_check_name : CSs (List Int) :=
  (.cons (.ife (.not (.call "is_name" 1 g_is_name (.cons (.var 0) .nil))) (.cons .never
   .nil) .nil)
  .nil)
def g_check_name : Sem (List Int) := fnR 1 (c_check_name)
def c_check_complete : CSs (List Int) :=
  (.cons (.ife (.cmp .lt (.b1 .len (.var 0)) (.b1 .len (.glb "NAMES" d_NAMES))) (.cons .never
   .nil) .nil)
  .nil)
def g_check_complete : Sem (List Int) := fnR 1 (c_check_complete)
def c_fraction : CSs (List Int) :=
  (.cons (.asg false 2 (.bin .mul (.call "divisor" 2 g_divisor (.cons (.var 0) (.cons (.var 1) .nil))) (.ife (.cmp .gt (.var 1) (.con (.int 0))) (.con (.int 1)) (.neg (.con (.int 1))))))
  (.cons (.ret (.tup (.cons (.bin .fdv (.var 0) (.var 2)) (.cons (.bin .fdv (.var 1) (.var 2)) .nil))))
  .nil))
def g_fraction : Sem (List Int) := fnR 3 (c_fraction)
def c_plus : CSs (List Int) :=
  (.cons (.ret (.call "fraction" 2 g_fraction (.cons (.bin .add (.bin .mul (.ix (.var 0) (.con (.int 0))) (.ix (.var 1) (.con (.int 1)))) (.bin .mul (.ix (.var 1) (.con (.int 0))) (.ix (.var 0) (.con (.int 1))))) (.cons (.bin .mul (.ix (.var 0) (.con (.int 1))) (.ix (.var 1) (.con (.int 1)))) .nil))))
  .nil)
def g_plus : Sem (List Int) := fnR 2 (c_plus)
def c_times : CSs (List Int) :=
  (.cons (.ret (.call "fraction" 2 g_fraction (.cons (.bin .mul (.ix (.var 0) (.con (.int 0))) (.ix (.var 1) (.con (.int 0)))) (.cons (.bin .mul (.ix (.var 0) (.con (.int 1))) (.ix (.var 1) (.con (.int 1)))) .nil))))
  .nil)
def g_times : Sem (List Int) := fnR 2 (c_times)
def c_added : CSs (List Int) :=
  (.cons (.ret (.b1 .tuple (.lc (.zip (.var 0) (.var 1)) (.cons (.nm 3) (.cons (.nm 4) .nil)) .nil (.call "plus" 2 g_plus (.cons (.var 3) (.cons (.call "times" 2 g_times (.cons (.var 4) (.cons (.var 2) .nil))) .nil))) [3, 4])))
  .nil)
def g_added : Sem (List Int) := fnR 5 (c_added)
def c_over : CSs (List Int) :=
  (.cons (.ret (.call "fraction" 2 g_fraction (.cons (.bin .mul (.ix (.var 0) (.con (.int 0))) (.ix (.var 1) (.con (.int 1)))) (.cons (.bin .mul (.ix (.var 0) (.con (.int 1))) (.ix (.var 1) (.con (.int 0)))) .nil))))
  .nil)
def g_over : Sem (List Int) := fnR 2 (c_over)
def b_reduced_0 : CSs (List Int) :=
  (.cons (.asg false 5 (.lc (.seq (.var 3)) (.nm 7) (.cons (.cmp .ne (.ix (.var 7) (.var 4)) (.glb "ZERO" d_ZERO)) .nil) (.var 7) [7]))
  (.cons (.ife (.cmp .ne (.var 5) (.lst .nil)) (.cons (.asg false 6 (.b1 .tuple (.lc (.seq (.ix (.var 5) (.con (.int 0)))) (.nm 8) .nil (.call "over" 2 g_over (.cons (.var 8) (.cons (.ix (.ix (.var 5) (.con (.int 0))) (.var 4)) .nil))) [8])))
   (.cons (.rem 3 (.ix (.var 5) (.con (.int 0))))
   (.cons (.asg true 3 (.lc (.seq (.var 3)) (.nm 7) .nil (.call "added" 3 g_added (.cons (.var 7) (.cons (.var 6) (.cons (.call "times" 2 g_times (.cons (.ix (.var 7) (.var 4)) (.cons (.tup (.cons (.neg (.con (.int 1))) (.cons (.con (.int 1)) .nil))) .nil))) .nil)))) [7]))
   (.cons (.asg false 2 (.bin .add (.lc (.seq (.var 2)) (.nm 7) .nil (.call "added" 3 g_added (.cons (.var 7) (.cons (.var 6) (.cons (.call "times" 2 g_times (.cons (.ix (.var 7) (.var 4)) (.cons (.tup (.cons (.neg (.con (.int 1))) (.cons (.con (.int 1)) .nil))) .nil))) .nil)))) [7]) (.lst (.cons (.var 6) .nil))))
   .nil)))) .nil)
  .nil))
def c_reduced : CSs (List Int) :=
  (.cons (.par false true 2 3 (.lst .nil) (.b1 .list (.var 0)))
  (.cons (.forr (.nm 4) (.rng (.var 1)) (b_reduced_0))
  (.cons (.frz 3 (.ret (.tup (.cons (.var 2) (.cons (.var 3) .nil)))))
  .nil)))
def g_reduced : Sem (List Int) := fnR 9 (c_reduced)
def b_as_product_0 : CSs (List Int) :=
  (.cons (.app 4 (.bin .add (.b1 .tuple (.lc (.seq (.var 3)) (.nm 11) .nil (.ix (.ix (.var 2) (.var 11)) (.var 5)) [11])) (.tup (.cons (.ix (.ix (.var 2) (.var 1)) (.var 5)) .nil))))
  .nil)
def b_as_product_1 : CSs (List Int) :=
  (.cons (.asg false 10 (.ix (.lc (.rng (.con (.int 5))) (.nm 5) (.cons (.cmp .ne (.ix (.var 9) (.var 5)) (.glb "ZERO" d_ZERO)) .nil) (.var 5) [5]) (.con (.int 0))))
  (.cons (.seti 8 (.ix (.var 3) (.var 10)) (.ix (.var 9) (.con (.int 5))))
  .nil))
def c_as_product : CSs (List Int) :=
  (.cons (.expr (.call "check_table" 1 g_check_table (.cons (.var 0) .nil)))
  (.cons (.expr (.call "check_name" 1 g_check_name (.cons (.var 1) .nil)))
  (.cons (.expr (.call "check_complete" 1 g_check_complete (.cons (.var 0) .nil)))
  (.cons (.asg false 2 (.b1 .dict (.var 0)))
  (.cons (.asg false 3 (.lc (.seq (.glb "NAMES" d_NAMES)) (.nm 11) (.cons (.cmp .ne (.var 11) (.var 1)) .nil) (.var 11) [11]))
  (.cons (.asg true 4 (.lst .nil))
  (.cons (.forr (.nm 5) (.rng (.con (.int 3))) (b_as_product_0))
  (.cons (.frz 4 (.asgT (.cons (.nm 6) (.cons (.nm 7) .nil)) (.call "reduced" 2 g_reduced (.cons (.var 4) (.cons (.con (.int 5)) .nil)))))
  (.cons (.ife (.b1 .any (.lc (.seq (.var 7)) (.nm 9) .nil (.cmp .ne (.ix (.var 9) (.con (.int 5))) (.glb "ZERO" d_ZERO)) [9])) (.cons (.ret (.con (.non)))
   .nil) .nil)
  (.cons (.asg true 8 (.b1 .dict (.lc (.seq (.glb "NAMES" d_NAMES)) (.nm 11) .nil (.tup (.cons (.var 11) (.cons (.glb "ZERO" d_ZERO) .nil))) [11])))
  (.cons (.forr (.nm 9) (.seq (.var 6)) (b_as_product_1))
  (.cons (.frz 8 (.ret (.b1 .tuple (.lc (.seq (.glb "NAMES" d_NAMES)) (.nm 11) .nil (.ix (.var 8) (.var 11)) [11]))))
  .nil))))))))))))
def g_as_product : Sem (List Int) := fnR 12 (c_as_product)
def c__law_doubled : CSs (List Int) :=
  (.cons (.ret (.ix (.lc (.seq (.var 0)) (.nm 2) (.cons (.cmp .eq (.ix (.var 2) (.con (.int 0))) (.var 1)) .nil) (.lc (.seq (.ix (.var 2) (.con (.int 1)))) (.nm 3) .nil (.bin .mul (.ix (.var 3) (.con (.int 0))) (.bin .fdv (.con (.int 2)) (.ix (.var 3) (.con (.int 1))))) [3]) [2]) (.con (.int 0))))
  .nil)
def g__law_doubled : Sem (List Int) := fnR 4 (c__law_doubled)
def b__law_rank_0 : CSs (List Int) :=
  (.cons (.asg false 5 (.lc (.seq (.var 1)) (.nm 7) (.cons (.cmp .ne (.ix (.var 7) (.var 4)) (.con (.int 0))) .nil) (.var 7) [7]))
  (.cons (.ife (.cmp .ne (.var 5) (.lst .nil)) (.cons (.asg false 6 (.ix (.var 5) (.con (.int 0))))
   (.cons (.rem 1 (.var 6))
   (.cons (.asg true 1 (.lc (.seq (.var 1)) (.nm 7) .nil (.lc (.zip (.var 7) (.var 6)) (.cons (.nm 8) (.cons (.nm 9) .nil)) .nil (.bin .sub (.bin .mul (.var 8) (.ix (.var 6) (.var 4))) (.bin .mul (.var 9) (.ix (.var 7) (.var 4)))) [8, 9]) [7]))
   (.cons (.asg false 2 (.bin .add (.var 2) (.con (.int 1))))
   .nil)))) .nil)
  .nil))
def c__law_rank : CSs (List Int) :=
  (.cons (.par true false 1 2 (.lc (.seq (.var 0)) (.nm 7) .nil (.b1 .list (.var 7)) [7]) (.con (.int 0)))
  (.cons (.asg false 3 (.ife (.cmp .ne (.var 1) (.lst .nil)) (.b1 .len (.ix (.var 1) (.con (.int 0)))) (.con (.int 0))))
  (.cons (.forr (.nm 4) (.rng (.var 3)) (b__law_rank_0))
  (.cons (.ret (.var 2))
  .nil))))
def g__law_rank : Sem (List Int) := fnR 10 (c__law_rank)
def c__law_plus : CSs (List Int) :=
  (.cons (.ret (.call "_law_frac" 2 g__law_frac (.cons (.bin .add (.bin .mul (.ix (.var 0) (.con (.int 0))) (.ix (.var 1) (.con (.int 1)))) (.bin .mul (.ix (.var 1) (.con (.int 0))) (.ix (.var 0) (.con (.int 1))))) (.cons (.bin .mul (.ix (.var 0) (.con (.int 1))) (.ix (.var 1) (.con (.int 1)))) .nil))))
  .nil)
def g__law_plus : Sem (List Int) := fnR 2 (c__law_plus)
def c__law_times : CSs (List Int) :=
  (.cons (.ret (.call "_law_frac" 2 g__law_frac (.cons (.bin .mul (.ix (.var 0) (.con (.int 0))) (.ix (.var 1) (.con (.int 0)))) (.cons (.bin .mul (.ix (.var 0) (.con (.int 1))) (.ix (.var 1) (.con (.int 1)))) .nil))))
  .nil)
def g__law_times : Sem (List Int) := fnR 2 (c__law_times)
def c__law_all : CSs (List Int) :=
  (.cons (.ret (.b1 .tuple (.lc (.zip (.var 0) (.var 1)) (.cons (.nm 3) (.cons (.nm 4) .nil)) .nil (.call "_law_plus" 2 g__law_plus (.cons (.var 3) (.cons (.call "_law_times" 2 g__law_times (.cons (.var 4) (.cons (.var 2) .nil))) .nil))) [3, 4])))
  .nil)
def g__law_all : Sem (List Int) := fnR 5 (c__law_all)
def b_whole_measures_0 : CSs (List Int) :=
  (.cons (.asg false 1 (.bin .fdv (.bin .mul (.var 1) (.ix (.var 4) (.con (.int 1)))) (.call "divisor" 2 g_divisor (.cons (.var 1) (.cons (.ix (.var 4) (.con (.int 1))) .nil)))))
  .nil)
def b_whole_measures_1 : CSs (List Int) :=
  (.cons (.forr (.nm 4) (.seq (.var 3)) (b_whole_measures_0))
  .nil)
def c_whole_measures : CSs (List Int) :=
  (.cons (.asg false 1 (.con (.int 1)))
  (.cons (.forr (.cons (.nm 2) (.cons (.nm 3) .nil)) (.seq (.var 0)) (b_whole_measures_1))
  (.cons (.ret (.lc (.seq (.var 0)) (.cons (.nm 2) (.cons (.nm 3) .nil)) .nil (.lc (.seq (.var 3)) (.nm 4) .nil (.bin .fdv (.bin .mul (.ix (.var 4) (.con (.int 0))) (.var 1)) (.ix (.var 4) (.con (.int 1)))) [4]) [2, 3]))
  .nil)))
def g_whole_measures : Sem (List Int) := fnR 5 (c_whole_measures)
def c_less : CSs (List Int) :=
  (.cons (.ret (.lc (.zip (.var 0) (.var 1)) (.cons (.nm 3) (.cons (.nm 4) .nil)) .nil (.bin .sub (.var 3) (.bin .mul (.var 2) (.var 4))) [3, 4]))
  .nil)
def g_less : Sem (List Int) := fnR 5 (c_less)
def b_cleared_0 : CSs (List Int) :=
  (.cons (.asg false 2 (.ix (.var 0) (.con (.int 0))))
  (.cons (.asg false 3 (.lc (.seq (.slL (.var 0) (.con (.int 1)))) (.nm 4) .nil (.call "less" 3 g_less (.cons (.var 4) (.cons (.var 2) (.cons (.bin .fdv (.ix (.var 4) (.var 1)) (.ix (.var 2) (.var 1))) .nil)))) [4]))
  (.cons (.asg false 0 (.lc (.seq (.b1 .sorted (.lc (.seq (.bin .add (.lst (.cons (.var 2) .nil)) (.var 3))) (.nm 4) .nil (.tup (.cons (.cmp .eq (.ix (.var 4) (.var 1)) (.con (.int 0))) (.cons (.b1 .abs (.ix (.var 4) (.var 1))) (.cons (.var 4) .nil)))) [4]))) (.nm 4) .nil (.ix (.var 4) (.con (.int 2))) [4]))
  .nil)))
def c_cleared : CSs (List Int) :=
  (.cons (.asg false 0 (.b1 .sorted (.lc (.seq (.var 0)) (.nm 4) .nil (.tup (.cons (.cmp .eq (.ix (.var 4) (.var 1)) (.con (.int 0))) (.cons (.b1 .abs (.ix (.var 4) (.var 1))) (.cons (.var 4) .nil)))) [4])))
  (.cons (.asg false 0 (.lc (.seq (.var 0)) (.nm 4) .nil (.ix (.var 4) (.con (.int 2))) [4]))
  (.cons (.whl (.cmp .gt (.b1 .len (.lc (.seq (.var 0)) (.nm 4) (.cons (.cmp .ne (.ix (.var 4) (.var 1)) (.con (.int 0))) .nil) (.var 4) [4])) (.con (.int 1))) (b_cleared_0) (fuelIn 0))
  (.cons (.ret (.var 0))
  .nil))))
def g_cleared : Sem (List Int) := fnR 5 (c_cleared)
def b_kernel_0 : CSs (List Int) :=
  (.cons (.asg false 2 (.call "cleared" 2 g_cleared (.cons (.var 2) (.cons (.var 3) .nil))))
  (.cons (.ife (.and (.cmp .ne (.var 2) (.lst .nil)) (.one (.cmp .ne (.ix (.ix (.var 2) (.con (.int 0))) (.var 3)) (.con (.int 0))))) (.cons (.asg false 2 (.slL (.var 2) (.con (.int 1))))
   .nil) .nil)
  .nil))
def c_kernel : CSs (List Int) :=
  (.cons (.asg false 1 (.call "whole_measures" 1 g_whole_measures (.cons (.var 0) .nil)))
  (.cons (.asg false 2 (.lc (.rng (.con (.int 6))) (.nm 4) .nil (.bin .add (.ix (.var 1) (.var 4)) (.lc (.rng (.con (.int 6))) (.nm 6) .nil (.b1 .int (.cmp .eq (.var 6) (.var 4))) [6])) [4]))
  (.cons (.forr (.nm 3) (.rng (.con (.int 3))) (b_kernel_0))
  (.cons (.ret (.lc (.seq (.var 2)) (.nm 5) .nil (.slL (.var 5) (.con (.int 3))) [5]))
  .nil))))
def g_kernel : Sem (List Int) := fnR 7 (c_kernel)
def b_found_products_0 : CSs (List Int) :=
  (.cons (.asg false 1 (.call "cleared" 2 g_cleared (.cons (.var 1) (.cons (.var 3) .nil))))
  (.cons (.ife (.and (.cmp .ne (.var 1) (.lst .nil)) (.one (.cmp .ne (.ix (.ix (.var 1) (.con (.int 0))) (.var 3)) (.con (.int 0))))) (.cons (.asg false 4 (.ife (.cmp .gt (.ix (.ix (.var 1) (.con (.int 0))) (.var 3)) (.con (.int 0))) (.ix (.var 1) (.con (.int 0))) (.lc (.seq (.ix (.var 1) (.con (.int 0)))) (.nm 6) .nil (.neg (.var 6)) [6])))
   (.cons (.asg false 2 (.bin .add (.lc (.seq (.var 2)) (.nm 5) .nil (.call "less" 3 g_less (.cons (.var 5) (.cons (.var 4) (.cons (.bin .fdv (.ix (.var 5) (.var 3)) (.ix (.var 4) (.var 3))) .nil)))) [5]) (.lst (.cons (.var 4) .nil))))
   (.cons (.asg false 1 (.slL (.var 1) (.con (.int 1))))
   .nil))) .nil)
  .nil))
def c_found_products : CSs (List Int) :=
  (.cons (.par false false 1 2 (.call "kernel" 1 g_kernel (.cons (.var 0) .nil)) (.lst .nil))
  (.cons (.forr (.nm 3) (.rng (.con (.int 6))) (b_found_products_0))
  (.cons (.ret (.b1 .tuple (.lc (.seq (.var 2)) (.nm 5) .nil (.b1 .tuple (.var 5)) [5])))
  .nil)))
def g_found_products : Sem (List Int) := fnR 7 (c_found_products)
def c_plain_products : CSs (List Int) :=
  (.cons (.expr (.call "check_table" 1 g_check_table (.cons (.var 0) .nil)))
  (.cons (.expr (.call "check_complete" 1 g_check_complete (.cons (.var 0) .nil)))
  (.cons (.ret (.call "found_products" 1 g_found_products (.cons (.var 0) .nil)))
  .nil)))
def g_plain_products : Sem (List Int) := fnR 1 (c_plain_products)
def b_law_0 (p : Addr) : CSs (List Int) :=
  (.cons (.asg false 9 (.call "_law_all" 3 g__law_all (.cons (.var 9) (.cons (.ix (.var 10) (.con (.int 1))) (.cons (.var 11) .nil)))))
  .nil)
def b_law_1 (p : Addr) : CSs (List Int) :=
  (.cons (.asg false 14 (.cmp .eq (.call "_law_rank" 1 g__law_rank (.cons (.slH (.var 7) (.bin .add (.var 12) (.con (.int 1)))) .nil)) (.call "_law_rank" 1 g__law_rank (.cons (.slH (.var 7) (.var 12)) .nil))))
  (.cons (.ife (.and (.var 14) (.one (.cmp .ne (.ix (.var 5) (.m1 .sindex (.con (.str "abcdef")) (.ix (.var 6) (.var 12)))) (.tup (.cons (.con (.int 0)) (.cons (.con (.int 1)) .nil)))))) (.cons (.ret (.con (.bl false)))
   .nil) .nil)
  .nil))
def b_law_2 (p : Addr) : CSs (List Int) :=
  (.cons (.asg false 5 (.call "as_product" 2 g_as_product (.cons (.var 2) (.cons (.var 3) .nil))))
  (.cons (.asg false 6 (.lc (.seq (.con (.str "abcdef"))) (.nm 13) (.cons (.cmp .ne (.var 13) (.var 3)) .nil) (.var 13) [13]))
  (.cons (.asg false 7 (.lc (.seq (.var 6)) (.nm 13) .nil (.call "_law_doubled" 2 g__law_doubled (.cons (.var 2) (.cons (.var 13) .nil))) [13]))
  (.cons (.asg false 8 (.cmp .eq (.call "_law_rank" 1 g__law_rank (.cons (.bin .add (.var 7) (.lst (.cons (.call "_law_doubled" 2 g__law_doubled (.cons (.var 2) (.cons (.var 3) .nil))) .nil))) .nil)) (.call "_law_rank" 1 g__law_rank (.cons (.var 7) .nil))))
  (.cons (.ife (.cmp .ne (.cmp .isnot (.var 5) (.con (.non))) (.var 8)) (.cons (.ret (.con (.bl false)))
   .nil) .nil)
  (.cons (.ife (.cmp .isnot (.var 5) (.con (.non))) (.cons (.asg false 9 (.bin .mul (.tup (.cons (.tup (.cons (.con (.int 0)) (.cons (.con (.int 1)) .nil))) .nil)) (.con (.int 3))))
   (.cons (.forr (.cons (.nm 10) (.cons (.nm 11) .nil)) (.zip (.var 2) (.var 5)) (b_law_0 p))
   (.cons (.ife (.or (.cmp .notin (.tup (.cons (.var 3) (.cons (.var 9) .nil))) (.var 2)) (.one (.cmp .ne (.ix (.var 5) (.m1 .sindex (.con (.str "abcdef")) (.var 3))) (.tup (.cons (.con (.int 0)) (.cons (.con (.int 1)) .nil)))))) (.cons (.ret (.con (.bl false)))
    .nil) .nil)
   (.cons (.forr (.nm 12) (.rng (.con (.int 5))) (b_law_1 p))
   .nil)))) .nil)
  .nil))))))
def c_law (p : Addr) : CSs (List Int) :=
  (.cons (.asg false 2 (.call "_law_table" 3 (g__law_table p) (.cons (.var 0) (.cons (.var 1) (.cons (.con (.int 0)) .nil)))))
  (.cons (.forr (.nm 3) (.seq (.con (.str "abcdef"))) (b_law_2 p))
  (.cons (.asg false 4 (.b1 .tuple (.lc (.seq (.con (.str "abcdef"))) (.nm 3) .nil (.tup (.cons (.var 3) (.cons (.bin .mul (.tup (.cons (.tup (.cons (.con (.int 0)) (.cons (.con (.int 1)) .nil))) .nil)) (.con (.int 3))) .nil))) [3])))
  (.cons (.ret (.and (.cmp .eq (.call "as_product" 2 g_as_product (.cons (.var 4) (.cons (.con (.str "c")) .nil))) (.bin .mul (.tup (.cons (.tup (.cons (.con (.int 0)) (.cons (.con (.int 1)) .nil))) .nil)) (.con (.int 6)))) (.one (.cmp .eq (.ix (.call "plain_products" 1 g_plain_products (.cons (.var 4) .nil)) (.con (.int 0))) (.tup (.cons (.con (.int 1)) (.cons (.con (.int 0)) (.cons (.con (.int 0)) (.cons (.con (.int 0)) (.cons (.con (.int 0)) (.cons (.con (.int 0)) .nil)))))))))))
  .nil))))

theorem sc__law_pick : FnScope ["script", "town", "choices"] ["script", "town", "choices"] (defScope s__law_pick) := ⟨rfl, rfl, rfl, by decide +kernel, rfl, by decide +kernel, by decide +kernel⟩
theorem k__law_pick (p : Addr) : chkSs ["script", "town", "choices"] (defScope s__law_pick) (c__law_pick p) (defBody s__law_pick) = true := by kernel_rfl
theorem sc__law_frac : FnScope ["top", "bottom", "one", "other"] ["top", "bottom"] (defScope s__law_frac) := ⟨rfl, rfl, rfl, by decide +kernel, rfl, by decide +kernel, by decide +kernel⟩
theorem k__law_frac : chkSs ["top", "bottom", "one", "other"] (defScope s__law_frac) (c__law_frac) (defBody s__law_frac) = true := by kernel_rfl
theorem sc__law_measure : FnScope ["script", "town", "bottom", "k"] ["script", "town"] (defScope s__law_measure) := ⟨rfl, rfl, rfl, by decide +kernel, rfl, by decide +kernel, by decide +kernel⟩
theorem k__law_measure (p : Addr) : chkSs ["script", "town", "bottom", "k"] (defScope s__law_measure) (c__law_measure p) (defBody s__law_measure) = true := by kernel_rfl
theorem sc__law_table : FnScope ["script", "town", "share", "found", "name", "measure"] ["script", "town", "share"] (defScope s__law_table) := ⟨rfl, rfl, rfl, by decide +kernel, rfl, by decide +kernel, by decide +kernel⟩
theorem k__law_table (p : Addr) : chkSs ["script", "town", "share", "found", "name", "measure"] (defScope s__law_table) (c__law_table p) (defBody s__law_table) = true := by kernel_rfl
theorem sc_is_name : FnScope ["value"] ["value"] (defScope s_is_name) := ⟨rfl, rfl, rfl, by decide +kernel, rfl, by decide +kernel, by decide +kernel⟩
theorem k_is_name : chkSs ["value"] (defScope s_is_name) (c_is_name) (defBody s_is_name) = true := by kernel_rfl
theorem sc_is_between : FnScope ["value", "low", "high"] ["value", "low", "high"] (defScope s_is_between) := ⟨rfl, rfl, rfl, by decide +kernel, rfl, by decide +kernel, by decide +kernel⟩
theorem k_is_between : chkSs ["value", "low", "high"] (defScope s_is_between) (c_is_between) (defBody s_is_between) = true := by kernel_rfl
theorem sc_divisor : FnScope ["one", "other"] ["one", "other"] (defScope s_divisor) := ⟨rfl, rfl, rfl, by decide +kernel, rfl, by decide +kernel, by decide +kernel⟩
theorem k_divisor : chkSs ["one", "other"] (defScope s_divisor) (c_divisor) (defBody s_divisor) = true := by kernel_rfl
theorem sc_is_fraction : FnScope ["value", "most", "least", "bottom"] ["value", "most", "least", "bottom"] (defScope s_is_fraction) := ⟨rfl, rfl, rfl, by decide +kernel, rfl, by decide +kernel, by decide +kernel⟩
theorem k_is_fraction : chkSs ["value", "most", "least", "bottom"] (defScope s_is_fraction) (c_is_fraction) (defBody s_is_fraction) = true := by kernel_rfl
theorem sc_is_measure : FnScope ["value", "most", "part"] ["value"] (defScope s_is_measure) := ⟨rfl, rfl, rfl, by decide +kernel, rfl, by decide +kernel, by decide +kernel⟩
theorem k_is_measure : chkSs ["value", "most", "part"] (defScope s_is_measure) (c_is_measure) (defBody s_is_measure) = true := by kernel_rfl
theorem sc_is_table : FnScope ["value", "pair", "k"] ["value"] (defScope s_is_table) := ⟨rfl, rfl, rfl, by decide +kernel, rfl, by decide +kernel, by decide +kernel⟩
theorem k_is_table : chkSs ["value", "pair", "k"] (defScope s_is_table) (c_is_table) (defBody s_is_table) = true := by kernel_rfl
theorem sc_check_table : FnScope ["value"] ["value"] (defScope s_check_table) := ⟨rfl, rfl, rfl, by decide +kernel, rfl, by decide +kernel, by decide +kernel⟩
theorem k_check_table : chkSs ["value"] (defScope s_check_table) (c_check_table) (defBody s_check_table) = true := by kernel_rfl
theorem sc_check_name : FnScope ["value"] ["value"] (defScope s_check_name) := ⟨rfl, rfl, rfl, by decide +kernel, rfl, by decide +kernel, by decide +kernel⟩
theorem k_check_name : chkSs ["value"] (defScope s_check_name) (c_check_name) (defBody s_check_name) = true := by kernel_rfl
theorem sc_check_complete : FnScope ["table"] ["table"] (defScope s_check_complete) := ⟨rfl, rfl, rfl, by decide +kernel, rfl, by decide +kernel, by decide +kernel⟩
theorem k_check_complete : chkSs ["table"] (defScope s_check_complete) (c_check_complete) (defBody s_check_complete) = true := by kernel_rfl
theorem sc_fraction : FnScope ["top", "bottom", "shared"] ["top", "bottom"] (defScope s_fraction) := ⟨rfl, rfl, rfl, by decide +kernel, rfl, by decide +kernel, by decide +kernel⟩
theorem k_fraction : chkSs ["top", "bottom", "shared"] (defScope s_fraction) (c_fraction) (defBody s_fraction) = true := by kernel_rfl
theorem sc_plus : FnScope ["one", "other"] ["one", "other"] (defScope s_plus) := ⟨rfl, rfl, rfl, by decide +kernel, rfl, by decide +kernel, by decide +kernel⟩
theorem k_plus : chkSs ["one", "other"] (defScope s_plus) (c_plus) (defBody s_plus) = true := by kernel_rfl
theorem sc_times : FnScope ["one", "other"] ["one", "other"] (defScope s_times) := ⟨rfl, rfl, rfl, by decide +kernel, rfl, by decide +kernel, by decide +kernel⟩
theorem k_times : chkSs ["one", "other"] (defScope s_times) (c_times) (defBody s_times) = true := by kernel_rfl
theorem sc_added : FnScope ["one", "other", "many", "x", "y"] ["one", "other", "many"] (defScope s_added) := ⟨rfl, rfl, rfl, by decide +kernel, rfl, by decide +kernel, by decide +kernel⟩
theorem k_added : chkSs ["one", "other", "many", "x", "y"] (defScope s_added) (c_added) (defBody s_added) = true := by kernel_rfl
theorem sc_over : FnScope ["one", "other"] ["one", "other"] (defScope s_over) := ⟨rfl, rfl, rfl, by decide +kernel, rfl, by decide +kernel, by decide +kernel⟩
theorem k_over : chkSs ["one", "other"] (defScope s_over) (c_over) (defBody s_over) = true := by kernel_rfl
theorem sc_reduced : FnScope ["rows", "wide", "found", "left", "place", "some", "head", "row", "part"] ["rows", "wide"] (defScope s_reduced) := ⟨rfl, rfl, rfl, by decide +kernel, rfl, by decide +kernel, by decide +kernel⟩
theorem k_reduced : chkSs ["rows", "wide", "found", "left", "place", "some", "head", "row", "part"] (defScope s_reduced) (c_reduced) (defBody s_reduced) = true := by kernel_rfl
theorem sc_as_product : FnScope ["table", "name", "known", "others", "rows", "place", "found", "left", "some", "row", "head", "other"] ["table", "name"] (defScope s_as_product) := ⟨rfl, rfl, rfl, by decide +kernel, rfl, by decide +kernel, by decide +kernel⟩
theorem k_as_product : chkSs ["table", "name", "known", "others", "rows", "place", "found", "left", "some", "row", "head", "other"] (defScope s_as_product) (c_as_product) (defBody s_as_product) = true := by kernel_rfl
theorem sc__law_doubled : FnScope ["table", "name", "pair", "part"] ["table", "name"] (defScope s__law_doubled) := ⟨rfl, rfl, rfl, by decide +kernel, rfl, by decide +kernel, by decide +kernel⟩
theorem k__law_doubled : chkSs ["table", "name", "pair", "part"] (defScope s__law_doubled) (c__law_doubled) (defBody s__law_doubled) = true := by kernel_rfl
theorem sc__law_rank : FnScope ["rows", "left", "rank", "wide", "place", "some", "head", "row", "x", "y"] ["rows"] (defScope s__law_rank) := ⟨rfl, rfl, rfl, by decide +kernel, rfl, by decide +kernel, by decide +kernel⟩
theorem k__law_rank : chkSs ["rows", "left", "rank", "wide", "place", "some", "head", "row", "x", "y"] (defScope s__law_rank) (c__law_rank) (defBody s__law_rank) = true := by kernel_rfl
theorem sc__law_plus : FnScope ["one", "other"] ["one", "other"] (defScope s__law_plus) := ⟨rfl, rfl, rfl, by decide +kernel, rfl, by decide +kernel, by decide +kernel⟩
theorem k__law_plus : chkSs ["one", "other"] (defScope s__law_plus) (c__law_plus) (defBody s__law_plus) = true := by kernel_rfl
theorem sc__law_times : FnScope ["one", "other"] ["one", "other"] (defScope s__law_times) := ⟨rfl, rfl, rfl, by decide +kernel, rfl, by decide +kernel, by decide +kernel⟩
theorem k__law_times : chkSs ["one", "other"] (defScope s__law_times) (c__law_times) (defBody s__law_times) = true := by kernel_rfl
theorem sc__law_all : FnScope ["one", "other", "many", "x", "y"] ["one", "other", "many"] (defScope s__law_all) := ⟨rfl, rfl, rfl, by decide +kernel, rfl, by decide +kernel, by decide +kernel⟩
theorem k__law_all : chkSs ["one", "other", "many", "x", "y"] (defScope s__law_all) (c__law_all) (defBody s__law_all) = true := by kernel_rfl
theorem sc_whole_measures : FnScope ["table", "many", "name", "measure", "part"] ["table"] (defScope s_whole_measures) := ⟨rfl, rfl, rfl, by decide +kernel, rfl, by decide +kernel, by decide +kernel⟩
theorem k_whole_measures : chkSs ["table", "many", "name", "measure", "part"] (defScope s_whole_measures) (c_whole_measures) (defBody s_whole_measures) = true := by kernel_rfl
theorem sc_less : FnScope ["one", "other", "many", "x", "y"] ["one", "other", "many"] (defScope s_less) := ⟨rfl, rfl, rfl, by decide +kernel, rfl, by decide +kernel, by decide +kernel⟩
theorem k_less : chkSs ["one", "other", "many", "x", "y"] (defScope s_less) (c_less) (defBody s_less) = true := by kernel_rfl
theorem sc_cleared : FnScope ["rows", "place", "first", "rest", "row"] ["rows", "place"] (defScope s_cleared) := ⟨rfl, rfl, rfl, by decide +kernel, rfl, by decide +kernel, by decide +kernel⟩
theorem k_cleared : chkSs ["rows", "place", "first", "rest", "row"] (defScope s_cleared) (c_cleared) (defBody s_cleared) = true := by kernel_rfl
theorem sc_kernel : FnScope ["table", "images", "rows", "place", "k", "row", "j"] ["table"] (defScope s_kernel) := ⟨rfl, rfl, rfl, by decide +kernel, rfl, by decide +kernel, by decide +kernel⟩
theorem k_kernel : chkSs ["table", "images", "rows", "place", "k", "row", "j"] (defScope s_kernel) (c_kernel) (defBody s_kernel) = true := by kernel_rfl
theorem sc_found_products : FnScope ["table", "rows", "found", "place", "head", "row", "one"] ["table"] (defScope s_found_products) := ⟨rfl, rfl, rfl, by decide +kernel, rfl, by decide +kernel, by decide +kernel⟩
theorem k_found_products : chkSs ["table", "rows", "found", "place", "head", "row", "one"] (defScope s_found_products) (c_found_products) (defBody s_found_products) = true := by kernel_rfl
theorem sc_plain_products : FnScope ["table"] ["table"] (defScope s_plain_products) := ⟨rfl, rfl, rfl, by decide +kernel, rfl, by decide +kernel, by decide +kernel⟩
theorem k_plain_products : chkSs ["table"] (defScope s_plain_products) (c_plain_products) (defBody s_plain_products) = true := by kernel_rfl
theorem sc_law : FnScope ["script", "town", "table", "name", "plain", "told", "others", "rows", "can", "found", "pair", "many", "place", "one", "results"] ["script"] (defScope s_law) := ⟨rfl, rfl, rfl, by decide +kernel, rfl, by decide +kernel, by decide +kernel⟩
theorem k_law (p : Addr) : chkSs ["script", "town", "table", "name", "plain", "told", "others", "rows", "can", "found", "pair", "many", "place", "one", "results"] (defScope s_law) (c_law p) (defBody s_law).tail = true := by kernel_rfl
section
variable {P : Program} {w : World} {K : PySem.W.Frag} {mg : Str → Option Value} {base : Heap} {n : Nat} {p : Addr}
theorem H__law_pick (D : DefAt K mg "_law_pick" s__law_pick) (blt : ∀ y ∈ bltNames, mg y = none) (h__law_draw : Has P w K mg base (townSys p) n "_law_draw" 3 (g__law_draw p))  : Has P w K mg base (townSys p) (n + 1) "_law_pick" 3 (g__law_pick p) := by
  obtain ⟨f, fd, F, hm⟩ := D
  exact fn_sound F sc__law_pick hm (F.binds (ps := ["script", "town", "choices"]) fun _ _ _ _ _ _ us hl => match us, hl with | [_, _, _], _ => rfl) blt (k__law_pick p) (by unfold c__law_pick; repeat' (first | exact True.intro | assumption | apply And.intro))
theorem H__law_frac (D : DefAt K mg "_law_frac" s__law_frac) (blt : ∀ y ∈ bltNames, mg y = none)   : Has P w K mg base (townSys p) (n + 1) "_law_frac" 2 g__law_frac := by
  obtain ⟨f, fd, F, hm⟩ := D
  exact fn_sound F sc__law_frac hm (F.binds (ps := ["top", "bottom"]) fun _ _ _ _ _ _ us hl => match us, hl with | [_, _], _ => rfl) blt (k__law_frac) (by unfold c__law_frac; repeat' (first | exact True.intro | assumption | apply And.intro))
theorem H__law_measure (D : DefAt K mg "_law_measure" s__law_measure) (blt : ∀ y ∈ bltNames, mg y = none) (h__law_pick : Has P w K mg base (townSys p) n "_law_pick" 3 (g__law_pick p)) (h__law_frac : Has P w K mg base (townSys p) n "_law_frac" 2 g__law_frac)  : Has P w K mg base (townSys p) (n + 1) "_law_measure" 2 (g__law_measure p) := by
  obtain ⟨f, fd, F, hm⟩ := D
  exact fn_sound F sc__law_measure hm (F.binds (ps := ["script", "town"]) fun _ _ _ _ _ _ us hl => match us, hl with | [_, _], _ => rfl) blt (k__law_measure p) (by unfold c__law_measure; repeat' (first | exact True.intro | assumption | apply And.intro))
theorem H__law_table (D : DefAt K mg "_law_table" s__law_table) (blt : ∀ y ∈ bltNames, mg y = none) (h__law_measure : Has P w K mg base (townSys p) n "_law_measure" 2 (g__law_measure p)) (h__law_draw : Has P w K mg base (townSys p) n "_law_draw" 3 (g__law_draw p))  : Has P w K mg base (townSys p) (n + 1) "_law_table" 3 (g__law_table p) := by
  obtain ⟨f, fd, F, hm⟩ := D
  exact fn_sound F sc__law_table hm (F.binds (ps := ["script", "town", "share"]) fun _ _ _ _ _ _ us hl => match us, hl with | [_, _, _], _ => rfl) blt (k__law_table p) (by unfold c__law_table; repeat' (first | exact True.intro | assumption | apply And.intro))
theorem H_is_name (D : DefAt K mg "is_name" s_is_name) (blt : ∀ y ∈ bltNames, mg y = none)  (gl_NAMES : Glb K mg "NAMES" d_NAMES) : Has P w K mg base (townSys p) (n + 1) "is_name" 1 g_is_name := by
  obtain ⟨f, fd, F, hm⟩ := D
  exact fn_sound F sc_is_name hm (F.binds (ps := ["value"]) fun _ _ _ _ _ _ us hl => match us, hl with | [_], _ => rfl) blt (k_is_name) (by unfold c_is_name; repeat' (first | exact True.intro | assumption | apply And.intro))
theorem H_is_between (D : DefAt K mg "is_between" s_is_between) (blt : ∀ y ∈ bltNames, mg y = none)   : Has P w K mg base (townSys p) (n + 1) "is_between" 3 g_is_between := by
  obtain ⟨f, fd, F, hm⟩ := D
  exact fn_sound F sc_is_between hm (F.binds (ps := ["value", "low", "high"]) fun _ _ _ _ _ _ us hl => match us, hl with | [_, _, _], _ => rfl) blt (k_is_between) (by unfold c_is_between; repeat' (first | exact True.intro | assumption | apply And.intro))
theorem H_divisor (D : DefAt K mg "divisor" s_divisor) (blt : ∀ y ∈ bltNames, mg y = none)   : Has P w K mg base (townSys p) (n + 1) "divisor" 2 g_divisor := by
  obtain ⟨f, fd, F, hm⟩ := D
  exact fn_sound F sc_divisor hm (F.binds (ps := ["one", "other"]) fun _ _ _ _ _ _ us hl => match us, hl with | [_, _], _ => rfl) blt (k_divisor) (by unfold c_divisor; repeat' (first | exact True.intro | assumption | apply And.intro))
theorem H_is_fraction (D : DefAt K mg "is_fraction" s_is_fraction) (blt : ∀ y ∈ bltNames, mg y = none) (h_is_between : Has P w K mg base (townSys p) n "is_between" 3 g_is_between) (h_divisor : Has P w K mg base (townSys p) n "divisor" 2 g_divisor)  : Has P w K mg base (townSys p) (n + 1) "is_fraction" 4 g_is_fraction := by
  obtain ⟨f, fd, F, hm⟩ := D
  exact fn_sound F sc_is_fraction hm (F.binds (ps := ["value", "most", "least", "bottom"]) fun _ _ _ _ _ _ us hl => match us, hl with | [_, _, _, _], _ => rfl) blt (k_is_fraction) (by unfold c_is_fraction; repeat' (first | exact True.intro | assumption | apply And.intro))
theorem H_is_measure (D : DefAt K mg "is_measure" s_is_measure) (blt : ∀ y ∈ bltNames, mg y = none) (h_is_fraction : Has P w K mg base (townSys p) n "is_fraction" 4 g_is_fraction)  : Has P w K mg base (townSys p) (n + 1) "is_measure" 1 g_is_measure := by
  obtain ⟨f, fd, F, hm⟩ := D
  exact fn_sound F sc_is_measure hm (F.binds (ps := ["value"]) fun _ _ _ _ _ _ us hl => match us, hl with | [_], _ => rfl) blt (k_is_measure) (by unfold c_is_measure; repeat' (first | exact True.intro | assumption | apply And.intro))
theorem H_is_table (D : DefAt K mg "is_table" s_is_table) (blt : ∀ y ∈ bltNames, mg y = none) (h_is_name : Has P w K mg base (townSys p) n "is_name" 1 g_is_name) (h_is_measure : Has P w K mg base (townSys p) n "is_measure" 1 g_is_measure)  : Has P w K mg base (townSys p) (n + 1) "is_table" 1 g_is_table := by
  obtain ⟨f, fd, F, hm⟩ := D
  exact fn_sound F sc_is_table hm (F.binds (ps := ["value"]) fun _ _ _ _ _ _ us hl => match us, hl with | [_], _ => rfl) blt (k_is_table) (by unfold c_is_table; repeat' (first | exact True.intro | assumption | apply And.intro))
theorem H_check_table (D : DefAt K mg "check_table" s_check_table) (blt : ∀ y ∈ bltNames, mg y = none) (h_is_table : Has P w K mg base (townSys p) n "is_table" 1 g_is_table)  : Has P w K mg base (townSys p) (n + 1) "check_table" 1 g_check_table := by
  obtain ⟨f, fd, F, hm⟩ := D
  exact fn_sound F sc_check_table hm (F.binds (ps := ["value"]) fun _ _ _ _ _ _ us hl => match us, hl with | [_], _ => rfl) blt (k_check_table) (by unfold c_check_table; repeat' (first | exact True.intro | assumption | apply And.intro))
theorem H_check_name (D : DefAt K mg "check_name" s_check_name) (blt : ∀ y ∈ bltNames, mg y = none) (h_is_name : Has P w K mg base (townSys p) n "is_name" 1 g_is_name)  : Has P w K mg base (townSys p) (n + 1) "check_name" 1 g_check_name := by
  obtain ⟨f, fd, F, hm⟩ := D
  exact fn_sound F sc_check_name hm (F.binds (ps := ["value"]) fun _ _ _ _ _ _ us hl => match us, hl with | [_], _ => rfl) blt (k_check_name) (by unfold c_check_name; repeat' (first | exact True.intro | assumption | apply And.intro))
theorem H_check_complete (D : DefAt K mg "check_complete" s_check_complete) (blt : ∀ y ∈ bltNames, mg y = none)  (gl_NAMES : Glb K mg "NAMES" d_NAMES) : Has P w K mg base (townSys p) (n + 1) "check_complete" 1 g_check_complete := by
  obtain ⟨f, fd, F, hm⟩ := D
  exact fn_sound F sc_check_complete hm (F.binds (ps := ["table"]) fun _ _ _ _ _ _ us hl => match us, hl with | [_], _ => rfl) blt (k_check_complete) (by unfold c_check_complete; repeat' (first | exact True.intro | assumption | apply And.intro))
theorem H_fraction (D : DefAt K mg "fraction" s_fraction) (blt : ∀ y ∈ bltNames, mg y = none) (h_divisor : Has P w K mg base (townSys p) n "divisor" 2 g_divisor)  : Has P w K mg base (townSys p) (n + 1) "fraction" 2 g_fraction := by
  obtain ⟨f, fd, F, hm⟩ := D
  exact fn_sound F sc_fraction hm (F.binds (ps := ["top", "bottom"]) fun _ _ _ _ _ _ us hl => match us, hl with | [_, _], _ => rfl) blt (k_fraction) (by unfold c_fraction; repeat' (first | exact True.intro | assumption | apply And.intro))
theorem H_plus (D : DefAt K mg "plus" s_plus) (blt : ∀ y ∈ bltNames, mg y = none) (h_fraction : Has P w K mg base (townSys p) n "fraction" 2 g_fraction)  : Has P w K mg base (townSys p) (n + 1) "plus" 2 g_plus := by
  obtain ⟨f, fd, F, hm⟩ := D
  exact fn_sound F sc_plus hm (F.binds (ps := ["one", "other"]) fun _ _ _ _ _ _ us hl => match us, hl with | [_, _], _ => rfl) blt (k_plus) (by unfold c_plus; repeat' (first | exact True.intro | assumption | apply And.intro))
theorem H_times (D : DefAt K mg "times" s_times) (blt : ∀ y ∈ bltNames, mg y = none) (h_fraction : Has P w K mg base (townSys p) n "fraction" 2 g_fraction)  : Has P w K mg base (townSys p) (n + 1) "times" 2 g_times := by
  obtain ⟨f, fd, F, hm⟩ := D
  exact fn_sound F sc_times hm (F.binds (ps := ["one", "other"]) fun _ _ _ _ _ _ us hl => match us, hl with | [_, _], _ => rfl) blt (k_times) (by unfold c_times; repeat' (first | exact True.intro | assumption | apply And.intro))
theorem H_added (D : DefAt K mg "added" s_added) (blt : ∀ y ∈ bltNames, mg y = none) (h_plus : Has P w K mg base (townSys p) n "plus" 2 g_plus) (h_times : Has P w K mg base (townSys p) n "times" 2 g_times)  : Has P w K mg base (townSys p) (n + 1) "added" 3 g_added := by
  obtain ⟨f, fd, F, hm⟩ := D
  exact fn_sound F sc_added hm (F.binds (ps := ["one", "other", "many"]) fun _ _ _ _ _ _ us hl => match us, hl with | [_, _, _], _ => rfl) blt (k_added) (by unfold c_added; repeat' (first | exact True.intro | assumption | apply And.intro))
theorem H_over (D : DefAt K mg "over" s_over) (blt : ∀ y ∈ bltNames, mg y = none) (h_fraction : Has P w K mg base (townSys p) n "fraction" 2 g_fraction)  : Has P w K mg base (townSys p) (n + 1) "over" 2 g_over := by
  obtain ⟨f, fd, F, hm⟩ := D
  exact fn_sound F sc_over hm (F.binds (ps := ["one", "other"]) fun _ _ _ _ _ _ us hl => match us, hl with | [_, _], _ => rfl) blt (k_over) (by unfold c_over; repeat' (first | exact True.intro | assumption | apply And.intro))
theorem H_reduced (D : DefAt K mg "reduced" s_reduced) (blt : ∀ y ∈ bltNames, mg y = none) (h_added : Has P w K mg base (townSys p) n "added" 3 g_added) (h_over : Has P w K mg base (townSys p) n "over" 2 g_over) (h_times : Has P w K mg base (townSys p) n "times" 2 g_times) (gl_ZERO : Glb K mg "ZERO" d_ZERO) : Has P w K mg base (townSys p) (n + 1) "reduced" 2 g_reduced := by
  obtain ⟨f, fd, F, hm⟩ := D
  exact fn_sound F sc_reduced hm (F.binds (ps := ["rows", "wide"]) fun _ _ _ _ _ _ us hl => match us, hl with | [_, _], _ => rfl) blt (k_reduced) (by unfold c_reduced; repeat' (first | exact True.intro | assumption | apply And.intro))
theorem H_as_product (D : DefAt K mg "as_product" s_as_product) (blt : ∀ y ∈ bltNames, mg y = none) (h_check_table : Has P w K mg base (townSys p) n "check_table" 1 g_check_table) (h_check_name : Has P w K mg base (townSys p) n "check_name" 1 g_check_name) (h_check_complete : Has P w K mg base (townSys p) n "check_complete" 1 g_check_complete) (h_reduced : Has P w K mg base (townSys p) n "reduced" 2 g_reduced) (gl_NAMES : Glb K mg "NAMES" d_NAMES) (gl_ZERO : Glb K mg "ZERO" d_ZERO) : Has P w K mg base (townSys p) (n + 1) "as_product" 2 g_as_product := by
  obtain ⟨f, fd, F, hm⟩ := D
  exact fn_sound F sc_as_product hm (F.binds (ps := ["table", "name"]) fun _ _ _ _ _ _ us hl => match us, hl with | [_, _], _ => rfl) blt (k_as_product) (by unfold c_as_product; repeat' (first | exact True.intro | assumption | apply And.intro))
theorem H__law_doubled (D : DefAt K mg "_law_doubled" s__law_doubled) (blt : ∀ y ∈ bltNames, mg y = none)   : Has P w K mg base (townSys p) (n + 1) "_law_doubled" 2 g__law_doubled := by
  obtain ⟨f, fd, F, hm⟩ := D
  exact fn_sound F sc__law_doubled hm (F.binds (ps := ["table", "name"]) fun _ _ _ _ _ _ us hl => match us, hl with | [_, _], _ => rfl) blt (k__law_doubled) (by unfold c__law_doubled; repeat' (first | exact True.intro | assumption | apply And.intro))
theorem H__law_rank (D : DefAt K mg "_law_rank" s__law_rank) (blt : ∀ y ∈ bltNames, mg y = none)   : Has P w K mg base (townSys p) (n + 1) "_law_rank" 1 g__law_rank := by
  obtain ⟨f, fd, F, hm⟩ := D
  exact fn_sound F sc__law_rank hm (F.binds (ps := ["rows"]) fun _ _ _ _ _ _ us hl => match us, hl with | [_], _ => rfl) blt (k__law_rank) (by unfold c__law_rank; repeat' (first | exact True.intro | assumption | apply And.intro))
theorem H__law_plus (D : DefAt K mg "_law_plus" s__law_plus) (blt : ∀ y ∈ bltNames, mg y = none) (h__law_frac : Has P w K mg base (townSys p) n "_law_frac" 2 g__law_frac)  : Has P w K mg base (townSys p) (n + 1) "_law_plus" 2 g__law_plus := by
  obtain ⟨f, fd, F, hm⟩ := D
  exact fn_sound F sc__law_plus hm (F.binds (ps := ["one", "other"]) fun _ _ _ _ _ _ us hl => match us, hl with | [_, _], _ => rfl) blt (k__law_plus) (by unfold c__law_plus; repeat' (first | exact True.intro | assumption | apply And.intro))
theorem H__law_times (D : DefAt K mg "_law_times" s__law_times) (blt : ∀ y ∈ bltNames, mg y = none) (h__law_frac : Has P w K mg base (townSys p) n "_law_frac" 2 g__law_frac)  : Has P w K mg base (townSys p) (n + 1) "_law_times" 2 g__law_times := by
  obtain ⟨f, fd, F, hm⟩ := D
  exact fn_sound F sc__law_times hm (F.binds (ps := ["one", "other"]) fun _ _ _ _ _ _ us hl => match us, hl with | [_, _], _ => rfl) blt (k__law_times) (by unfold c__law_times; repeat' (first | exact True.intro | assumption | apply And.intro))
theorem H__law_all (D : DefAt K mg "_law_all" s__law_all) (blt : ∀ y ∈ bltNames, mg y = none) (h__law_plus : Has P w K mg base (townSys p) n "_law_plus" 2 g__law_plus) (h__law_times : Has P w K mg base (townSys p) n "_law_times" 2 g__law_times)  : Has P w K mg base (townSys p) (n + 1) "_law_all" 3 g__law_all := by
  obtain ⟨f, fd, F, hm⟩ := D
  exact fn_sound F sc__law_all hm (F.binds (ps := ["one", "other", "many"]) fun _ _ _ _ _ _ us hl => match us, hl with | [_, _, _], _ => rfl) blt (k__law_all) (by unfold c__law_all; repeat' (first | exact True.intro | assumption | apply And.intro))
theorem H_whole_measures (D : DefAt K mg "whole_measures" s_whole_measures) (blt : ∀ y ∈ bltNames, mg y = none) (h_divisor : Has P w K mg base (townSys p) n "divisor" 2 g_divisor)  : Has P w K mg base (townSys p) (n + 1) "whole_measures" 1 g_whole_measures := by
  obtain ⟨f, fd, F, hm⟩ := D
  exact fn_sound F sc_whole_measures hm (F.binds (ps := ["table"]) fun _ _ _ _ _ _ us hl => match us, hl with | [_], _ => rfl) blt (k_whole_measures) (by unfold c_whole_measures; repeat' (first | exact True.intro | assumption | apply And.intro))
theorem H_less (D : DefAt K mg "less" s_less) (blt : ∀ y ∈ bltNames, mg y = none)   : Has P w K mg base (townSys p) (n + 1) "less" 3 g_less := by
  obtain ⟨f, fd, F, hm⟩ := D
  exact fn_sound F sc_less hm (F.binds (ps := ["one", "other", "many"]) fun _ _ _ _ _ _ us hl => match us, hl with | [_, _, _], _ => rfl) blt (k_less) (by unfold c_less; repeat' (first | exact True.intro | assumption | apply And.intro))
theorem H_cleared (D : DefAt K mg "cleared" s_cleared) (blt : ∀ y ∈ bltNames, mg y = none) (h_less : Has P w K mg base (townSys p) n "less" 3 g_less)  : Has P w K mg base (townSys p) (n + 1) "cleared" 2 g_cleared := by
  obtain ⟨f, fd, F, hm⟩ := D
  exact fn_sound F sc_cleared hm (F.binds (ps := ["rows", "place"]) fun _ _ _ _ _ _ us hl => match us, hl with | [_, _], _ => rfl) blt (k_cleared) (by unfold c_cleared; repeat' (first | exact True.intro | assumption | apply And.intro))
theorem H_kernel (D : DefAt K mg "kernel" s_kernel) (blt : ∀ y ∈ bltNames, mg y = none) (h_whole_measures : Has P w K mg base (townSys p) n "whole_measures" 1 g_whole_measures) (h_cleared : Has P w K mg base (townSys p) n "cleared" 2 g_cleared)  : Has P w K mg base (townSys p) (n + 1) "kernel" 1 g_kernel := by
  obtain ⟨f, fd, F, hm⟩ := D
  exact fn_sound F sc_kernel hm (F.binds (ps := ["table"]) fun _ _ _ _ _ _ us hl => match us, hl with | [_], _ => rfl) blt (k_kernel) (by unfold c_kernel; repeat' (first | exact True.intro | assumption | apply And.intro))
theorem H_found_products (D : DefAt K mg "found_products" s_found_products) (blt : ∀ y ∈ bltNames, mg y = none) (h_kernel : Has P w K mg base (townSys p) n "kernel" 1 g_kernel) (h_cleared : Has P w K mg base (townSys p) n "cleared" 2 g_cleared) (h_less : Has P w K mg base (townSys p) n "less" 3 g_less)  : Has P w K mg base (townSys p) (n + 1) "found_products" 1 g_found_products := by
  obtain ⟨f, fd, F, hm⟩ := D
  exact fn_sound F sc_found_products hm (F.binds (ps := ["table"]) fun _ _ _ _ _ _ us hl => match us, hl with | [_], _ => rfl) blt (k_found_products) (by unfold c_found_products; repeat' (first | exact True.intro | assumption | apply And.intro))
theorem H_plain_products (D : DefAt K mg "plain_products" s_plain_products) (blt : ∀ y ∈ bltNames, mg y = none) (h_check_table : Has P w K mg base (townSys p) n "check_table" 1 g_check_table) (h_check_complete : Has P w K mg base (townSys p) n "check_complete" 1 g_check_complete) (h_found_products : Has P w K mg base (townSys p) n "found_products" 1 g_found_products)  : Has P w K mg base (townSys p) (n + 1) "plain_products" 1 g_plain_products := by
  obtain ⟨f, fd, F, hm⟩ := D
  exact fn_sound F sc_plain_products hm (F.binds (ps := ["table"]) fun _ _ _ _ _ _ us hl => match us, hl with | [_], _ => rfl) blt (k_plain_products) (by unfold c_plain_products; repeat' (first | exact True.intro | assumption | apply And.intro))
end

/-! ### _law_draw, _law_town -/
theorem sc__law_draw : FnScope ["script", "town", "limit", "at", "left", "number"] ["script", "town", "limit"] (defScope s__law_draw) := ⟨rfl, rfl, rfl, by decide +kernel, rfl, by decide +kernel, by decide +kernel⟩
theorem sc__law_town : FnScope ["script"] ["script"] (defScope s__law_town) := ⟨rfl, rfl, rfl, by decide +kernel, rfl, by decide +kernel, by decide +kernel⟩
section
variable {P : Program} {w : World} {K : PySem.W.Frag} {mg : Str → Option Value} {base : Heap} {f : Addr} {fd : FuncData} {p : Addr}
theorem ixN_nat {n j : Nat} (h : j < n) : ixN n (j : Int) = some j := by
  have e := atI_nat (xs := List.range n) (j := j) (v := j) (by rw [List.getElem?_range h])
  unfold atI at e
  rw [List.length_range] at e
  cases hj : ixN n (j : Int) with
  | none => rw [hj] at e; cases e
  | some i =>
    rw [hj] at e
    have e : (List.range n)[i]? = some j := e
    obtain ⟨h1, h2⟩ := List.getElem?_eq_some_iff.mp e
    rw [List.getElem_range] at h2
    rw [h2]
theorem g_draw_cases (p : Addr) (ds : List D) (t : List Int) : (∃ ns m k rest, ds = [.scr ns, .adr p, .int m] ∧ t = k :: rest ∧ 0 < m ∧ m < 1000000 ∧ 0 ≤ k ∧ k < 1000000000 ∧ rest.length = ns.length ∧ ns.length ≤ 63 ∧ g_draw p ds t = .ok (.int (dr ns k rest m).1) (dr ns k rest m).2) ∨ g_draw p ds t = .er := by
  unfold g_draw
  split
  · split
    · rename_i hc
      obtain ⟨rfl, h⟩ := hc
      exact .inl ⟨_, _, _, _, rfl, rfl, h.1, h.2.1, h.2.2.1, h.2.2.2.1, h.2.2.2.2.1, h.2.2.2.2.2, rfl⟩
    · exact .inr rfl
  · exact .inr rfl
theorem ok_draw (F : Fun K "_law_draw" "_law_draw" s__law_draw f fd) (ml : mg "len" = none) : FnOk P w K mg base (L2.CX P w) 1 f fd ["script", "town", "limit"] (spOf (Y := townSys p) K mg 3 (g_draw p)) := by
  refine F.okX sc__law_draw (fun vs H Q E h => ?_) (fun cdv A outer s H vs Q E hr h => ?_)
  · obtain ⟨c, ds, _, _, _, h, _⟩ := h
    exact h
  · refine ⟨_, pss_cons (ps_asg (pe_op op_add (pe_ix ix_list (pv 1) pe_int (fun _ _ => rfl)) pe_int) (pg_sub (pv 1) pe_int set_list))
      (pss_cons (ps_if (pt_cmpR (op_eqD hr.units) (pv 0) (pe_lst pa_nil) (nomark _)) (pss_one (ps_ret (pe_op op_modN (pe_op op_fdivV (pe_op op_mul (pe_op op_mul (pe_ix ix_list (pv 1) pe_int (fun _ _ => rfl)) (pe_ix ix_list (pv 1) pe_int (fun _ _ => rfl))) pe_int) pe_int) (pv 2)))) pss_nil)
      (pss_cons (ps_set (i := 3) sc__law_draw.nd rfl (Or.inl rfl) (pe_op op_modN (pe_ix ix_list (pv 1) pe_int (fun _ _ => rfl)) (pe_callB call_len_seq rfl ml PySem.boot_len (pa_cons (pv 0) pa_nil))))
      (pss_cons (ps_set (i := 4) sc__law_draw.nd rfl (Or.inl rfl) (pe_ix ix_list (pv 1) (pe_op op_add pe_int (pv 3)) (fun _ _ => rfl)))
      (pss_cons (ps_if (PW.pt (pw_and (pt_cmpR op_ge (pe_ix ix_list (pv 0) (pv 3) (fun _ _ => rfl)) (pe_op op_pow pe_int pe_int) (nomark _)) (pw_and1 (pt_cmpR op_gt (pv 4) pe_int (nomark _)))))
        (pss_cons (ps_asg (pe_op op_fdivV (pv 4) (pv 2)) (pg_sub (pv 1) (pe_op op_add pe_int (pv 3)) set_list)) (pss_one (ps_ret (pe_op op_modN (pv 4) (pv 2))))) pss_nil)
      (pss_cons (ps_set (i := 5) sc__law_draw.nd rfl (Or.inl rfl) (pe_op op_modN (pe_op op_add (pe_ix ix_list (pv 0) (pv 3) (fun _ _ => rfl)) (pe_op op_mul pe_int (pe_ix ix_list (pv 1) pe_int (fun _ _ => rfl)))) pe_int))
      (pss_cons (ps_set (i := 5) sc__law_draw.nd rfl (Or.inl rfl) (pe_op op_modN (pe_op op_pow (pv 5) pe_int) pe_int))
      (pss_one (ps_ret (pe_op op_modN (pe_op op_fdivV (pe_op op_modN (pe_op op_add (pe_op op_mul (pe_op op_fdivV (pv 5) pe_int) pe_int) (pv 5)) pe_int) pe_int) (pv 2)))))))))), ?_⟩
    obtain ⟨c, ds, rfl, ok, rs, hl, h⟩ := h
    have cel0 : c.H p = some (.lst (c.s.map V.int)) := ok.cel
    rcases g_draw_cases p ds c.s with ⟨ns, m, k, rest, rfl, ht, hm0, hm1, hk0, hk1, hlen, h63, er⟩ | er
    rotate_left
    · rw [er] at h
      exact h.elim
    rw [er] at h
    rw [ht] at cel0
    have h : ∀ v (c' : Cf (townSys p)), c'.s = (dr ns k rest m).2 → Step c c' → Ok c' → Rep K c'.F v (.int (dr ns k rest m).1) → Q v c'.H := h
    cases rs with
    | cons r1 rs =>
    cases rs with
    | cons r2 rs =>
    cases rs with
    | cons r3 rs =>
    cases rs
    cases r1 with
    | @scr a _ hS =>
    cases r2
    cases r3
    have cel : c.H p = some (.lst ((k :: rest).map V.int)) := cel0
    have hm' : m ≠ 0 := by omega
    have hmd : CDivV 0 m := ⟨hm', by
      have : m.natAbs < 2 ^ 20 := by omega
      have := (Nat.log2_lt (by omega)).mpr this
      omega⟩
    refine ⟨.ref p, rfl, p, _, 0, .int k, rfl, rfl, .inl (.inl cel), atI_nat (j := 0) rfl, k, 1, rfl, rfl, .ref p, rfl, p, _, 0, 0, rfl, rfl, cel, ixN_nat (by simp), ?_⟩
    show tSeq _ _ _ _ (upd c.H p (.lst (((k + 1) :: rest).map V.int)))
    obtain ⟨ok1, st1⟩ := town_new (K := K) ok ((k + 1) :: rest) (upd c.H p (.lst (((k + 1) :: rest).map V.int))) (fun a ha => upd_ne ha) upd_same
    have allI : ∀ (H : Hp) (l : List Int), DpAll K H (l.map V.int) (l.map PyData.int) := fun H l => by
      induction l with
      | nil => exact .nil
      | cons x l ih => exact .cons (.int x) ih
    have ishp : ∀ l : List Int, SeqAt.shaped (.list (l.map PyData.int)) = true := fun l => by
      have h1 : ∀ l : List Int, PyData.canLayAll0 (l.map PyData.int) = true ∧ PyData.depthAll (l.map PyData.int) = 0 := fun l => by
        induction l with
        | nil => exact ⟨rfl, rfl⟩
        | cons x l ih => exact ⟨Bool.and_eq_true_iff.mpr ⟨rfl, ih.1⟩, by show max 0 (PyData.depthAll (l.map PyData.int)) = 0; rw [ih.2]; rfl⟩
      refine Bool.and_eq_true_iff.mpr ⟨(h1 l).1, decide_eq_true ?_⟩
      show PyData.depthAll (l.map PyData.int) + 1 ≤ 64
      rw [(h1 l).2]
      decide
    refine ⟨.ref a, rfl, by show 0 ≤ sizeLine; decide, fun l hl0 => ?_⟩
    have ok2 := ok1.own hl0 (.lst [])
    have st2 : Step c _ := st1.trans ok1 (Step.own ok1 hl0 (.lst []))
    have hS2 : SqL K (upd (upd c.H p (.lst (((k + 1) :: rest).map V.int))) l (.lst [])) a (ns.map V.int) := sqL_sub ok2.sub hS
    have hq2 : upd (upd c.H p (.lst (((k + 1) :: rest).map V.int))) l (.lst []) p = some (.lst (((k + 1) :: rest).map V.int)) := ok2.cel
    refine ⟨_, _, .lst hS2 (allI _ ns), .lst (.inl (.inl upd_same)) .nil, ishp ns, ishp [], _, rfl, ?_⟩
    have fin : ∀ (d : Int), (dr ns k rest m) = (d, (k + 1) :: rest) → Q (.int d) (upd (upd c.H p (.lst (((k + 1) :: rest).map V.int))) l (.lst [])) := fun d e => by
      refine h (.int d) ⟨c.F, upd (upd c.H p (.lst (((k + 1) :: rest).map V.int))) l (.lst []), (k + 1) :: rest⟩ ?_ st2 ok2 ?_
      · rw [e]
      · rw [e]; exact .int d
    cases ns with
    | nil =>
      refine iteT ?_
      refine ⟨.ref p, rfl, p, _, 0, .int (k + 1), rfl, rfl, .inl (.inl hq2), atI_nat (j := 0) rfl, .ref p, rfl, p, _, 0, .int (k + 1), rfl, rfl, .inl (.inl hq2), atI_nat (j := 0) rfl, _, _, rfl, rfl, .inl ⟨by omega, by omega⟩, _, _, rfl, rfl, .inr ⟨by decide, by decide⟩, _, _, rfl, rfl, ⟨by decide, by decide +kernel⟩, .int m, rfl, _, _, rfl, rfl, hm', ?_⟩
      exact fin _ rfl
    | cons n0 ns0 =>
      refine iteF ?_
      have hn : (((n0 :: ns0).map V.int).length : Int) ≠ 0 := by simp; omega
      have hn1 : ((n0 :: ns0).map V.int).length = (n0 :: ns0).length := List.length_map ..
      obtain ⟨a', ha'⟩ : ∃ a' : Nat, (k + 1).fmod (((n0 :: ns0).map V.int).length : Int) = (a' : Int) := Int.eq_ofNat_of_zero_le (Int.fmod_nonneg_of_pos _ (by simp))
      have hlt : a' < (n0 :: ns0).length := by
        have := Int.fmod_lt_of_pos (k + 1) (show (0 : Int) < (((n0 :: ns0).map V.int).length : Int) by simp)
        rw [ha', hn1] at this
        omega
      have hat : ((k + 1).fmod ((n0 :: ns0).length : Int)).toNat = a' := by rw [← hn1, ha']; rfl
      refine ⟨.ref p, rfl, p, _, 0, .int (k + 1), rfl, rfl, .inl (.inl hq2), atI_nat (j := 0) rfl, .ref a, rfl, a, _, rfl, .inl hS2, _, _, rfl, rfl, hn, ?_⟩
      show tSeq _ _ _ [some (.ref a), some (.ref p), some (.int m), some (.int ((k + 1).fmod (((n0 :: ns0).map V.int).length : Int))), none, none] _
      rw [ha']
      have hl1 : a' < rest.length := by omega
      have e1 : rest.getD a' 0 = rest[a'] := by rw [List.getD_eq_getElem?_getD, List.getElem?_eq_getElem hl1]; rfl
      have e2 : (n0 :: ns0).getD a' 0 = (n0 :: ns0)[a'] := by rw [List.getD_eq_getElem?_getD, List.getElem?_eq_getElem hlt]; rfl
      have g1 : atI (((k + 1) :: rest).map V.int) (1 + (a' : Int)) = some (.int (rest.getD a' 0)) := by
        have : (1 : Int) + (a' : Int) = ((a' + 1 : Nat) : Int) := by omega
        rw [this]
        refine atI_nat ?_
        rw [List.map_cons, List.getElem?_cons_succ, List.getElem?_map, List.getElem?_eq_getElem hl1, e1]
        rfl
      have g2 : atI ((n0 :: ns0).map V.int) (a' : Int) = some (.int ((n0 :: ns0).getD a' 0)) := by
        refine atI_nat ?_
        rw [List.getElem?_map, List.getElem?_eq_getElem hlt, e2]
        rfl
      refine ⟨.ref p, rfl, .int (a' : Int), rfl, 1, (a' : Int), rfl, rfl, p, _, _, _, rfl, rfl, .inl (.inl hq2), g1, ?_⟩
      refine ⟨.ref a, rfl, .int (a' : Int), rfl, a, _, _, _, rfl, rfl, hS2, g2, 10, 18, rfl, rfl, ⟨by decide, by decide, by decide⟩, _, _, rfl, rfl, _, rfl, ?_⟩
      have dr1 : ¬ ((n0 :: ns0).getD a' 0 ≥ 10 ^ 18 ∧ rest.getD a' 0 > 0) → dr (n0 :: ns0) k rest m = ((((((((n0 :: ns0).getD a' 0 + 104729 * (k + 1)).fmod 4294967291) ^ 5).fmod 4294967279).fdiv 64 * 69621 + (((((n0 :: ns0).getD a' 0 + 104729 * (k + 1)).fmod 4294967291) ^ 5).fmod 4294967279)).fmod 4294967231).fdiv 8 |>.fmod m, (k + 1) :: rest) := fun hno => by
        unfold dr
        rw [if_neg (by simp)]
        dsimp only
        rw [hat, if_neg hno]
      have low : ¬ ((n0 :: ns0).getD a' 0 ≥ 10 ^ 18 ∧ rest.getD a' 0 > 0) → tSeq (tAsg (tOp (rI (fun _ j => j ≠ 0) fun i j => .int (i.fmod j)) (tOp (rI0 fun i j => .int (i + j)) (tOp (rIxL K) (tVar 0) (tVar 3)) (tOp (rI CMul fun i j => .int (i * j)) (tC (.int 104729)) (tOp (rIxL K) (tVar 1) (tC (.int 0))))) (tC (.int 4294967291))) (gName 5))
          (tSeq (tAsg (tOp (rI (fun _ j => j ≠ 0) fun i j => .int (i.fmod j)) (tOp (rI CPow fun i j => .int (i ^ j.toNat)) (tVar 5) (tC (.int 5))) (tC (.int 4294967279))) (gName 5))
          (tRet (tOp (rI (fun _ j => j ≠ 0) fun i j => .int (i.fmod j)) (tOp (rI CDivV fun i j => .int (i.fdiv j)) (tOp (rI (fun _ j => j ≠ 0) fun i j => .int (i.fmod j)) (tOp (rI0 fun i j => .int (i + j)) (tOp (rI CMul fun i j => .int (i * j)) (tOp (rI CDivV fun i j => .int (i.fdiv j)) (tVar 5) (tC (.int 64))) (tC (.int 69621))) (tVar 5)) (tC (.int 4294967231))) (tC (.int 8))) (tVar 2)))) { nx := fun _ H' => Q .non H', rt := Q } [some (.ref a), some (.ref p), some (.int m), some (.int (a' : Int)), some (.int (rest.getD a' 0)), none] (upd (upd c.H p (.lst (((k + 1) :: rest).map V.int))) l (.lst [])) := fun hno => by
        have b0 : ∀ x : Int, 0 ≤ x.fmod 4294967291 ∧ x.fmod 4294967291 < 4294967291 := fun x => ⟨Int.fmod_nonneg_of_pos _ (by decide), Int.fmod_lt_of_pos _ (by decide)⟩
        have b1 := b0 ((n0 :: ns0).getD a' 0 + 104729 * (k + 1))
        refine ⟨.ref a, rfl, .int (a' : Int), rfl, a, _, _, _, rfl, rfl, hS2, g2, .ref p, rfl, p, _, 0, .int (k + 1), rfl, rfl, .inl (.inl hq2), atI_nat (j := 0) rfl, 104729, k + 1, rfl, rfl, .inl ⟨by decide, by decide⟩, _, _, rfl, rfl, _, 4294967291, rfl, rfl, (by decide : (4294967291 : Int) ≠ 0), ?_⟩
        refine ⟨_, rfl, _, 5, rfl, rfl, ⟨by decide, by decide, by omega⟩, _, 4294967279, rfl, rfl, (by decide : (4294967279 : Int) ≠ 0), ?_⟩
        refine ⟨_, rfl, _, 64, rfl, rfl, ⟨by decide, by decide +kernel⟩, _, 69621, rfl, rfl, .inr ⟨by decide, by decide⟩, _, rfl, _, _, rfl, rfl, _, 4294967231, rfl, rfl, (by decide : (4294967231 : Int) ≠ 0), _, 8, rfl, rfl, ⟨by decide, by decide +kernel⟩, .int m, rfl, _, _, rfl, rfl, hm', ?_⟩
        exact fin _ (dr1 hno)
      by_cases hb : (10 : Int) ^ 18 ≤ (n0 :: ns0).getD a' 0
      · have hb1 : decide ((10 : Int) ^ (18 : Int).toNat ≤ (n0 :: ns0).getD a' 0) = true := decide_eq_true hb
        rw [hb1]
        refine iteT ?_
        refine ⟨_, rfl, _, 0, rfl, rfl, _, rfl, ?_⟩
        by_cases hp : 0 < rest.getD a' 0
        · rw [decide_eq_true hp]
          refine iteT ?_
          have g3 : ixN (((k + 1) :: rest).map V.int).length (1 + (a' : Int)) = some (a' + 1) := by
            have e : (1 : Int) + (a' : Int) = ((a' + 1 : Nat) : Int) := by omega
            rw [e]
            exact ixN_nat (by simp; omega)
          refine ⟨_, rfl, .int m, rfl, _, _, rfl, rfl, hmd, .ref p, rfl, _, rfl, 1, (a' : Int), rfl, rfl, p, _, _, _, rfl, rfl, hq2, g3, ?_⟩
          refine ⟨_, rfl, .int m, rfl, _, _, rfl, rfl, hm', ?_⟩
          have es : ((((k + 1) :: rest).map V.int).set (a' + 1) (.int ((rest.getD a' 0).fdiv m))) = ((k + 1) :: rest.set a' ((rest.getD a' 0).fdiv m)).map V.int := by
            rw [List.map_cons, List.set_cons_succ, List.map_cons, List.map_set]
          rw [es]
          obtain ⟨ok3, st3⟩ := town_new (K := K) (c := ⟨c.F, upd (upd c.H p (.lst (((k + 1) :: rest).map V.int))) l (.lst []), (k + 1) :: rest⟩) ok2 ((k + 1) :: rest.set a' ((rest.getD a' 0).fdiv m)) (upd (upd (upd c.H p (.lst (((k + 1) :: rest).map V.int))) l (.lst [])) p (.lst (((k + 1) :: rest.set a' ((rest.getD a' 0).fdiv m)).map V.int))) (fun a ha => upd_ne ha) upd_same
          have ed : dr (n0 :: ns0) k rest m = ((rest.getD a' 0).fmod m, (k + 1) :: rest.set a' ((rest.getD a' 0).fdiv m)) := by
            unfold dr
            rw [if_neg (by simp)]
            dsimp only
            rw [hat, if_pos ⟨hb, hp⟩]
          refine h _ _ ?_ (st2.trans ok2 st3) ok3 ?_
          · rw [ed]
          · rw [ed]; exact .int _
        · rw [decide_eq_false hp]
          exact iteF (low fun z => hp z.2)
      · have hb1 : decide ((10 : Int) ^ (18 : Int).toNat ≤ (n0 :: ns0).getD a' 0) = false := decide_eq_false hb
        rw [hb1]
        exact iteF (iteF (low fun z => hb z.1))
theorem ok_town (F : Fun K "_law_town" "_law_town" s__law_town f fd) (ml : mg "list" = none) : FnOk P w K mg base (L2.CX P w) 1 f fd ["script"] (spTown K) := by
  refine F.okX sc__law_town (fun vs H Q E h => ?_) (fun cdv A outer s H vs Q E hr h => ?_)
  · obtain ⟨a, ns, rfl, _⟩ := h
    rfl
  · refine ⟨_, pss_one (ps_ret (pe_op op_cat (pe_lst (pa_cons pe_int pa_nil)) (pe_callTy call_list_of rfl ml PyProof.Rows.boot_list (pa_cons (pv 0) pa_nil)))), ?_⟩
    obtain ⟨a, ns, rfl, hS, h63, q⟩ := h
    refine ⟨by show 1 ≤ sizeLine; decide, fun l1 h1 => ?_⟩
    have sm1 : ∀ b o, H b = some o → upd H l1 (.lst [.int 0]) b = some o := fun b o e => by rw [upd_ne (ne_of_none e h1)]; exact e
    refine ⟨.ref a, rfl, a, _, rfl, .inl (sqL_sub sm1 hS), fun l2 h2 => ?_⟩
    have n12 : l1 ≠ l2 := ne_of_none (upd_same (H := H) (a := l1) (o := .lst [.int 0])) h2
    have e2 : upd (upd H l1 (.lst [.int 0])) l2 (.lst (ns.map V.int)) l1 = some (.lst [.int 0]) := by rw [upd_ne n12]; exact upd_same
    refine ⟨l1, l2, _, _, rfl, rfl, e2, upd_same, ?_, fun p hp => ?_⟩
    · rw [List.length_map]
      have e : sizeLine = 16777216 := by decide
      show 1 + ns.length ≤ _
      omega
    · have p2 : p ≠ l2 := fun z => by rw [z, upd_same] at hp; cases hp
      have hp1 : upd H l1 (.lst [.int 0]) p = none := by rw [upd_ne p2] at hp; exact hp
      have p1 : p ≠ l1 := fun z => by rw [z, upd_same] at hp1; cases hp1
      have hp0 : H p = none := by rw [upd_ne p1] at hp1; exact hp1
      refine q p _ hp0 (fun b o e => ?_) upd_same
      have n2 : b ≠ l2 := fun z => by
        have := sm1 b o e
        rw [z, h2] at this
        cases this
      rw [upd_ne (ne_of_none e hp0), upd_ne n2]
      exact sm1 b o e
end
end Mf
set_option Elab.async false
set_option linter.all false
set_option maxRecDepth 100000
set_option maxHeartbeats 1000000
namespace Mf
open PySem L2
/-! ### divisor -/
theorem divisor_loop (s : List Int) : ∀ (n : Nat) (a b : Int), b.natAbs < n →
    ∃ a' : Int, whlR (fun ρ s => (ev (.cmp .ne (.var 1) (.con (.int 0))) ρ s).bind tru) (runs b_divisor_0) n [.va (.int a), .va (.int b)] s = .nx [.va (.int a'), .va (.int 0)] s ∧ a'.natAbs = Int.gcd a b
  | 0, a, b, h => by omega
  | n + 1, a, b, h => by
    by_cases e : b = 0
    · subst e
      refine ⟨a, ?_, (Int.gcd_zero_right a).symm⟩
      simp only [whlR, b_divisor_0, fnR, runs, run, ev, evA, evT, evI, bindq_ok, ob_ok, sq_nx, sq_rt, onO_some, liftO_some, kd_some, dat_v, dat_t, tru_bl, intOf_int, noExq, stk_v, stk_t, stk_o, stow_tt, stow_fv, stow_ft, eqD_int, cmp_ne, cmp_eq, cmp_gt, cmp_ge, cmp_lt, cmp_le, cmp_in, cmp_notin, cmp_is, cmp_isnot, bin_add, bin_sub, b1_abs, ix0, ix1, items_lst, items_row, put, List.map_cons, List.map_nil, List.cons_append, List.nil_append, List.append_nil, List.length_cons, List.length_nil, List.replicate, List.getElem?_cons_zero, List.getElem?_cons_succ, List.getElem?_nil, List.set_cons_zero, List.set_cons_succ, List.set_nil, Nat.reduceAdd, Nat.reduceSub, Nat.reduceLT, Nat.reduceEqDiff, if_true, ite_true, if_false, ite_false, Option.map_some, Option.map_none, reduceIte, reduceCtorEq, Bool.false_eq_true, Nat.zero_add, Nat.add_zero, Nat.zero_lt_succ, Nat.zero_lt_one, Nat.lt_add_left_iff_pos, Nat.succ_eq_add_one, Nat.reduceLeDiff, decide_true, Bool.not_true]
    · obtain ⟨a', h1, h2⟩ := divisor_loop s n b (a.fmod b) (by have := fmod_lt a e; omega)
      refine ⟨a', ?_, by rw [h2, gcd_fmod]⟩
      rw [← h1]
      simp only [whlR, b_divisor_0, fnR, runs, run, ev, evA, evT, evI, bindq_ok, ob_ok, sq_nx, sq_rt, onO_some, liftO_some, kd_some, dat_v, dat_t, tru_bl, intOf_int, noExq, stk_v, stk_t, stk_o, stow_tt, stow_fv, stow_ft, eqD_int, cmp_ne, cmp_eq, cmp_gt, cmp_ge, cmp_lt, cmp_le, cmp_in, cmp_notin, cmp_is, cmp_isnot, bin_add, bin_sub, b1_abs, ix0, ix1, items_lst, items_row, put, List.map_cons, List.map_nil, List.cons_append, List.nil_append, List.append_nil, List.length_cons, List.length_nil, List.replicate, List.getElem?_cons_zero, List.getElem?_cons_succ, List.getElem?_nil, List.set_cons_zero, List.set_cons_succ, List.set_nil, Nat.reduceAdd, Nat.reduceSub, Nat.reduceLT, Nat.reduceEqDiff, if_true, ite_true, if_false, ite_false, Option.map_some, Option.map_none, reduceIte, reduceCtorEq, Bool.false_eq_true, Nat.zero_add, Nat.add_zero, Nat.zero_lt_succ, Nat.zero_lt_one, Nat.lt_add_left_iff_pos, Nat.succ_eq_add_one, Nat.reduceLeDiff, bin_mod e, decide_eq_false e, Bool.not_false]
theorem g_divisor_ok (a b : Int) (s : List Int) : g_divisor [.int a, .int b] s = .ok (.int (Int.gcd a b : Nat)) s := by
  obtain ⟨a', h1, h2⟩ := divisor_loop s (b.natAbs + 1) a b (Nat.lt_succ_self _)
  refine fnR_rt ?_
  show runs c_divisor [.va (.int a), .va (.int b)] s = _
  unfold c_divisor
  rw [runs_cons, run_whl]
  show (whlR _ _ (b.natAbs + 1) _ s).sq _ = _
  rw [h1]
  simp only [fnR, runs, run, ev, evA, evT, evI, bindq_ok, ob_ok, sq_nx, sq_rt, onO_some, liftO_some, kd_some, dat_v, dat_t, tru_bl, intOf_int, noExq, stk_v, stk_t, stk_o, stow_tt, stow_fv, stow_ft, eqD_int, cmp_ne, cmp_eq, cmp_gt, cmp_ge, cmp_lt, cmp_le, cmp_in, cmp_notin, cmp_is, cmp_isnot, bin_add, bin_sub, b1_abs, ix0, ix1, items_lst, items_row, put, List.map_cons, List.map_nil, List.cons_append, List.nil_append, List.append_nil, List.length_cons, List.length_nil, List.replicate, List.getElem?_cons_zero, List.getElem?_cons_succ, List.getElem?_nil, List.set_cons_zero, List.set_cons_succ, List.set_nil, Nat.reduceAdd, Nat.reduceSub, Nat.reduceLT, Nat.reduceEqDiff, if_true, ite_true, if_false, ite_false, Option.map_some, Option.map_none, reduceIte, reduceCtorEq, Bool.false_eq_true, Nat.zero_add, Nat.add_zero, Nat.zero_lt_succ, Nat.zero_lt_one, Nat.lt_add_left_iff_pos, Nat.succ_eq_add_one, Nat.reduceLeDiff, h2]
/-! ### fraction, plus, times, over -/
theorem shared_ok {a b : Int} {B : Nat} (hb : b ≠ 0) (hB : b.natAbs < 2 ^ B) (h9 : B < 9000) : mulOk ((Int.gcd a b : Nat) : Int) (if decide (0 < b) = true then 1 else -1) = true ∧ divOk (((Int.gcd a b : Nat) : Int) * (if decide (0 < b) = true then 1 else -1)) = true := by
  have hg : 0 < Int.gcd a b := Int.gcd_pos_of_ne_zero_right a hb
  have hle : Int.gcd a b ≤ b.natAbs := Nat.le_of_dvd (Int.natAbs_pos.mpr hb) (Nat.gcd_dvd_right _ _)
  have h1 : (((Int.gcd a b : Nat) : Int)).natAbs < 2 ^ B := by simpa using Nat.lt_of_le_of_lt hle hB
  have h2 : ((if decide (0 < b) = true then (1 : Int) else -1)).natAbs < 2 ^ 1 := by split <;> decide
  refine ⟨mulOk_of h1 h2 (by omega), divOk_of (b := B) (Int.mul_ne_zero (by omega) (by split <;> decide)) ?_ h9⟩
  rw [Int.natAbs_mul]
  have : ((if decide (0 < b) = true then (1 : Int) else -1)).natAbs = 1 := by split <;> rfl
  rw [this, Nat.mul_one]
  exact h1
theorem g_fraction_ok {a b : Int} {B : Nat} (hb : b ≠ 0) (hB : b.natAbs < 2 ^ B) (h9 : B < 9000) (s : List Int) : g_fraction [.int a, .int b] s = .ok (F (Rat.divInt a b)) s := by
  obtain ⟨h1, h2⟩ := shared_ok (a := a) hb hB h9
  obtain ⟨h3, h4⟩ := frac_nd (a := a) hb
  refine fnR_rt ?_
  unfold c_fraction
  by_cases h : 0 < b
  · simp only [h, decide_true, if_true] at h1 h2 h3 h4
    simp only [fnR, runs, run, ev, evA, evT, evI, bindq_ok, ob_ok, sq_nx, sq_rt, onO_some, liftO_some, kd_some, dat_v, dat_t, tru_bl, intOf_int, noExq, stk_v, stk_t, stk_o, stow_tt, stow_fv, stow_ft, eqD_int, cmp_ne, cmp_eq, cmp_gt, cmp_ge, cmp_lt, cmp_le, cmp_in, cmp_notin, cmp_is, cmp_isnot, bin_add, bin_sub, b1_abs, ix0, ix1, items_lst, items_row, put, List.map_cons, List.map_nil, List.cons_append, List.nil_append, List.append_nil, List.length_cons, List.length_nil, List.replicate, List.getElem?_cons_zero, List.getElem?_cons_succ, List.getElem?_nil, List.set_cons_zero, List.set_cons_succ, List.set_nil, Nat.reduceAdd, Nat.reduceSub, Nat.reduceLT, Nat.reduceEqDiff, if_true, ite_true, if_false, ite_false, Option.map_some, Option.map_none, reduceIte, reduceCtorEq, Bool.false_eq_true, Nat.zero_add, Nat.add_zero, Nat.zero_lt_succ, Nat.zero_lt_one, Nat.lt_add_left_iff_pos, Nat.succ_eq_add_one, Nat.reduceLeDiff, g_divisor_ok, h, decide_true, bin_mul h1, bin_fdv h2, h3, h4]
    rfl
  · simp only [h, decide_false, Bool.false_eq_true, if_false] at h1 h2 h3 h4
    simp only [fnR, runs, run, ev, evA, evT, evI, bindq_ok, ob_ok, sq_nx, sq_rt, onO_some, liftO_some, kd_some, dat_v, dat_t, tru_bl, intOf_int, noExq, stk_v, stk_t, stk_o, stow_tt, stow_fv, stow_ft, eqD_int, cmp_ne, cmp_eq, cmp_gt, cmp_ge, cmp_lt, cmp_le, cmp_in, cmp_notin, cmp_is, cmp_isnot, bin_add, bin_sub, b1_abs, ix0, ix1, items_lst, items_row, put, List.map_cons, List.map_nil, List.cons_append, List.nil_append, List.append_nil, List.length_cons, List.length_nil, List.replicate, List.getElem?_cons_zero, List.getElem?_cons_succ, List.getElem?_nil, List.set_cons_zero, List.set_cons_succ, List.set_nil, Nat.reduceAdd, Nat.reduceSub, Nat.reduceLT, Nat.reduceEqDiff, if_true, ite_true, if_false, ite_false, Option.map_some, Option.map_none, reduceIte, reduceCtorEq, Bool.false_eq_true, Nat.zero_add, Nat.add_zero, Nat.zero_lt_succ, Nat.zero_lt_one, Nat.lt_add_left_iff_pos, Nat.succ_eq_add_one, Nat.reduceLeDiff, g_divisor_ok, h, decide_false, bin_mul h1, bin_fdv h2, h3, h4]
    rfl
theorem ixF0 (x : Rat) : ixD (F x) (.int 0) = some (.int x.num) := rfl
theorem ixF1 (x : Rat) : ixD (F x) (.int 1) = some (.int x.den) := rfl
theorem g_plus_ok {A B : Nat} {x y : Rat} (hx : bd A x) (hy : bd B y) (h : A + B < 8999) (s : List Int) : g_plus [F x, F y] s = .ok (F (x + y)) s := by
  refine fnR_rt ?_
  unfold c_plus
  have m1 := mulOk_of hx.1 hy.den (by omega)
  have m2 := mulOk_of hy.1 hx.den (by omega)
  have m3 := mulOk_of hx.den hy.den (by omega)
  have e := g_fraction_ok (a := x.num * y.den + y.num * x.den) (Int.mul_ne_zero (den_ne x) (den_ne y)) (mul_lt hx.den hy.den) (by omega) s
  rw [plus_eq] at e
  simp only [fnR, runs, run, ev, evA, evT, evI, bindq_ok, ob_ok, sq_nx, sq_rt, onO_some, liftO_some, kd_some, dat_v, dat_t, tru_bl, intOf_int, noExq, stk_v, stk_t, stk_o, stow_tt, stow_fv, stow_ft, eqD_int, cmp_ne, cmp_eq, cmp_gt, cmp_ge, cmp_lt, cmp_le, cmp_in, cmp_notin, cmp_is, cmp_isnot, bin_add, bin_sub, b1_abs, ix0, ix1, items_lst, items_row, put, List.map_cons, List.map_nil, List.cons_append, List.nil_append, List.append_nil, List.length_cons, List.length_nil, List.replicate, List.getElem?_cons_zero, List.getElem?_cons_succ, List.getElem?_nil, List.set_cons_zero, List.set_cons_succ, List.set_nil, Nat.reduceAdd, Nat.reduceSub, Nat.reduceLT, Nat.reduceEqDiff, if_true, ite_true, if_false, ite_false, Option.map_some, Option.map_none, reduceIte, reduceCtorEq, Bool.false_eq_true, Nat.zero_add, Nat.add_zero, Nat.zero_lt_succ, Nat.zero_lt_one, Nat.lt_add_left_iff_pos, Nat.succ_eq_add_one, Nat.reduceLeDiff, ixF0, ixF1, bin_mul m1, bin_mul m2, bin_mul m3, e]
theorem g_times_ok {A B : Nat} {x y : Rat} (hx : bd A x) (hy : bd B y) (h : A + B < 8999) (s : List Int) : g_times [F x, F y] s = .ok (F (x * y)) s := by
  refine fnR_rt ?_
  unfold c_times
  have m1 := mulOk_of hx.1 hy.1 (by omega)
  have m3 := mulOk_of hx.den hy.den (by omega)
  have e := g_fraction_ok (a := x.num * y.num) (Int.mul_ne_zero (den_ne x) (den_ne y)) (mul_lt hx.den hy.den) (by omega) s
  rw [times_eq] at e
  simp only [fnR, runs, run, ev, evA, evT, evI, bindq_ok, ob_ok, sq_nx, sq_rt, onO_some, liftO_some, kd_some, dat_v, dat_t, tru_bl, intOf_int, noExq, stk_v, stk_t, stk_o, stow_tt, stow_fv, stow_ft, eqD_int, cmp_ne, cmp_eq, cmp_gt, cmp_ge, cmp_lt, cmp_le, cmp_in, cmp_notin, cmp_is, cmp_isnot, bin_add, bin_sub, b1_abs, ix0, ix1, items_lst, items_row, put, List.map_cons, List.map_nil, List.cons_append, List.nil_append, List.append_nil, List.length_cons, List.length_nil, List.replicate, List.getElem?_cons_zero, List.getElem?_cons_succ, List.getElem?_nil, List.set_cons_zero, List.set_cons_succ, List.set_nil, Nat.reduceAdd, Nat.reduceSub, Nat.reduceLT, Nat.reduceEqDiff, if_true, ite_true, if_false, ite_false, Option.map_some, Option.map_none, reduceIte, reduceCtorEq, Bool.false_eq_true, Nat.zero_add, Nat.add_zero, Nat.zero_lt_succ, Nat.zero_lt_one, Nat.lt_add_left_iff_pos, Nat.succ_eq_add_one, Nat.reduceLeDiff, ixF0, ixF1, bin_mul m1, bin_mul m3, e]
theorem g_over_ok {A B : Nat} {x y : Rat} (hx : bd A x) (hy : bd B y) (h0 : y ≠ 0) (h : A + B < 8999) (s : List Int) : g_over [F x, F y] s = .ok (F (x / y)) s := by
  refine fnR_rt ?_
  unfold c_over
  have m1 := mulOk_of hx.1 hy.den (by omega)
  have m3 := mulOk_of hx.den hy.1 (by omega)
  have e := g_fraction_ok (a := x.num * y.den) (Int.mul_ne_zero (den_ne x) (num_ne h0)) (mul_lt hx.den hy.1) (by omega) s
  rw [over_eq] at e
  simp only [fnR, runs, run, ev, evA, evT, evI, bindq_ok, ob_ok, sq_nx, sq_rt, onO_some, liftO_some, kd_some, dat_v, dat_t, tru_bl, intOf_int, noExq, stk_v, stk_t, stk_o, stow_tt, stow_fv, stow_ft, eqD_int, cmp_ne, cmp_eq, cmp_gt, cmp_ge, cmp_lt, cmp_le, cmp_in, cmp_notin, cmp_is, cmp_isnot, bin_add, bin_sub, b1_abs, ix0, ix1, items_lst, items_row, put, List.map_cons, List.map_nil, List.cons_append, List.nil_append, List.append_nil, List.length_cons, List.length_nil, List.replicate, List.getElem?_cons_zero, List.getElem?_cons_succ, List.getElem?_nil, List.set_cons_zero, List.set_cons_succ, List.set_nil, Nat.reduceAdd, Nat.reduceSub, Nat.reduceLT, Nat.reduceEqDiff, if_true, ite_true, if_false, ite_false, Option.map_some, Option.map_none, reduceIte, reduceCtorEq, Bool.false_eq_true, Nat.zero_add, Nat.add_zero, Nat.zero_lt_succ, Nat.zero_lt_one, Nat.lt_add_left_iff_pos, Nat.succ_eq_add_one, Nat.reduceLeDiff, ixF0, ixF1, bin_mul m1, bin_mul m3, e]
theorem g_added_ok {A B C : Nat} {a b : List Rat} {m : Rat} (ha : bds A a) (hb : bds B b) (hm : bd C m) (h : A + (B + C) < 8999) (hl : a.length ≤ 1000) (s : List Int) : g_added [row a, row b, F m] s = .ok (row (radd a b m)) s := by
  refine fnR_rt ?_
  unfold c_added
  have hz : evI (S := List Int) false (.zip (.var 0) (.var 1)) [.va (row a), .va (row b), .va (F m), .no, .no] s = .ok ((a.zip b).map fun p => .tup [F p.1, F p.2]) s := by
    simp only [fnR, runs, run, ev, evA, evT, evI, bindq_ok, ob_ok, sq_nx, sq_rt, onO_some, liftO_some, kd_some, dat_v, dat_t, tru_bl, intOf_int, noExq, stk_v, stk_t, stk_o, stow_tt, stow_fv, stow_ft, eqD_int, cmp_ne, cmp_eq, cmp_gt, cmp_ge, cmp_lt, cmp_le, cmp_in, cmp_notin, cmp_is, cmp_isnot, bin_add, bin_sub, b1_abs, ix0, ix1, items_lst, items_row, put, List.map_cons, List.map_nil, List.cons_append, List.nil_append, List.append_nil, List.length_cons, List.length_nil, List.replicate, List.getElem?_cons_zero, List.getElem?_cons_succ, List.getElem?_nil, List.set_cons_zero, List.set_cons_succ, List.set_nil, Nat.reduceAdd, Nat.reduceSub, Nat.reduceLT, Nat.reduceEqDiff, if_true, ite_true, if_false, ite_false, Option.map_some, Option.map_none, reduceIte, reduceCtorEq, Bool.false_eq_true, Nat.zero_add, Nat.add_zero, Nat.zero_lt_succ, Nat.zero_lt_one, Nat.lt_add_left_iff_pos, Nat.succ_eq_add_one, Nat.reduceLeDiff]
    show liftO s (some (zipD (a.map F) (b.map F))) = _
    rw [zipD_map]
    rfl
  rw [runs_cons, run]
  show ((ev (.b1 .tuple (.lc (.zip (.var 0) (.var 1)) _ _ _ _)) [.va (row a), .va (row b), .va (F m), .no, .no] s).ob _).sq _ = _
  rw [ev, ev_lc (g := fun p : Rat × Rat => F (p.1 + p.2 * m)) hz (by rw [List.length_zip]; omega) fun p hp => ⟨_, rfl, .v, nofun, ?_⟩]
  · have e : ((a.zip b).map fun p : Rat × Rat => F (p.1 + p.2 * m)) = (radd a b m).map F := by unfold radd; rw [List.map_map]; rfl
    rw [e]
    rfl
  · have hm' := List.of_mem_zip hp
    have hx := ha _ hm'.1
    have hy := hb _ hm'.2
    simp only [wipeR, fnR, runs, run, ev, evA, evT, evI, bindq_ok, ob_ok, sq_nx, sq_rt, onO_some, liftO_some, kd_some, dat_v, dat_t, tru_bl, intOf_int, noExq, stk_v, stk_t, stk_o, stow_tt, stow_fv, stow_ft, eqD_int, cmp_ne, cmp_eq, cmp_gt, cmp_ge, cmp_lt, cmp_le, cmp_in, cmp_notin, cmp_is, cmp_isnot, bin_add, bin_sub, b1_abs, ix0, ix1, items_lst, items_row, put, List.map_cons, List.map_nil, List.cons_append, List.nil_append, List.append_nil, List.length_cons, List.length_nil, List.replicate, List.getElem?_cons_zero, List.getElem?_cons_succ, List.getElem?_nil, List.set_cons_zero, List.set_cons_succ, List.set_nil, Nat.reduceAdd, Nat.reduceSub, Nat.reduceLT, Nat.reduceEqDiff, if_true, ite_true, if_false, ite_false, Option.map_some, Option.map_none, reduceIte, reduceCtorEq, Bool.false_eq_true, Nat.zero_add, Nat.add_zero, Nat.zero_lt_succ, Nat.zero_lt_one, Nat.lt_add_left_iff_pos, Nat.succ_eq_add_one, Nat.reduceLeDiff, g_times_ok hy hm (by omega), g_plus_ok hx (bd_times hy hm) h]
end Mf
set_option Elab.async false
set_option linter.all false
set_option maxRecDepth 100000
set_option maxHeartbeats 1000000
namespace Mf
open PySem L2
theorem zero_F : d_ZERO = F 0 := rfl
/-! ### reduced -/
theorem red_row {B W : Nat} {r h : List Rat} {p : Nat} (hr : r.length = W) (hb : bds B r) (hh : bds (B + B) h) (hp : p < W) (hB : 4 * B + 2 < 8999) (hW : W ≤ 1000) (s : List Int) {ρ : List SV} (h7 : ρ[7]? = some (.va (row r))) (h6 : ρ[6]? = some (.va (row h))) (h4 : ρ[4]? = some (.va (.int (p : Int)))) :
    ev (.call "added" 3 g_added (.cons (.var 7) (.cons (.var 6) (.cons (.call "times" 2 g_times (.cons (.ix (.var 7) (.var 4)) (.cons (.tup (.cons (.neg (.con (.int 1))) (.cons (.con (.int 1)) .nil))) .nil))) .nil)))) ρ s = .ok (.v, row (rneg r h p)) s := by
  have hx := hb _ (getD_mem (show p < r.length by omega))
  simp only [fnR, runs, run, ev, evA, evT, evI, bindq_ok, ob_ok, sq_nx, sq_rt, onO_some, liftO_some, kd_some, dat_v, dat_t, tru_bl, intOf_int, noExq, stk_v, stk_t, stk_o, stow_tt, stow_fv, stow_ft, eqD_int, cmp_ne, cmp_eq, cmp_gt, cmp_ge, cmp_lt, cmp_le, cmp_in, cmp_notin, cmp_is, cmp_isnot, bin_add, bin_sub, b1_abs, ix0, ix1, items_lst, items_row, put, List.map_cons, List.map_nil, List.cons_append, List.nil_append, List.append_nil, List.length_cons, List.length_nil, List.replicate, List.getElem?_cons_zero, List.getElem?_cons_succ, List.getElem?_nil, List.set_cons_zero, List.set_cons_succ, List.set_nil, Nat.reduceAdd, Nat.reduceSub, Nat.reduceLT, Nat.reduceEqDiff, if_true, ite_true, if_false, ite_false, Option.map_some, Option.map_none, reduceIte, reduceCtorEq, Bool.false_eq_true, Nat.zero_add, Nat.add_zero, Nat.zero_lt_succ, Nat.zero_lt_one, Nat.lt_add_left_iff_pos, Nat.succ_eq_add_one, Nat.reduceLeDiff, h7, h6, h4, ix_row (show p < r.length by omega), lenOk_of (show 2 ≤ 1000000 by decide), F_neg1, g_times_ok hx bd_neg1 (by omega), g_added_ok hb hh (bd_times hx bd_neg1) (by omega) (by omega)]
  rfl
theorem red_turn {B W : Nat} {st : List (List Rat) × List (List Rat)} {p : Nat} {a0 a1 x5 x6 : SV} (h1 : RV B W st.1) (h2 : RV B W st.2) (hp : p < W) (hB : 4 * B + 2 < 8999) (hW : W ≤ 1000) (hl : st.1.length + st.2.length ≤ 1000) (s : List Int) :
    ∃ y5 y6, runs b_reduced_0 [a0, a1, .va (rows st.1), .ow (rows st.2), .va (.int (p : Int)), x5, x6, .no, .no] s = .nx [a0, a1, .va (rows (redStep st p).1), .ow (rows (redStep st p).2), .va (.int (p : Int)), y5, y6, .no, .no] s := by
  unfold b_reduced_0
  rw [runs_cons, run, ev_lcf (l := st.2) (e := row) (g := row) (t := fun r => decide (r.getD p 0 ≠ 0)) (by simp only [rows, fnR, runs, run, ev, evA, evT, evI, bindq_ok, ob_ok, sq_nx, sq_rt, onO_some, liftO_some, kd_some, dat_v, dat_t, tru_bl, intOf_int, noExq, stk_v, stk_t, stk_o, stow_tt, stow_fv, stow_ft, eqD_int, cmp_ne, cmp_eq, cmp_gt, cmp_ge, cmp_lt, cmp_le, cmp_in, cmp_notin, cmp_is, cmp_isnot, bin_add, bin_sub, b1_abs, ix0, ix1, items_lst, items_row, put, List.map_cons, List.map_nil, List.cons_append, List.nil_append, List.append_nil, List.length_cons, List.length_nil, List.replicate, List.getElem?_cons_zero, List.getElem?_cons_succ, List.getElem?_nil, List.set_cons_zero, List.set_cons_succ, List.set_nil, Nat.reduceAdd, Nat.reduceSub, Nat.reduceLT, Nat.reduceEqDiff, if_true, ite_true, if_false, ite_false, Option.map_some, Option.map_none, reduceIte, reduceCtorEq, Bool.false_eq_true, Nat.zero_add, Nat.add_zero, Nat.zero_lt_succ, Nat.zero_lt_one, Nat.lt_add_left_iff_pos, Nat.succ_eq_add_one, Nat.reduceLeDiff]) (by omega) fun r hr => ⟨_, rfl, ⟨.v, ?_⟩, fun _ => ⟨.v, nofun, ?_⟩⟩]
  rotate_left
  · simp only [wipeR, fnR, runs, run, ev, evA, evT, evI, bindq_ok, ob_ok, sq_nx, sq_rt, onO_some, liftO_some, kd_some, dat_v, dat_t, tru_bl, intOf_int, noExq, stk_v, stk_t, stk_o, stow_tt, stow_fv, stow_ft, eqD_int, cmp_ne, cmp_eq, cmp_gt, cmp_ge, cmp_lt, cmp_le, cmp_in, cmp_notin, cmp_is, cmp_isnot, bin_add, bin_sub, b1_abs, ix0, ix1, items_lst, items_row, put, List.map_cons, List.map_nil, List.cons_append, List.nil_append, List.append_nil, List.length_cons, List.length_nil, List.replicate, List.getElem?_cons_zero, List.getElem?_cons_succ, List.getElem?_nil, List.set_cons_zero, List.set_cons_succ, List.set_nil, Nat.reduceAdd, Nat.reduceSub, Nat.reduceLT, Nat.reduceEqDiff, if_true, ite_true, if_false, ite_false, Option.map_some, Option.map_none, reduceIte, reduceCtorEq, Bool.false_eq_true, Nat.zero_add, Nat.add_zero, Nat.zero_lt_succ, Nat.zero_lt_one, Nat.lt_add_left_iff_pos, Nat.succ_eq_add_one, Nat.reduceLeDiff, ix_row (show p < r.length by rw [(h2 r hr).1]; exact hp), zero_F, eqD_F, decide_not]
  · simp only [wipeR, fnR, runs, run, ev, evA, evT, evI, bindq_ok, ob_ok, sq_nx, sq_rt, onO_some, liftO_some, kd_some, dat_v, dat_t, tru_bl, intOf_int, noExq, stk_v, stk_t, stk_o, stow_tt, stow_fv, stow_ft, eqD_int, cmp_ne, cmp_eq, cmp_gt, cmp_ge, cmp_lt, cmp_le, cmp_in, cmp_notin, cmp_is, cmp_isnot, bin_add, bin_sub, b1_abs, ix0, ix1, items_lst, items_row, put, List.map_cons, List.map_nil, List.cons_append, List.nil_append, List.append_nil, List.length_cons, List.length_nil, List.replicate, List.getElem?_cons_zero, List.getElem?_cons_succ, List.getElem?_nil, List.set_cons_zero, List.set_cons_succ, List.set_nil, Nat.reduceAdd, Nat.reduceSub, Nat.reduceLT, Nat.reduceEqDiff, if_true, ite_true, if_false, ite_false, Option.map_some, Option.map_none, reduceIte, reduceCtorEq, Bool.false_eq_true, Nat.zero_add, Nat.add_zero, Nat.zero_lt_succ, Nat.zero_lt_one, Nat.lt_add_left_iff_pos, Nat.succ_eq_add_one, Nat.reduceLeDiff]
  simp only [ob_ok, stow_ft, onO_some, put, List.length_cons, List.length_nil, Nat.reduceAdd, Nat.reduceLT, if_true, List.set_cons_succ, List.set_cons_zero, sq_nx]
  rw [runs_cons, run_ife]
  have et : (ev (.cmp .ne (.var 5) (.lst .nil)) [a0, a1, .va (rows st.1), .ow (rows st.2), .va (.int (p : Int)), .va (.lst ((st.2.filter fun r => decide (r.getD p 0 ≠ 0)).map row)), x6, .no, .no] s).bind tru = .ok (!(st.2.filter fun r => decide (r.getD p 0 ≠ 0)).isEmpty) s := by
    simp only [fnR, runs, run, ev, evA, evT, evI, bindq_ok, ob_ok, sq_nx, sq_rt, onO_some, liftO_some, kd_some, dat_v, dat_t, tru_bl, intOf_int, noExq, stk_v, stk_t, stk_o, stow_tt, stow_fv, stow_ft, eqD_int, cmp_ne, cmp_eq, cmp_gt, cmp_ge, cmp_lt, cmp_le, cmp_in, cmp_notin, cmp_is, cmp_isnot, bin_add, bin_sub, b1_abs, ix0, ix1, items_lst, items_row, put, List.map_cons, List.map_nil, List.cons_append, List.nil_append, List.append_nil, List.length_cons, List.length_nil, List.replicate, List.getElem?_cons_zero, List.getElem?_cons_succ, List.getElem?_nil, List.set_cons_zero, List.set_cons_succ, List.set_nil, Nat.reduceAdd, Nat.reduceSub, Nat.reduceLT, Nat.reduceEqDiff, if_true, ite_true, if_false, ite_false, Option.map_some, Option.map_none, reduceIte, reduceCtorEq, Bool.false_eq_true, Nat.zero_add, Nat.add_zero, Nat.zero_lt_succ, Nat.zero_lt_one, Nat.lt_add_left_iff_pos, Nat.succ_eq_add_one, Nat.reduceLeDiff, lenOk_of (show 0 ≤ 1000000 by decide), eqD_nil]
  rw [et, ob_ok]
  cases hf : st.2.filter (fun r => decide (r.getD p 0 ≠ 0)) with
  | nil =>
    refine ⟨.va (.lst []), x6, ?_⟩
    have : redStep st p = st := by unfold redStep; rw [hf]
    rw [this]
    simp only [List.isEmpty_nil, Bool.not_true, Bool.false_eq_true, if_false, runs_nil, sq_nx, List.map_nil]
  | cons h t =>
    have hm : h ∈ st.2.filter (fun r => decide (r.getD p 0 ≠ 0)) := by rw [hf]; exact List.mem_cons_self
    obtain ⟨hm1, hm2⟩ := List.mem_filter.mp hm
    have h0 : h.getD p 0 ≠ 0 := of_decide_eq_true hm2
    obtain ⟨hw, hb⟩ := h2 h hm1
    have hh := head_bd hw hb hp h0
    have er : redStep st p = (st.1.map (fun r => rneg r (h.map (· / h.getD p 0)) p) ++ [h.map (· / h.getD p 0)], (st.2.erase h).map fun r => rneg r (h.map (· / h.getD p 0)) p) := by unfold redStep; rw [hf]
    rw [er]
    refine ⟨.va (.lst (row h :: t.map row)), .va (row (h.map (· / h.getD p 0))), ?_⟩
    simp only [List.isEmpty_cons, Bool.not_false, if_true, List.map_cons]
    have i0 : ∀ ds : List D, ixD (.lst (row h :: ds)) (.int 0) = some (row h) := fun ds => by
      show atI (row h :: ds) ((0 : Nat) : Int) = _
      exact atI_nat rfl
    -- head
    rw [runs_cons, run, ev, ev_lc (l := h) (e := F) (g := fun x => F (x / h.getD p 0)) (by simp only [fnR, runs, run, ev, evA, evT, evI, bindq_ok, ob_ok, sq_nx, sq_rt, onO_some, liftO_some, kd_some, dat_v, dat_t, tru_bl, intOf_int, noExq, stk_v, stk_t, stk_o, stow_tt, stow_fv, stow_ft, eqD_int, cmp_ne, cmp_eq, cmp_gt, cmp_ge, cmp_lt, cmp_le, cmp_in, cmp_notin, cmp_is, cmp_isnot, bin_add, bin_sub, b1_abs, ix0, ix1, items_lst, items_row, put, List.map_cons, List.map_nil, List.cons_append, List.nil_append, List.append_nil, List.length_cons, List.length_nil, List.replicate, List.getElem?_cons_zero, List.getElem?_cons_succ, List.getElem?_nil, List.set_cons_zero, List.set_cons_succ, List.set_nil, Nat.reduceAdd, Nat.reduceSub, Nat.reduceLT, Nat.reduceEqDiff, if_true, ite_true, if_false, ite_false, Option.map_some, Option.map_none, reduceIte, reduceCtorEq, Bool.false_eq_true, Nat.zero_add, Nat.add_zero, Nat.zero_lt_succ, Nat.zero_lt_one, Nat.lt_add_left_iff_pos, Nat.succ_eq_add_one, Nat.reduceLeDiff, i0]) (by omega) fun x hx => ⟨_, rfl, .v, nofun, ?_⟩]
    rotate_left
    · simp only [wipeR, fnR, runs, run, ev, evA, evT, evI, bindq_ok, ob_ok, sq_nx, sq_rt, onO_some, liftO_some, kd_some, dat_v, dat_t, tru_bl, intOf_int, noExq, stk_v, stk_t, stk_o, stow_tt, stow_fv, stow_ft, eqD_int, cmp_ne, cmp_eq, cmp_gt, cmp_ge, cmp_lt, cmp_le, cmp_in, cmp_notin, cmp_is, cmp_isnot, bin_add, bin_sub, b1_abs, ix0, ix1, items_lst, items_row, put, List.map_cons, List.map_nil, List.cons_append, List.nil_append, List.append_nil, List.length_cons, List.length_nil, List.replicate, List.getElem?_cons_zero, List.getElem?_cons_succ, List.getElem?_nil, List.set_cons_zero, List.set_cons_succ, List.set_nil, Nat.reduceAdd, Nat.reduceSub, Nat.reduceLT, Nat.reduceEqDiff, if_true, ite_true, if_false, ite_false, Option.map_some, Option.map_none, reduceIte, reduceCtorEq, Bool.false_eq_true, Nat.zero_add, Nat.add_zero, Nat.zero_lt_succ, Nat.zero_lt_one, Nat.lt_add_left_iff_pos, Nat.succ_eq_add_one, Nat.reduceLeDiff, i0, ix_row (show p < h.length by omega), g_over_ok (hb x hx) (hb _ (getD_mem (show p < h.length by omega))) h0 (by omega)]
    have e2 : (h.map fun x => F (x / h.getD p 0)) = (h.map (· / h.getD p 0)).map F := by rw [List.map_map]; rfl
    rw [e2]
    simp only [bindq_ok, b1D, liftO_some, ob_ok, stow_fv, onO_some, put, List.length_cons, List.length_nil, Nat.reduceAdd, Nat.reduceLT, if_true, List.set_cons_succ, List.set_cons_zero, sq_nx]
    -- remove
    obtain ⟨j, hj1, hj2⟩ := erase_row hm1
    rw [runs_cons, run]
    have eo : ownL [a0, a1, .va (rows st.1), .ow (rows st.2), .va (.int (p : Int)), .va (.lst (row h :: t.map row)), .va (.tup ((h.map (· / h.getD p 0)).map F)), .no, .no] 3 = some (st.2.map row) := rfl
    rw [eo, onO_some]
    have e3 : ev (.ix (.var 5) (.con (.int 0))) [a0, a1, .va (rows st.1), .ow (rows st.2), .va (.int (p : Int)), .va (.lst (row h :: t.map row)), .va (.tup ((h.map (· / h.getD p 0)).map F)), .no, .no] s = .ok (.v, row h) s := by simp only [fnR, runs, run, ev, evA, evT, evI, bindq_ok, ob_ok, sq_nx, sq_rt, onO_some, liftO_some, kd_some, dat_v, dat_t, tru_bl, intOf_int, noExq, stk_v, stk_t, stk_o, stow_tt, stow_fv, stow_ft, eqD_int, cmp_ne, cmp_eq, cmp_gt, cmp_ge, cmp_lt, cmp_le, cmp_in, cmp_notin, cmp_is, cmp_isnot, bin_add, bin_sub, b1_abs, ix0, ix1, items_lst, items_row, put, List.map_cons, List.map_nil, List.cons_append, List.nil_append, List.append_nil, List.length_cons, List.length_nil, List.replicate, List.getElem?_cons_zero, List.getElem?_cons_succ, List.getElem?_nil, List.set_cons_zero, List.set_cons_succ, List.set_nil, Nat.reduceAdd, Nat.reduceSub, Nat.reduceLT, Nat.reduceEqDiff, if_true, ite_true, if_false, ite_false, Option.map_some, Option.map_none, reduceIte, reduceCtorEq, Bool.false_eq_true, Nat.zero_add, Nat.add_zero, Nat.zero_lt_succ, Nat.zero_lt_one, Nat.lt_add_left_iff_pos, Nat.succ_eq_add_one, Nat.reduceLeDiff, i0]
    rw [e3]
    simp only [ob_ok, sh_row 58 h, shs_rows 57 st.2, Bool.and_self, if_true, find_row, hj1, onO_some, hj2, List.set_cons_succ, List.set_cons_zero, sq_nx]
    -- left
    rw [runs_cons, run, ev_lc (l := st.2.erase h) (e := row) (g := fun r => row (rneg r (h.map (· / h.getD p 0)) p)) (by simp only [fnR, runs, run, ev, evA, evT, evI, bindq_ok, ob_ok, sq_nx, sq_rt, onO_some, liftO_some, kd_some, dat_v, dat_t, tru_bl, intOf_int, noExq, stk_v, stk_t, stk_o, stow_tt, stow_fv, stow_ft, eqD_int, cmp_ne, cmp_eq, cmp_gt, cmp_ge, cmp_lt, cmp_le, cmp_in, cmp_notin, cmp_is, cmp_isnot, bin_add, bin_sub, b1_abs, ix0, ix1, items_lst, items_row, put, List.map_cons, List.map_nil, List.cons_append, List.nil_append, List.append_nil, List.length_cons, List.length_nil, List.replicate, List.getElem?_cons_zero, List.getElem?_cons_succ, List.getElem?_nil, List.set_cons_zero, List.set_cons_succ, List.set_nil, Nat.reduceAdd, Nat.reduceSub, Nat.reduceLT, Nat.reduceEqDiff, if_true, ite_true, if_false, ite_false, Option.map_some, Option.map_none, reduceIte, reduceCtorEq, Bool.false_eq_true, Nat.zero_add, Nat.add_zero, Nat.zero_lt_succ, Nat.zero_lt_one, Nat.lt_add_left_iff_pos, Nat.succ_eq_add_one, Nat.reduceLeDiff]) (by have := List.length_erase_of_mem hm1; omega) fun r hr => ⟨_, rfl, .v, nofun, ?_⟩]
    rotate_left
    · have hr' := List.mem_of_mem_erase hr
      exact red_row (h2 r hr').1 (h2 r hr').2 hh hp hB hW s rfl rfl rfl
    simp only [bindq_ok, ob_ok, stow_tt, onO_some, put, List.length_cons, List.length_nil, Nat.reduceAdd, Nat.reduceLT, if_true, List.set_cons_succ, List.set_cons_zero, sq_nx]
    rw [runs_cons, run, ev, ev_lc (l := st.1) (e := row) (g := fun r => row (rneg r (h.map (· / h.getD p 0)) p)) (by simp only [rows, fnR, runs, run, ev, evA, evT, evI, bindq_ok, ob_ok, sq_nx, sq_rt, onO_some, liftO_some, kd_some, dat_v, dat_t, tru_bl, intOf_int, noExq, stk_v, stk_t, stk_o, stow_tt, stow_fv, stow_ft, eqD_int, cmp_ne, cmp_eq, cmp_gt, cmp_ge, cmp_lt, cmp_le, cmp_in, cmp_notin, cmp_is, cmp_isnot, bin_add, bin_sub, b1_abs, ix0, ix1, items_lst, items_row, put, List.map_cons, List.map_nil, List.cons_append, List.nil_append, List.append_nil, List.length_cons, List.length_nil, List.replicate, List.getElem?_cons_zero, List.getElem?_cons_succ, List.getElem?_nil, List.set_cons_zero, List.set_cons_succ, List.set_nil, Nat.reduceAdd, Nat.reduceSub, Nat.reduceLT, Nat.reduceEqDiff, if_true, ite_true, if_false, ite_false, Option.map_some, Option.map_none, reduceIte, reduceCtorEq, Bool.false_eq_true, Nat.zero_add, Nat.add_zero, Nat.zero_lt_succ, Nat.zero_lt_one, Nat.lt_add_left_iff_pos, Nat.succ_eq_add_one, Nat.reduceLeDiff]) (by omega) fun r hr => ⟨_, rfl, .v, nofun, ?_⟩]
    rotate_left
    · exact red_row (h1 r hr).1 (h1 r hr).2 hh hp hB hW s rfl rfl rfl
    have hlen : lenOk ((st.1.map fun r => row (rneg r (h.map (· / h.getD p 0)) p)).length + 1) = true := lenOk_of (by rw [List.length_map]; omega)
    simp only [fnR, runs, run, ev, evA, evT, evI, bindq_ok, ob_ok, sq_nx, sq_rt, onO_some, liftO_some, kd_some, dat_v, dat_t, tru_bl, intOf_int, noExq, stk_v, stk_t, stk_o, stow_tt, stow_fv, stow_ft, eqD_int, cmp_ne, cmp_eq, cmp_gt, cmp_ge, cmp_lt, cmp_le, cmp_in, cmp_notin, cmp_is, cmp_isnot, bin_add, bin_sub, b1_abs, ix0, ix1, items_lst, items_row, put, List.map_cons, List.map_nil, List.cons_append, List.nil_append, List.append_nil, List.length_cons, List.length_nil, List.replicate, List.getElem?_cons_zero, List.getElem?_cons_succ, List.getElem?_nil, List.set_cons_zero, List.set_cons_succ, List.set_nil, Nat.reduceAdd, Nat.reduceSub, Nat.reduceLT, Nat.reduceEqDiff, if_true, ite_true, if_false, ite_false, Option.map_some, Option.map_none, reduceIte, reduceCtorEq, Bool.false_eq_true, Nat.zero_add, Nat.add_zero, Nat.zero_lt_succ, Nat.zero_lt_one, Nat.lt_add_left_iff_pos, Nat.succ_eq_add_one, Nat.reduceLeDiff, lenOk_of (show 1 ≤ 1000000 by decide), binD, hlen]
    simp only [rows, row, List.map_append, List.map_map, List.map_cons, List.map_nil]
    rfl
theorem g_reduced_ok {B W n : Nat} {l : List (List Rat)} (hl : RV B W l) (hn : n ≤ W) (hW : W ≤ 1000) (hB : bt B l.length < 2000) (hll : l.length ≤ 900) (s : List Int) :
    g_reduced [rows l, .int (n : Int)] s = .ok (.tup [rows (redQ l n).1, rows (redQ l n).2]) s := by
  refine fnR_rt ?_
  unfold c_reduced
  rw [runs_cons]
  have e1 : run (S := List Int) (.par false true 2 3 (.lst .nil) (.b1 .list (.var 0))) [.va (rows l), .va (.int (n : Int)), .no, .no, .no, .no, .no, .no, .no] s = .nx [.va (rows l), .va (.int (n : Int)), .va (rows []), .ow (rows l), .no, .no, .no, .no, .no] s := by
    simp only [fnR, runs, run, ev, evA, evT, evI, bindq_ok, ob_ok, sq_nx, sq_rt, onO_some, liftO_some, kd_some, dat_v, dat_t, tru_bl, intOf_int, noExq, stk_v, stk_t, stk_o, stow_tt, stow_fv, stow_ft, eqD_int, cmp_ne, cmp_eq, cmp_gt, cmp_ge, cmp_lt, cmp_le, cmp_in, cmp_notin, cmp_is, cmp_isnot, bin_add, bin_sub, b1_abs, ix0, ix1, items_lst, items_row, put, List.map_cons, List.map_nil, List.cons_append, List.nil_append, List.append_nil, List.length_cons, List.length_nil, List.replicate, List.getElem?_cons_zero, List.getElem?_cons_succ, List.getElem?_nil, List.set_cons_zero, List.set_cons_succ, List.set_nil, Nat.reduceAdd, Nat.reduceSub, Nat.reduceLT, Nat.reduceEqDiff, if_true, ite_true, if_false, ite_false, Option.map_some, Option.map_none, reduceIte, reduceCtorEq, Bool.false_eq_true, Nat.zero_add, Nat.add_zero, Nat.zero_lt_succ, Nat.zero_lt_one, Nat.lt_add_left_iff_pos, Nat.succ_eq_add_one, Nat.reduceLeDiff, lenOk_of (show 0 ≤ 1000000 by decide), rows, b1D]
  show (run _ [.va (rows l), .va (.int (n : Int)), .no, .no, .no, .no, .no, .no, .no] s).sq _ = _
  rw [e1, sq_nx, runs_cons, run_for]
  have e2 : evI (S := List Int) true (.rng (.var 1)) [.va (rows l), .va (.int (n : Int)), .va (rows []), .ow (rows l), .no, .no, .no, .no, .no] s = .ok ((List.range n).map fun (i : Nat) => D.int (i : Int)) s := by
    simp only [fnR, runs, run, ev, evA, evT, evI, bindq_ok, ob_ok, sq_nx, sq_rt, onO_some, liftO_some, kd_some, dat_v, dat_t, tru_bl, intOf_int, noExq, stk_v, stk_t, stk_o, stow_tt, stow_fv, stow_ft, eqD_int, cmp_ne, cmp_eq, cmp_gt, cmp_ge, cmp_lt, cmp_le, cmp_in, cmp_notin, cmp_is, cmp_isnot, bin_add, bin_sub, b1_abs, ix0, ix1, items_lst, items_row, put, List.map_cons, List.map_nil, List.cons_append, List.nil_append, List.append_nil, List.length_cons, List.length_nil, List.replicate, List.getElem?_cons_zero, List.getElem?_cons_succ, List.getElem?_nil, List.set_cons_zero, List.set_cons_succ, List.set_nil, Nat.reduceAdd, Nat.reduceSub, Nat.reduceLT, Nat.reduceEqDiff, if_true, ite_true, if_false, ite_false, Option.map_some, Option.map_none, reduceIte, reduceCtorEq, Bool.false_eq_true, Nat.zero_add, Nat.add_zero, Nat.zero_lt_succ, Nat.zero_lt_one, Nat.lt_add_left_iff_pos, Nat.succ_eq_add_one, Nat.reduceLeDiff, decide_eq_true (show (-1000000 : Int) ≤ n by omega), decide_eq_true (show (n : Int) ≤ 1000000 by omega), Bool.and_self, rngD, Int.toNat_natCast]
  rw [e2, ob_ok]
  have mono : ∀ j k, j ≤ k → bt B j ≤ bt B k := fun j k h => by
    induction h with
    | refl => exact Nat.le_refl _
    | step _ ih => exact Nat.le_trans ih (by show _ ≤ 4 * bt B _ + 2; omega)
  obtain ⟨ρ', s', hf, st, x4, x5, x6, rfl, rfl, hst, _⟩ := forR_ind (e := fun (i : Nat) => D.int (i : Int)) (P := fun (ps : List Nat) ρ s' => ∃ (st : List (List Rat) × List (List Rat)) (x4 x5 x6 : SV), ρ = [.va (rows l), .va (.int (n : Int)), .va (rows st.1), .ow (rows st.2), x4, x5, x6, .no, .no] ∧ s' = s ∧ ps.foldl redStep st = redQ l n ∧
      (∀ p ∈ ps, p < W) ∧ ∃ j, RV (bt B j) W st.1 ∧ RV (bt B j) W st.2 ∧ st.2.length + j = l.length ∧ st.1.length = j) (f := fun d ρ s => onO (asgT (.nm 4) d ρ) fun ρ' => runs b_reduced_0 ρ' s) (fun p ps ρ s1 hP => by
    obtain ⟨st, x4, x5, x6, rfl, rfl, hst, hps, j, r1, r2, hj, hj1⟩ := hP
    have hpw := hps p List.mem_cons_self
    have hbj : bt B (j + 1) ≤ bt B l.length ∨ st.2.length = 0 := by
      by_cases z : st.2.length = 0
      · exact .inr z
      · exact .inl (mono _ _ (by omega))
    have hB4 : 4 * bt B j + 2 < 8999 := by
      have := mono j l.length (by omega)
      omega
    obtain ⟨y5, y6, ht⟩ := red_turn (a0 := .va (rows l)) (a1 := .va (.int (n : Int))) (x5 := x5) (x6 := x6) r1 r2 hpw hB4 hW (by omega) s1
    refine ⟨_, _, ?_, redStep st p, .va (.int (p : Int)), y5, y6, rfl, rfl, hst, fun q hq => hps q (List.mem_cons_of_mem _ hq), ?_⟩
    · exact ht
    · rcases redStep_inv r1 r2 hpw with e | ⟨q1, q2, q3, q4⟩
      · rw [e]
        exact ⟨j, r1, r2, hj, hj1⟩
      · exact ⟨j + 1, q1, q2, by omega, by omega⟩) (List.range n) _ s ⟨([], l), .no, .no, .no, rfl, rfl, rfl, fun p hp => by have := List.mem_range.mp hp; omega, 0, fun r hr => (nomatch hr), hl, rfl, rfl⟩
  have hst : st = redQ l n := hst
  subst hst
  rw [hf, sq_nx, runs_cons]
  have e5 : run (S := List Int) (.frz 3 (.ret (.tup (.cons (.var 2) (.cons (.var 3) .nil))))) [.va (rows l), .va (.int (n : Int)), .va (rows (redQ l n).1), .ow (rows (redQ l n).2), x4, x5, x6, .no, .no] s' = .rt (.tup [rows (redQ l n).1, rows (redQ l n).2]) s' := by
    simp only [fnR, runs, run, ev, evA, evT, evI, bindq_ok, ob_ok, sq_nx, sq_rt, onO_some, liftO_some, kd_some, dat_v, dat_t, tru_bl, intOf_int, noExq, stk_v, stk_t, stk_o, stow_tt, stow_fv, stow_ft, eqD_int, cmp_ne, cmp_eq, cmp_gt, cmp_ge, cmp_lt, cmp_le, cmp_in, cmp_notin, cmp_is, cmp_isnot, bin_add, bin_sub, b1_abs, ix0, ix1, items_lst, items_row, put, List.map_cons, List.map_nil, List.cons_append, List.nil_append, List.append_nil, List.length_cons, List.length_nil, List.replicate, List.getElem?_cons_zero, List.getElem?_cons_succ, List.getElem?_nil, List.set_cons_zero, List.set_cons_succ, List.set_nil, Nat.reduceAdd, Nat.reduceSub, Nat.reduceLT, Nat.reduceEqDiff, if_true, ite_true, if_false, ite_false, Option.map_some, Option.map_none, reduceIte, reduceCtorEq, Bool.false_eq_true, Nat.zero_add, Nat.add_zero, Nat.zero_lt_succ, Nat.zero_lt_one, Nat.lt_add_left_iff_pos, Nat.succ_eq_add_one, Nat.reduceLeDiff, lenOk_of (show 2 ≤ 1000000 by decide)]
  rw [e5, sq_rt]
end Mf
set_option Elab.async false
set_option linter.all false
set_option maxRecDepth 100000
set_option maxHeartbeats 1000000
namespace Mf
open PySem L2
/-! ### the law's own fractions -/
theorem lfrac_loop (s : List Int) (x y : SV) : ∀ (n : Nat) (a b : Int), 0 ≤ a → 0 ≤ b → b.natAbs < n →
    whlR (fun ρ s => (ev (.cmp .gt (.var 3) (.con (.int 0))) ρ s).bind tru) (runs b__law_frac_0) n [x, y, .va (.int a), .va (.int b)] s = .nx [x, y, .va (.int (Int.gcd a b : Nat)), .va (.int 0)] s
  | 0, a, b, _, _, h => by omega
  | n + 1, a, b, ha, hb, h => by
    by_cases e : b = 0
    · subst e
      have : ((Int.gcd a 0 : Nat) : Int) = a := by rw [Int.gcd_zero_right]; omega
      simp only [whlR, b__law_frac_0, fnR, runs, run, ev, evA, evT, evI, bindq_ok, ob_ok, sq_nx, sq_rt, onO_some, liftO_some, kd_some, dat_v, dat_t, tru_bl, intOf_int, noExq, stk_v, stk_t, stk_o, stow_tt, stow_fv, stow_ft, eqD_int, cmp_ne, cmp_eq, cmp_gt, cmp_ge, cmp_lt, cmp_le, cmp_in, cmp_notin, cmp_is, cmp_isnot, bin_add, bin_sub, b1_abs, ix0, ix1, items_lst, items_row, put, List.map_cons, List.map_nil, List.cons_append, List.nil_append, List.append_nil, List.length_cons, List.length_nil, List.replicate, List.getElem?_cons_zero, List.getElem?_cons_succ, List.getElem?_nil, List.set_cons_zero, List.set_cons_succ, List.set_nil, Nat.reduceAdd, Nat.reduceSub, Nat.reduceLT, Nat.reduceEqDiff, if_true, ite_true, if_false, ite_false, Option.map_some, Option.map_none, reduceIte, reduceCtorEq, Bool.false_eq_true, Nat.zero_add, Nat.add_zero, Nat.zero_lt_succ, Nat.zero_lt_one, Nat.lt_add_left_iff_pos, Nat.succ_eq_add_one, Nat.reduceLeDiff, Int.lt_irrefl, decide_false, this]
    · have e0 : 0 < b := by omega
      have h1 := lfrac_loop s x y n b (a.fmod b) hb (Int.fmod_nonneg_of_pos _ e0) (by have := fmod_lt a e; omega)
      rw [gcd_fmod] at h1
      rw [← h1]
      simp only [whlR, b__law_frac_0, fnR, runs, run, ev, evA, evT, evI, bindq_ok, ob_ok, sq_nx, sq_rt, onO_some, liftO_some, kd_some, dat_v, dat_t, tru_bl, intOf_int, noExq, stk_v, stk_t, stk_o, stow_tt, stow_fv, stow_ft, eqD_int, cmp_ne, cmp_eq, cmp_gt, cmp_ge, cmp_lt, cmp_le, cmp_in, cmp_notin, cmp_is, cmp_isnot, bin_add, bin_sub, b1_abs, ix0, ix1, items_lst, items_row, put, List.map_cons, List.map_nil, List.cons_append, List.nil_append, List.append_nil, List.length_cons, List.length_nil, List.replicate, List.getElem?_cons_zero, List.getElem?_cons_succ, List.getElem?_nil, List.set_cons_zero, List.set_cons_succ, List.set_nil, Nat.reduceAdd, Nat.reduceSub, Nat.reduceLT, Nat.reduceEqDiff, if_true, ite_true, if_false, ite_false, Option.map_some, Option.map_none, reduceIte, reduceCtorEq, Bool.false_eq_true, Nat.zero_add, Nat.add_zero, Nat.zero_lt_succ, Nat.zero_lt_one, Nat.lt_add_left_iff_pos, Nat.succ_eq_add_one, Nat.reduceLeDiff, bin_mod e, e0, decide_true]
theorem g__law_frac_ok {a b : Int} {B : Nat} (hb : b ≠ 0) (hB : b.natAbs < 2 ^ B) (h9 : B < 9000) (s : List Int) : g__law_frac [.int a, .int b] s = .ok (F (Rat.divInt a b)) s := by
  obtain ⟨h1, h2⟩ := shared_ok (a := a) hb hB h9
  obtain ⟨h3, h4⟩ := frac_nd (a := a) hb
  refine fnR_rt ?_
  unfold c__law_frac
  rw [runs_cons]
  have e1 : run (S := List Int) (.par false false 2 3 (.b1 .abs (.var 1)) (.b1 .abs (.var 0))) [.va (.int a), .va (.int b), .no, .no] s = .nx [.va (.int a), .va (.int b), .va (.int (b.natAbs : Int)), .va (.int (a.natAbs : Int))] s := by simp only [fnR, runs, run, ev, evA, evT, evI, bindq_ok, ob_ok, sq_nx, sq_rt, onO_some, liftO_some, kd_some, dat_v, dat_t, tru_bl, intOf_int, noExq, stk_v, stk_t, stk_o, stow_tt, stow_fv, stow_ft, eqD_int, cmp_ne, cmp_eq, cmp_gt, cmp_ge, cmp_lt, cmp_le, cmp_in, cmp_notin, cmp_is, cmp_isnot, bin_add, bin_sub, b1_abs, ix0, ix1, items_lst, items_row, put, List.map_cons, List.map_nil, List.cons_append, List.nil_append, List.append_nil, List.length_cons, List.length_nil, List.replicate, List.getElem?_cons_zero, List.getElem?_cons_succ, List.getElem?_nil, List.set_cons_zero, List.set_cons_succ, List.set_nil, Nat.reduceAdd, Nat.reduceSub, Nat.reduceLT, Nat.reduceEqDiff, if_true, ite_true, if_false, ite_false, Option.map_some, Option.map_none, reduceIte, reduceCtorEq, Bool.false_eq_true, Nat.zero_add, Nat.add_zero, Nat.zero_lt_succ, Nat.zero_lt_one, Nat.lt_add_left_iff_pos, Nat.succ_eq_add_one, Nat.reduceLeDiff]
  show (run _ [.va (.int a), .va (.int b), .no, .no] s).sq _ = _
  rw [e1, sq_nx, runs_cons, run_whl]
  show (whlR _ _ ((a.natAbs : Int).natAbs + 1) _ s).sq _ = _
  rw [lfrac_loop s _ _ _ _ _ (by omega) (by omega) (Nat.lt_succ_self _), sq_nx]
  have eg : Int.gcd (b.natAbs : Int) (a.natAbs : Int) = Int.gcd a b := by
    rw [Int.gcd_comm]
    simp [Int.gcd]
  rw [eg]
  by_cases h : 0 < b
  · simp only [h, decide_true, if_true, Int.mul_one] at h1 h2 h3 h4
    simp only [fnR, runs, run, ev, evA, evT, evI, bindq_ok, ob_ok, sq_nx, sq_rt, onO_some, liftO_some, kd_some, dat_v, dat_t, tru_bl, intOf_int, noExq, stk_v, stk_t, stk_o, stow_tt, stow_fv, stow_ft, eqD_int, cmp_ne, cmp_eq, cmp_gt, cmp_ge, cmp_lt, cmp_le, cmp_in, cmp_notin, cmp_is, cmp_isnot, bin_add, bin_sub, b1_abs, ix0, ix1, items_lst, items_row, put, List.map_cons, List.map_nil, List.cons_append, List.nil_append, List.append_nil, List.length_cons, List.length_nil, List.replicate, List.getElem?_cons_zero, List.getElem?_cons_succ, List.getElem?_nil, List.set_cons_zero, List.set_cons_succ, List.set_nil, Nat.reduceAdd, Nat.reduceSub, Nat.reduceLT, Nat.reduceEqDiff, if_true, ite_true, if_false, ite_false, Option.map_some, Option.map_none, reduceIte, reduceCtorEq, Bool.false_eq_true, Nat.zero_add, Nat.add_zero, Nat.zero_lt_succ, Nat.zero_lt_one, Nat.lt_add_left_iff_pos, Nat.succ_eq_add_one, Nat.reduceLeDiff, h, decide_true, bin_fdv h2, h3, h4]
    rfl
  · simp only [h, decide_false, Bool.false_eq_true, if_false, Int.mul_neg, Int.mul_one] at h1 h2 h3 h4
    simp only [fnR, runs, run, ev, evA, evT, evI, bindq_ok, ob_ok, sq_nx, sq_rt, onO_some, liftO_some, kd_some, dat_v, dat_t, tru_bl, intOf_int, noExq, stk_v, stk_t, stk_o, stow_tt, stow_fv, stow_ft, eqD_int, cmp_ne, cmp_eq, cmp_gt, cmp_ge, cmp_lt, cmp_le, cmp_in, cmp_notin, cmp_is, cmp_isnot, bin_add, bin_sub, b1_abs, ix0, ix1, items_lst, items_row, put, List.map_cons, List.map_nil, List.cons_append, List.nil_append, List.append_nil, List.length_cons, List.length_nil, List.replicate, List.getElem?_cons_zero, List.getElem?_cons_succ, List.getElem?_nil, List.set_cons_zero, List.set_cons_succ, List.set_nil, Nat.reduceAdd, Nat.reduceSub, Nat.reduceLT, Nat.reduceEqDiff, if_true, ite_true, if_false, ite_false, Option.map_some, Option.map_none, reduceIte, reduceCtorEq, Bool.false_eq_true, Nat.zero_add, Nat.add_zero, Nat.zero_lt_succ, Nat.zero_lt_one, Nat.lt_add_left_iff_pos, Nat.succ_eq_add_one, Nat.reduceLeDiff, h, decide_false, bin_fdv h2, h3, h4]
    rfl
theorem g__law_plus_ok {A B : Nat} {x y : Rat} (hx : bd A x) (hy : bd B y) (h : A + B < 8999) (s : List Int) : g__law_plus [F x, F y] s = .ok (F (x + y)) s := by
  refine fnR_rt ?_
  unfold c__law_plus
  have m1 := mulOk_of hx.1 hy.den (by omega)
  have m2 := mulOk_of hy.1 hx.den (by omega)
  have m3 := mulOk_of hx.den hy.den (by omega)
  have e := g__law_frac_ok (a := x.num * y.den + y.num * x.den) (Int.mul_ne_zero (den_ne x) (den_ne y)) (mul_lt hx.den hy.den) (by omega) s
  rw [plus_eq] at e
  simp only [fnR, runs, run, ev, evA, evT, evI, bindq_ok, ob_ok, sq_nx, sq_rt, onO_some, liftO_some, kd_some, dat_v, dat_t, tru_bl, intOf_int, noExq, stk_v, stk_t, stk_o, stow_tt, stow_fv, stow_ft, eqD_int, cmp_ne, cmp_eq, cmp_gt, cmp_ge, cmp_lt, cmp_le, cmp_in, cmp_notin, cmp_is, cmp_isnot, bin_add, bin_sub, b1_abs, ix0, ix1, items_lst, items_row, put, List.map_cons, List.map_nil, List.cons_append, List.nil_append, List.append_nil, List.length_cons, List.length_nil, List.replicate, List.getElem?_cons_zero, List.getElem?_cons_succ, List.getElem?_nil, List.set_cons_zero, List.set_cons_succ, List.set_nil, Nat.reduceAdd, Nat.reduceSub, Nat.reduceLT, Nat.reduceEqDiff, if_true, ite_true, if_false, ite_false, Option.map_some, Option.map_none, reduceIte, reduceCtorEq, Bool.false_eq_true, Nat.zero_add, Nat.add_zero, Nat.zero_lt_succ, Nat.zero_lt_one, Nat.lt_add_left_iff_pos, Nat.succ_eq_add_one, Nat.reduceLeDiff, ixF0, ixF1, bin_mul m1, bin_mul m2, bin_mul m3, e]
theorem g__law_times_ok {A B : Nat} {x y : Rat} (hx : bd A x) (hy : bd B y) (h : A + B < 8999) (s : List Int) : g__law_times [F x, F y] s = .ok (F (x * y)) s := by
  refine fnR_rt ?_
  unfold c__law_times
  have m1 := mulOk_of hx.1 hy.1 (by omega)
  have m3 := mulOk_of hx.den hy.den (by omega)
  have e := g__law_frac_ok (a := x.num * y.num) (Int.mul_ne_zero (den_ne x) (den_ne y)) (mul_lt hx.den hy.den) (by omega) s
  rw [times_eq] at e
  simp only [fnR, runs, run, ev, evA, evT, evI, bindq_ok, ob_ok, sq_nx, sq_rt, onO_some, liftO_some, kd_some, dat_v, dat_t, tru_bl, intOf_int, noExq, stk_v, stk_t, stk_o, stow_tt, stow_fv, stow_ft, eqD_int, cmp_ne, cmp_eq, cmp_gt, cmp_ge, cmp_lt, cmp_le, cmp_in, cmp_notin, cmp_is, cmp_isnot, bin_add, bin_sub, b1_abs, ix0, ix1, items_lst, items_row, put, List.map_cons, List.map_nil, List.cons_append, List.nil_append, List.append_nil, List.length_cons, List.length_nil, List.replicate, List.getElem?_cons_zero, List.getElem?_cons_succ, List.getElem?_nil, List.set_cons_zero, List.set_cons_succ, List.set_nil, Nat.reduceAdd, Nat.reduceSub, Nat.reduceLT, Nat.reduceEqDiff, if_true, ite_true, if_false, ite_false, Option.map_some, Option.map_none, reduceIte, reduceCtorEq, Bool.false_eq_true, Nat.zero_add, Nat.add_zero, Nat.zero_lt_succ, Nat.zero_lt_one, Nat.lt_add_left_iff_pos, Nat.succ_eq_add_one, Nat.reduceLeDiff, ixF0, ixF1, bin_mul m1, bin_mul m3, e]
theorem g__law_all_ok {A B C : Nat} {a b : List Rat} {m : Rat} (ha : bds A a) (hb : bds B b) (hm : bd C m) (h : A + (B + C) < 8999) (hl : a.length ≤ 1000) (s : List Int) : g__law_all [row a, row b, F m] s = .ok (row (radd a b m)) s := by
  refine fnR_rt ?_
  unfold c__law_all
  have hz : evI (S := List Int) false (.zip (.var 0) (.var 1)) [.va (row a), .va (row b), .va (F m), .no, .no] s = .ok ((a.zip b).map fun p => .tup [F p.1, F p.2]) s := by
    simp only [fnR, runs, run, ev, evA, evT, evI, bindq_ok, ob_ok, sq_nx, sq_rt, onO_some, liftO_some, kd_some, dat_v, dat_t, tru_bl, intOf_int, noExq, stk_v, stk_t, stk_o, stow_tt, stow_fv, stow_ft, eqD_int, cmp_ne, cmp_eq, cmp_gt, cmp_ge, cmp_lt, cmp_le, cmp_in, cmp_notin, cmp_is, cmp_isnot, bin_add, bin_sub, b1_abs, ix0, ix1, items_lst, items_row, put, List.map_cons, List.map_nil, List.cons_append, List.nil_append, List.append_nil, List.length_cons, List.length_nil, List.replicate, List.getElem?_cons_zero, List.getElem?_cons_succ, List.getElem?_nil, List.set_cons_zero, List.set_cons_succ, List.set_nil, Nat.reduceAdd, Nat.reduceSub, Nat.reduceLT, Nat.reduceEqDiff, if_true, ite_true, if_false, ite_false, Option.map_some, Option.map_none, reduceIte, reduceCtorEq, Bool.false_eq_true, Nat.zero_add, Nat.add_zero, Nat.zero_lt_succ, Nat.zero_lt_one, Nat.lt_add_left_iff_pos, Nat.succ_eq_add_one, Nat.reduceLeDiff]
    show liftO s (some (zipD (a.map F) (b.map F))) = _
    rw [zipD_map]
    rfl
  rw [runs_cons, run]
  show ((ev (.b1 .tuple (.lc (.zip (.var 0) (.var 1)) _ _ _ _)) [.va (row a), .va (row b), .va (F m), .no, .no] s).ob _).sq _ = _
  rw [ev, ev_lc (g := fun p : Rat × Rat => F (p.1 + p.2 * m)) hz (by rw [List.length_zip]; omega) fun p hp => ⟨_, rfl, .v, nofun, ?_⟩]
  · have e : ((a.zip b).map fun p : Rat × Rat => F (p.1 + p.2 * m)) = (radd a b m).map F := by unfold radd; rw [List.map_map]; rfl
    rw [e]
    rfl
  · have hm' := List.of_mem_zip hp
    have hx := ha _ hm'.1
    have hy := hb _ hm'.2
    simp only [wipeR, fnR, runs, run, ev, evA, evT, evI, bindq_ok, ob_ok, sq_nx, sq_rt, onO_some, liftO_some, kd_some, dat_v, dat_t, tru_bl, intOf_int, noExq, stk_v, stk_t, stk_o, stow_tt, stow_fv, stow_ft, eqD_int, cmp_ne, cmp_eq, cmp_gt, cmp_ge, cmp_lt, cmp_le, cmp_in, cmp_notin, cmp_is, cmp_isnot, bin_add, bin_sub, b1_abs, ix0, ix1, items_lst, items_row, put, List.map_cons, List.map_nil, List.cons_append, List.nil_append, List.append_nil, List.length_cons, List.length_nil, List.replicate, List.getElem?_cons_zero, List.getElem?_cons_succ, List.getElem?_nil, List.set_cons_zero, List.set_cons_succ, List.set_nil, Nat.reduceAdd, Nat.reduceSub, Nat.reduceLT, Nat.reduceEqDiff, if_true, ite_true, if_false, ite_false, Option.map_some, Option.map_none, reduceIte, reduceCtorEq, Bool.false_eq_true, Nat.zero_add, Nat.add_zero, Nat.zero_lt_succ, Nat.zero_lt_one, Nat.lt_add_left_iff_pos, Nat.succ_eq_add_one, Nat.reduceLeDiff, g__law_times_ok hy hm (by omega), g__law_plus_ok hx (bd_times hy hm) h]
end Mf
set_option Elab.async false
set_option linter.all false
set_option maxRecDepth 100000
set_option maxHeartbeats 1000000
namespace Mf
open PySem L2
variable {p : Addr} {ns : List Int}
theorem len_lst (ds : List D) : b1D .len (.lst ds) = some (.v, .int ds.length) := rfl
theorem ix_lst {ds : List D} {d : Int} (h0 : 0 ≤ d) (h1 : d < ds.length) : ∃ x ∈ ds, ixD (.lst ds) (.int d) = some x := by
  obtain ⟨k, rfl⟩ := Int.eq_ofNat_of_zero_le h0
  have hk : k < ds.length := by omega
  exact ⟨ds[k], List.getElem_mem hk, atI_nat (List.getElem?_eq_getElem hk)⟩
theorem pick_ok {s : List Int} {n : Nat} {cs : List D} (h : Tw ns n s) (hn : n < 100000000) (h0 : 0 < cs.length) (h1 : cs.length < 1000000) : ∃ c s', g__law_pick p [.scr ns, .adr p, .lst cs] s = .ok c s' ∧ c ∈ cs ∧ Tw ns (n + 1) s' := by
  obtain ⟨d, s', e1, d0, d1, t⟩ := draw_ok (p := p) (m := (cs.length : Int)) h hn (by omega) (by omega)
  obtain ⟨x, hx, e2⟩ := ix_lst (ds := cs) d0 (by omega)
  refine ⟨x, s', fnR_rt ?_, hx, t⟩
  unfold c__law_pick
  simp only [fnR, runs, run, ev, evA, evT, evI, bindq_ok, ob_ok, sq_nx, sq_rt, onO_some, liftO_some, kd_some, dat_v, dat_t, tru_bl, intOf_int, noExq, stk_v, stk_t, stk_o, stow_tt, stow_fv, stow_ft, eqD_int, cmp_ne, cmp_eq, cmp_gt, cmp_ge, cmp_lt, cmp_le, cmp_in, cmp_notin, cmp_is, cmp_isnot, bin_add, bin_sub, b1_abs, ix0, ix1, items_lst, items_row, put, List.map_cons, List.map_nil, List.cons_append, List.nil_append, List.append_nil, List.length_cons, List.length_nil, List.replicate, List.getElem?_cons_zero, List.getElem?_cons_succ, List.getElem?_nil, List.set_cons_zero, List.set_cons_succ, List.set_nil, Nat.reduceAdd, Nat.reduceSub, Nat.reduceLT, Nat.reduceEqDiff, if_true, ite_true, if_false, ite_false, Option.map_some, Option.map_none, reduceIte, reduceCtorEq, Bool.false_eq_true, Nat.zero_add, Nat.add_zero, Nat.zero_lt_succ, Nat.zero_lt_one, Nat.lt_add_left_iff_pos, Nat.succ_eq_add_one, Nat.reduceLeDiff, len_lst, e1, e2]
theorem sm_of {t b : Int} (ht : t ∈ [0, 0, 0, 1, -1, 2, -2]) (hb : b ∈ [1, 1, 1, 2]) : b ≠ 0 ∧ b.natAbs < 2 ^ 2 ∧ sm (Rat.divInt t b) := by
  have key : ∀ t ∈ ([0, 0, 0, 1, -1, 2, -2] : List Int), ∀ b ∈ ([1, 1, 1, 2] : List Int), (decide (b ≠ 0) && decide (b.natAbs < 2 ^ 2) && decide ((Rat.divInt t b).num.natAbs ≤ 2) && (decide ((Rat.divInt t b).den = 1) || decide ((Rat.divInt t b).den = 2))) = true := by decide +kernel
  have := key t ht b hb
  simp only [Bool.and_eq_true, Bool.or_eq_true, decide_eq_true_eq] at this
  exact ⟨this.1.1.1, this.1.1.2, this.1.2, this.2⟩
theorem mem_ints {c : D} {l : List Int} (h : c ∈ l.map D.int) : ∃ i ∈ l, c = .int i := by
  obtain ⟨i, hi, rfl⟩ := List.mem_map.mp h
  exact ⟨i, hi, rfl⟩
theorem measure_ok {s : List Int} {n : Nat} (h : Tw ns n s) (hn : n < 90000000) : ∃ m s', g__law_measure p [.scr ns, .adr p] s = .ok (row m) s' ∧ m.length = 3 ∧ (∀ x ∈ m, sm x) ∧ Tw ns (n + 4) s' := by
  obtain ⟨c, s1, e1, hc, t1⟩ := pick_ok (p := p) (cs := ([1, 1, 1, 2] : List Int).map D.int) h (by omega) (by decide) (by decide)
  obtain ⟨b, hb, rfl⟩ := mem_ints hc
  obtain ⟨ds, s2, e2, hl, hG, t2⟩ := ev_lc_st (s := s1) (l := List.range 3) (e := fun (i : Nat) => D.int (i : Int)) (it := .rng (.con (.int 3))) (tg := .nm 3) (vs := [3])
    (elt := .call "_law_frac" 2 g__law_frac (.cons (.call "_law_pick" 3 (g__law_pick p) (.cons (.var 0) (.cons (.var 1) (.cons (.lst (.cons (.con (.int 0)) (.cons (.con (.int 0)) (.cons (.con (.int 0)) (.cons (.con (.int 1)) (.cons (.neg (.con (.int 1))) (.cons (.con (.int 2)) (.cons (.neg (.con (.int 2))) .nil)))))))) .nil)))) (.cons (.var 2) .nil)))
    (ρ := [.va (.scr ns), .va (.adr p), .va (.int b), .no]) (P := fun l s => Tw ns (n + 4 - l.length) s ∧ l.length ≤ 3) (G := fun d => ∃ x, sm x ∧ d = F x) (by rfl) (by decide) ⟨t1, by decide⟩
    (fun a l s hP => by
      obtain ⟨ht, hl⟩ := hP
      simp only [List.length_cons] at ht hl
      obtain ⟨c, s3, e3, hc, t3⟩ := pick_ok (p := p) (cs := ([0, 0, 0, 1, -1, 2, -2] : List Int).map D.int) ht (by omega) (by decide) (by decide)
      obtain ⟨t, htm, rfl⟩ := mem_ints hc
      obtain ⟨q1, q2, q3⟩ := sm_of htm hb
      refine ⟨_, rfl, F (Rat.divInt t b), s3, ?_, ⟨_, q3, rfl⟩, t3.mono (by omega), by omega⟩
      simp only [List.map_cons, List.map_nil] at e3
      simp only [wipeR, fnR, runs, run, ev, evA, evT, evI, bindq_ok, ob_ok, sq_nx, sq_rt, onO_some, liftO_some, kd_some, dat_v, dat_t, tru_bl, intOf_int, noExq, stk_v, stk_t, stk_o, stow_tt, stow_fv, stow_ft, eqD_int, cmp_ne, cmp_eq, cmp_gt, cmp_ge, cmp_lt, cmp_le, cmp_in, cmp_notin, cmp_is, cmp_isnot, bin_add, bin_sub, b1_abs, ix0, ix1, items_lst, items_row, put, List.map_cons, List.map_nil, List.cons_append, List.nil_append, List.append_nil, List.length_cons, List.length_nil, List.replicate, List.getElem?_cons_zero, List.getElem?_cons_succ, List.getElem?_nil, List.set_cons_zero, List.set_cons_succ, List.set_nil, Nat.reduceAdd, Nat.reduceSub, Nat.reduceLT, Nat.reduceEqDiff, if_true, ite_true, if_false, ite_false, Option.map_some, Option.map_none, reduceIte, reduceCtorEq, Bool.false_eq_true, Nat.zero_add, Nat.add_zero, Nat.zero_lt_succ, Nat.zero_lt_one, Nat.lt_add_left_iff_pos, Nat.succ_eq_add_one, Nat.reduceLeDiff, lenOk_of (show 7 ≤ 1000000 by decide), e3, g__law_frac_ok q1 q2 (by decide)])
  obtain ⟨xs, rfl, hxs⟩ := any_F hG
  refine ⟨xs, s2, fnR_rt ?_, by simpa using hl, hxs, t2.1.mono (by simp)⟩
  unfold c__law_measure
  simp only [List.map_cons, List.map_nil] at e1
  rw [runs_cons]
  have e0 : ev (S := List Int) (.call "_law_pick" 3 (g__law_pick p) (.cons (.var 0) (.cons (.var 1) (.cons (.lst (.cons (.con (.int 1)) (.cons (.con (.int 1)) (.cons (.con (.int 1)) (.cons (.con (.int 2)) .nil))))) .nil)))) [.va (.scr ns), .va (.adr p), .no, .no] s = .ok (.v, .int b) s1 := by
    simp only [fnR, runs, run, ev, evA, evT, evI, bindq_ok, ob_ok, sq_nx, sq_rt, onO_some, liftO_some, kd_some, dat_v, dat_t, tru_bl, intOf_int, noExq, stk_v, stk_t, stk_o, stow_tt, stow_fv, stow_ft, eqD_int, cmp_ne, cmp_eq, cmp_gt, cmp_ge, cmp_lt, cmp_le, cmp_in, cmp_notin, cmp_is, cmp_isnot, bin_add, bin_sub, b1_abs, ix0, ix1, items_lst, items_row, put, List.map_cons, List.map_nil, List.cons_append, List.nil_append, List.append_nil, List.length_cons, List.length_nil, List.replicate, List.getElem?_cons_zero, List.getElem?_cons_succ, List.getElem?_nil, List.set_cons_zero, List.set_cons_succ, List.set_nil, Nat.reduceAdd, Nat.reduceSub, Nat.reduceLT, Nat.reduceEqDiff, if_true, ite_true, if_false, ite_false, Option.map_some, Option.map_none, reduceIte, reduceCtorEq, Bool.false_eq_true, Nat.zero_add, Nat.add_zero, Nat.zero_lt_succ, Nat.zero_lt_one, Nat.lt_add_left_iff_pos, Nat.succ_eq_add_one, Nat.reduceLeDiff, lenOk_of (show 4 ≤ 1000000 by decide), e1]
  show (run (S := List Int) _ [.va (.scr ns), .va (.adr p), .no, .no] s).sq _ = _
  rw [run, e0]
  simp only [ob_ok, stow_fv, onO_some, put, List.length_cons, List.length_nil, Nat.reduceAdd, Nat.reduceLT, if_true, List.set_cons_succ, List.set_cons_zero, sq_nx]
  rw [runs_cons, run, ev, e2]
  rfl
theorem table_ok {s : List Int} {n : Nat} (h : Tw ns n s) (hn : n < 10000000) : ∃ ms s', g__law_table p [.scr ns, .adr p, .int 0] s = .ok (tab ms) s' ∧ Tab ms ∧ Tw ns (n + 24) s' := by
  obtain ⟨ρ', s', hf, ms, x4, x5, rfl, hl, hd, hT, hS, ht⟩ := forR_ind (e := fun (i : Nat) => D.str (nm i)) (f := fun d ρ s => onO (asgT (.nm 4) d ρ) fun ρ' => runs (b__law_table_0 p) ρ' s)
    (P := fun (l : List Nat) ρ s' => ∃ (ms : List (List Rat)) (x4 x5 : SV), ρ = [.va (.scr ns), .va (.adr p), .va (.int 0), .ow (.lst (ents ms)), x4, x5] ∧ ms.length + l.length = 6 ∧ l = (List.range 6).drop ms.length ∧ (∀ m ∈ ms, m.length = 3) ∧ (∀ m ∈ ms, ∀ x ∈ m, sm x) ∧ Tw ns (n + 4 * ms.length) s')
    (fun i l ρ s1 hP => by
      obtain ⟨ms, x4, x5, rfl, hl, hd, hT, hS, ht⟩ := hP
      simp only [List.length_cons] at hl
      obtain ⟨m, s2, e1, m3, msm, t2⟩ := measure_ok (p := p) ht (by omega)
      have hi : i = ms.length := by
        have h1 : ((List.range 6).drop ms.length)[0]? = some i := by rw [← hd]; rfl
        rw [List.getElem?_drop, Nat.add_zero, List.getElem?_range (by omega)] at h1
        exact (Option.some.inj h1).symm
      have hl2 : l = (List.range 6).drop (ms.length + 1) := by
        have : l = ((List.range 6).drop ms.length).tail := by rw [← hd]; rfl
        rw [this, List.tail_drop]
      subst hi
      have hen : lenOk ((ents ms).length + 1) = true := lenOk_of (by unfold ents; rw [List.length_map, List.length_range]; omega)
      refine ⟨_, s2, ?_, ms ++ [m], .va (.str (nm ms.length)), .va (row m), rfl, by simp; omega, by rw [List.length_append]; exact hl2, fun z hz => ?_, fun z hz => ?_, t2.mono (by simp; omega)⟩
      · rw [ents_snoc]
        show runs (b__law_table_0 p) [.va (.scr ns), .va (.adr p), .va (.int 0), .ow (.lst (ents ms)), .va (.str (nm ms.length)), x5] s1 = _
        unfold b__law_table_0
        simp only [fnR, runs, run, ev, evA, evT, evI, bindq_ok, ob_ok, sq_nx, sq_rt, onO_some, liftO_some, kd_some, dat_v, dat_t, tru_bl, intOf_int, noExq, stk_v, stk_t, stk_o, stow_tt, stow_fv, stow_ft, eqD_int, cmp_ne, cmp_eq, cmp_gt, cmp_ge, cmp_lt, cmp_le, cmp_in, cmp_notin, cmp_is, cmp_isnot, bin_add, bin_sub, b1_abs, ix0, ix1, items_lst, items_row, put, List.map_cons, List.map_nil, List.cons_append, List.nil_append, List.append_nil, List.length_cons, List.length_nil, List.replicate, List.getElem?_cons_zero, List.getElem?_cons_succ, List.getElem?_nil, List.set_cons_zero, List.set_cons_succ, List.set_nil, Nat.reduceAdd, Nat.reduceSub, Nat.reduceLT, Nat.reduceEqDiff, if_true, ite_true, if_false, ite_false, Option.map_some, Option.map_none, reduceIte, reduceCtorEq, Bool.false_eq_true, Nat.zero_add, Nat.add_zero, Nat.zero_lt_succ, Nat.zero_lt_one, Nat.lt_add_left_iff_pos, Nat.succ_eq_add_one, Nat.reduceLeDiff, e1, decide_true, ownL, lenOk_of (show 2 ≤ 1000000 by decide), hen]
        rfl
      · rcases List.mem_append.mp hz with z1 | z1
        · exact hT z z1
        · rw [List.mem_singleton.mp z1]; exact m3
      · rcases List.mem_append.mp hz with z1 | z1
        · exact hS z z1
        · rw [List.mem_singleton.mp z1]; exact msm) (List.range 6) [.va (.scr ns), .va (.adr p), .va (.int 0), .ow (.lst []), .no, .no] s ⟨[], .no, .no, rfl, rfl, rfl, fun _ h => (nomatch h), fun _ h => (nomatch h), h⟩
  refine ⟨ms, s', fnR_rt ?_, ⟨by simpa using hl, hT, hS⟩, ht.mono (by simp at hl; omega)⟩
  unfold c__law_table
  rw [runs_cons]
  have e1 : run (S := List Int) (.asg true 3 (.lst .nil)) [.va (.scr ns), .va (.adr p), .va (.int 0), .no, .no, .no] s = .nx [.va (.scr ns), .va (.adr p), .va (.int 0), .ow (.lst []), .no, .no] s := by
    simp only [fnR, runs, run, ev, evA, evT, evI, bindq_ok, ob_ok, sq_nx, sq_rt, onO_some, liftO_some, kd_some, dat_v, dat_t, tru_bl, intOf_int, noExq, stk_v, stk_t, stk_o, stow_tt, stow_fv, stow_ft, eqD_int, cmp_ne, cmp_eq, cmp_gt, cmp_ge, cmp_lt, cmp_le, cmp_in, cmp_notin, cmp_is, cmp_isnot, bin_add, bin_sub, b1_abs, ix0, ix1, items_lst, items_row, put, List.map_cons, List.map_nil, List.cons_append, List.nil_append, List.append_nil, List.length_cons, List.length_nil, List.replicate, List.getElem?_cons_zero, List.getElem?_cons_succ, List.getElem?_nil, List.set_cons_zero, List.set_cons_succ, List.set_nil, Nat.reduceAdd, Nat.reduceSub, Nat.reduceLT, Nat.reduceEqDiff, if_true, ite_true, if_false, ite_false, Option.map_some, Option.map_none, reduceIte, reduceCtorEq, Bool.false_eq_true, Nat.zero_add, Nat.add_zero, Nat.zero_lt_succ, Nat.zero_lt_one, Nat.lt_add_left_iff_pos, Nat.succ_eq_add_one, Nat.reduceLeDiff, lenOk_of (show 0 ≤ 1000000 by decide)]
  show (run (S := List Int) _ [.va (.scr ns), .va (.adr p), .va (.int 0), .no, .no, .no] s).sq _ = _
  rw [e1, sq_nx, runs_cons, run_for]
  have e2 : evI (S := List Int) true (.seq (.con (.str "abcdef"))) [.va (.scr ns), .va (.adr p), .va (.int 0), .ow (.lst []), .no, .no] s = .ok ((List.range 6).map fun i => D.str (nm i)) s := by
    simp only [fnR, runs, run, ev, evA, evT, evI, bindq_ok, ob_ok, sq_nx, sq_rt, onO_some, liftO_some, kd_some, dat_v, dat_t, tru_bl, intOf_int, noExq, stk_v, stk_t, stk_o, stow_tt, stow_fv, stow_ft, eqD_int, cmp_ne, cmp_eq, cmp_gt, cmp_ge, cmp_lt, cmp_le, cmp_in, cmp_notin, cmp_is, cmp_isnot, bin_add, bin_sub, b1_abs, ix0, ix1, items_lst, items_row, put, List.map_cons, List.map_nil, List.cons_append, List.nil_append, List.append_nil, List.length_cons, List.length_nil, List.replicate, List.getElem?_cons_zero, List.getElem?_cons_succ, List.getElem?_nil, List.set_cons_zero, List.set_cons_succ, List.set_nil, Nat.reduceAdd, Nat.reduceSub, Nat.reduceLT, Nat.reduceEqDiff, if_true, ite_true, if_false, ite_false, Option.map_some, Option.map_none, reduceIte, reduceCtorEq, Bool.false_eq_true, Nat.zero_add, Nat.add_zero, Nat.zero_lt_succ, Nat.zero_lt_one, Nat.lt_add_left_iff_pos, Nat.succ_eq_add_one, Nat.reduceLeDiff, items_names]
  rw [e2, ob_ok, hf, sq_nx]
  simp only [fnR, runs, run, ev, evA, evT, evI, bindq_ok, ob_ok, sq_nx, sq_rt, onO_some, liftO_some, kd_some, dat_v, dat_t, tru_bl, intOf_int, noExq, stk_v, stk_t, stk_o, stow_tt, stow_fv, stow_ft, eqD_int, cmp_ne, cmp_eq, cmp_gt, cmp_ge, cmp_lt, cmp_le, cmp_in, cmp_notin, cmp_is, cmp_isnot, bin_add, bin_sub, b1_abs, ix0, ix1, items_lst, items_row, put, List.map_cons, List.map_nil, List.cons_append, List.nil_append, List.append_nil, List.length_cons, List.length_nil, List.replicate, List.getElem?_cons_zero, List.getElem?_cons_succ, List.getElem?_nil, List.set_cons_zero, List.set_cons_succ, List.set_nil, Nat.reduceAdd, Nat.reduceSub, Nat.reduceLT, Nat.reduceEqDiff, if_true, ite_true, if_false, ite_false, Option.map_some, Option.map_none, reduceIte, reduceCtorEq, Bool.false_eq_true, Nat.zero_add, Nat.add_zero, Nat.zero_lt_succ, Nat.zero_lt_one, Nat.lt_add_left_iff_pos, Nat.succ_eq_add_one, Nat.reduceLeDiff, b1D]
  rfl
end Mf
set_option Elab.async false
set_option linter.all false
set_option maxRecDepth 100000
set_option maxHeartbeats 1000000
namespace Mf
open PySem L2
/-! ### checks -/
theorem g_is_between_ok {i lo hi : Int} (h1 : lo ≤ i) (h2 : i ≤ hi) (s : List Int) : g_is_between [.int i, .int lo, .int hi] s = .ok (.bl true) s := by
  refine fnR_rt ?_
  unfold c_is_between
  simp only [fnR, runs, run, ev, evA, evT, evI, bindq_ok, ob_ok, sq_nx, sq_rt, onO_some, liftO_some, kd_some, dat_v, dat_t, tru_bl, intOf_int, noExq, stk_v, stk_t, stk_o, stow_tt, stow_fv, stow_ft, eqD_int, cmp_ne, cmp_eq, cmp_gt, cmp_ge, cmp_lt, cmp_le, cmp_in, cmp_notin, cmp_is, cmp_isnot, bin_add, bin_sub, b1_abs, ix0, ix1, items_lst, items_row, put, List.map_cons, List.map_nil, List.cons_append, List.nil_append, List.append_nil, List.length_cons, List.length_nil, List.replicate, List.getElem?_cons_zero, List.getElem?_cons_succ, List.getElem?_nil, List.set_cons_zero, List.set_cons_succ, List.set_nil, Nat.reduceAdd, Nat.reduceSub, Nat.reduceLT, Nat.reduceEqDiff, if_true, ite_true, if_false, ite_false, Option.map_some, Option.map_none, reduceIte, reduceCtorEq, Bool.false_eq_true, Nat.zero_add, Nat.add_zero, Nat.zero_lt_succ, Nat.zero_lt_one, Nat.lt_add_left_iff_pos, Nat.succ_eq_add_one, Nat.reduceLeDiff, isi_int, isi_bool, h1, h2, decide_true, Bool.not_false]
theorem g_is_name_ok {i : Nat} (h : i < 6) (s : List Int) : g_is_name [.str (nm i)] s = .ok (.bl true) s := by
  refine fnR_rt ?_
  unfold c_is_name
  simp only [fnR, runs, run, ev, evA, evT, evI, bindq_ok, ob_ok, sq_nx, sq_rt, onO_some, liftO_some, kd_some, dat_v, dat_t, tru_bl, intOf_int, noExq, stk_v, stk_t, stk_o, stow_tt, stow_fv, stow_ft, eqD_int, cmp_ne, cmp_eq, cmp_gt, cmp_ge, cmp_lt, cmp_le, cmp_in, cmp_notin, cmp_is, cmp_isnot, bin_add, bin_sub, b1_abs, ix0, ix1, items_lst, items_row, put, List.map_cons, List.map_nil, List.cons_append, List.nil_append, List.append_nil, List.length_cons, List.length_nil, List.replicate, List.getElem?_cons_zero, List.getElem?_cons_succ, List.getElem?_nil, List.set_cons_zero, List.set_cons_succ, List.set_nil, Nat.reduceAdd, Nat.reduceSub, Nat.reduceLT, Nat.reduceEqDiff, if_true, ite_true, if_false, ite_false, Option.map_some, Option.map_none, reduceIte, reduceCtorEq, Bool.false_eq_true, Nat.zero_add, Nat.add_zero, Nat.zero_lt_succ, Nat.zero_lt_one, Nat.lt_add_left_iff_pos, Nat.succ_eq_add_one, Nat.reduceLeDiff, isi_str, len_nm, decide_true, d_NAMES, in_names h]
theorem g_is_fraction_ok {x : Rat} (h1 : x.num.natAbs ≤ 1000000000000) (h2 : x.den ≤ 1000000000000) (s : List Int) : g_is_fraction [F x, .int 1000000000000, .int (-1000000000000), .int 1000000000000] s = .ok (.bl true) s := by
  refine fnR_rt ?_
  unfold c_is_fraction
  have hd := x.den_nz
  have hg : ((Int.gcd x.num x.den : Nat) : Int) = 1 := by
    have : Int.gcd x.num x.den = 1 := by
      have := x.reduced
      unfold Nat.Coprime at this
      simpa [Int.gcd] using this
    omega
  simp only [fnR, runs, run, ev, evA, evT, evI, bindq_ok, ob_ok, sq_nx, sq_rt, onO_some, liftO_some, kd_some, dat_v, dat_t, tru_bl, intOf_int, noExq, stk_v, stk_t, stk_o, stow_tt, stow_fv, stow_ft, eqD_int, cmp_ne, cmp_eq, cmp_gt, cmp_ge, cmp_lt, cmp_le, cmp_in, cmp_notin, cmp_is, cmp_isnot, bin_add, bin_sub, b1_abs, ix0, ix1, items_lst, items_row, put, List.map_cons, List.map_nil, List.cons_append, List.nil_append, List.append_nil, List.length_cons, List.length_nil, List.replicate, List.getElem?_cons_zero, List.getElem?_cons_succ, List.getElem?_nil, List.set_cons_zero, List.set_cons_succ, List.set_nil, Nat.reduceAdd, Nat.reduceSub, Nat.reduceLT, Nat.reduceEqDiff, if_true, ite_true, if_false, ite_false, Option.map_some, Option.map_none, reduceIte, reduceCtorEq, Bool.false_eq_true, Nat.zero_add, Nat.add_zero, Nat.zero_lt_succ, Nat.zero_lt_one, Nat.lt_add_left_iff_pos, Nat.succ_eq_add_one, Nat.reduceLeDiff, isi_F, len_F, ixF0, ixF1, decide_true, Bool.not_true, g_is_between_ok (show (1 : Int) ≤ x.den by omega) (show (x.den : Int) ≤ 1000000000000 by omega), g_is_between_ok (show (-1000000000000 : Int) ≤ x.num by omega) (show x.num ≤ 1000000000000 by omega), g_divisor_ok, hg]
theorem bools_true : ∀ {α : Type} (l : List α), boolsD (l.map fun _ => D.bl true) = some (l.map fun _ => true)
  | _, [] => rfl
  | _, _ :: l => by
    show (boolsD (l.map fun _ => D.bl true)).map _ = _
    rw [bools_true l]
    rfl
theorem all_true {α : Type} (l : List α) : b1D .all (.lst (l.map fun _ => D.bl true)) = some (.v, .bl true) := by
  show (boolsD (l.map fun _ => D.bl true)).map _ = _
  rw [bools_true]
  simp
theorem g_is_measure_ok {r : List Rat} (h3 : r.length = 3) (h : ∀ x ∈ r, x.num.natAbs ≤ 1000000000000 ∧ x.den ≤ 1000000000000) (s : List Int) : g_is_measure [row r] s = .ok (.bl true) s := by
  refine fnR_rt ?_
  unfold c_is_measure
  rw [runs_cons]
  show (run (S := List Int) _ [.va (row r), .no, .no] s).sq _ = _
  have e1 : run (S := List Int) (.asg false 1 (.con (.int 1000000000000))) [.va (row r), .no, .no] s = .nx [.va (row r), .va (.int 1000000000000), .no] s := by simp only [fnR, runs, run, ev, evA, evT, evI, bindq_ok, ob_ok, sq_nx, sq_rt, onO_some, liftO_some, kd_some, dat_v, dat_t, tru_bl, intOf_int, noExq, stk_v, stk_t, stk_o, stow_tt, stow_fv, stow_ft, eqD_int, cmp_ne, cmp_eq, cmp_gt, cmp_ge, cmp_lt, cmp_le, cmp_in, cmp_notin, cmp_is, cmp_isnot, bin_add, bin_sub, b1_abs, ix0, ix1, items_lst, items_row, put, List.map_cons, List.map_nil, List.cons_append, List.nil_append, List.append_nil, List.length_cons, List.length_nil, List.replicate, List.getElem?_cons_zero, List.getElem?_cons_succ, List.getElem?_nil, List.set_cons_zero, List.set_cons_succ, List.set_nil, Nat.reduceAdd, Nat.reduceSub, Nat.reduceLT, Nat.reduceEqDiff, if_true, ite_true, if_false, ite_false, Option.map_some, Option.map_none, reduceIte, reduceCtorEq, Bool.false_eq_true, Nat.zero_add, Nat.add_zero, Nat.zero_lt_succ, Nat.zero_lt_one, Nat.lt_add_left_iff_pos, Nat.succ_eq_add_one, Nat.reduceLeDiff]
  rw [e1, sq_nx, runs_cons]
  have e2 : run (S := List Int) (.ife (.or (.not (.isi (.var 0) .tuple)) (.one (.cmp .ne (.b1 .len (.var 0)) (.con (.int 3))))) (.cons (.ret (.con (.bl false))) .nil) .nil) [.va (row r), .va (.int 1000000000000), .no] s = .nx [.va (row r), .va (.int 1000000000000), .no] s := by
    simp only [fnR, runs, run, ev, evA, evT, evI, bindq_ok, ob_ok, sq_nx, sq_rt, onO_some, liftO_some, kd_some, dat_v, dat_t, tru_bl, intOf_int, noExq, stk_v, stk_t, stk_o, stow_tt, stow_fv, stow_ft, eqD_int, cmp_ne, cmp_eq, cmp_gt, cmp_ge, cmp_lt, cmp_le, cmp_in, cmp_notin, cmp_is, cmp_isnot, bin_add, bin_sub, b1_abs, ix0, ix1, items_lst, items_row, put, List.map_cons, List.map_nil, List.cons_append, List.nil_append, List.append_nil, List.length_cons, List.length_nil, List.replicate, List.getElem?_cons_zero, List.getElem?_cons_succ, List.getElem?_nil, List.set_cons_zero, List.set_cons_succ, List.set_nil, Nat.reduceAdd, Nat.reduceSub, Nat.reduceLT, Nat.reduceEqDiff, if_true, ite_true, if_false, ite_false, Option.map_some, Option.map_none, reduceIte, reduceCtorEq, Bool.false_eq_true, Nat.zero_add, Nat.add_zero, Nat.zero_lt_succ, Nat.zero_lt_one, Nat.lt_add_left_iff_pos, Nat.succ_eq_add_one, Nat.reduceLeDiff, isi_row, len_row, h3, decide_true, Bool.not_true]
    rfl
  rw [e2, sq_nx, runs_cons, run, ev, ev_lc (l := r) (e := F) (g := fun _ => .bl true) (by simp only [fnR, runs, run, ev, evA, evT, evI, bindq_ok, ob_ok, sq_nx, sq_rt, onO_some, liftO_some, kd_some, dat_v, dat_t, tru_bl, intOf_int, noExq, stk_v, stk_t, stk_o, stow_tt, stow_fv, stow_ft, eqD_int, cmp_ne, cmp_eq, cmp_gt, cmp_ge, cmp_lt, cmp_le, cmp_in, cmp_notin, cmp_is, cmp_isnot, bin_add, bin_sub, b1_abs, ix0, ix1, items_lst, items_row, put, List.map_cons, List.map_nil, List.cons_append, List.nil_append, List.append_nil, List.length_cons, List.length_nil, List.replicate, List.getElem?_cons_zero, List.getElem?_cons_succ, List.getElem?_nil, List.set_cons_zero, List.set_cons_succ, List.set_nil, Nat.reduceAdd, Nat.reduceSub, Nat.reduceLT, Nat.reduceEqDiff, if_true, ite_true, if_false, ite_false, Option.map_some, Option.map_none, reduceIte, reduceCtorEq, Bool.false_eq_true, Nat.zero_add, Nat.add_zero, Nat.zero_lt_succ, Nat.zero_lt_one, Nat.lt_add_left_iff_pos, Nat.succ_eq_add_one, Nat.reduceLeDiff]) (by omega) fun x hx => ⟨_, rfl, .v, nofun, ?_⟩]
  · rw [bindq_ok, all_true]
    rfl
  · simp only [wipeR, fnR, runs, run, ev, evA, evT, evI, bindq_ok, ob_ok, sq_nx, sq_rt, onO_some, liftO_some, kd_some, dat_v, dat_t, tru_bl, intOf_int, noExq, stk_v, stk_t, stk_o, stow_tt, stow_fv, stow_ft, eqD_int, cmp_ne, cmp_eq, cmp_gt, cmp_ge, cmp_lt, cmp_le, cmp_in, cmp_notin, cmp_is, cmp_isnot, bin_add, bin_sub, b1_abs, ix0, ix1, items_lst, items_row, put, List.map_cons, List.map_nil, List.cons_append, List.nil_append, List.append_nil, List.length_cons, List.length_nil, List.replicate, List.getElem?_cons_zero, List.getElem?_cons_succ, List.getElem?_nil, List.set_cons_zero, List.set_cons_succ, List.set_nil, Nat.reduceAdd, Nat.reduceSub, Nat.reduceLT, Nat.reduceEqDiff, if_true, ite_true, if_false, ite_false, Option.map_some, Option.map_none, reduceIte, reduceCtorEq, Bool.false_eq_true, Nat.zero_add, Nat.add_zero, Nat.zero_lt_succ, Nat.zero_lt_one, Nat.lt_add_left_iff_pos, Nat.succ_eq_add_one, Nat.reduceLeDiff, g_is_fraction_ok (h x hx).1 (h x hx).2]
theorem g_is_table_ok {l : List (Nat × List Rat)} (T : TabL l) (s : List Int) : g_is_table [tabl l] s = .ok (.bl true) s := by
  refine fnR_rt ?_
  unfold c_is_table
  rw [runs_cons]
  show (run (S := List Int) _ [.va (tabl l), .no, .no] s).sq _ = _
  have e1 : run (S := List Int) (.ife (.not (.isi (.var 0) .tuple)) (.cons (.ret (.con (.bl false))) .nil) .nil) [.va (tabl l), .no, .no] s = .nx [.va (tabl l), .no, .no] s := by
    simp only [fnR, runs, run, ev, evA, evT, evI, bindq_ok, ob_ok, sq_nx, sq_rt, onO_some, liftO_some, kd_some, dat_v, dat_t, tru_bl, intOf_int, noExq, stk_v, stk_t, stk_o, stow_tt, stow_fv, stow_ft, eqD_int, cmp_ne, cmp_eq, cmp_gt, cmp_ge, cmp_lt, cmp_le, cmp_in, cmp_notin, cmp_is, cmp_isnot, bin_add, bin_sub, b1_abs, ix0, ix1, items_lst, items_row, put, List.map_cons, List.map_nil, List.cons_append, List.nil_append, List.append_nil, List.length_cons, List.length_nil, List.replicate, List.getElem?_cons_zero, List.getElem?_cons_succ, List.getElem?_nil, List.set_cons_zero, List.set_cons_succ, List.set_nil, Nat.reduceAdd, Nat.reduceSub, Nat.reduceLT, Nat.reduceEqDiff, if_true, ite_true, if_false, ite_false, Option.map_some, Option.map_none, reduceIte, reduceCtorEq, Bool.false_eq_true, Nat.zero_add, Nat.add_zero, Nat.zero_lt_succ, Nat.zero_lt_one, Nat.lt_add_left_iff_pos, Nat.succ_eq_add_one, Nat.reduceLeDiff, isi_tabl, Bool.not_true]
  rw [e1, sq_nx, runs_cons, run_for]
  have e2 : evI (S := List Int) true (.seq (.var 0)) [.va (tabl l), .no, .no] s = .ok (l.map fun q => ent q.1 q.2) s := by
    simp only [fnR, runs, run, ev, evA, evT, evI, bindq_ok, ob_ok, sq_nx, sq_rt, onO_some, liftO_some, kd_some, dat_v, dat_t, tru_bl, intOf_int, noExq, stk_v, stk_t, stk_o, stow_tt, stow_fv, stow_ft, eqD_int, cmp_ne, cmp_eq, cmp_gt, cmp_ge, cmp_lt, cmp_le, cmp_in, cmp_notin, cmp_is, cmp_isnot, bin_add, bin_sub, b1_abs, ix0, ix1, items_lst, items_row, put, List.map_cons, List.map_nil, List.cons_append, List.nil_append, List.append_nil, List.length_cons, List.length_nil, List.replicate, List.getElem?_cons_zero, List.getElem?_cons_succ, List.getElem?_nil, List.set_cons_zero, List.set_cons_succ, List.set_nil, Nat.reduceAdd, Nat.reduceSub, Nat.reduceLT, Nat.reduceEqDiff, if_true, ite_true, if_false, ite_false, Option.map_some, Option.map_none, reduceIte, reduceCtorEq, Bool.false_eq_true, Nat.zero_add, Nat.add_zero, Nat.zero_lt_succ, Nat.zero_lt_one, Nat.lt_add_left_iff_pos, Nat.succ_eq_add_one, Nat.reduceLeDiff]
    rfl
  obtain ⟨ρ', s', hf, x1, rfl, rfl, _⟩ := forR_ind (e := fun (q : Nat × List Rat) => ent q.1 q.2) (f := fun d ρ s => onO (asgT (.nm 1) d ρ) fun ρ' => runs b_is_table_0 ρ' s)
    (P := fun (l' : List (Nat × List Rat)) ρ s' => ∃ x1 : SV, ρ = [.va (tabl l), x1, .no] ∧ s' = s ∧ ∀ q ∈ l', q ∈ l) (fun q l' ρ s1 hP => by
      obtain ⟨x1, rfl, rfl, hm⟩ := hP
      have hq := hm q List.mem_cons_self
      refine ⟨_, _, ?_, .va (ent q.1 q.2), rfl, rfl, fun z hz => hm z (List.mem_cons_of_mem _ hz)⟩
      show runs b_is_table_0 [.va (tabl l), .va (ent q.1 q.2), .no] s1 = _
      unfold b_is_table_0
      simp only [fnR, runs, run, ev, evA, evT, evI, bindq_ok, ob_ok, sq_nx, sq_rt, onO_some, liftO_some, kd_some, dat_v, dat_t, tru_bl, intOf_int, noExq, stk_v, stk_t, stk_o, stow_tt, stow_fv, stow_ft, eqD_int, cmp_ne, cmp_eq, cmp_gt, cmp_ge, cmp_lt, cmp_le, cmp_in, cmp_notin, cmp_is, cmp_isnot, bin_add, bin_sub, b1_abs, ix0, ix1, items_lst, items_row, put, List.map_cons, List.map_nil, List.cons_append, List.nil_append, List.append_nil, List.length_cons, List.length_nil, List.replicate, List.getElem?_cons_zero, List.getElem?_cons_succ, List.getElem?_nil, List.set_cons_zero, List.set_cons_succ, List.set_nil, Nat.reduceAdd, Nat.reduceSub, Nat.reduceLT, Nat.reduceEqDiff, if_true, ite_true, if_false, ite_false, Option.map_some, Option.map_none, reduceIte, reduceCtorEq, Bool.false_eq_true, Nat.zero_add, Nat.add_zero, Nat.zero_lt_succ, Nat.zero_lt_one, Nat.lt_add_left_iff_pos, Nat.succ_eq_add_one, Nat.reduceLeDiff, isi_ent, len_ent, ix_ent0, ix_ent1, decide_true, Bool.not_true, g_is_name_ok (T.nm q hq), g_is_measure_ok (T.three q hq) (T.fit q hq)]) l [.va (tabl l), .no, .no] s ⟨.no, rfl, rfl, fun _ h => h⟩
  rw [e2, ob_ok, hf, sq_nx, runs_cons, run, ev, ev_lc (l := List.range (l.length - 1)) (e := fun (i : Nat) => D.int (i : Int)) (g := fun _ => .bl true) ?_ (by rw [List.length_range]; have := T.len; omega) fun k hk => ⟨_, rfl, .v, nofun, ?_⟩]
  · rw [bindq_ok, all_true]
    rfl
  · have hl := T.len
    simp only [fnR, runs, run, ev, evA, evT, evI, bindq_ok, ob_ok, sq_nx, sq_rt, onO_some, liftO_some, kd_some, dat_v, dat_t, tru_bl, intOf_int, noExq, stk_v, stk_t, stk_o, stow_tt, stow_fv, stow_ft, eqD_int, cmp_ne, cmp_eq, cmp_gt, cmp_ge, cmp_lt, cmp_le, cmp_in, cmp_notin, cmp_is, cmp_isnot, bin_add, bin_sub, b1_abs, ix0, ix1, items_lst, items_row, put, List.map_cons, List.map_nil, List.cons_append, List.nil_append, List.append_nil, List.length_cons, List.length_nil, List.replicate, List.getElem?_cons_zero, List.getElem?_cons_succ, List.getElem?_nil, List.set_cons_zero, List.set_cons_succ, List.set_nil, Nat.reduceAdd, Nat.reduceSub, Nat.reduceLT, Nat.reduceEqDiff, if_true, ite_true, if_false, ite_false, Option.map_some, Option.map_none, reduceIte, reduceCtorEq, Bool.false_eq_true, Nat.zero_add, Nat.add_zero, Nat.zero_lt_succ, Nat.zero_lt_one, Nat.lt_add_left_iff_pos, Nat.succ_eq_add_one, Nat.reduceLeDiff, len_tabl, decide_eq_true (show (-1000000 : Int) ≤ (l.length : Int) - 1 by omega), decide_eq_true (show (l.length : Int) - 1 ≤ 1000000 by omega), Bool.and_self, rngD]
    congr 3
    omega
  · have hk := List.mem_range.mp hk
    have e3 : ((k : Int) + 1) = ((k + 1 : Nat) : Int) := by omega
    simp only [wipeR, fnR, runs, run, ev, evA, evT, evI, bindq_ok, ob_ok, sq_nx, sq_rt, onO_some, liftO_some, kd_some, dat_v, dat_t, tru_bl, intOf_int, noExq, stk_v, stk_t, stk_o, stow_tt, stow_fv, stow_ft, eqD_int, cmp_ne, cmp_eq, cmp_gt, cmp_ge, cmp_lt, cmp_le, cmp_in, cmp_notin, cmp_is, cmp_isnot, bin_add, bin_sub, b1_abs, ix0, ix1, items_lst, items_row, put, List.map_cons, List.map_nil, List.cons_append, List.nil_append, List.append_nil, List.length_cons, List.length_nil, List.replicate, List.getElem?_cons_zero, List.getElem?_cons_succ, List.getElem?_nil, List.set_cons_zero, List.set_cons_succ, List.set_nil, Nat.reduceAdd, Nat.reduceSub, Nat.reduceLT, Nat.reduceEqDiff, if_true, ite_true, if_false, ite_false, Option.map_some, Option.map_none, reduceIte, reduceCtorEq, Bool.false_eq_true, Nat.zero_add, Nat.add_zero, Nat.zero_lt_succ, Nat.zero_lt_one, Nat.lt_add_left_iff_pos, Nat.succ_eq_add_one, Nat.reduceLeDiff, ix_tabl (show k < l.length by omega), e3, ix_tabl (show k + 1 < l.length by omega), ix_ent0, lt_nm, T.up k (by omega), decide_true]
theorem g_check_table_ok {l : List (Nat × List Rat)} (T : TabL l) (s : List Int) : g_check_table [tabl l] s = .ok .non s := by
  refine fnR_nx (ρ := [.va (tabl l)]) ?_
  unfold c_check_table
  simp only [fnR, runs, run, ev, evA, evT, evI, bindq_ok, ob_ok, sq_nx, sq_rt, onO_some, liftO_some, kd_some, dat_v, dat_t, tru_bl, intOf_int, noExq, stk_v, stk_t, stk_o, stow_tt, stow_fv, stow_ft, eqD_int, cmp_ne, cmp_eq, cmp_gt, cmp_ge, cmp_lt, cmp_le, cmp_in, cmp_notin, cmp_is, cmp_isnot, bin_add, bin_sub, b1_abs, ix0, ix1, items_lst, items_row, put, List.map_cons, List.map_nil, List.cons_append, List.nil_append, List.append_nil, List.length_cons, List.length_nil, List.replicate, List.getElem?_cons_zero, List.getElem?_cons_succ, List.getElem?_nil, List.set_cons_zero, List.set_cons_succ, List.set_nil, Nat.reduceAdd, Nat.reduceSub, Nat.reduceLT, Nat.reduceEqDiff, if_true, ite_true, if_false, ite_false, Option.map_some, Option.map_none, reduceIte, reduceCtorEq, Bool.false_eq_true, Nat.zero_add, Nat.add_zero, Nat.zero_lt_succ, Nat.zero_lt_one, Nat.lt_add_left_iff_pos, Nat.succ_eq_add_one, Nat.reduceLeDiff, g_is_table_ok T, Bool.not_true]
theorem g_check_name_ok {i : Nat} (h : i < 6) (s : List Int) : g_check_name [.str (nm i)] s = .ok .non s := by
  refine fnR_nx (ρ := [.va (.str (nm i))]) ?_
  unfold c_check_name
  simp only [fnR, runs, run, ev, evA, evT, evI, bindq_ok, ob_ok, sq_nx, sq_rt, onO_some, liftO_some, kd_some, dat_v, dat_t, tru_bl, intOf_int, noExq, stk_v, stk_t, stk_o, stow_tt, stow_fv, stow_ft, eqD_int, cmp_ne, cmp_eq, cmp_gt, cmp_ge, cmp_lt, cmp_le, cmp_in, cmp_notin, cmp_is, cmp_isnot, bin_add, bin_sub, b1_abs, ix0, ix1, items_lst, items_row, put, List.map_cons, List.map_nil, List.cons_append, List.nil_append, List.append_nil, List.length_cons, List.length_nil, List.replicate, List.getElem?_cons_zero, List.getElem?_cons_succ, List.getElem?_nil, List.set_cons_zero, List.set_cons_succ, List.set_nil, Nat.reduceAdd, Nat.reduceSub, Nat.reduceLT, Nat.reduceEqDiff, if_true, ite_true, if_false, ite_false, Option.map_some, Option.map_none, reduceIte, reduceCtorEq, Bool.false_eq_true, Nat.zero_add, Nat.add_zero, Nat.zero_lt_succ, Nat.zero_lt_one, Nat.lt_add_left_iff_pos, Nat.succ_eq_add_one, Nat.reduceLeDiff, g_is_name_ok h, Bool.not_true]
theorem len_names : b1D .len (.str "abcdef") = some (.v, .int 6) := by rfl
theorem g_check_complete_ok {l : List (Nat × List Rat)} (h : l.length = 6) (s : List Int) : g_check_complete [tabl l] s = .ok .non s := by
  refine fnR_nx (ρ := [.va (tabl l)]) ?_
  unfold c_check_complete
  simp only [fnR, runs, run, ev, evA, evT, evI, bindq_ok, ob_ok, sq_nx, sq_rt, onO_some, liftO_some, kd_some, dat_v, dat_t, tru_bl, intOf_int, noExq, stk_v, stk_t, stk_o, stow_tt, stow_fv, stow_ft, eqD_int, cmp_ne, cmp_eq, cmp_gt, cmp_ge, cmp_lt, cmp_le, cmp_in, cmp_notin, cmp_is, cmp_isnot, bin_add, bin_sub, b1_abs, ix0, ix1, items_lst, items_row, put, List.map_cons, List.map_nil, List.cons_append, List.nil_append, List.append_nil, List.length_cons, List.length_nil, List.replicate, List.getElem?_cons_zero, List.getElem?_cons_succ, List.getElem?_nil, List.set_cons_zero, List.set_cons_succ, List.set_nil, Nat.reduceAdd, Nat.reduceSub, Nat.reduceLT, Nat.reduceEqDiff, if_true, ite_true, if_false, ite_false, Option.map_some, Option.map_none, reduceIte, reduceCtorEq, Bool.false_eq_true, Nat.zero_add, Nat.add_zero, Nat.zero_lt_succ, Nat.zero_lt_one, Nat.lt_add_left_iff_pos, Nat.succ_eq_add_one, Nat.reduceLeDiff, len_tabl, d_NAMES, len_names, h]
  rfl
end Mf
set_option Elab.async false
set_option linter.all false
set_option maxRecDepth 100000
set_option maxHeartbeats 1000000
namespace Mf
open PySem L2
theorem names_items (s : List Int) (ρ : List SV) (b : Bool) : evI b (.seq (.glb "NAMES" d_NAMES)) ρ s = .ok ((List.range 6).map fun i => D.str (nm i)) s := by
  simp only [fnR, runs, run, ev, evA, evT, evI, bindq_ok, ob_ok, sq_nx, sq_rt, onO_some, liftO_some, kd_some, dat_v, dat_t, tru_bl, intOf_int, noExq, stk_v, stk_t, stk_o, stow_tt, stow_fv, stow_ft, eqD_int, cmp_ne, cmp_eq, cmp_gt, cmp_ge, cmp_lt, cmp_le, cmp_in, cmp_notin, cmp_is, cmp_isnot, bin_add, bin_sub, b1_abs, ix0, ix1, items_lst, items_row, put, List.map_cons, List.map_nil, List.cons_append, List.nil_append, List.append_nil, List.length_cons, List.length_nil, List.replicate, List.getElem?_cons_zero, List.getElem?_cons_succ, List.getElem?_nil, List.set_cons_zero, List.set_cons_succ, List.set_nil, Nat.reduceAdd, Nat.reduceSub, Nat.reduceLT, Nat.reduceEqDiff, if_true, ite_true, if_false, ite_false, Option.map_some, Option.map_none, reduceIte, reduceCtorEq, Bool.false_eq_true, Nat.zero_add, Nat.add_zero, Nat.zero_lt_succ, Nat.zero_lt_one, Nat.lt_add_left_iff_pos, Nat.succ_eq_add_one, Nat.reduceLeDiff, d_NAMES, items_names]
theorem ap_turn {ms : List (List Rat)} (T : Tab ms) {i pl : Nat} (hi : i < 6) (hp : pl < 3) {a0 a6 a7 a8 a9 a10 : SV} {l : List (List Rat)} (hl : l.length ≤ 10) (s : List Int) :
    runs b_as_product_0 [a0, .va (.str (nm i)), .va (.dct (kv (fun j => row (ms.getD j [])) (List.range 6))), .va (.lst ((oth i).map fun j => .str (nm j))), .ow (rows l), .va (.int (pl : Int)), a6, a7, a8, a9, a10, .no] s =
      .nx [a0, .va (.str (nm i)), .va (.dct (kv (fun j => row (ms.getD j [])) (List.range 6))), .va (.lst ((oth i).map fun j => .str (nm j))), .ow (rows (l ++ [mrow ms i pl])), .va (.int (pl : Int)), a6, a7, a8, a9, a10, .no] s := by
  unfold b_as_product_0
  rw [runs_cons, run]
  have eo : ownL [a0, .va (.str (nm i)), .va (.dct (kv (fun j => row (ms.getD j [])) (List.range 6))), .va (.lst ((oth i).map fun j => .str (nm j))), .ow (rows l), .va (.int (pl : Int)), a6, a7, a8, a9, a10, .no] 4 = some (l.map row) := rfl
  have ixm : ∀ j, j < 6 → ixD (row (ms.getD j [])) (.int (pl : Int)) = some (F (mget ms j pl)) := fun j hj => ix_row (by rw [T.three _ (T.get hj)]; exact hp)
  rw [eo, onO_some, ev, ev, ev_lc (l := oth i) (e := fun j => .str (nm j)) (g := fun j => F (mget ms j pl)) (by simp only [fnR, runs, run, ev, evA, evT, evI, bindq_ok, ob_ok, sq_nx, sq_rt, onO_some, liftO_some, kd_some, dat_v, dat_t, tru_bl, intOf_int, noExq, stk_v, stk_t, stk_o, stow_tt, stow_fv, stow_ft, eqD_int, cmp_ne, cmp_eq, cmp_gt, cmp_ge, cmp_lt, cmp_le, cmp_in, cmp_notin, cmp_is, cmp_isnot, bin_add, bin_sub, b1_abs, ix0, ix1, items_lst, items_row, put, List.map_cons, List.map_nil, List.cons_append, List.nil_append, List.append_nil, List.length_cons, List.length_nil, List.replicate, List.getElem?_cons_zero, List.getElem?_cons_succ, List.getElem?_nil, List.set_cons_zero, List.set_cons_succ, List.set_nil, Nat.reduceAdd, Nat.reduceSub, Nat.reduceLT, Nat.reduceEqDiff, if_true, ite_true, if_false, ite_false, Option.map_some, Option.map_none, reduceIte, reduceCtorEq, Bool.false_eq_true, Nat.zero_add, Nat.add_zero, Nat.zero_lt_succ, Nat.zero_lt_one, Nat.lt_add_left_iff_pos, Nat.succ_eq_add_one, Nat.reduceLeDiff]) (by rw [oth_len hi]; decide) fun j hj => ⟨_, rfl, .v, nofun, ?_⟩]
  · have e1 : ((oth i).map fun j => F (mget ms j pl)) = ((oth i).map fun j => mget ms j pl).map F := by rw [List.map_map]; rfl
    have hlen : lenOk ((((oth i).map fun j => mget ms j pl).map F).length + 1) = true := lenOk_of (by rw [List.length_map, List.length_map, oth_len hi]; decide)
    have hlen2 : lenOk ((l.map row).length + 1) = true := lenOk_of (by rw [List.length_map]; omega)
    rw [e1]
    simp only [fnR, runs, run, ev, evA, evT, evI, bindq_ok, ob_ok, sq_nx, sq_rt, onO_some, liftO_some, kd_some, dat_v, dat_t, tru_bl, intOf_int, noExq, stk_v, stk_t, stk_o, stow_tt, stow_fv, stow_ft, eqD_int, cmp_ne, cmp_eq, cmp_gt, cmp_ge, cmp_lt, cmp_le, cmp_in, cmp_notin, cmp_is, cmp_isnot, bin_add, bin_sub, b1_abs, ix0, ix1, items_lst, items_row, put, List.map_cons, List.map_nil, List.cons_append, List.nil_append, List.append_nil, List.length_cons, List.length_nil, List.replicate, List.getElem?_cons_zero, List.getElem?_cons_succ, List.getElem?_nil, List.set_cons_zero, List.set_cons_succ, List.set_nil, Nat.reduceAdd, Nat.reduceSub, Nat.reduceLT, Nat.reduceEqDiff, if_true, ite_true, if_false, ite_false, Option.map_some, Option.map_none, reduceIte, reduceCtorEq, Bool.false_eq_true, Nat.zero_add, Nat.add_zero, Nat.zero_lt_succ, Nat.zero_lt_one, Nat.lt_add_left_iff_pos, Nat.succ_eq_add_one, Nat.reduceLeDiff, b1D, ix_dctq, look_kv _ (List.mem_range.mpr hi), ixm i hi, lenOk_of (show 1 ≤ 1000000 by decide), binD, hlen, hlen2]
    simp only [rows, List.map_append, List.map_cons, List.map_nil, row, mrow]
  · simp only [wipeR, fnR, runs, run, ev, evA, evT, evI, bindq_ok, ob_ok, sq_nx, sq_rt, onO_some, liftO_some, kd_some, dat_v, dat_t, tru_bl, intOf_int, noExq, stk_v, stk_t, stk_o, stow_tt, stow_fv, stow_ft, eqD_int, cmp_ne, cmp_eq, cmp_gt, cmp_ge, cmp_lt, cmp_le, cmp_in, cmp_notin, cmp_is, cmp_isnot, bin_add, bin_sub, b1_abs, ix0, ix1, items_lst, items_row, put, List.map_cons, List.map_nil, List.cons_append, List.nil_append, List.append_nil, List.length_cons, List.length_nil, List.replicate, List.getElem?_cons_zero, List.getElem?_cons_succ, List.getElem?_nil, List.set_cons_zero, List.set_cons_succ, List.set_nil, Nat.reduceAdd, Nat.reduceSub, Nat.reduceLT, Nat.reduceEqDiff, if_true, ite_true, if_false, ite_false, Option.map_some, Option.map_none, reduceIte, reduceCtorEq, Bool.false_eq_true, Nat.zero_add, Nat.add_zero, Nat.zero_lt_succ, Nat.zero_lt_one, Nat.lt_add_left_iff_pos, Nat.succ_eq_add_one, Nat.reduceLeDiff, ix_dctq, look_kv _ (List.mem_range.mpr (oth_lt hj).1), ixm j (oth_lt hj).1]
theorem ap_put {i : Nat} (hi : i < 6) {x : List Rat × Nat} {c : Nat → Rat} (h5 : x.2 < 5) (h6 : x.1.length = 6) (h1 : x.1.getD x.2 0 = 1) (h2 : ∀ q < x.2, x.1.getD q 0 = 0) {a0 a1 a2 a4 a5 a6 a7 a10 : SV} (s : List Int) :
    ∃ y10, runs b_as_product_1 [a0, a1, a2, .va (.lst ((oth i).map fun j => .str (nm j))), a4, a5, a6, a7, .ow (.dct (kv (fun j => F (c j)) (List.range 6))), .va (row x.1), a10, .no] s =
      .nx [a0, a1, a2, .va (.lst ((oth i).map fun j => .str (nm j))), a4, a5, a6, a7, .ow (.dct (kv (fun j => F (cupd i c x j)) (List.range 6))), .va (row x.1), y10, .no] s := by
  refine ⟨.va (.int (x.2 : Int)), ?_⟩
  unfold b_as_product_1
  rw [runs_cons, run, ev, ev_lcf (l := List.range 5) (e := fun (q : Nat) => D.int (q : Int)) (g := fun (q : Nat) => D.int (q : Int)) (t := fun q => decide (x.1.getD q 0 ≠ 0)) (by rfl) (by decide) fun q hq => ⟨_, rfl, ⟨.v, ?_⟩, fun _ => ⟨.v, nofun, ?_⟩⟩]
  rotate_left
  · have hq := List.mem_range.mp hq
    simp only [wipeR, fnR, runs, run, ev, evA, evT, evI, bindq_ok, ob_ok, sq_nx, sq_rt, onO_some, liftO_some, kd_some, dat_v, dat_t, tru_bl, intOf_int, noExq, stk_v, stk_t, stk_o, stow_tt, stow_fv, stow_ft, eqD_int, cmp_ne, cmp_eq, cmp_gt, cmp_ge, cmp_lt, cmp_le, cmp_in, cmp_notin, cmp_is, cmp_isnot, bin_add, bin_sub, b1_abs, ix0, ix1, items_lst, items_row, put, List.map_cons, List.map_nil, List.cons_append, List.nil_append, List.append_nil, List.length_cons, List.length_nil, List.replicate, List.getElem?_cons_zero, List.getElem?_cons_succ, List.getElem?_nil, List.set_cons_zero, List.set_cons_succ, List.set_nil, Nat.reduceAdd, Nat.reduceSub, Nat.reduceLT, Nat.reduceEqDiff, if_true, ite_true, if_false, ite_false, Option.map_some, Option.map_none, reduceIte, reduceCtorEq, Bool.false_eq_true, Nat.zero_add, Nat.add_zero, Nat.zero_lt_succ, Nat.zero_lt_one, Nat.lt_add_left_iff_pos, Nat.succ_eq_add_one, Nat.reduceLeDiff, ix_row (show q < x.1.length by omega), zero_F, eqD_F, decide_not]
  · simp only [wipeR, fnR, runs, run, ev, evA, evT, evI, bindq_ok, ob_ok, sq_nx, sq_rt, onO_some, liftO_some, kd_some, dat_v, dat_t, tru_bl, intOf_int, noExq, stk_v, stk_t, stk_o, stow_tt, stow_fv, stow_ft, eqD_int, cmp_ne, cmp_eq, cmp_gt, cmp_ge, cmp_lt, cmp_le, cmp_in, cmp_notin, cmp_is, cmp_isnot, bin_add, bin_sub, b1_abs, ix0, ix1, items_lst, items_row, put, List.map_cons, List.map_nil, List.cons_append, List.nil_append, List.append_nil, List.length_cons, List.length_nil, List.replicate, List.getElem?_cons_zero, List.getElem?_cons_succ, List.getElem?_nil, List.set_cons_zero, List.set_cons_succ, List.set_nil, Nat.reduceAdd, Nat.reduceSub, Nat.reduceLT, Nat.reduceEqDiff, if_true, ite_true, if_false, ite_false, Option.map_some, Option.map_none, reduceIte, reduceCtorEq, Bool.false_eq_true, Nat.zero_add, Nat.add_zero, Nat.zero_lt_succ, Nat.zero_lt_one, Nat.lt_add_left_iff_pos, Nat.succ_eq_add_one, Nat.reduceLeDiff]
  obtain ⟨t, ht⟩ := first_head h1 h2 h5
  rw [ht]
  have i0 : ∀ ds : List D, ixD (.lst (D.int (x.2 : Int) :: ds)) (.int 0) = some (.int (x.2 : Int)) := fun ds => by
    show atI (D.int (x.2 : Int) :: ds) ((0 : Nat) : Int) = _
    exact atI_nat rfl
  have ho : (oth i).getD x.2 0 ∈ oth i := by
    rw [List.getD_eq_getElem?_getD, List.getElem?_eq_getElem (by rw [oth_len hi]; exact h5)]
    exact List.getElem_mem _
  have i1 : ixD (.lst ((oth i).map fun j => D.str (nm j))) (.int (x.2 : Int)) = some (.str (nm ((oth i).getD x.2 0))) := by
    show atI ((oth i).map fun j => D.str (nm j)) (x.2 : Int) = _
    refine atI_nat ?_
    rw [List.getElem?_map, List.getD_eq_getElem?_getD, List.getElem?_eq_getElem (show x.2 < (oth i).length by rw [oth_len hi]; exact h5)]
    rfl
  have i5 : ixD (row x.1) (.int 5) = some (F (x.1.getD 5 0)) := ix_row (p := 5) (by omega)
  have hl : lenOk ((kv (fun j => F (c j)) (List.range 6)).length + 1) = true := by rfl
  have hput := put_kv (fun j => F (c j)) (L := List.range 6) (List.mem_range.mpr (oth_lt ho).1) (F (x.1.getD 5 0))
  have e9 : (fun j => if j = (oth i).getD x.2 0 then F (x.1.getD 5 0) else F (c j)) = fun j => F (cupd i c x j) := by
    funext j
    unfold cupd
    split <;> rfl
  rw [e9] at hput
  simp only [fnR, runs, run, ev, evA, evT, evI, bindq_ok, ob_ok, sq_nx, sq_rt, onO_some, liftO_some, kd_some, dat_v, dat_t, tru_bl, intOf_int, noExq, stk_v, stk_t, stk_o, stow_tt, stow_fv, stow_ft, eqD_int, cmp_ne, cmp_eq, cmp_gt, cmp_ge, cmp_lt, cmp_le, cmp_in, cmp_notin, cmp_is, cmp_isnot, bin_add, bin_sub, b1_abs, ix0, ix1, items_lst, items_row, put, List.map_cons, List.map_nil, List.cons_append, List.nil_append, List.append_nil, List.length_cons, List.length_nil, List.replicate, List.getElem?_cons_zero, List.getElem?_cons_succ, List.getElem?_nil, List.set_cons_zero, List.set_cons_succ, List.set_nil, Nat.reduceAdd, Nat.reduceSub, Nat.reduceLT, Nat.reduceEqDiff, if_true, ite_true, if_false, ite_false, Option.map_some, Option.map_none, reduceIte, reduceCtorEq, Bool.false_eq_true, Nat.zero_add, Nat.add_zero, Nat.zero_lt_succ, Nat.zero_lt_one, Nat.lt_add_left_iff_pos, Nat.succ_eq_add_one, Nat.reduceLeDiff, i0, i1, i5, isOw, setD, Option.bind_some, hl, hput]
theorem as_product_ok {ms : List (List Rat)} (T : Tab ms) {i : Nat} (hi : i < 6) (s : List Int) :
    ((redQ (mat ms i) 5).2.any (fun r => !decide (r.getD 5 0 = 0)) = true → g_as_product [tab ms, .str (nm i)] s = .ok .non s) ∧
    ((redQ (mat ms i) 5).2.any (fun r => !decide (r.getD 5 0 = 0)) = false → ∀ ps, (redQ (mat ms i) 5).1 = ps.map Prod.fst → Hd 5 ps → g_as_product [tab ms, .str (nm i)] s = .ok (row ((List.range 6).map (cfin i ps))) s) := by
  have six := T.six
  have hT := T.tabL
  have RVm := mrow_RV T hi
  have R := redQ_inv (n := 5) (fun r hr => (RVm r hr).1) (by decide)
  have ml : (mat ms i).length = 3 := by unfold mat; rw [List.length_map, List.length_range]
  have hred : g_reduced [rows (mat ms i), .int 5] s = .ok (.tup [rows (redQ (mat ms i) 5).1, rows (redQ (mat ms i) 5).2]) s := g_reduced_ok (n := 5) RVm (by decide) (by decide) (by rw [ml]; decide) (by rw [ml]; decide) s
  -- the loop over the places
  obtain ⟨ρ', s', hf, l, x5, rfl, rfl, hl, _⟩ := forR_ind (e := fun (q : Nat) => D.int (q : Int)) (f := fun d ρ s => onO (asgT (.nm 5) d ρ) fun ρ' => runs b_as_product_0 ρ' s)
    (P := fun (qs : List Nat) ρ s' => ∃ (l : List (List Rat)) (x5 : SV), ρ = [.va (tab ms), .va (.str (nm i)), .va (.dct (kv (fun j => row (ms.getD j [])) (List.range 6))), .va (.lst ((oth i).map fun j => .str (nm j))), .ow (rows l), x5, .no, .no, .no, .no, .no, .no] ∧ s' = s ∧ l ++ qs.map (mrow ms i) = mat ms i ∧ ∀ q ∈ qs, q < 3)
    (fun q qs ρ s1 hP => by
      obtain ⟨l, x5, rfl, rfl, hl, hq⟩ := hP
      have hll : l.length ≤ 10 := by
        have := congrArg List.length hl
        rw [List.length_append, ml] at this
        omega
      refine ⟨_, _, ap_turn T hi (hq q List.mem_cons_self) hll s1, l ++ [mrow ms i q], .va (.int (q : Int)), rfl, rfl, by simpa using hl, fun z hz => hq z (List.mem_cons_of_mem _ hz)⟩)
    (List.range 3) [.va (tab ms), .va (.str (nm i)), .va (.dct (kv (fun j => row (ms.getD j [])) (List.range 6))), .va (.lst ((oth i).map fun j => .str (nm j))), .ow (rows []), .no, .no, .no, .no, .no, .no, .no] s ⟨[], .no, rfl, rfl, rfl, fun q hq => List.mem_range.mp hq⟩
  rw [List.map_nil, List.append_nil] at hl
  subst hl
  have d6 : b1D .dict (tab ms) = some (.t, .dct (kv (fun j => row (ms.getD j [])) (List.range 6))) := by
    rw [b1_dict_tab, six]
  have ct : g_check_table [tab ms] s' = .ok .non s' := by
    rw [tab_tabl]
    exact g_check_table_ok hT s'
  have cc : g_check_complete [tab ms] s' = .ok .non s' := by
    rw [tab_tabl]
    exact g_check_complete_ok (by rw [List.length_map, List.length_range]; exact six) s'
  have start : ∀ o, runs (S := List Int) (.cons (.ife (.b1 .any (.lc (.seq (.var 7)) (.nm 9) .nil (.cmp .ne (.ix (.var 9) (.con (.int 5))) (.glb "ZERO" d_ZERO)) [9])) (.cons (.ret (.con (.non)))
     .nil) .nil)
    (.cons (.asg true 8 (.b1 .dict (.lc (.seq (.glb "NAMES" d_NAMES)) (.nm 11) .nil (.tup (.cons (.var 11) (.cons (.glb "ZERO" d_ZERO) .nil))) [11])))
    (.cons (.forr (.nm 9) (.seq (.var 6)) (b_as_product_1))
    (.cons (.frz 8 (.ret (.b1 .tuple (.lc (.seq (.glb "NAMES" d_NAMES)) (.nm 11) .nil (.ix (.var 8) (.var 11)) [11]))))
    .nil)))) [.va (tab ms), .va (.str (nm i)), .va (.dct (kv (fun j => row (ms.getD j [])) (List.range 6))), .va (.lst ((oth i).map fun j => .str (nm j))), .va (rows (mat ms i)), x5, .va (rows (redQ (mat ms i) 5).1), .va (rows (redQ (mat ms i) 5).2), .no, .no, .no, .no] s' = .rt o s' → g_as_product [tab ms, .str (nm i)] s' = .ok o s' := by
    intro o ho
    refine fnR_rt ?_
    show runs c_as_product [.va (tab ms), .va (.str (nm i)), .no, .no, .no, .no, .no, .no, .no, .no, .no, .no] s' = _
    unfold c_as_product
    refine seq_nx (by simp only [fnR, runs, run, ev, evA, evT, evI, bindq_ok, ob_ok, sq_nx, sq_rt, onO_some, liftO_some, kd_some, dat_v, dat_t, tru_bl, intOf_int, noExq, stk_v, stk_t, stk_o, stow_tt, stow_fv, stow_ft, eqD_int, cmp_ne, cmp_eq, cmp_gt, cmp_ge, cmp_lt, cmp_le, cmp_in, cmp_notin, cmp_is, cmp_isnot, bin_add, bin_sub, b1_abs, ix0, ix1, items_lst, items_row, put, List.map_cons, List.map_nil, List.cons_append, List.nil_append, List.append_nil, List.length_cons, List.length_nil, List.replicate, List.getElem?_cons_zero, List.getElem?_cons_succ, List.getElem?_nil, List.set_cons_zero, List.set_cons_succ, List.set_nil, Nat.reduceAdd, Nat.reduceSub, Nat.reduceLT, Nat.reduceEqDiff, if_true, ite_true, if_false, ite_false, Option.map_some, Option.map_none, reduceIte, reduceCtorEq, Bool.false_eq_true, Nat.zero_add, Nat.add_zero, Nat.zero_lt_succ, Nat.zero_lt_one, Nat.lt_add_left_iff_pos, Nat.succ_eq_add_one, Nat.reduceLeDiff, ct]; rfl) ?_
    refine seq_nx (by simp only [fnR, runs, run, ev, evA, evT, evI, bindq_ok, ob_ok, sq_nx, sq_rt, onO_some, liftO_some, kd_some, dat_v, dat_t, tru_bl, intOf_int, noExq, stk_v, stk_t, stk_o, stow_tt, stow_fv, stow_ft, eqD_int, cmp_ne, cmp_eq, cmp_gt, cmp_ge, cmp_lt, cmp_le, cmp_in, cmp_notin, cmp_is, cmp_isnot, bin_add, bin_sub, b1_abs, ix0, ix1, items_lst, items_row, put, List.map_cons, List.map_nil, List.cons_append, List.nil_append, List.append_nil, List.length_cons, List.length_nil, List.replicate, List.getElem?_cons_zero, List.getElem?_cons_succ, List.getElem?_nil, List.set_cons_zero, List.set_cons_succ, List.set_nil, Nat.reduceAdd, Nat.reduceSub, Nat.reduceLT, Nat.reduceEqDiff, if_true, ite_true, if_false, ite_false, Option.map_some, Option.map_none, reduceIte, reduceCtorEq, Bool.false_eq_true, Nat.zero_add, Nat.add_zero, Nat.zero_lt_succ, Nat.zero_lt_one, Nat.lt_add_left_iff_pos, Nat.succ_eq_add_one, Nat.reduceLeDiff, g_check_name_ok hi]; rfl) ?_
    refine seq_nx (by simp only [fnR, runs, run, ev, evA, evT, evI, bindq_ok, ob_ok, sq_nx, sq_rt, onO_some, liftO_some, kd_some, dat_v, dat_t, tru_bl, intOf_int, noExq, stk_v, stk_t, stk_o, stow_tt, stow_fv, stow_ft, eqD_int, cmp_ne, cmp_eq, cmp_gt, cmp_ge, cmp_lt, cmp_le, cmp_in, cmp_notin, cmp_is, cmp_isnot, bin_add, bin_sub, b1_abs, ix0, ix1, items_lst, items_row, put, List.map_cons, List.map_nil, List.cons_append, List.nil_append, List.append_nil, List.length_cons, List.length_nil, List.replicate, List.getElem?_cons_zero, List.getElem?_cons_succ, List.getElem?_nil, List.set_cons_zero, List.set_cons_succ, List.set_nil, Nat.reduceAdd, Nat.reduceSub, Nat.reduceLT, Nat.reduceEqDiff, if_true, ite_true, if_false, ite_false, Option.map_some, Option.map_none, reduceIte, reduceCtorEq, Bool.false_eq_true, Nat.zero_add, Nat.add_zero, Nat.zero_lt_succ, Nat.zero_lt_one, Nat.lt_add_left_iff_pos, Nat.succ_eq_add_one, Nat.reduceLeDiff, cc]; rfl) ?_
    refine seq_nx (run_asgq (by rw [ev, ev]; exact congrArg (liftO s') d6) rfl rfl) ?_
    refine seq_nx (run_asgq (ev_lcf (l := List.range 6) (e := fun j => .str (nm j)) (g := fun j => .str (nm j)) (t := fun j => !decide (j = i)) (names_items _ _ _) (by decide) fun j hj => ⟨_, rfl, ⟨.v, ?_⟩, fun _ => ⟨.v, nofun, ?_⟩⟩) rfl rfl) ?_
    · simp only [wipeR, fnR, runs, run, ev, evA, evT, evI, bindq_ok, ob_ok, sq_nx, sq_rt, onO_some, liftO_some, kd_some, dat_v, dat_t, tru_bl, intOf_int, noExq, stk_v, stk_t, stk_o, stow_tt, stow_fv, stow_ft, eqD_int, cmp_ne, cmp_eq, cmp_gt, cmp_ge, cmp_lt, cmp_le, cmp_in, cmp_notin, cmp_is, cmp_isnot, bin_add, bin_sub, b1_abs, ix0, ix1, items_lst, items_row, put, List.map_cons, List.map_nil, List.cons_append, List.nil_append, List.append_nil, List.length_cons, List.length_nil, List.replicate, List.getElem?_cons_zero, List.getElem?_cons_succ, List.getElem?_nil, List.set_cons_zero, List.set_cons_succ, List.set_nil, Nat.reduceAdd, Nat.reduceSub, Nat.reduceLT, Nat.reduceEqDiff, if_true, ite_true, if_false, ite_false, Option.map_some, Option.map_none, reduceIte, reduceCtorEq, Bool.false_eq_true, Nat.zero_add, Nat.add_zero, Nat.zero_lt_succ, Nat.zero_lt_one, Nat.lt_add_left_iff_pos, Nat.succ_eq_add_one, Nat.reduceLeDiff, eq_nm (List.mem_range.mp hj) hi]
    · simp only [wipeR, fnR, runs, run, ev, evA, evT, evI, bindq_ok, ob_ok, sq_nx, sq_rt, onO_some, liftO_some, kd_some, dat_v, dat_t, tru_bl, intOf_int, noExq, stk_v, stk_t, stk_o, stow_tt, stow_fv, stow_ft, eqD_int, cmp_ne, cmp_eq, cmp_gt, cmp_ge, cmp_lt, cmp_le, cmp_in, cmp_notin, cmp_is, cmp_isnot, bin_add, bin_sub, b1_abs, ix0, ix1, items_lst, items_row, put, List.map_cons, List.map_nil, List.cons_append, List.nil_append, List.append_nil, List.length_cons, List.length_nil, List.replicate, List.getElem?_cons_zero, List.getElem?_cons_succ, List.getElem?_nil, List.set_cons_zero, List.set_cons_succ, List.set_nil, Nat.reduceAdd, Nat.reduceSub, Nat.reduceLT, Nat.reduceEqDiff, if_true, ite_true, if_false, ite_false, Option.map_some, Option.map_none, reduceIte, reduceCtorEq, Bool.false_eq_true, Nat.zero_add, Nat.add_zero, Nat.zero_lt_succ, Nat.zero_lt_one, Nat.lt_add_left_iff_pos, Nat.succ_eq_add_one, Nat.reduceLeDiff]
    refine seq_nx (run_asgq (by rfl) rfl rfl) ?_
    refine seq_nx (run_forq (by rfl) hf) ?_
    refine seq_nx ?_ ho
    simp only [run, List.getElem?_cons_zero, List.getElem?_cons_succ, List.set_cons_zero, List.set_cons_succ]
    have er : ev (S := List Int) (.call "reduced" 2 g_reduced (.cons (.var 4) (.cons (.con (.int 5)) .nil))) [.va (tab ms), .va (.str (nm i)), .va (.dct (kv (fun j => row (ms.getD j [])) (List.range 6))), .va (.lst ((oth i).map fun j => .str (nm j))), .va (rows (mat ms i)), x5, .no, .no, .no, .no, .no, .no] s' = .ok (.v, .tup [rows (redQ (mat ms i) 5).1, rows (redQ (mat ms i) 5).2]) s' := by
      simp only [fnR, runs, run, ev, evA, evT, evI, bindq_ok, ob_ok, sq_nx, sq_rt, onO_some, liftO_some, kd_some, dat_v, dat_t, tru_bl, intOf_int, noExq, stk_v, stk_t, stk_o, stow_tt, stow_fv, stow_ft, eqD_int, cmp_ne, cmp_eq, cmp_gt, cmp_ge, cmp_lt, cmp_le, cmp_in, cmp_notin, cmp_is, cmp_isnot, bin_add, bin_sub, b1_abs, ix0, ix1, items_lst, items_row, put, List.map_cons, List.map_nil, List.cons_append, List.nil_append, List.append_nil, List.length_cons, List.length_nil, List.replicate, List.getElem?_cons_zero, List.getElem?_cons_succ, List.getElem?_nil, List.set_cons_zero, List.set_cons_succ, List.set_nil, Nat.reduceAdd, Nat.reduceSub, Nat.reduceLT, Nat.reduceEqDiff, if_true, ite_true, if_false, ite_false, Option.map_some, Option.map_none, reduceIte, reduceCtorEq, Bool.false_eq_true, Nat.zero_add, Nat.add_zero, Nat.zero_lt_succ, Nat.zero_lt_one, Nat.lt_add_left_iff_pos, Nat.succ_eq_add_one, Nat.reduceLeDiff, hred]
    rw [er]
    rfl
  have hlen5 : ∀ r ∈ (redQ (mat ms i) 5).2, ixD (row r) (.int 5) = some (F (r.getD 5 0)) := fun r hr => ix_row (p := 5) (by rw [R.len r (List.mem_append_right _ hr)]; decide)
  have hcnt : (redQ (mat ms i) 5).1.length + (redQ (mat ms i) 5).2.length = 3 := by rw [R.cnt, ml]
  have eany : ev (S := List Int) (.b1 .any (.lc (.seq (.var 7)) (.nm 9) .nil (.cmp .ne (.ix (.var 9) (.con (.int 5))) (.glb "ZERO" d_ZERO)) [9])) [.va (tab ms), .va (.str (nm i)), .va (.dct (kv (fun j => row (ms.getD j [])) (List.range 6))), .va (.lst ((oth i).map fun j => .str (nm j))), .va (rows (mat ms i)), x5, .va (rows (redQ (mat ms i) 5).1), .va (rows (redQ (mat ms i) 5).2), .no, .no, .no, .no] s' = .ok (.v, .bl ((redQ (mat ms i) 5).2.any fun r => !decide (r.getD 5 0 = 0))) s' := by
    rw [ev, ev_lc (l := (redQ (mat ms i) 5).2) (e := row) (g := fun r => .bl (!decide (r.getD 5 0 = 0))) (by simp only [fnR, runs, run, ev, evA, evT, evI, bindq_ok, ob_ok, sq_nx, sq_rt, onO_some, liftO_some, kd_some, dat_v, dat_t, tru_bl, intOf_int, noExq, stk_v, stk_t, stk_o, stow_tt, stow_fv, stow_ft, eqD_int, cmp_ne, cmp_eq, cmp_gt, cmp_ge, cmp_lt, cmp_le, cmp_in, cmp_notin, cmp_is, cmp_isnot, bin_add, bin_sub, b1_abs, ix0, ix1, items_lst, items_row, put, List.map_cons, List.map_nil, List.cons_append, List.nil_append, List.append_nil, List.length_cons, List.length_nil, List.replicate, List.getElem?_cons_zero, List.getElem?_cons_succ, List.getElem?_nil, List.set_cons_zero, List.set_cons_succ, List.set_nil, Nat.reduceAdd, Nat.reduceSub, Nat.reduceLT, Nat.reduceEqDiff, if_true, ite_true, if_false, ite_false, Option.map_some, Option.map_none, reduceIte, reduceCtorEq, Bool.false_eq_true, Nat.zero_add, Nat.add_zero, Nat.zero_lt_succ, Nat.zero_lt_one, Nat.lt_add_left_iff_pos, Nat.succ_eq_add_one, Nat.reduceLeDiff, rows]) (by omega) fun r hr => ⟨_, rfl, .v, nofun, ?_⟩]
    · rw [bindq_ok, any_map]
      rfl
    · simp only [wipeR, fnR, runs, run, ev, evA, evT, evI, bindq_ok, ob_ok, sq_nx, sq_rt, onO_some, liftO_some, kd_some, dat_v, dat_t, tru_bl, intOf_int, noExq, stk_v, stk_t, stk_o, stow_tt, stow_fv, stow_ft, eqD_int, cmp_ne, cmp_eq, cmp_gt, cmp_ge, cmp_lt, cmp_le, cmp_in, cmp_notin, cmp_is, cmp_isnot, bin_add, bin_sub, b1_abs, ix0, ix1, items_lst, items_row, put, List.map_cons, List.map_nil, List.cons_append, List.nil_append, List.append_nil, List.length_cons, List.length_nil, List.replicate, List.getElem?_cons_zero, List.getElem?_cons_succ, List.getElem?_nil, List.set_cons_zero, List.set_cons_succ, List.set_nil, Nat.reduceAdd, Nat.reduceSub, Nat.reduceLT, Nat.reduceEqDiff, if_true, ite_true, if_false, ite_false, Option.map_some, Option.map_none, reduceIte, reduceCtorEq, Bool.false_eq_true, Nat.zero_add, Nat.add_zero, Nat.zero_lt_succ, Nat.zero_lt_one, Nat.lt_add_left_iff_pos, Nat.succ_eq_add_one, Nat.reduceLeDiff, hlen5 r hr, zero_F, eqD_F]
  refine ⟨fun ha => start _ ?_, fun ha ps hps H => start _ ?_⟩
  · rw [ha] at eany
    exact seq_rt (run_ifq eany (by rfl))
  · rw [ha] at eany
    refine seq_nx (run_ifq eany (by rfl)) ?_
    refine seq_nx (run_asgq (by
      rw [ev, ev_lc (l := List.range 6) (e := fun j => .str (nm j)) (g := fun j => .tup [.str (nm j), F 0]) (names_items _ _ _) (by decide) fun j hj => ⟨_, rfl, .v, nofun, ?_⟩]
      · rw [bindq_ok, b1_dict_lst (fun _ => F 0) List.nodup_range]
        rfl
      · simp only [wipeR, fnR, runs, run, ev, evA, evT, evI, bindq_ok, ob_ok, sq_nx, sq_rt, onO_some, liftO_some, kd_some, dat_v, dat_t, tru_bl, intOf_int, noExq, stk_v, stk_t, stk_o, stow_tt, stow_fv, stow_ft, eqD_int, cmp_ne, cmp_eq, cmp_gt, cmp_ge, cmp_lt, cmp_le, cmp_in, cmp_notin, cmp_is, cmp_isnot, bin_add, bin_sub, b1_abs, ix0, ix1, items_lst, items_row, put, List.map_cons, List.map_nil, List.cons_append, List.nil_append, List.append_nil, List.length_cons, List.length_nil, List.replicate, List.getElem?_cons_zero, List.getElem?_cons_succ, List.getElem?_nil, List.set_cons_zero, List.set_cons_succ, List.set_nil, Nat.reduceAdd, Nat.reduceSub, Nat.reduceLT, Nat.reduceEqDiff, if_true, ite_true, if_false, ite_false, Option.map_some, Option.map_none, reduceIte, reduceCtorEq, Bool.false_eq_true, Nat.zero_add, Nat.add_zero, Nat.zero_lt_succ, Nat.zero_lt_one, Nat.lt_add_left_iff_pos, Nat.succ_eq_add_one, Nat.reduceLeDiff, zero_F, lenOk_of (show 2 ≤ 1000000 by decide)]) rfl rfl) ?_
    obtain ⟨ρ', s1, hg, c, x9, x10, rfl, rfl, hc, _⟩ := forR_ind (e := fun (x : List Rat × Nat) => row x.1) (f := fun d ρ s => onO (asgT (.nm 9) d ρ) fun ρ' => runs b_as_product_1 ρ' s)
      (P := fun (xs : List (List Rat × Nat)) ρ s1 => ∃ (c : Nat → Rat) (x9 x10 : SV), ρ = [.va (tab ms), .va (.str (nm i)), .va (.dct (kv (fun j => row (ms.getD j [])) (List.range 6))), .va (.lst ((oth i).map fun j => .str (nm j))), .va (rows (mat ms i)), x5, .va (rows (redQ (mat ms i) 5).1), .va (rows (redQ (mat ms i) 5).2), .ow (.dct (kv (fun j => F (c j)) (List.range 6))), x9, x10, .no] ∧ s1 = s' ∧ xs.foldl (cupd i) c = cfin i ps ∧ ∀ x ∈ xs, x ∈ ps)
      (fun x xs ρ s2 hP => by
        obtain ⟨c, x9, x10, rfl, rfl, hc, hm⟩ := hP
        have hx := hm x List.mem_cons_self
        have h6 : x.1.length = 6 := R.len _ (List.mem_append_left _ (by rw [hps]; exact List.mem_map.mpr ⟨x, hx, rfl⟩))
        obtain ⟨y10, ht⟩ := ap_put (a0 := .va (tab ms)) (a1 := .va (.str (nm i))) (a2 := .va (.dct (kv (fun j => row (ms.getD j [])) (List.range 6)))) (a4 := .va (rows (mat ms i))) (a5 := x5) (a6 := .va (rows (redQ (mat ms i) 5).1)) (a7 := .va (rows (redQ (mat ms i) 5).2)) (a10 := x10) (c := c) hi (H.lt x hx) h6 (H.one x hx) (H.ahead x hx) s2
        exact ⟨_, _, ht, cupd i c x, .va (row x.1), y10, rfl, rfl, hc, fun z hz => hm z (List.mem_cons_of_mem _ hz)⟩)
      ps [.va (tab ms), .va (.str (nm i)), .va (.dct (kv (fun j => row (ms.getD j [])) (List.range 6))), .va (.lst ((oth i).map fun j => .str (nm j))), .va (rows (mat ms i)), x5, .va (rows (redQ (mat ms i) 5).1), .va (rows (redQ (mat ms i) 5).2), .ow (.dct (kv (fun j => F ((fun _ => 0 : Nat → Rat) j)) (List.range 6))), .no, .no, .no] s' ⟨fun _ => 0, .no, .no, rfl, rfl, rfl, fun _ h => h⟩
    have hc : c = cfin i ps := hc
    subst hc
    refine seq_nx (run_forq (s1 := s1) (ds := ps.map fun x => row x.1) ?_ hg) ?_
    · simp only [fnR, runs, run, ev, evA, evT, evI, bindq_ok, ob_ok, sq_nx, sq_rt, onO_some, liftO_some, kd_some, dat_v, dat_t, tru_bl, intOf_int, noExq, stk_v, stk_t, stk_o, stow_tt, stow_fv, stow_ft, eqD_int, cmp_ne, cmp_eq, cmp_gt, cmp_ge, cmp_lt, cmp_le, cmp_in, cmp_notin, cmp_is, cmp_isnot, bin_add, bin_sub, b1_abs, ix0, ix1, items_lst, items_row, put, List.map_cons, List.map_nil, List.cons_append, List.nil_append, List.append_nil, List.length_cons, List.length_nil, List.replicate, List.getElem?_cons_zero, List.getElem?_cons_succ, List.getElem?_nil, List.set_cons_zero, List.set_cons_succ, List.set_nil, Nat.reduceAdd, Nat.reduceSub, Nat.reduceLT, Nat.reduceEqDiff, if_true, ite_true, if_false, ite_false, Option.map_some, Option.map_none, reduceIte, reduceCtorEq, Bool.false_eq_true, Nat.zero_add, Nat.add_zero, Nat.zero_lt_succ, Nat.zero_lt_one, Nat.lt_add_left_iff_pos, Nat.succ_eq_add_one, Nat.reduceLeDiff, rows, hps, List.map_map]
      rfl
    refine seq_rt ?_
    simp only [run, List.getElem?_cons_zero, List.getElem?_cons_succ, List.set_cons_zero, List.set_cons_succ]
    rw [ev, ev_lc (l := List.range 6) (e := fun j => .str (nm j)) (g := fun j => F (cfin i ps j)) (names_items _ _ _) (by decide) fun j hj => ⟨_, rfl, .v, nofun, ?_⟩]
    · have e1 : ((List.range 6).map fun j => F (cfin i ps j)) = ((List.range 6).map (cfin i ps)).map F := by rw [List.map_map]; rfl
      rw [e1]
      rfl
    · simp only [wipeR, fnR, runs, run, ev, evA, evT, evI, bindq_ok, ob_ok, sq_nx, sq_rt, onO_some, liftO_some, kd_some, dat_v, dat_t, tru_bl, intOf_int, noExq, stk_v, stk_t, stk_o, stow_tt, stow_fv, stow_ft, eqD_int, cmp_ne, cmp_eq, cmp_gt, cmp_ge, cmp_lt, cmp_le, cmp_in, cmp_notin, cmp_is, cmp_isnot, bin_add, bin_sub, b1_abs, ix0, ix1, items_lst, items_row, put, List.map_cons, List.map_nil, List.cons_append, List.nil_append, List.append_nil, List.length_cons, List.length_nil, List.replicate, List.getElem?_cons_zero, List.getElem?_cons_succ, List.getElem?_nil, List.set_cons_zero, List.set_cons_succ, List.set_nil, Nat.reduceAdd, Nat.reduceSub, Nat.reduceLT, Nat.reduceEqDiff, if_true, ite_true, if_false, ite_false, Option.map_some, Option.map_none, reduceIte, reduceCtorEq, Bool.false_eq_true, Nat.zero_add, Nat.add_zero, Nat.zero_lt_succ, Nat.zero_lt_one, Nat.lt_add_left_iff_pos, Nat.succ_eq_add_one, Nat.reduceLeDiff, ix_dctq, look_kv _ hj]
end Mf
set_option Elab.async false
set_option linter.all false
set_option maxRecDepth 100000
set_option maxHeartbeats 1000000
namespace Mf
open PySem L2
/-! ### _law_rank -/
theorem rank_row {B W : Nat} {r h : List Int} {p : Nat} (hr : r.length = W) (hh : h.length = W) (hb : ∀ x ∈ r, x.natAbs < 2 ^ B) (hc : ∀ x ∈ h, x.natAbs < 2 ^ B) (hp : p < W) (hB : 2 * B < 1000000) (hW : W ≤ 1000) (s : List Int) {ρ : List SV} (hl : ρ.length = 10) (h7 : ρ[7]? = some (.va (irow r))) (h6 : ρ[6]? = some (.va (irow h))) (h4 : ρ[4]? = some (.va (.int (p : Int)))) :
    ev (.lc (.zip (.var 7) (.var 6)) (.cons (.nm 8) (.cons (.nm 9) .nil)) .nil (.bin .sub (.bin .mul (.var 8) (.ix (.var 6) (.var 4))) (.bin .mul (.var 9) (.ix (.var 7) (.var 4)))) [8, 9]) ρ s = .ok (.t, irow (elim h p r)) s := by
  have hz : evI (S := List Int) false (.zip (.var 7) (.var 6)) ρ s = .ok ((r.zip h).map fun z => .tup [.int z.1, .int z.2]) s := by
    simp only [fnR, runs, run, ev, evA, evT, evI, bindq_ok, ob_ok, sq_nx, sq_rt, onO_some, liftO_some, kd_some, dat_v, dat_t, tru_bl, intOf_int, noExq, stk_v, stk_t, stk_o, stow_tt, stow_fv, stow_ft, eqD_int, cmp_ne, cmp_eq, cmp_gt, cmp_ge, cmp_lt, cmp_le, cmp_in, cmp_notin, cmp_is, cmp_isnot, bin_add, bin_sub, b1_abs, ix0, ix1, items_lst, items_row, put, List.map_cons, List.map_nil, List.cons_append, List.nil_append, List.append_nil, List.length_cons, List.length_nil, List.replicate, List.getElem?_cons_zero, List.getElem?_cons_succ, List.getElem?_nil, List.set_cons_zero, List.set_cons_succ, List.set_nil, Nat.reduceAdd, Nat.reduceSub, Nat.reduceLT, Nat.reduceEqDiff, if_true, ite_true, if_false, ite_false, Option.map_some, Option.map_none, reduceIte, reduceCtorEq, Bool.false_eq_true, Nat.zero_add, Nat.add_zero, Nat.zero_lt_succ, Nat.zero_lt_one, Nat.lt_add_left_iff_pos, Nat.succ_eq_add_one, Nat.reduceLeDiff, h7, h6]
    show liftO s (some (zipD (r.map D.int) (h.map D.int))) = _
    rw [zipD_map]
    rfl
  revert h7 h6 h4 hz
  match ρ, hl with
  | [a0, a1, a2, a3, a4, a5, a6, a7, a8, a9], _ =>
  intro h7 h6 h4 hz
  simp only [List.getElem?_cons_succ, List.getElem?_cons_zero, Option.some.injEq] at h7 h6 h4
  subst h7 h6 h4
  rw [ev_lc (g := fun z : Int × Int => .int (z.1 * h.getD p 0 - z.2 * r.getD p 0)) hz (by rw [List.length_zip]; omega) fun z hz => ⟨_, rfl, .v, nofun, ?_⟩]
  · unfold irow elim
    rw [List.map_map]
    rfl
  · have hz' := List.of_mem_zip hz
    have m1 := mulOk_of (hb _ hz'.1) (hc _ (igetD_mem (show p < h.length by omega))) (by omega)
    have m2 := mulOk_of (hc _ hz'.2) (hb _ (igetD_mem (show p < r.length by omega))) (by omega)
    simp only [wipeR, fnR, runs, run, ev, evA, evT, evI, bindq_ok, ob_ok, sq_nx, sq_rt, onO_some, liftO_some, kd_some, dat_v, dat_t, tru_bl, intOf_int, noExq, stk_v, stk_t, stk_o, stow_tt, stow_fv, stow_ft, eqD_int, cmp_ne, cmp_eq, cmp_gt, cmp_ge, cmp_lt, cmp_le, cmp_in, cmp_notin, cmp_is, cmp_isnot, bin_add, bin_sub, b1_abs, ix0, ix1, items_lst, items_row, put, List.map_cons, List.map_nil, List.cons_append, List.nil_append, List.append_nil, List.length_cons, List.length_nil, List.replicate, List.getElem?_cons_zero, List.getElem?_cons_succ, List.getElem?_nil, List.set_cons_zero, List.set_cons_succ, List.set_nil, Nat.reduceAdd, Nat.reduceSub, Nat.reduceLT, Nat.reduceEqDiff, if_true, ite_true, if_false, ite_false, Option.map_some, Option.map_none, reduceIte, reduceCtorEq, Bool.false_eq_true, Nat.zero_add, Nat.add_zero, Nat.zero_lt_succ, Nat.zero_lt_one, Nat.lt_add_left_iff_pos, Nat.succ_eq_add_one, Nat.reduceLeDiff, ix_irow (show p < h.length by omega), ix_irow (show p < r.length by omega), bin_mul m1, bin_mul m2]
theorem rank_turn {B W : Nat} {st : List (List Int) × Nat} {p : Nat} {a0 a3 x5 x6 : SV} (h1 : IV B W st.1) (hp : p < W) (hB : 2 * B < 1000000) (hW : W ≤ 1000) (hl : st.1.length ≤ 1000) (s : List Int) :
    ∃ y5 y6, runs b__law_rank_0 [a0, .ow (irows st.1), .va (.int (st.2 : Int)), a3, .va (.int (p : Int)), x5, x6, .no, .no, .no] s = .nx [a0, .ow (irows (rkStep st p).1), .va (.int ((rkStep st p).2 : Int)), a3, .va (.int (p : Int)), y5, y6, .no, .no, .no] s := by
  unfold b__law_rank_0
  rw [runs_cons, run, ev_lcf (l := st.1) (e := irow) (g := irow) (t := fun r => decide (r.getD p 0 ≠ 0)) (by simp only [irows, fnR, runs, run, ev, evA, evT, evI, bindq_ok, ob_ok, sq_nx, sq_rt, onO_some, liftO_some, kd_some, dat_v, dat_t, tru_bl, intOf_int, noExq, stk_v, stk_t, stk_o, stow_tt, stow_fv, stow_ft, eqD_int, cmp_ne, cmp_eq, cmp_gt, cmp_ge, cmp_lt, cmp_le, cmp_in, cmp_notin, cmp_is, cmp_isnot, bin_add, bin_sub, b1_abs, ix0, ix1, items_lst, items_row, put, List.map_cons, List.map_nil, List.cons_append, List.nil_append, List.append_nil, List.length_cons, List.length_nil, List.replicate, List.getElem?_cons_zero, List.getElem?_cons_succ, List.getElem?_nil, List.set_cons_zero, List.set_cons_succ, List.set_nil, Nat.reduceAdd, Nat.reduceSub, Nat.reduceLT, Nat.reduceEqDiff, if_true, ite_true, if_false, ite_false, Option.map_some, Option.map_none, reduceIte, reduceCtorEq, Bool.false_eq_true, Nat.zero_add, Nat.add_zero, Nat.zero_lt_succ, Nat.zero_lt_one, Nat.lt_add_left_iff_pos, Nat.succ_eq_add_one, Nat.reduceLeDiff]) (by omega) fun r hr => ⟨_, rfl, ⟨.v, ?_⟩, fun _ => ⟨.v, nofun, ?_⟩⟩]
  rotate_left
  · simp only [wipeR, fnR, runs, run, ev, evA, evT, evI, bindq_ok, ob_ok, sq_nx, sq_rt, onO_some, liftO_some, kd_some, dat_v, dat_t, tru_bl, intOf_int, noExq, stk_v, stk_t, stk_o, stow_tt, stow_fv, stow_ft, eqD_int, cmp_ne, cmp_eq, cmp_gt, cmp_ge, cmp_lt, cmp_le, cmp_in, cmp_notin, cmp_is, cmp_isnot, bin_add, bin_sub, b1_abs, ix0, ix1, items_lst, items_row, put, List.map_cons, List.map_nil, List.cons_append, List.nil_append, List.append_nil, List.length_cons, List.length_nil, List.replicate, List.getElem?_cons_zero, List.getElem?_cons_succ, List.getElem?_nil, List.set_cons_zero, List.set_cons_succ, List.set_nil, Nat.reduceAdd, Nat.reduceSub, Nat.reduceLT, Nat.reduceEqDiff, if_true, ite_true, if_false, ite_false, Option.map_some, Option.map_none, reduceIte, reduceCtorEq, Bool.false_eq_true, Nat.zero_add, Nat.add_zero, Nat.zero_lt_succ, Nat.zero_lt_one, Nat.lt_add_left_iff_pos, Nat.succ_eq_add_one, Nat.reduceLeDiff, ix_irow (show p < r.length by rw [(h1 r hr).1]; exact hp), decide_not]
  · simp only [wipeR, fnR, runs, run, ev, evA, evT, evI, bindq_ok, ob_ok, sq_nx, sq_rt, onO_some, liftO_some, kd_some, dat_v, dat_t, tru_bl, intOf_int, noExq, stk_v, stk_t, stk_o, stow_tt, stow_fv, stow_ft, eqD_int, cmp_ne, cmp_eq, cmp_gt, cmp_ge, cmp_lt, cmp_le, cmp_in, cmp_notin, cmp_is, cmp_isnot, bin_add, bin_sub, b1_abs, ix0, ix1, items_lst, items_row, put, List.map_cons, List.map_nil, List.cons_append, List.nil_append, List.append_nil, List.length_cons, List.length_nil, List.replicate, List.getElem?_cons_zero, List.getElem?_cons_succ, List.getElem?_nil, List.set_cons_zero, List.set_cons_succ, List.set_nil, Nat.reduceAdd, Nat.reduceSub, Nat.reduceLT, Nat.reduceEqDiff, if_true, ite_true, if_false, ite_false, Option.map_some, Option.map_none, reduceIte, reduceCtorEq, Bool.false_eq_true, Nat.zero_add, Nat.add_zero, Nat.zero_lt_succ, Nat.zero_lt_one, Nat.lt_add_left_iff_pos, Nat.succ_eq_add_one, Nat.reduceLeDiff]
  simp only [ob_ok, stow_ft, onO_some, put, List.length_cons, List.length_nil, Nat.reduceAdd, Nat.reduceLT, if_true, List.set_cons_succ, List.set_cons_zero, sq_nx]
  rw [runs_cons, run_ife]
  have et : (ev (.cmp .ne (.var 5) (.lst .nil)) [a0, .ow (irows st.1), .va (.int (st.2 : Int)), a3, .va (.int (p : Int)), .va (.lst ((st.1.filter fun r => decide (r.getD p 0 ≠ 0)).map irow)), x6, .no, .no, .no] s).bind tru = .ok (!(st.1.filter fun r => decide (r.getD p 0 ≠ 0)).isEmpty) s := by
    simp only [fnR, runs, run, ev, evA, evT, evI, bindq_ok, ob_ok, sq_nx, sq_rt, onO_some, liftO_some, kd_some, dat_v, dat_t, tru_bl, intOf_int, noExq, stk_v, stk_t, stk_o, stow_tt, stow_fv, stow_ft, eqD_int, cmp_ne, cmp_eq, cmp_gt, cmp_ge, cmp_lt, cmp_le, cmp_in, cmp_notin, cmp_is, cmp_isnot, bin_add, bin_sub, b1_abs, ix0, ix1, items_lst, items_row, put, List.map_cons, List.map_nil, List.cons_append, List.nil_append, List.append_nil, List.length_cons, List.length_nil, List.replicate, List.getElem?_cons_zero, List.getElem?_cons_succ, List.getElem?_nil, List.set_cons_zero, List.set_cons_succ, List.set_nil, Nat.reduceAdd, Nat.reduceSub, Nat.reduceLT, Nat.reduceEqDiff, if_true, ite_true, if_false, ite_false, Option.map_some, Option.map_none, reduceIte, reduceCtorEq, Bool.false_eq_true, Nat.zero_add, Nat.add_zero, Nat.zero_lt_succ, Nat.zero_lt_one, Nat.lt_add_left_iff_pos, Nat.succ_eq_add_one, Nat.reduceLeDiff, lenOk_of (show 0 ≤ 1000000 by decide), eqD_inil]
  rw [et, ob_ok]
  cases hf : st.1.filter (fun r => decide (r.getD p 0 ≠ 0)) with
  | nil =>
    refine ⟨.va (.lst []), x6, ?_⟩
    have : rkStep st p = st := by unfold rkStep; rw [hf]
    rw [this]
    simp only [List.isEmpty_nil, Bool.not_true, Bool.false_eq_true, if_false, runs_nil, sq_nx, List.map_nil]
  | cons h t =>
    have hm : h ∈ st.1.filter (fun r => decide (r.getD p 0 ≠ 0)) := by rw [hf]; exact List.mem_cons_self
    obtain ⟨hm1, hm2⟩ := List.mem_filter.mp hm
    have er : rkStep st p = ((st.1.erase h).map (elim h p), st.2 + 1) := by unfold rkStep; rw [hf]
    rw [er]
    refine ⟨.va (.lst (irow h :: t.map irow)), .va (irow h), ?_⟩
    simp only [List.isEmpty_cons, Bool.not_false, if_true, List.map_cons]
    have i0 : ∀ ds : List D, ixD (.lst (irow h :: ds)) (.int 0) = some (irow h) := fun ds => by
      show atI (irow h :: ds) ((0 : Nat) : Int) = _
      exact atI_nat rfl
    obtain ⟨j, hj1, hj2⟩ := erase_irow hm1
    refine (congrArg (fun o : Out (List Int) => o.sq _) (a₂ := .nx [a0, .ow (irows ((st.1.erase h).map (elim h p))), .va (.int ((st.2 + 1 : Nat) : Int)), a3, .va (.int (p : Int)), .va (.lst (irow h :: t.map irow)), .va (irow h), .no, .no, .no] s) ?_).trans rfl
    refine seq_asg (x := (.v, irow h)) (by simp only [fnR, runs, run, ev, evA, evT, evI, bindq_ok, ob_ok, sq_nx, sq_rt, onO_some, liftO_some, kd_some, dat_v, dat_t, tru_bl, intOf_int, noExq, stk_v, stk_t, stk_o, stow_tt, stow_fv, stow_ft, eqD_int, cmp_ne, cmp_eq, cmp_gt, cmp_ge, cmp_lt, cmp_le, cmp_in, cmp_notin, cmp_is, cmp_isnot, bin_add, bin_sub, b1_abs, ix0, ix1, items_lst, items_row, put, List.map_cons, List.map_nil, List.cons_append, List.nil_append, List.append_nil, List.length_cons, List.length_nil, List.replicate, List.getElem?_cons_zero, List.getElem?_cons_succ, List.getElem?_nil, List.set_cons_zero, List.set_cons_succ, List.set_nil, Nat.reduceAdd, Nat.reduceSub, Nat.reduceLT, Nat.reduceEqDiff, if_true, ite_true, if_false, ite_false, Option.map_some, Option.map_none, reduceIte, reduceCtorEq, Bool.false_eq_true, Nat.zero_add, Nat.add_zero, Nat.zero_lt_succ, Nat.zero_lt_one, Nat.lt_add_left_iff_pos, Nat.succ_eq_add_one, Nat.reduceLeDiff, i0]) rfl rfl ?_
    rw [runs_cons, run]
    have eo : ownL [a0, .ow (irows st.1), .va (.int (st.2 : Int)), a3, .va (.int (p : Int)), .va (.lst (irow h :: t.map irow)), .va (irow h), .no, .no, .no] 1 = some (st.1.map irow) := rfl
    show ((onO (ownL [a0, .ow (irows st.1), .va (.int (st.2 : Int)), a3, .va (.int (p : Int)), .va (.lst (irow h :: t.map irow)), .va (irow h), .no, .no, .no] 1) _).sq _) = _
    rw [eo, onO_some]
    have e3 : ev (.var 6) [a0, .ow (irows st.1), .va (.int (st.2 : Int)), a3, .va (.int (p : Int)), .va (.lst (irow h :: t.map irow)), .va (irow h), .no, .no, .no] s = .ok (.v, irow h) s := by simp only [fnR, runs, run, ev, evA, evT, evI, bindq_ok, ob_ok, sq_nx, sq_rt, onO_some, liftO_some, kd_some, dat_v, dat_t, tru_bl, intOf_int, noExq, stk_v, stk_t, stk_o, stow_tt, stow_fv, stow_ft, eqD_int, cmp_ne, cmp_eq, cmp_gt, cmp_ge, cmp_lt, cmp_le, cmp_in, cmp_notin, cmp_is, cmp_isnot, bin_add, bin_sub, b1_abs, ix0, ix1, items_lst, items_row, put, List.map_cons, List.map_nil, List.cons_append, List.nil_append, List.append_nil, List.length_cons, List.length_nil, List.replicate, List.getElem?_cons_zero, List.getElem?_cons_succ, List.getElem?_nil, List.set_cons_zero, List.set_cons_succ, List.set_nil, Nat.reduceAdd, Nat.reduceSub, Nat.reduceLT, Nat.reduceEqDiff, if_true, ite_true, if_false, ite_false, Option.map_some, Option.map_none, reduceIte, reduceCtorEq, Bool.false_eq_true, Nat.zero_add, Nat.add_zero, Nat.zero_lt_succ, Nat.zero_lt_one, Nat.lt_add_left_iff_pos, Nat.succ_eq_add_one, Nat.reduceLeDiff]
    simp only [e3, ob_ok, sh_irow 59 h, shs_irows 58 st.1, Bool.and_self, if_true, find_irow, hj1, onO_some, hj2, List.set_cons_succ, List.set_cons_zero, sq_nx]
    refine seq_asg (x := (.t, .lst ((st.1.erase h).map fun r => irow (elim h p r)))) (ev_lc (l := st.1.erase h) (e := irow) (g := fun r => irow (elim h p r)) (by simp only [fnR, runs, run, ev, evA, evT, evI, bindq_ok, ob_ok, sq_nx, sq_rt, onO_some, liftO_some, kd_some, dat_v, dat_t, tru_bl, intOf_int, noExq, stk_v, stk_t, stk_o, stow_tt, stow_fv, stow_ft, eqD_int, cmp_ne, cmp_eq, cmp_gt, cmp_ge, cmp_lt, cmp_le, cmp_in, cmp_notin, cmp_is, cmp_isnot, bin_add, bin_sub, b1_abs, ix0, ix1, items_lst, items_row, put, List.map_cons, List.map_nil, List.cons_append, List.nil_append, List.append_nil, List.length_cons, List.length_nil, List.replicate, List.getElem?_cons_zero, List.getElem?_cons_succ, List.getElem?_nil, List.set_cons_zero, List.set_cons_succ, List.set_nil, Nat.reduceAdd, Nat.reduceSub, Nat.reduceLT, Nat.reduceEqDiff, if_true, ite_true, if_false, ite_false, Option.map_some, Option.map_none, reduceIte, reduceCtorEq, Bool.false_eq_true, Nat.zero_add, Nat.add_zero, Nat.zero_lt_succ, Nat.zero_lt_one, Nat.lt_add_left_iff_pos, Nat.succ_eq_add_one, Nat.reduceLeDiff]) (by have := List.length_erase_of_mem hm1; omega) fun r hr => ⟨_, rfl, .t, nofun, ?_⟩) rfl rfl ?_
    · have hr' := List.mem_of_mem_erase hr
      exact rank_row (h1 r hr').1 (h1 h hm1).1 (h1 r hr').2 (h1 h hm1).2 hp hB hW s rfl rfl rfl rfl
    simp only [fnR, runs, run, ev, evA, evT, evI, bindq_ok, ob_ok, sq_nx, sq_rt, onO_some, liftO_some, kd_some, dat_v, dat_t, tru_bl, intOf_int, noExq, stk_v, stk_t, stk_o, stow_tt, stow_fv, stow_ft, eqD_int, cmp_ne, cmp_eq, cmp_gt, cmp_ge, cmp_lt, cmp_le, cmp_in, cmp_notin, cmp_is, cmp_isnot, bin_add, bin_sub, b1_abs, ix0, ix1, items_lst, items_row, put, List.map_cons, List.map_nil, List.cons_append, List.nil_append, List.append_nil, List.length_cons, List.length_nil, List.replicate, List.getElem?_cons_zero, List.getElem?_cons_succ, List.getElem?_nil, List.set_cons_zero, List.set_cons_succ, List.set_nil, Nat.reduceAdd, Nat.reduceSub, Nat.reduceLT, Nat.reduceEqDiff, if_true, ite_true, if_false, ite_false, Option.map_some, Option.map_none, reduceIte, reduceCtorEq, Bool.false_eq_true, Nat.zero_add, Nat.add_zero, Nat.zero_lt_succ, Nat.zero_lt_one, Nat.lt_add_left_iff_pos, Nat.succ_eq_add_one, Nat.reduceLeDiff]
    simp only [irows, List.map_map]
    rfl
theorem g__law_rank_ok {B W : Nat} {L : List (List Int)} (hL : IV B W L) (hB : 2 * bi B W < 1000000) (hW : W ≤ 1000) (hl : L.length ≤ 1000) (s : List Int) : g__law_rank [irows L] s = .ok (.int (rk W 0 L : Nat)) s := by
  refine fnR_rt ?_
  show runs c__law_rank [.va (irows L), .no, .no, .no, .no, .no, .no, .no, .no, .no] s = _
  unfold c__law_rank
  have e1 : ev (S := List Int) (.lc (.seq (.var 0)) (.nm 7) .nil (.b1 .list (.var 7)) [7]) [.va (irows L), .no, .no, .no, .no, .no, .no, .no, .no, .no] s = .ok (.t, irows L) s :=
    ev_lc (l := L) (e := irow) (g := irow) (by simp only [irows, fnR, runs, run, ev, evA, evT, evI, bindq_ok, ob_ok, sq_nx, sq_rt, onO_some, liftO_some, kd_some, dat_v, dat_t, tru_bl, intOf_int, noExq, stk_v, stk_t, stk_o, stow_tt, stow_fv, stow_ft, eqD_int, cmp_ne, cmp_eq, cmp_gt, cmp_ge, cmp_lt, cmp_le, cmp_in, cmp_notin, cmp_is, cmp_isnot, bin_add, bin_sub, b1_abs, ix0, ix1, items_lst, items_row, put, List.map_cons, List.map_nil, List.cons_append, List.nil_append, List.append_nil, List.length_cons, List.length_nil, List.replicate, List.getElem?_cons_zero, List.getElem?_cons_succ, List.getElem?_nil, List.set_cons_zero, List.set_cons_succ, List.set_nil, Nat.reduceAdd, Nat.reduceSub, Nat.reduceLT, Nat.reduceEqDiff, if_true, ite_true, if_false, ite_false, Option.map_some, Option.map_none, reduceIte, reduceCtorEq, Bool.false_eq_true, Nat.zero_add, Nat.add_zero, Nat.zero_lt_succ, Nat.zero_lt_one, Nat.lt_add_left_iff_pos, Nat.succ_eq_add_one, Nat.reduceLeDiff]) (by omega) fun r hr => ⟨_, rfl, .t, nofun, by simp only [wipeR, fnR, runs, run, ev, evA, evT, evI, bindq_ok, ob_ok, sq_nx, sq_rt, onO_some, liftO_some, kd_some, dat_v, dat_t, tru_bl, intOf_int, noExq, stk_v, stk_t, stk_o, stow_tt, stow_fv, stow_ft, eqD_int, cmp_ne, cmp_eq, cmp_gt, cmp_ge, cmp_lt, cmp_le, cmp_in, cmp_notin, cmp_is, cmp_isnot, bin_add, bin_sub, b1_abs, ix0, ix1, items_lst, items_row, put, List.map_cons, List.map_nil, List.cons_append, List.nil_append, List.append_nil, List.length_cons, List.length_nil, List.replicate, List.getElem?_cons_zero, List.getElem?_cons_succ, List.getElem?_nil, List.set_cons_zero, List.set_cons_succ, List.set_nil, Nat.reduceAdd, Nat.reduceSub, Nat.reduceLT, Nat.reduceEqDiff, if_true, ite_true, if_false, ite_false, Option.map_some, Option.map_none, reduceIte, reduceCtorEq, Bool.false_eq_true, Nat.zero_add, Nat.add_zero, Nat.zero_lt_succ, Nat.zero_lt_one, Nat.lt_add_left_iff_pos, Nat.succ_eq_add_one, Nat.reduceLeDiff, irow, b1D]⟩
  refine seq_nx (s' := s) (ρ' := [.va (irows L), .ow (irows L), .va (.int ((0 : Nat) : Int)), .no, .no, .no, .no, .no, .no, .no]) ?_ ?_
  · rw [run, e1]
    simp only [fnR, runs, run, ev, evA, evT, evI, bindq_ok, ob_ok, sq_nx, sq_rt, onO_some, liftO_some, kd_some, dat_v, dat_t, tru_bl, intOf_int, noExq, stk_v, stk_t, stk_o, stow_tt, stow_fv, stow_ft, eqD_int, cmp_ne, cmp_eq, cmp_gt, cmp_ge, cmp_lt, cmp_le, cmp_in, cmp_notin, cmp_is, cmp_isnot, bin_add, bin_sub, b1_abs, ix0, ix1, items_lst, items_row, put, List.map_cons, List.map_nil, List.cons_append, List.nil_append, List.append_nil, List.length_cons, List.length_nil, List.replicate, List.getElem?_cons_zero, List.getElem?_cons_succ, List.getElem?_nil, List.set_cons_zero, List.set_cons_succ, List.set_nil, Nat.reduceAdd, Nat.reduceSub, Nat.reduceLT, Nat.reduceEqDiff, if_true, ite_true, if_false, ite_false, Option.map_some, Option.map_none, reduceIte, reduceCtorEq, Bool.false_eq_true, Nat.zero_add, Nat.add_zero, Nat.zero_lt_succ, Nat.zero_lt_one, Nat.lt_add_left_iff_pos, Nat.succ_eq_add_one, Nat.reduceLeDiff]
    rfl
  cases L with
  | nil =>
    refine seq_asg (x := (.v, .int 0)) (by rfl) rfl rfl ?_
    rw [rk_nil]
    rfl
  | cons r0 L0 =>
    have hw : r0.length = W := (hL r0 List.mem_cons_self).1
    refine seq_asg (x := (.v, .int (W : Int))) ?_ rfl rfl ?_
    · have i0 : ixD (irows (r0 :: L0)) (.int 0) = some (irow r0) := by
        show atI (irow r0 :: L0.map irow) ((0 : Nat) : Int) = _
        exact atI_nat rfl
      have i1 : b1D .len (irow r0) = some (.v, .int (W : Int)) := by
        show some (K3.v, D.int ((r0.map D.int).length : Nat)) = _
        rw [List.length_map, hw]
      have i2 : eqD (irows (r0 :: L0)) (.lst []) = some false := eqD_inil (r0 :: L0)
      simp only [fnR, runs, run, ev, evA, evT, evI, bindq_ok, ob_ok, sq_nx, sq_rt, onO_some, liftO_some, kd_some, dat_v, dat_t, tru_bl, intOf_int, noExq, stk_v, stk_t, stk_o, stow_tt, stow_fv, stow_ft, eqD_int, cmp_ne, cmp_eq, cmp_gt, cmp_ge, cmp_lt, cmp_le, cmp_in, cmp_notin, cmp_is, cmp_isnot, bin_add, bin_sub, b1_abs, ix0, ix1, items_lst, items_row, put, List.map_cons, List.map_nil, List.cons_append, List.nil_append, List.append_nil, List.length_cons, List.length_nil, List.replicate, List.getElem?_cons_zero, List.getElem?_cons_succ, List.getElem?_nil, List.set_cons_zero, List.set_cons_succ, List.set_nil, Nat.reduceAdd, Nat.reduceSub, Nat.reduceLT, Nat.reduceEqDiff, if_true, ite_true, if_false, ite_false, Option.map_some, Option.map_none, reduceIte, reduceCtorEq, Bool.false_eq_true, Nat.zero_add, Nat.add_zero, Nat.zero_lt_succ, Nat.zero_lt_one, Nat.lt_add_left_iff_pos, Nat.succ_eq_add_one, Nat.reduceLeDiff, lenOk_of (show 0 ≤ 1000000 by decide), i2, i0, i1, Bool.not_false]
    obtain ⟨ρ', s', hf, st, x4, x5, x6, rfl, rfl, hst, _⟩ := forR_ind (e := fun (i : Nat) => D.int (i : Int)) (f := fun d ρ s => onO (asgT (.nm 4) d ρ) fun ρ' => runs b__law_rank_0 ρ' s)
      (P := fun (ps : List Nat) ρ s' => ∃ (st : List (List Int) × Nat) (x4 x5 x6 : SV), ρ = [.va (irows (r0 :: L0)), .ow (irows st.1), .va (.int (st.2 : Int)), .va (.int (W : Int)), x4, x5, x6, .no, .no, .no] ∧ s' = s ∧ (ps.foldl rkStep st).2 = rk W 0 (r0 :: L0) ∧
        (∀ p ∈ ps, p < W) ∧ ps.length ≤ W ∧ IV (bi B (W - ps.length)) W st.1 ∧ st.1.length ≤ 1000)
      (fun p ps ρ s1 hP => by
        obtain ⟨st, x4, x5, x6, rfl, rfl, hst, hps, hle, hi, hl⟩ := hP
        have hpw := hps p List.mem_cons_self
        have hb := bi_mono (B := B) (show W - (p :: ps).length ≤ W by omega)
        obtain ⟨y5, y6, ht⟩ := rank_turn (a0 := .va (irows (r0 :: L0))) (a3 := .va (.int (W : Int))) (x5 := x5) (x6 := x6) hi hpw (by omega) hW hl s1
        have inv := rkStep_inv hi hpw
        simp only [List.length_cons] at hle
        refine ⟨_, _, ht, rkStep st p, .va (.int (p : Int)), y5, y6, rfl, rfl, hst, fun q hq => hps q (List.mem_cons_of_mem _ hq), by omega, ?_, by omega⟩
        have e : W - ps.length = (W - (p :: ps).length) + 1 := by simp only [List.length_cons]; omega
        rw [e]
        exact inv.1) (List.range W) _ s ⟨(r0 :: L0, 0), .no, .no, .no, rfl, rfl, by rw [List.range_eq_range', rkStep_fold]; simp, fun p hp => List.mem_range.mp hp, by simp, by simp; exact hL, hl⟩
    refine seq_nx (run_forq (s1 := s') (ds := (List.range W).map fun (i : Nat) => D.int (i : Int)) ?_ hf) ?_
    · simp only [fnR, runs, run, ev, evA, evT, evI, bindq_ok, ob_ok, sq_nx, sq_rt, onO_some, liftO_some, kd_some, dat_v, dat_t, tru_bl, intOf_int, noExq, stk_v, stk_t, stk_o, stow_tt, stow_fv, stow_ft, eqD_int, cmp_ne, cmp_eq, cmp_gt, cmp_ge, cmp_lt, cmp_le, cmp_in, cmp_notin, cmp_is, cmp_isnot, bin_add, bin_sub, b1_abs, ix0, ix1, items_lst, items_row, put, List.map_cons, List.map_nil, List.cons_append, List.nil_append, List.append_nil, List.length_cons, List.length_nil, List.replicate, List.getElem?_cons_zero, List.getElem?_cons_succ, List.getElem?_nil, List.set_cons_zero, List.set_cons_succ, List.set_nil, Nat.reduceAdd, Nat.reduceSub, Nat.reduceLT, Nat.reduceEqDiff, if_true, ite_true, if_false, ite_false, Option.map_some, Option.map_none, reduceIte, reduceCtorEq, Bool.false_eq_true, Nat.zero_add, Nat.add_zero, Nat.zero_lt_succ, Nat.zero_lt_one, Nat.lt_add_left_iff_pos, Nat.succ_eq_add_one, Nat.reduceLeDiff, decide_eq_true (show (-1000000 : Int) ≤ W by omega), decide_eq_true (show (W : Int) ≤ 1000000 by omega), Bool.and_self, rngD, Int.toNat_natCast]
    have hst : st.2 = rk W 0 (r0 :: L0) := hst
    simp only [fnR, runs, run, ev, evA, evT, evI, bindq_ok, ob_ok, sq_nx, sq_rt, onO_some, liftO_some, kd_some, dat_v, dat_t, tru_bl, intOf_int, noExq, stk_v, stk_t, stk_o, stow_tt, stow_fv, stow_ft, eqD_int, cmp_ne, cmp_eq, cmp_gt, cmp_ge, cmp_lt, cmp_le, cmp_in, cmp_notin, cmp_is, cmp_isnot, bin_add, bin_sub, b1_abs, ix0, ix1, items_lst, items_row, put, List.map_cons, List.map_nil, List.cons_append, List.nil_append, List.append_nil, List.length_cons, List.length_nil, List.replicate, List.getElem?_cons_zero, List.getElem?_cons_succ, List.getElem?_nil, List.set_cons_zero, List.set_cons_succ, List.set_nil, Nat.reduceAdd, Nat.reduceSub, Nat.reduceLT, Nat.reduceEqDiff, if_true, ite_true, if_false, ite_false, Option.map_some, Option.map_none, reduceIte, reduceCtorEq, Bool.false_eq_true, Nat.zero_add, Nat.add_zero, Nat.zero_lt_succ, Nat.zero_lt_one, Nat.lt_add_left_iff_pos, Nat.succ_eq_add_one, Nat.reduceLeDiff, hst]
end Mf
set_option Elab.async false
set_option linter.all false
set_option maxRecDepth 100000
set_option maxHeartbeats 1000000
namespace Mf
open PySem L2
variable {p : Addr} {ns : List Int}
theorem doubled_ok {ms : List (List Rat)} (T : Tab ms) {j : Nat} (hj : j < 6) (s : List Int) : g__law_doubled [tab ms, .str (nm j)] s = .ok (irow (dbl (ms.getD j []))) s := by
  refine fnR_rt ?_
  show runs c__law_doubled [.va (tab ms), .va (.str (nm j)), .no, .no] s = _
  unfold c__law_doubled
  have key : ∀ j ∈ List.range 6, (List.range 6).filter (fun k => decide (k = j)) = [j] := by decide +kernel
  have it : evI (S := List Int) false (.seq (.var 0)) [.va (tab ms), .va (.str (nm j)), .no, .no] s = .ok ((List.range 6).map fun k => ent k (ms.getD k [])) s := by
    simp only [fnR, runs, run, ev, evA, evT, evI, bindq_ok, ob_ok, sq_nx, sq_rt, onO_some, liftO_some, kd_some, dat_v, dat_t, tru_bl, intOf_int, noExq, stk_v, stk_t, stk_o, stow_tt, stow_fv, stow_ft, eqD_int, cmp_ne, cmp_eq, cmp_gt, cmp_ge, cmp_lt, cmp_le, cmp_in, cmp_notin, cmp_is, cmp_isnot, bin_add, bin_sub, b1_abs, ix0, ix1, items_lst, items_row, put, List.map_cons, List.map_nil, List.cons_append, List.nil_append, List.append_nil, List.length_cons, List.length_nil, List.replicate, List.getElem?_cons_zero, List.getElem?_cons_succ, List.getElem?_nil, List.set_cons_zero, List.set_cons_succ, List.set_nil, Nat.reduceAdd, Nat.reduceSub, Nat.reduceLT, Nat.reduceEqDiff, if_true, ite_true, if_false, ite_false, Option.map_some, Option.map_none, reduceIte, reduceCtorEq, Bool.false_eq_true, Nat.zero_add, Nat.add_zero, Nat.zero_lt_succ, Nat.zero_lt_one, Nat.lt_add_left_iff_pos, Nat.succ_eq_add_one, Nat.reduceLeDiff]
    show liftO s (some (ents ms)) = _
    unfold ents
    rw [T.six]
    rfl
  refine seq_ret (k := .v) ?_ nofun
  rw [ev, ev_lcf (l := List.range 6) (g := fun k => irow (dbl (ms.getD k []))) (t := fun k => decide (k = j)) it (by decide) fun k hk => ⟨_, rfl, ⟨.v, ?_⟩, fun _ => ⟨.t, nofun, ?_⟩⟩]
  · rw [key j (List.mem_range.mpr hj)]
    rfl
  · simp only [wipeR, fnR, runs, run, ev, evA, evT, evI, bindq_ok, ob_ok, sq_nx, sq_rt, onO_some, liftO_some, kd_some, dat_v, dat_t, tru_bl, intOf_int, noExq, stk_v, stk_t, stk_o, stow_tt, stow_fv, stow_ft, eqD_int, cmp_ne, cmp_eq, cmp_gt, cmp_ge, cmp_lt, cmp_le, cmp_in, cmp_notin, cmp_is, cmp_isnot, bin_add, bin_sub, b1_abs, ix0, ix1, items_lst, items_row, put, List.map_cons, List.map_nil, List.cons_append, List.nil_append, List.append_nil, List.length_cons, List.length_nil, List.replicate, List.getElem?_cons_zero, List.getElem?_cons_succ, List.getElem?_nil, List.set_cons_zero, List.set_cons_succ, List.set_nil, Nat.reduceAdd, Nat.reduceSub, Nat.reduceLT, Nat.reduceEqDiff, if_true, ite_true, if_false, ite_false, Option.map_some, Option.map_none, reduceIte, reduceCtorEq, Bool.false_eq_true, Nat.zero_add, Nat.add_zero, Nat.zero_lt_succ, Nat.zero_lt_one, Nat.lt_add_left_iff_pos, Nat.succ_eq_add_one, Nat.reduceLeDiff, ix_ent0, eq_nm (List.mem_range.mp hk) hj]
  · have hk := List.mem_range.mp hk
    rw [ev_lc (l := ms.getD k []) (e := F) (g := fun x => .int (dbl1 x)) (by simp only [wipeR, fnR, runs, run, ev, evA, evT, evI, bindq_ok, ob_ok, sq_nx, sq_rt, onO_some, liftO_some, kd_some, dat_v, dat_t, tru_bl, intOf_int, noExq, stk_v, stk_t, stk_o, stow_tt, stow_fv, stow_ft, eqD_int, cmp_ne, cmp_eq, cmp_gt, cmp_ge, cmp_lt, cmp_le, cmp_in, cmp_notin, cmp_is, cmp_isnot, bin_add, bin_sub, b1_abs, ix0, ix1, items_lst, items_row, put, List.map_cons, List.map_nil, List.cons_append, List.nil_append, List.append_nil, List.length_cons, List.length_nil, List.replicate, List.getElem?_cons_zero, List.getElem?_cons_succ, List.getElem?_nil, List.set_cons_zero, List.set_cons_succ, List.set_nil, Nat.reduceAdd, Nat.reduceSub, Nat.reduceLT, Nat.reduceEqDiff, if_true, ite_true, if_false, ite_false, Option.map_some, Option.map_none, reduceIte, reduceCtorEq, Bool.false_eq_true, Nat.zero_add, Nat.add_zero, Nat.zero_lt_succ, Nat.zero_lt_one, Nat.lt_add_left_iff_pos, Nat.succ_eq_add_one, Nat.reduceLeDiff, ix_ent1]) (by rw [T.three _ (T.get hk)]; decide) fun x hx => ⟨_, rfl, .v, nofun, ?_⟩]
    · unfold irow dbl
      rw [List.map_map]
      rfl
    · have hs := T.sm _ (T.get hk) x hx
      have d1 := divOk_of (den_ne x) hs.bd.den (by decide)
      have m1 : mulOk x.num ((2 : Int).fdiv x.den) = true := mulOk_of hs.bd.1 (b := 2) (by rcases hs.2 with d | d <;> rw [d] <;> decide) (by decide)
      simp only [wipeR, fnR, runs, run, ev, evA, evT, evI, bindq_ok, ob_ok, sq_nx, sq_rt, onO_some, liftO_some, kd_some, dat_v, dat_t, tru_bl, intOf_int, noExq, stk_v, stk_t, stk_o, stow_tt, stow_fv, stow_ft, eqD_int, cmp_ne, cmp_eq, cmp_gt, cmp_ge, cmp_lt, cmp_le, cmp_in, cmp_notin, cmp_is, cmp_isnot, bin_add, bin_sub, b1_abs, ix0, ix1, items_lst, items_row, put, List.map_cons, List.map_nil, List.cons_append, List.nil_append, List.append_nil, List.length_cons, List.length_nil, List.replicate, List.getElem?_cons_zero, List.getElem?_cons_succ, List.getElem?_nil, List.set_cons_zero, List.set_cons_succ, List.set_nil, Nat.reduceAdd, Nat.reduceSub, Nat.reduceLT, Nat.reduceEqDiff, if_true, ite_true, if_false, ite_false, Option.map_some, Option.map_none, reduceIte, reduceCtorEq, Bool.false_eq_true, Nat.zero_add, Nat.add_zero, Nat.zero_lt_succ, Nat.zero_lt_one, Nat.lt_add_left_iff_pos, Nat.succ_eq_add_one, Nat.reduceLeDiff, ixF0, ixF1, bin_fdv d1, bin_mul m1, dbl1]
theorem found_ok {ms : List (List Rat)} (T : Tab ms) {c : Nat → Rat} (hc : ∀ j, bd 170 (c j)) {a0 a1 a2 a3 a4 a5 a6 a7 a8 a10 a11 a12 a13 a14 : SV} (s : List Int) :
    ∃ y10 y11, forR (fun d ρ s => onO (asgT (.cons (.nm 10) (.cons (.nm 11) .nil)) d ρ) fun ρ' => runs (b_law_0 p) ρ' s) ((List.range 6).map fun j => .tup [ent j (ms.getD j []), F (c j)]) [a0, a1, a2, a3, a4, a5, a6, a7, a8, .va (row (acc ms c 0)), a10, a11, a12, a13, a14] s = .nx [a0, a1, a2, a3, a4, a5, a6, a7, a8, .va (row (acc ms c 6)), y10, y11, a12, a13, a14] s := by
  obtain ⟨ρ', s', h, rfl, y10, y11, rfl, _⟩ := forR_range (n := 6) (e := fun j => .tup [ent j (ms.getD j []), F (c j)]) (f := fun d ρ s => onO (asgT (.cons (.nm 10) (.cons (.nm 11) .nil)) d ρ) fun ρ' => runs (b_law_0 p) ρ' s)
    (P := fun k ρ s' => s' = s ∧ ∃ y10 y11, ρ = [a0, a1, a2, a3, a4, a5, a6, a7, a8, .va (row (acc ms c k)), y10, y11, a12, a13, a14] ∧ bds (173 * k + 1) (acc ms c k)) (fun k hk ρ s1 hP => by
    obtain ⟨rfl, y10, y11, rfl, hb⟩ := hP
    have hm : bds 2 (ms.getD k []) := fun x hx => (T.sm _ (T.get hk) x hx).bd
    have e := g__law_all_ok hb hm (hc k) (by omega) (by unfold acc; simp) s1
    have hb' := bds_radd hb hm (hc k)
    rw [acc_succ T c hk] at e hb'
    refine ⟨_, _, ?_, rfl, .va (ent k (ms.getD k [])), .va (F (c k)), rfl, hb'.mono (by omega)⟩
    show runs (b_law_0 p) [a0, a1, a2, a3, a4, a5, a6, a7, a8, .va (row (acc ms c k)), .va (ent k (ms.getD k [])), .va (F (c k)), a12, a13, a14] s1 = _
    unfold b_law_0
    simp only [fnR, runs, run, ev, evA, evT, evI, bindq_ok, ob_ok, sq_nx, sq_rt, onO_some, liftO_some, kd_some, dat_v, dat_t, tru_bl, intOf_int, noExq, stk_v, stk_t, stk_o, stow_tt, stow_fv, stow_ft, eqD_int, cmp_ne, cmp_eq, cmp_gt, cmp_ge, cmp_lt, cmp_le, cmp_in, cmp_notin, cmp_is, cmp_isnot, bin_add, bin_sub, b1_abs, ix0, ix1, items_lst, items_row, put, List.map_cons, List.map_nil, List.cons_append, List.nil_append, List.append_nil, List.length_cons, List.length_nil, List.replicate, List.getElem?_cons_zero, List.getElem?_cons_succ, List.getElem?_nil, List.set_cons_zero, List.set_cons_succ, List.set_nil, Nat.reduceAdd, Nat.reduceSub, Nat.reduceLT, Nat.reduceEqDiff, if_true, ite_true, if_false, ite_false, Option.map_some, Option.map_none, reduceIte, reduceCtorEq, Bool.false_eq_true, Nat.zero_add, Nat.add_zero, Nat.zero_lt_succ, Nat.zero_lt_one, Nat.lt_add_left_iff_pos, Nat.succ_eq_add_one, Nat.reduceLeDiff, ix_ent1, e]) [a0, a1, a2, a3, a4, a5, a6, a7, a8, .va (row (acc ms c 0)), a10, a11, a12, a13, a14] s ⟨rfl, a10, a11, rfl, fun x hx => by
      obtain ⟨pl, _, rfl⟩ := List.mem_map.mp hx
      exact (show bd 1 0 from ⟨by decide, by decide⟩)⟩
  exact ⟨y10, y11, h⟩
theorem place_ok {ms : List (List Rat)} (T : Tab ms) {i : Nat} (hi : i < 6) {ps : List (List Rat × Nat)} (hps : (redQ (mat ms i) 5).1 = ps.map Prod.fst) (H : Hd 5 ps) {a0 a1 a2 a3 a4 a8 a9 a10 a11 a12 a13 a14 : SV} (s : List Int) :
    ∃ y12 y14, forR (fun d ρ s => onO (asgT (.nm 12) d ρ) fun ρ' => runs (b_law_1 p) ρ' s) ((List.range 5).map fun (k : Nat) => D.int (k : Int)) [a0, a1, a2, a3, a4, .va (row ((List.range 6).map (cfin i ps))), .va (.lst ((oth i).map fun j => .str (nm j))), .va (irows (drows ms i)), a8, a9, a10, a11, a12, a13, a14] s = .nx [a0, a1, a2, a3, a4, .va (row ((List.range 6).map (cfin i ps))), .va (.lst ((oth i).map fun j => .str (nm j))), .va (irows (drows ms i)), a8, a9, a10, a11, y12, a13, y14] s := by
  obtain ⟨ρ', s', h, rfl, y12, y14, rfl⟩ := forR_range (n := 5) (e := fun (k : Nat) => D.int (k : Int)) (f := fun d ρ s => onO (asgT (.nm 12) d ρ) fun ρ' => runs (b_law_1 p) ρ' s)
    (P := fun k ρ s' => s' = s ∧ ∃ y12 y14, ρ = [a0, a1, a2, a3, a4, .va (row ((List.range 6).map (cfin i ps))), .va (.lst ((oth i).map fun j => .str (nm j))), .va (irows (drows ms i)), a8, a9, a10, a11, y12, a13, y14]) (fun k hk ρ s1 hP => by
    obtain ⟨rfl, y12, y14, rfl⟩ := hP
    refine ⟨_, _, ?_, rfl, .va (.int (k : Int)), .va (.bl (decide (rk 3 0 ((drows ms i).take (k + 1)) = rk 3 0 ((drows ms i).take k)))), rfl⟩
    show runs (b_law_1 p) [a0, a1, a2, a3, a4, .va (row ((List.range 6).map (cfin i ps))), .va (.lst ((oth i).map fun j => .str (nm j))), .va (irows (drows ms i)), a8, a9, a10, a11, .va (.int (k : Int)), a13, y14] s1 = _
    unfold b_law_1
    have dl := drows_len (ms := ms) hi
    have sl : ∀ m : Nat, m ≤ 5 → slD (irows (drows ms i)) none (some (m : Int)) = some (.t, irows ((drows ms i).take m)) := fun m hm => by
      have := slH_lst (ds := (drows ms i).map irow) (k := m) (by rw [List.length_map, dl]; exact hm)
      rw [← List.map_take] at this
      exact this
    have rkq : ∀ m ≤ 5, g__law_rank [irows ((drows ms i).take m)] s1 = .ok (.int (rk 3 0 ((drows ms i).take m) : Nat)) s1 := fun m hm => g__law_rank_ok (B := 3) (W := 3) (fun r hr => drows_IV T r (List.mem_of_mem_take hr)) (by decide) (by decide) (by rw [List.length_take, dl]; omega) s1
    have s1' : slD (irows (drows ms i)) none (some ((k : Int) + 1)) = some (.t, irows ((drows ms i).take (k + 1))) := sl (k + 1) (by omega)
    refine seq_asg (x := (.v, .bl (decide (rk 3 0 ((drows ms i).take (k + 1)) = rk 3 0 ((drows ms i).take k))))) ?_ rfl rfl ?_
    · simp only [fnR, runs, run, ev, evA, evT, evI, bindq_ok, ob_ok, sq_nx, sq_rt, onO_some, liftO_some, kd_some, dat_v, dat_t, tru_bl, intOf_int, noExq, stk_v, stk_t, stk_o, stow_tt, stow_fv, stow_ft, eqD_int, cmp_ne, cmp_eq, cmp_gt, cmp_ge, cmp_lt, cmp_le, cmp_in, cmp_notin, cmp_is, cmp_isnot, bin_add, bin_sub, b1_abs, ix0, ix1, items_lst, items_row, put, List.map_cons, List.map_nil, List.cons_append, List.nil_append, List.append_nil, List.length_cons, List.length_nil, List.replicate, List.getElem?_cons_zero, List.getElem?_cons_succ, List.getElem?_nil, List.set_cons_zero, List.set_cons_succ, List.set_nil, Nat.reduceAdd, Nat.reduceSub, Nat.reduceLT, Nat.reduceEqDiff, if_true, ite_true, if_false, ite_false, Option.map_some, Option.map_none, reduceIte, reduceCtorEq, Bool.false_eq_true, Nat.zero_add, Nat.add_zero, Nat.zero_lt_succ, Nat.zero_lt_one, Nat.lt_add_left_iff_pos, Nat.succ_eq_add_one, Nat.reduceLeDiff, s1', sl k (by omega), rkq (k + 1) (by omega), rkq k (by omega), Int.ofNat_inj]
    have ho := oth_lt (oth_mem hi hk)
    have i1 : ixD (.lst ((oth i).map fun j => D.str (nm j))) (.int (k : Int)) = some (.str (nm ((oth i).getD k 0))) := by
      show atI ((oth i).map fun j => D.str (nm j)) (k : Int) = _
      refine atI_nat ?_
      rw [List.getElem?_map, List.getD_eq_getElem?_getD, List.getElem?_eq_getElem (show k < (oth i).length by rw [oth_len hi]; exact hk)]
      rfl
    have i2 : ixD (row ((List.range 6).map (cfin i ps))) (.int ((oth i).getD k 0 : Nat)) = some (F (cfin i ps ((oth i).getD k 0))) := by
      rw [ix_row (by simp; exact ho.1)]
      congr 2
      rw [List.getD_eq_getElem?_getD, List.getElem?_map, List.getElem?_range ho.1]
      rfl
    have F01 : D.tup [.int 0, .int 1] = F 0 := rfl
    by_cases e : rk 3 0 ((drows ms i).take (k + 1)) = rk 3 0 ((drows ms i).take k)
    · have z := results_zero T hi hps H hk e
      have z2 : eqD (F (cfin i ps ((oth i).getD k 0))) (F 0) = some true := by rw [z, eqD_F, decide_eq_true rfl]
      simp only [put, List.length_cons, List.length_nil, Nat.reduceAdd, Nat.reduceLT, if_true, List.set_cons_succ, List.set_cons_zero]
      simp only [fnR, runs, run, ev, evA, evT, evI, bindq_ok, ob_ok, sq_nx, sq_rt, onO_some, liftO_some, kd_some, dat_v, dat_t, tru_bl, intOf_int, noExq, stk_v, stk_t, stk_o, stow_tt, stow_fv, stow_ft, eqD_int, cmp_ne, cmp_eq, cmp_gt, cmp_ge, cmp_lt, cmp_le, cmp_in, cmp_notin, cmp_is, cmp_isnot, bin_add, bin_sub, b1_abs, ix0, ix1, items_lst, items_row, put, List.map_cons, List.map_nil, List.cons_append, List.nil_append, List.append_nil, List.length_cons, List.length_nil, List.replicate, List.getElem?_cons_zero, List.getElem?_cons_succ, List.getElem?_nil, List.set_cons_zero, List.set_cons_succ, List.set_nil, Nat.reduceAdd, Nat.reduceSub, Nat.reduceLT, Nat.reduceEqDiff, if_true, ite_true, if_false, ite_false, Option.map_some, Option.map_none, reduceIte, reduceCtorEq, Bool.false_eq_true, Nat.zero_add, Nat.add_zero, Nat.zero_lt_succ, Nat.zero_lt_one, Nat.lt_add_left_iff_pos, Nat.succ_eq_add_one, Nat.reduceLeDiff, e, decide_true, i1, rcvD, index_nm ho.1, i2, lenOk_of (show 2 ≤ 1000000 by decide), F01, z2, Bool.not_true]
    · simp only [put, List.length_cons, List.length_nil, Nat.reduceAdd, Nat.reduceLT, if_true, List.set_cons_succ, List.set_cons_zero]
      simp only [fnR, runs, run, ev, evA, evT, evI, bindq_ok, ob_ok, sq_nx, sq_rt, onO_some, liftO_some, kd_some, dat_v, dat_t, tru_bl, intOf_int, noExq, stk_v, stk_t, stk_o, stow_tt, stow_fv, stow_ft, eqD_int, cmp_ne, cmp_eq, cmp_gt, cmp_ge, cmp_lt, cmp_le, cmp_in, cmp_notin, cmp_is, cmp_isnot, bin_add, bin_sub, b1_abs, ix0, ix1, items_lst, items_row, put, List.map_cons, List.map_nil, List.cons_append, List.nil_append, List.append_nil, List.length_cons, List.length_nil, List.replicate, List.getElem?_cons_zero, List.getElem?_cons_succ, List.getElem?_nil, List.set_cons_zero, List.set_cons_succ, List.set_nil, Nat.reduceAdd, Nat.reduceSub, Nat.reduceLT, Nat.reduceEqDiff, if_true, ite_true, if_false, ite_false, Option.map_some, Option.map_none, reduceIte, reduceCtorEq, Bool.false_eq_true, Nat.zero_add, Nat.add_zero, Nat.zero_lt_succ, Nat.zero_lt_one, Nat.lt_add_left_iff_pos, Nat.succ_eq_add_one, Nat.reduceLeDiff, e, decide_false]) _ s ⟨rfl, a12, a14, rfl⟩
  exact ⟨y12, y14, h⟩
end Mf
set_option Elab.async false
set_option linter.all false
set_option maxRecDepth 100000
set_option maxHeartbeats 1000000
namespace Mf
open PySem L2
variable {p : Addr} {ns : List Int}
theorem law_turn {ms : List (List Rat)} (T : Tab ms) {i : Nat} (hi : i < 6) {a0 a1 a4 a5 a6 a7 a8 a9 a10 a11 a12 a14 : SV} (s : List Int) :
    ∃ y5 y6 y7 y8 y9 y10 y11 y12 y14, runs (b_law_2 p) [a0, a1, .va (tab ms), .va (.str (nm i)), a4, a5, a6, a7, a8, a9, a10, a11, a12, .no, a14] s = .nx [a0, a1, .va (tab ms), .va (.str (nm i)), a4, y5, y6, y7, y8, y9, y10, y11, y12, .no, y14] s := by
  obtain ⟨ps, hps, H⟩ := (mat_RI T hi).hd
  obtain ⟨hA, hB⟩ := as_product_ok T hi s
  have hcan := can_iff T hi
  have dl := drows_len (ms := ms) hi
  have nmi : evI (S := List Int) false (.seq (.con (.str "abcdef"))) = fun ρ s => .ok ((List.range 6).map fun i => D.str (nm i)) s := by
    funext ρ s
    simp only [fnR, runs, run, ev, evA, evT, evI, bindq_ok, ob_ok, sq_nx, sq_rt, onO_some, liftO_some, kd_some, dat_v, dat_t, tru_bl, intOf_int, noExq, stk_v, stk_t, stk_o, stow_tt, stow_fv, stow_ft, eqD_int, cmp_ne, cmp_eq, cmp_gt, cmp_ge, cmp_lt, cmp_le, cmp_in, cmp_notin, cmp_is, cmp_isnot, bin_add, bin_sub, b1_abs, ix0, ix1, items_lst, items_row, put, List.map_cons, List.map_nil, List.cons_append, List.nil_append, List.append_nil, List.length_cons, List.length_nil, List.replicate, List.getElem?_cons_zero, List.getElem?_cons_succ, List.getElem?_nil, List.set_cons_zero, List.set_cons_succ, List.set_nil, Nat.reduceAdd, Nat.reduceSub, Nat.reduceLT, Nat.reduceEqDiff, if_true, ite_true, if_false, ite_false, Option.map_some, Option.map_none, reduceIte, reduceCtorEq, Bool.false_eq_true, Nat.zero_add, Nat.add_zero, Nat.zero_lt_succ, Nat.zero_lt_one, Nat.lt_add_left_iff_pos, Nat.succ_eq_add_one, Nat.reduceLeDiff, items_names]
  -- the two first
  have e6 : ∀ x5, ev (S := List Int) (.lc (.seq (.con (.str "abcdef"))) (.nm 13) (.cons (.cmp .ne (.var 13) (.var 3)) .nil) (.var 13) [13]) [a0, a1, .va (tab ms), .va (.str (nm i)), a4, x5, a6, a7, a8, a9, a10, a11, a12, .no, a14] s = .ok (.t, .lst ((oth i).map fun j => .str (nm j))) s := fun x5 =>
    ev_lcf (l := List.range 6) (e := fun j => .str (nm j)) (g := fun j => .str (nm j)) (t := fun j => !decide (j = i)) (by rw [nmi]) (by decide) fun j hj => ⟨_, rfl, ⟨.v, by simp only [wipeR, fnR, runs, run, ev, evA, evT, evI, bindq_ok, ob_ok, sq_nx, sq_rt, onO_some, liftO_some, kd_some, dat_v, dat_t, tru_bl, intOf_int, noExq, stk_v, stk_t, stk_o, stow_tt, stow_fv, stow_ft, eqD_int, cmp_ne, cmp_eq, cmp_gt, cmp_ge, cmp_lt, cmp_le, cmp_in, cmp_notin, cmp_is, cmp_isnot, bin_add, bin_sub, b1_abs, ix0, ix1, items_lst, items_row, put, List.map_cons, List.map_nil, List.cons_append, List.nil_append, List.append_nil, List.length_cons, List.length_nil, List.replicate, List.getElem?_cons_zero, List.getElem?_cons_succ, List.getElem?_nil, List.set_cons_zero, List.set_cons_succ, List.set_nil, Nat.reduceAdd, Nat.reduceSub, Nat.reduceLT, Nat.reduceEqDiff, if_true, ite_true, if_false, ite_false, Option.map_some, Option.map_none, reduceIte, reduceCtorEq, Bool.false_eq_true, Nat.zero_add, Nat.add_zero, Nat.zero_lt_succ, Nat.zero_lt_one, Nat.lt_add_left_iff_pos, Nat.succ_eq_add_one, Nat.reduceLeDiff, eq_nm (List.mem_range.mp hj) hi]⟩, fun _ => ⟨.v, nofun, by simp only [wipeR, fnR, runs, run, ev, evA, evT, evI, bindq_ok, ob_ok, sq_nx, sq_rt, onO_some, liftO_some, kd_some, dat_v, dat_t, tru_bl, intOf_int, noExq, stk_v, stk_t, stk_o, stow_tt, stow_fv, stow_ft, eqD_int, cmp_ne, cmp_eq, cmp_gt, cmp_ge, cmp_lt, cmp_le, cmp_in, cmp_notin, cmp_is, cmp_isnot, bin_add, bin_sub, b1_abs, ix0, ix1, items_lst, items_row, put, List.map_cons, List.map_nil, List.cons_append, List.nil_append, List.append_nil, List.length_cons, List.length_nil, List.replicate, List.getElem?_cons_zero, List.getElem?_cons_succ, List.getElem?_nil, List.set_cons_zero, List.set_cons_succ, List.set_nil, Nat.reduceAdd, Nat.reduceSub, Nat.reduceLT, Nat.reduceEqDiff, if_true, ite_true, if_false, ite_false, Option.map_some, Option.map_none, reduceIte, reduceCtorEq, Bool.false_eq_true, Nat.zero_add, Nat.add_zero, Nat.zero_lt_succ, Nat.zero_lt_one, Nat.lt_add_left_iff_pos, Nat.succ_eq_add_one, Nat.reduceLeDiff]⟩⟩
  have e7 : ∀ x5, ev (S := List Int) (.lc (.seq (.var 6)) (.nm 13) .nil (.call "_law_doubled" 2 g__law_doubled (.cons (.var 2) (.cons (.var 13) .nil))) [13]) [a0, a1, .va (tab ms), .va (.str (nm i)), a4, x5, .va (.lst ((oth i).map fun j => .str (nm j))), a7, a8, a9, a10, a11, a12, .no, a14] s = .ok (.t, irows (drows ms i)) s := fun x5 => by
    rw [ev_lc (l := oth i) (e := fun j => .str (nm j)) (g := fun j => irow (dbl (ms.getD j []))) (by simp only [fnR, runs, run, ev, evA, evT, evI, bindq_ok, ob_ok, sq_nx, sq_rt, onO_some, liftO_some, kd_some, dat_v, dat_t, tru_bl, intOf_int, noExq, stk_v, stk_t, stk_o, stow_tt, stow_fv, stow_ft, eqD_int, cmp_ne, cmp_eq, cmp_gt, cmp_ge, cmp_lt, cmp_le, cmp_in, cmp_notin, cmp_is, cmp_isnot, bin_add, bin_sub, b1_abs, ix0, ix1, items_lst, items_row, put, List.map_cons, List.map_nil, List.cons_append, List.nil_append, List.append_nil, List.length_cons, List.length_nil, List.replicate, List.getElem?_cons_zero, List.getElem?_cons_succ, List.getElem?_nil, List.set_cons_zero, List.set_cons_succ, List.set_nil, Nat.reduceAdd, Nat.reduceSub, Nat.reduceLT, Nat.reduceEqDiff, if_true, ite_true, if_false, ite_false, Option.map_some, Option.map_none, reduceIte, reduceCtorEq, Bool.false_eq_true, Nat.zero_add, Nat.add_zero, Nat.zero_lt_succ, Nat.zero_lt_one, Nat.lt_add_left_iff_pos, Nat.succ_eq_add_one, Nat.reduceLeDiff]) (by rw [oth_len hi]; decide) fun j hj => ⟨_, rfl, .v, nofun, by simp only [wipeR, fnR, runs, run, ev, evA, evT, evI, bindq_ok, ob_ok, sq_nx, sq_rt, onO_some, liftO_some, kd_some, dat_v, dat_t, tru_bl, intOf_int, noExq, stk_v, stk_t, stk_o, stow_tt, stow_fv, stow_ft, eqD_int, cmp_ne, cmp_eq, cmp_gt, cmp_ge, cmp_lt, cmp_le, cmp_in, cmp_notin, cmp_is, cmp_isnot, bin_add, bin_sub, b1_abs, ix0, ix1, items_lst, items_row, put, List.map_cons, List.map_nil, List.cons_append, List.nil_append, List.append_nil, List.length_cons, List.length_nil, List.replicate, List.getElem?_cons_zero, List.getElem?_cons_succ, List.getElem?_nil, List.set_cons_zero, List.set_cons_succ, List.set_nil, Nat.reduceAdd, Nat.reduceSub, Nat.reduceLT, Nat.reduceEqDiff, if_true, ite_true, if_false, ite_false, Option.map_some, Option.map_none, reduceIte, reduceCtorEq, Bool.false_eq_true, Nat.zero_add, Nat.add_zero, Nat.zero_lt_succ, Nat.zero_lt_one, Nat.lt_add_left_iff_pos, Nat.succ_eq_add_one, Nat.reduceLeDiff, doubled_ok T (oth_lt hj).1]⟩]
    unfold irows drows
    rw [List.map_map]
    rfl
  have b1 : binD .add (irows (drows ms i)) (.lst [irow (dbl (ms.getD i []))]) = some (.t, irows (drows ms i ++ [dbl (ms.getD i [])])) := by
    unfold irows
    rw [List.map_append]
    exact if_pos (lenOk_of (by rw [List.length_map, dl]; exact (by decide : 5 + 1 ≤ 1000000)))
  have r1 : g__law_rank [irows (drows ms i ++ [dbl (ms.getD i [])])] s = .ok (.int (rk 3 0 (drows ms i ++ [dbl (ms.getD i [])]) : Nat)) s := g__law_rank_ok (B := 3) (W := 3) (fun r hr => by
    rcases List.mem_append.mp hr with z | z
    · exact drows_IV T r z
    · rw [List.mem_singleton.mp z]; exact dbl_IV T hi) (by decide) (by decide) (by rw [List.length_append, dl]; exact (by decide : 5 + 1 ≤ 1000)) s
  have r2 : g__law_rank [irows (drows ms i)] s = .ok (.int (rk 3 0 (drows ms i) : Nat)) s := g__law_rank_ok (B := 3) (W := 3) (drows_IV T) (by decide) (by decide) (by rw [dl]; decide) s
  have e8 : ∀ x5, ev (S := List Int) (.cmp .eq (.call "_law_rank" 1 g__law_rank (.cons (.bin .add (.var 7) (.lst (.cons (.call "_law_doubled" 2 g__law_doubled (.cons (.var 2) (.cons (.var 3) .nil))) .nil))) .nil)) (.call "_law_rank" 1 g__law_rank (.cons (.var 7) .nil))) [a0, a1, .va (tab ms), .va (.str (nm i)), a4, x5, .va (.lst ((oth i).map fun j => .str (nm j))), .va (irows (drows ms i)), a8, a9, a10, a11, a12, .no, a14] s = .ok (.v, .bl (!(redQ (mat ms i) 5).2.any (fun r => !decide (r.getD 5 0 = 0)))) s := fun x5 => by
    simp only [fnR, runs, run, ev, evA, evT, evI, bindq_ok, ob_ok, sq_nx, sq_rt, onO_some, liftO_some, kd_some, dat_v, dat_t, tru_bl, intOf_int, noExq, stk_v, stk_t, stk_o, stow_tt, stow_fv, stow_ft, eqD_int, cmp_ne, cmp_eq, cmp_gt, cmp_ge, cmp_lt, cmp_le, cmp_in, cmp_notin, cmp_is, cmp_isnot, bin_add, bin_sub, b1_abs, ix0, ix1, items_lst, items_row, put, List.map_cons, List.map_nil, List.cons_append, List.nil_append, List.append_nil, List.length_cons, List.length_nil, List.replicate, List.getElem?_cons_zero, List.getElem?_cons_succ, List.getElem?_nil, List.set_cons_zero, List.set_cons_succ, List.set_nil, Nat.reduceAdd, Nat.reduceSub, Nat.reduceLT, Nat.reduceEqDiff, if_true, ite_true, if_false, ite_false, Option.map_some, Option.map_none, reduceIte, reduceCtorEq, Bool.false_eq_true, Nat.zero_add, Nat.add_zero, Nat.zero_lt_succ, Nat.zero_lt_one, Nat.lt_add_left_iff_pos, Nat.succ_eq_add_one, Nat.reduceLeDiff, doubled_ok T hi, lenOk_of (show 1 ≤ 1000000 by decide), b1, r1, r2, Int.ofNat_inj]
    have : decide (rk 3 0 (drows ms i ++ [dbl (ms.getD i [])]) = rk 3 0 (drows ms i)) = !(redQ (mat ms i) 5).2.any (fun r => !decide (r.getD 5 0 = 0)) := by
      cases hq : (redQ (mat ms i) 5).2.any (fun r => !decide (r.getD 5 0 = 0)) with
      | false => exact decide_eq_true (hcan.mpr hq)
      | true => exact decide_eq_false fun z => by rw [hcan.mp z] at hq; cases hq
    rw [this]
  unfold b_law_2
  cases ha : (redQ (mat ms i) 5).2.any (fun r => !decide (r.getD 5 0 = 0)) with
  | true =>
    rw [ha] at e8
    refine ⟨.va .non, .va (.lst ((oth i).map fun j => .str (nm j))), .va (irows (drows ms i)), .va (.bl false), a9, a10, a11, a12, a14, ?_⟩
    refine seq_asg (x := (.v, .non)) (by simp only [fnR, runs, run, ev, evA, evT, evI, bindq_ok, ob_ok, sq_nx, sq_rt, onO_some, liftO_some, kd_some, dat_v, dat_t, tru_bl, intOf_int, noExq, stk_v, stk_t, stk_o, stow_tt, stow_fv, stow_ft, eqD_int, cmp_ne, cmp_eq, cmp_gt, cmp_ge, cmp_lt, cmp_le, cmp_in, cmp_notin, cmp_is, cmp_isnot, bin_add, bin_sub, b1_abs, ix0, ix1, items_lst, items_row, put, List.map_cons, List.map_nil, List.cons_append, List.nil_append, List.append_nil, List.length_cons, List.length_nil, List.replicate, List.getElem?_cons_zero, List.getElem?_cons_succ, List.getElem?_nil, List.set_cons_zero, List.set_cons_succ, List.set_nil, Nat.reduceAdd, Nat.reduceSub, Nat.reduceLT, Nat.reduceEqDiff, if_true, ite_true, if_false, ite_false, Option.map_some, Option.map_none, reduceIte, reduceCtorEq, Bool.false_eq_true, Nat.zero_add, Nat.add_zero, Nat.zero_lt_succ, Nat.zero_lt_one, Nat.lt_add_left_iff_pos, Nat.succ_eq_add_one, Nat.reduceLeDiff, hA ha]) rfl rfl ?_
    refine seq_asg (e6 _) rfl rfl ?_
    refine seq_asg (e7 _) rfl rfl ?_
    refine seq_asg (e8 _) rfl rfl ?_
    rfl
  | false =>
    rw [ha] at e8
    have hP := hB ha ps hps H
    obtain ⟨y10, y11, hfound⟩ := found_ok (p := p) (a0 := a0) (a1 := a1) (a2 := .va (tab ms)) (a3 := .va (.str (nm i))) (a4 := a4) (a5 := .va (row ((List.range 6).map (cfin i ps)))) (a6 := .va (.lst ((oth i).map fun j => .str (nm j)))) (a7 := .va (irows (drows ms i))) (a8 := .va (.bl true)) (a10 := a10) (a11 := a11) (a12 := a12) (a13 := .no) (a14 := a14) T (cfin_bd T hi hps H) s
    rw [acc_fin T hi ha hps H] at hfound
    obtain ⟨y12, y14, hplace⟩ := place_ok (p := p) (a0 := a0) (a1 := a1) (a2 := .va (tab ms)) (a3 := .va (.str (nm i))) (a4 := a4) (a8 := .va (.bl true)) (a9 := .va (row (ms.getD i []))) (a10 := y10) (a11 := y11) (a12 := a12) (a13 := .no) (a14 := a14) T hi hps H s
    refine ⟨.va (row ((List.range 6).map (cfin i ps))), .va (.lst ((oth i).map fun j => .str (nm j))), .va (irows (drows ms i)), .va (.bl true), .va (row (ms.getD i [])), y10, y11, y12, y14, ?_⟩
    refine seq_asg (x := (.v, row ((List.range 6).map (cfin i ps)))) (by simp only [fnR, runs, run, ev, evA, evT, evI, bindq_ok, ob_ok, sq_nx, sq_rt, onO_some, liftO_some, kd_some, dat_v, dat_t, tru_bl, intOf_int, noExq, stk_v, stk_t, stk_o, stow_tt, stow_fv, stow_ft, eqD_int, cmp_ne, cmp_eq, cmp_gt, cmp_ge, cmp_lt, cmp_le, cmp_in, cmp_notin, cmp_is, cmp_isnot, bin_add, bin_sub, b1_abs, ix0, ix1, items_lst, items_row, put, List.map_cons, List.map_nil, List.cons_append, List.nil_append, List.append_nil, List.length_cons, List.length_nil, List.replicate, List.getElem?_cons_zero, List.getElem?_cons_succ, List.getElem?_nil, List.set_cons_zero, List.set_cons_succ, List.set_nil, Nat.reduceAdd, Nat.reduceSub, Nat.reduceLT, Nat.reduceEqDiff, if_true, ite_true, if_false, ite_false, Option.map_some, Option.map_none, reduceIte, reduceCtorEq, Bool.false_eq_true, Nat.zero_add, Nat.add_zero, Nat.zero_lt_succ, Nat.zero_lt_one, Nat.lt_add_left_iff_pos, Nat.succ_eq_add_one, Nat.reduceLeDiff, hP]) rfl rfl ?_
    refine seq_asg (e6 _) rfl rfl ?_
    refine seq_asg (e7 _) rfl rfl ?_
    refine seq_asg (e8 _) rfl rfl ?_
    refine seq_if (k := false) (k3 := .v) (by rfl) ?_
    refine seq_if (k := true) (k3 := .v) (by rfl) ?_
    refine congrArg (fun o : Out (List Int) => o.sq _) (a₂ := .nx [a0, a1, .va (tab ms), .va (.str (nm i)), a4, .va (row ((List.range 6).map (cfin i ps))), .va (.lst ((oth i).map fun j => .str (nm j))), .va (irows (drows ms i)), .va (.bl true), .va (row (ms.getD i [])), y10, y11, y12, .no, y14] s) ?_
    show runs _ _ _ = _
    refine seq_asg (x := (.v, row (acc ms (cfin i ps) 0))) (by rfl) rfl rfl ?_
    refine seq_nx (run_forq (s1 := s) (ds := (List.range 6).map fun j => .tup [ent j (ms.getD j []), F (cfin i ps j)]) ?_ hfound) ?_
    · simp only [fnR, runs, run, ev, evA, evT, evI, bindq_ok, ob_ok, sq_nx, sq_rt, onO_some, liftO_some, kd_some, dat_v, dat_t, tru_bl, intOf_int, noExq, stk_v, stk_t, stk_o, stow_tt, stow_fv, stow_ft, eqD_int, cmp_ne, cmp_eq, cmp_gt, cmp_ge, cmp_lt, cmp_le, cmp_in, cmp_notin, cmp_is, cmp_isnot, bin_add, bin_sub, b1_abs, ix0, ix1, items_lst, items_row, put, List.map_cons, List.map_nil, List.cons_append, List.nil_append, List.append_nil, List.length_cons, List.length_nil, List.replicate, List.getElem?_cons_zero, List.getElem?_cons_succ, List.getElem?_nil, List.set_cons_zero, List.set_cons_succ, List.set_nil, Nat.reduceAdd, Nat.reduceSub, Nat.reduceLT, Nat.reduceEqDiff, if_true, ite_true, if_false, ite_false, Option.map_some, Option.map_none, reduceIte, reduceCtorEq, Bool.false_eq_true, Nat.zero_add, Nat.add_zero, Nat.zero_lt_succ, Nat.zero_lt_one, Nat.lt_add_left_iff_pos, Nat.succ_eq_add_one, Nat.reduceLeDiff]
      show liftO s (some (zipD (ents ms) (((List.range 6).map (cfin i ps)).map F))) = _
      unfold ents
      rw [T.six, List.map_map, zipD_same]
      rfl
    have i2 : ixD (row ((List.range 6).map (cfin i ps))) (.int (i : Nat)) = some (F 0) := by
      rw [ix_row (by simp; exact hi)]
      congr 2
      rw [List.getD_eq_getElem?_getD, List.getElem?_map, List.getElem?_range hi]
      exact cfin_self hi H
    have F01 : D.tup [.int 0, .int 1] = F 0 := rfl
    have hE : D.tup [.str (nm i), row (ms.getD i [])] = ent i (ms.getD i []) := rfl
    refine seq_if (k := false) (k3 := .v) (by
      simp only [fnR, runs, run, ev, evA, evT, evI, bindq_ok, ob_ok, sq_nx, sq_rt, onO_some, liftO_some, kd_some, dat_v, dat_t, tru_bl, intOf_int, noExq, stk_v, stk_t, stk_o, stow_tt, stow_fv, stow_ft, eqD_int, cmp_ne, cmp_eq, cmp_gt, cmp_ge, cmp_lt, cmp_le, cmp_in, cmp_notin, cmp_is, cmp_isnot, bin_add, bin_sub, b1_abs, ix0, ix1, items_lst, items_row, put, List.map_cons, List.map_nil, List.cons_append, List.nil_append, List.append_nil, List.length_cons, List.length_nil, List.replicate, List.getElem?_cons_zero, List.getElem?_cons_succ, List.getElem?_nil, List.set_cons_zero, List.set_cons_succ, List.set_nil, Nat.reduceAdd, Nat.reduceSub, Nat.reduceLT, Nat.reduceEqDiff, if_true, ite_true, if_false, ite_false, Option.map_some, Option.map_none, reduceIte, reduceCtorEq, Bool.false_eq_true, Nat.zero_add, Nat.add_zero, Nat.zero_lt_succ, Nat.zero_lt_one, Nat.lt_add_left_iff_pos, Nat.succ_eq_add_one, Nat.reduceLeDiff, lenOk_of (show 2 ≤ 1000000 by decide), hE, in_tab T hi, Bool.not_true, rcvD, index_nm hi, i2, F01, eqD_F, decide_true]) ?_
    refine seq_nx (run_forq (s1 := s) (ds := (List.range 5).map fun (k : Nat) => D.int (k : Int)) (by rfl) hplace) ?_
    rfl
theorem main (ns : List Int) (hl : ns.length ≤ 63) : ∀ p, ∃ s', runs (c_law p) (.va (.scr ns) :: .va (.adr p) :: List.replicate (15 - 2) .no) (0 :: ns) = .rt (.bl true) s' := by
  intro p
  obtain ⟨ms, s1, e1, T, _⟩ := table_ok (p := p) (Tw.zero hl) (by decide)
  refine ⟨s1, ?_⟩
  obtain ⟨ρ', s', hf, rfl, x3, y5, y6, y7, y8, y9, y10, y11, y12, y14, rfl⟩ := forR_range (n := 6) (e := fun i => D.str (nm i)) (f := fun d ρ s => onO (asgT (.nm 3) d ρ) fun ρ' => runs (b_law_2 p) ρ' s)
    (P := fun k ρ s => s = s1 ∧ ∃ x3 y5 y6 y7 y8 y9 y10 y11 y12 y14, ρ = [.va (.scr ns), .va (.adr p), .va (tab ms), x3, .no, y5, y6, y7, y8, y9, y10, y11, y12, .no, y14]) (fun i hi ρ s hP => by
    obtain ⟨rfl, x3, x5, x6, x7, x8, x9, x10, x11, x12, x14, rfl⟩ := hP
    obtain ⟨y5, y6, y7, y8, y9, y10, y11, y12, y14, ht⟩ := law_turn (p := p) (a0 := .va (.scr ns)) (a1 := .va (.adr p)) (a4 := .no) (a5 := x5) (a6 := x6) (a7 := x7) (a8 := x8) (a9 := x9) (a10 := x10) (a11 := x11) (a12 := x12) (a14 := x14) T hi s
    exact ⟨_, _, ht, rfl, .va (.str (nm i)), y5, y6, y7, y8, y9, y10, y11, y12, y14, rfl⟩) [.va (.scr ns), .va (.adr p), .va (tab ms), .no, .no, .no, .no, .no, .no, .no, .no, .no, .no, .no, .no] s1 ⟨rfl, .no, .no, .no, .no, .no, .no, .no, .no, .no, .no, rfl⟩
  unfold c_law
  refine seq_nx (run_asgq (x := (.v, tab ms)) (s1 := s') (by simp only [fnR, runs, run, ev, evA, evT, evI, bindq_ok, ob_ok, sq_nx, sq_rt, onO_some, liftO_some, kd_some, dat_v, dat_t, tru_bl, intOf_int, noExq, stk_v, stk_t, stk_o, stow_tt, stow_fv, stow_ft, eqD_int, cmp_ne, cmp_eq, cmp_gt, cmp_ge, cmp_lt, cmp_le, cmp_in, cmp_notin, cmp_is, cmp_isnot, bin_add, bin_sub, b1_abs, ix0, ix1, items_lst, items_row, put, List.map_cons, List.map_nil, List.cons_append, List.nil_append, List.append_nil, List.length_cons, List.length_nil, List.replicate, List.getElem?_cons_zero, List.getElem?_cons_succ, List.getElem?_nil, List.set_cons_zero, List.set_cons_succ, List.set_nil, Nat.reduceAdd, Nat.reduceSub, Nat.reduceLT, Nat.reduceEqDiff, if_true, ite_true, if_false, ite_false, Option.map_some, Option.map_none, reduceIte, reduceCtorEq, Bool.false_eq_true, Nat.zero_add, Nat.add_zero, Nat.zero_lt_succ, Nat.zero_lt_one, Nat.lt_add_left_iff_pos, Nat.succ_eq_add_one, Nat.reduceLeDiff, e1]) rfl rfl) ?_
  refine seq_nx (run_forq (s1 := s') (ds := (List.range 6).map fun i => D.str (nm i)) (by simp only [fnR, runs, run, ev, evA, evT, evI, bindq_ok, ob_ok, sq_nx, sq_rt, onO_some, liftO_some, kd_some, dat_v, dat_t, tru_bl, intOf_int, noExq, stk_v, stk_t, stk_o, stow_tt, stow_fv, stow_ft, eqD_int, cmp_ne, cmp_eq, cmp_gt, cmp_ge, cmp_lt, cmp_le, cmp_in, cmp_notin, cmp_is, cmp_isnot, bin_add, bin_sub, b1_abs, ix0, ix1, items_lst, items_row, put, List.map_cons, List.map_nil, List.cons_append, List.nil_append, List.append_nil, List.length_cons, List.length_nil, List.replicate, List.getElem?_cons_zero, List.getElem?_cons_succ, List.getElem?_nil, List.set_cons_zero, List.set_cons_succ, List.set_nil, Nat.reduceAdd, Nat.reduceSub, Nat.reduceLT, Nat.reduceEqDiff, if_true, ite_true, if_false, ite_false, Option.map_some, Option.map_none, reduceIte, reduceCtorEq, Bool.false_eq_true, Nat.zero_add, Nat.add_zero, Nat.zero_lt_succ, Nat.zero_lt_one, Nat.lt_add_left_iff_pos, Nat.succ_eq_add_one, Nat.reduceLeDiff, items_names]) hf) ?_
  generalize SV.va (tab ms) = z2
  kernel_rfl
end Mf
set_option Elab.async false
set_option linter.all false
set_option maxRecDepth 100000
set_option maxHeartbeats 0
namespace Mf
open PySem L2
theorem all_mk {l : PySem.W.OpenLaw} {w : World} {K : PySem.W.Frag} {h : Heap} {mg : Str → Option Value} {fa : Addr} (X : K.In h) (G : h.Ns mainGlobals mg) (hfa : mg "law" = some (.ref fa))
    {f0 : Addr} {od0 an0 : Option Addr} {sl0 : Array (Option Value)} {oc0 kV0 dc0 pm0 cd0 ct0 : Value}
    (a0 : PySem.W.nsIn K mainGlobals "_law_town" = some (some (.ref f0))) (l0 : K.lookup f0 = some ⟨oc0, od0, .func (PySem.W.fnOf "_law_town" "_law_town" (defArgs s__law_town) (defBody s__law_town) (defScope s__law_town) .none kV0 dc0 pm0 an0 cd0 ct0), sl0⟩) (c0 : PySem.W.codeIn K cd0 "_law_town" = true) (k0 : PySem.W.keepIn K (.ref f0) = true)
    {f1 : Addr} {od1 an1 : Option Addr} {sl1 : Array (Option Value)} {oc1 kV1 dc1 pm1 cd1 ct1 : Value}
    (a1 : PySem.W.nsIn K mainGlobals "_law_draw" = some (some (.ref f1))) (l1 : K.lookup f1 = some ⟨oc1, od1, .func (PySem.W.fnOf "_law_draw" "_law_draw" (defArgs s__law_draw) (defBody s__law_draw) (defScope s__law_draw) .none kV1 dc1 pm1 an1 cd1 ct1), sl1⟩) (c1 : PySem.W.codeIn K cd1 "_law_draw" = true) (k1 : PySem.W.keepIn K (.ref f1) = true)
    {f2 : Addr} {od2 an2 : Option Addr} {sl2 : Array (Option Value)} {oc2 kV2 dc2 pm2 cd2 ct2 : Value}
    (a2 : PySem.W.nsIn K mainGlobals "_law_pick" = some (some (.ref f2))) (l2 : K.lookup f2 = some ⟨oc2, od2, .func (PySem.W.fnOf "_law_pick" "_law_pick" (defArgs s__law_pick) (defBody s__law_pick) (defScope s__law_pick) .none kV2 dc2 pm2 an2 cd2 ct2), sl2⟩) (c2 : PySem.W.codeIn K cd2 "_law_pick" = true) (k2 : PySem.W.keepIn K (.ref f2) = true)
    {f3 : Addr} {od3 an3 : Option Addr} {sl3 : Array (Option Value)} {oc3 kV3 dc3 pm3 cd3 ct3 : Value}
    (a3 : PySem.W.nsIn K mainGlobals "_law_frac" = some (some (.ref f3))) (l3 : K.lookup f3 = some ⟨oc3, od3, .func (PySem.W.fnOf "_law_frac" "_law_frac" (defArgs s__law_frac) (defBody s__law_frac) (defScope s__law_frac) .none kV3 dc3 pm3 an3 cd3 ct3), sl3⟩) (c3 : PySem.W.codeIn K cd3 "_law_frac" = true) (k3 : PySem.W.keepIn K (.ref f3) = true)
    {f4 : Addr} {od4 an4 : Option Addr} {sl4 : Array (Option Value)} {oc4 kV4 dc4 pm4 cd4 ct4 : Value}
    (a4 : PySem.W.nsIn K mainGlobals "_law_measure" = some (some (.ref f4))) (l4 : K.lookup f4 = some ⟨oc4, od4, .func (PySem.W.fnOf "_law_measure" "_law_measure" (defArgs s__law_measure) (defBody s__law_measure) (defScope s__law_measure) .none kV4 dc4 pm4 an4 cd4 ct4), sl4⟩) (c4 : PySem.W.codeIn K cd4 "_law_measure" = true) (k4 : PySem.W.keepIn K (.ref f4) = true)
    {f5 : Addr} {od5 an5 : Option Addr} {sl5 : Array (Option Value)} {oc5 kV5 dc5 pm5 cd5 ct5 : Value}
    (a5 : PySem.W.nsIn K mainGlobals "_law_table" = some (some (.ref f5))) (l5 : K.lookup f5 = some ⟨oc5, od5, .func (PySem.W.fnOf "_law_table" "_law_table" (defArgs s__law_table) (defBody s__law_table) (defScope s__law_table) .none kV5 dc5 pm5 an5 cd5 ct5), sl5⟩) (c5 : PySem.W.codeIn K cd5 "_law_table" = true) (k5 : PySem.W.keepIn K (.ref f5) = true)
    {f6 : Addr} {od6 an6 : Option Addr} {sl6 : Array (Option Value)} {oc6 kV6 dc6 pm6 cd6 ct6 : Value}
    (a6 : PySem.W.nsIn K mainGlobals "is_name" = some (some (.ref f6))) (l6 : K.lookup f6 = some ⟨oc6, od6, .func (PySem.W.fnOf "is_name" "is_name" (defArgs s_is_name) (defBody s_is_name) (defScope s_is_name) .none kV6 dc6 pm6 an6 cd6 ct6), sl6⟩) (c6 : PySem.W.codeIn K cd6 "is_name" = true) (k6 : PySem.W.keepIn K (.ref f6) = true)
    {f7 : Addr} {od7 an7 : Option Addr} {sl7 : Array (Option Value)} {oc7 kV7 dc7 pm7 cd7 ct7 : Value}
    (a7 : PySem.W.nsIn K mainGlobals "is_between" = some (some (.ref f7))) (l7 : K.lookup f7 = some ⟨oc7, od7, .func (PySem.W.fnOf "is_between" "is_between" (defArgs s_is_between) (defBody s_is_between) (defScope s_is_between) .none kV7 dc7 pm7 an7 cd7 ct7), sl7⟩) (c7 : PySem.W.codeIn K cd7 "is_between" = true) (k7 : PySem.W.keepIn K (.ref f7) = true)
    {f8 : Addr} {od8 an8 : Option Addr} {sl8 : Array (Option Value)} {oc8 kV8 dc8 pm8 cd8 ct8 : Value}
    (a8 : PySem.W.nsIn K mainGlobals "divisor" = some (some (.ref f8))) (l8 : K.lookup f8 = some ⟨oc8, od8, .func (PySem.W.fnOf "divisor" "divisor" (defArgs s_divisor) (defBody s_divisor) (defScope s_divisor) .none kV8 dc8 pm8 an8 cd8 ct8), sl8⟩) (c8 : PySem.W.codeIn K cd8 "divisor" = true) (k8 : PySem.W.keepIn K (.ref f8) = true)
    {f9 : Addr} {od9 an9 : Option Addr} {sl9 : Array (Option Value)} {oc9 kV9 dc9 pm9 cd9 ct9 : Value}
    (a9 : PySem.W.nsIn K mainGlobals "is_fraction" = some (some (.ref f9))) (l9 : K.lookup f9 = some ⟨oc9, od9, .func (PySem.W.fnOf "is_fraction" "is_fraction" (defArgs s_is_fraction) (defBody s_is_fraction) (defScope s_is_fraction) .none kV9 dc9 pm9 an9 cd9 ct9), sl9⟩) (c9 : PySem.W.codeIn K cd9 "is_fraction" = true) (k9 : PySem.W.keepIn K (.ref f9) = true)
    {f10 : Addr} {od10 an10 : Option Addr} {sl10 : Array (Option Value)} {oc10 kV10 dc10 pm10 cd10 ct10 : Value}
    (a10 : PySem.W.nsIn K mainGlobals "is_measure" = some (some (.ref f10))) (l10 : K.lookup f10 = some ⟨oc10, od10, .func (PySem.W.fnOf "is_measure" "is_measure" (defArgs s_is_measure) (defBody s_is_measure) (defScope s_is_measure) .none kV10 dc10 pm10 an10 cd10 ct10), sl10⟩) (c10 : PySem.W.codeIn K cd10 "is_measure" = true) (k10 : PySem.W.keepIn K (.ref f10) = true)
    {f11 : Addr} {od11 an11 : Option Addr} {sl11 : Array (Option Value)} {oc11 kV11 dc11 pm11 cd11 ct11 : Value}
    (a11 : PySem.W.nsIn K mainGlobals "is_table" = some (some (.ref f11))) (l11 : K.lookup f11 = some ⟨oc11, od11, .func (PySem.W.fnOf "is_table" "is_table" (defArgs s_is_table) (defBody s_is_table) (defScope s_is_table) .none kV11 dc11 pm11 an11 cd11 ct11), sl11⟩) (c11 : PySem.W.codeIn K cd11 "is_table" = true) (k11 : PySem.W.keepIn K (.ref f11) = true)
    {f12 : Addr} {od12 an12 : Option Addr} {sl12 : Array (Option Value)} {oc12 kV12 dc12 pm12 cd12 ct12 : Value}
    (a12 : PySem.W.nsIn K mainGlobals "check_table" = some (some (.ref f12))) (l12 : K.lookup f12 = some ⟨oc12, od12, .func (PySem.W.fnOf "check_table" "check_table" (defArgs s_check_table) (defBody s_check_table) (defScope s_check_table) .none kV12 dc12 pm12 an12 cd12 ct12), sl12⟩) (c12 : PySem.W.codeIn K cd12 "check_table" = true) (k12 : PySem.W.keepIn K (.ref f12) = true)
    {f13 : Addr} {od13 an13 : Option Addr} {sl13 : Array (Option Value)} {oc13 kV13 dc13 pm13 cd13 ct13 : Value}
    (a13 : PySem.W.nsIn K mainGlobals "check_name" = some (some (.ref f13))) (l13 : K.lookup f13 = some ⟨oc13, od13, .func (PySem.W.fnOf "check_name" "check_name" (defArgs s_check_name) (defBody s_check_name) (defScope s_check_name) .none kV13 dc13 pm13 an13 cd13 ct13), sl13⟩) (c13 : PySem.W.codeIn K cd13 "check_name" = true) (k13 : PySem.W.keepIn K (.ref f13) = true)
    {f14 : Addr} {od14 an14 : Option Addr} {sl14 : Array (Option Value)} {oc14 kV14 dc14 pm14 cd14 ct14 : Value}
    (a14 : PySem.W.nsIn K mainGlobals "check_complete" = some (some (.ref f14))) (l14 : K.lookup f14 = some ⟨oc14, od14, .func (PySem.W.fnOf "check_complete" "check_complete" (defArgs s_check_complete) (defBody s_check_complete) (defScope s_check_complete) .none kV14 dc14 pm14 an14 cd14 ct14), sl14⟩) (c14 : PySem.W.codeIn K cd14 "check_complete" = true) (k14 : PySem.W.keepIn K (.ref f14) = true)
    {f15 : Addr} {od15 an15 : Option Addr} {sl15 : Array (Option Value)} {oc15 kV15 dc15 pm15 cd15 ct15 : Value}
    (a15 : PySem.W.nsIn K mainGlobals "fraction" = some (some (.ref f15))) (l15 : K.lookup f15 = some ⟨oc15, od15, .func (PySem.W.fnOf "fraction" "fraction" (defArgs s_fraction) (defBody s_fraction) (defScope s_fraction) .none kV15 dc15 pm15 an15 cd15 ct15), sl15⟩) (c15 : PySem.W.codeIn K cd15 "fraction" = true) (k15 : PySem.W.keepIn K (.ref f15) = true)
    {f16 : Addr} {od16 an16 : Option Addr} {sl16 : Array (Option Value)} {oc16 kV16 dc16 pm16 cd16 ct16 : Value}
    (a16 : PySem.W.nsIn K mainGlobals "plus" = some (some (.ref f16))) (l16 : K.lookup f16 = some ⟨oc16, od16, .func (PySem.W.fnOf "plus" "plus" (defArgs s_plus) (defBody s_plus) (defScope s_plus) .none kV16 dc16 pm16 an16 cd16 ct16), sl16⟩) (c16 : PySem.W.codeIn K cd16 "plus" = true) (k16 : PySem.W.keepIn K (.ref f16) = true)
    {f17 : Addr} {od17 an17 : Option Addr} {sl17 : Array (Option Value)} {oc17 kV17 dc17 pm17 cd17 ct17 : Value}
    (a17 : PySem.W.nsIn K mainGlobals "times" = some (some (.ref f17))) (l17 : K.lookup f17 = some ⟨oc17, od17, .func (PySem.W.fnOf "times" "times" (defArgs s_times) (defBody s_times) (defScope s_times) .none kV17 dc17 pm17 an17 cd17 ct17), sl17⟩) (c17 : PySem.W.codeIn K cd17 "times" = true) (k17 : PySem.W.keepIn K (.ref f17) = true)
    {f18 : Addr} {od18 an18 : Option Addr} {sl18 : Array (Option Value)} {oc18 kV18 dc18 pm18 cd18 ct18 : Value}
    (a18 : PySem.W.nsIn K mainGlobals "added" = some (some (.ref f18))) (l18 : K.lookup f18 = some ⟨oc18, od18, .func (PySem.W.fnOf "added" "added" (defArgs s_added) (defBody s_added) (defScope s_added) .none kV18 dc18 pm18 an18 cd18 ct18), sl18⟩) (c18 : PySem.W.codeIn K cd18 "added" = true) (k18 : PySem.W.keepIn K (.ref f18) = true)
    {f19 : Addr} {od19 an19 : Option Addr} {sl19 : Array (Option Value)} {oc19 kV19 dc19 pm19 cd19 ct19 : Value}
    (a19 : PySem.W.nsIn K mainGlobals "over" = some (some (.ref f19))) (l19 : K.lookup f19 = some ⟨oc19, od19, .func (PySem.W.fnOf "over" "over" (defArgs s_over) (defBody s_over) (defScope s_over) .none kV19 dc19 pm19 an19 cd19 ct19), sl19⟩) (c19 : PySem.W.codeIn K cd19 "over" = true) (k19 : PySem.W.keepIn K (.ref f19) = true)
    {f20 : Addr} {od20 an20 : Option Addr} {sl20 : Array (Option Value)} {oc20 kV20 dc20 pm20 cd20 ct20 : Value}
    (a20 : PySem.W.nsIn K mainGlobals "reduced" = some (some (.ref f20))) (l20 : K.lookup f20 = some ⟨oc20, od20, .func (PySem.W.fnOf "reduced" "reduced" (defArgs s_reduced) (defBody s_reduced) (defScope s_reduced) .none kV20 dc20 pm20 an20 cd20 ct20), sl20⟩) (c20 : PySem.W.codeIn K cd20 "reduced" = true) (k20 : PySem.W.keepIn K (.ref f20) = true)
    {f21 : Addr} {od21 an21 : Option Addr} {sl21 : Array (Option Value)} {oc21 kV21 dc21 pm21 cd21 ct21 : Value}
    (a21 : PySem.W.nsIn K mainGlobals "as_product" = some (some (.ref f21))) (l21 : K.lookup f21 = some ⟨oc21, od21, .func (PySem.W.fnOf "as_product" "as_product" (defArgs s_as_product) (defBody s_as_product) (defScope s_as_product) .none kV21 dc21 pm21 an21 cd21 ct21), sl21⟩) (c21 : PySem.W.codeIn K cd21 "as_product" = true) (k21 : PySem.W.keepIn K (.ref f21) = true)
    {f22 : Addr} {od22 an22 : Option Addr} {sl22 : Array (Option Value)} {oc22 kV22 dc22 pm22 cd22 ct22 : Value}
    (a22 : PySem.W.nsIn K mainGlobals "_law_doubled" = some (some (.ref f22))) (l22 : K.lookup f22 = some ⟨oc22, od22, .func (PySem.W.fnOf "_law_doubled" "_law_doubled" (defArgs s__law_doubled) (defBody s__law_doubled) (defScope s__law_doubled) .none kV22 dc22 pm22 an22 cd22 ct22), sl22⟩) (c22 : PySem.W.codeIn K cd22 "_law_doubled" = true) (k22 : PySem.W.keepIn K (.ref f22) = true)
    {f23 : Addr} {od23 an23 : Option Addr} {sl23 : Array (Option Value)} {oc23 kV23 dc23 pm23 cd23 ct23 : Value}
    (a23 : PySem.W.nsIn K mainGlobals "_law_rank" = some (some (.ref f23))) (l23 : K.lookup f23 = some ⟨oc23, od23, .func (PySem.W.fnOf "_law_rank" "_law_rank" (defArgs s__law_rank) (defBody s__law_rank) (defScope s__law_rank) .none kV23 dc23 pm23 an23 cd23 ct23), sl23⟩) (c23 : PySem.W.codeIn K cd23 "_law_rank" = true) (k23 : PySem.W.keepIn K (.ref f23) = true)
    {f24 : Addr} {od24 an24 : Option Addr} {sl24 : Array (Option Value)} {oc24 kV24 dc24 pm24 cd24 ct24 : Value}
    (a24 : PySem.W.nsIn K mainGlobals "_law_plus" = some (some (.ref f24))) (l24 : K.lookup f24 = some ⟨oc24, od24, .func (PySem.W.fnOf "_law_plus" "_law_plus" (defArgs s__law_plus) (defBody s__law_plus) (defScope s__law_plus) .none kV24 dc24 pm24 an24 cd24 ct24), sl24⟩) (c24 : PySem.W.codeIn K cd24 "_law_plus" = true) (k24 : PySem.W.keepIn K (.ref f24) = true)
    {f25 : Addr} {od25 an25 : Option Addr} {sl25 : Array (Option Value)} {oc25 kV25 dc25 pm25 cd25 ct25 : Value}
    (a25 : PySem.W.nsIn K mainGlobals "_law_times" = some (some (.ref f25))) (l25 : K.lookup f25 = some ⟨oc25, od25, .func (PySem.W.fnOf "_law_times" "_law_times" (defArgs s__law_times) (defBody s__law_times) (defScope s__law_times) .none kV25 dc25 pm25 an25 cd25 ct25), sl25⟩) (c25 : PySem.W.codeIn K cd25 "_law_times" = true) (k25 : PySem.W.keepIn K (.ref f25) = true)
    {f26 : Addr} {od26 an26 : Option Addr} {sl26 : Array (Option Value)} {oc26 kV26 dc26 pm26 cd26 ct26 : Value}
    (a26 : PySem.W.nsIn K mainGlobals "_law_all" = some (some (.ref f26))) (l26 : K.lookup f26 = some ⟨oc26, od26, .func (PySem.W.fnOf "_law_all" "_law_all" (defArgs s__law_all) (defBody s__law_all) (defScope s__law_all) .none kV26 dc26 pm26 an26 cd26 ct26), sl26⟩) (c26 : PySem.W.codeIn K cd26 "_law_all" = true) (k26 : PySem.W.keepIn K (.ref f26) = true)
    {f27 : Addr} {od27 an27 : Option Addr} {sl27 : Array (Option Value)} {oc27 kV27 dc27 pm27 cd27 ct27 : Value}
    (a27 : PySem.W.nsIn K mainGlobals "whole_measures" = some (some (.ref f27))) (l27 : K.lookup f27 = some ⟨oc27, od27, .func (PySem.W.fnOf "whole_measures" "whole_measures" (defArgs s_whole_measures) (defBody s_whole_measures) (defScope s_whole_measures) .none kV27 dc27 pm27 an27 cd27 ct27), sl27⟩) (c27 : PySem.W.codeIn K cd27 "whole_measures" = true) (k27 : PySem.W.keepIn K (.ref f27) = true)
    {f28 : Addr} {od28 an28 : Option Addr} {sl28 : Array (Option Value)} {oc28 kV28 dc28 pm28 cd28 ct28 : Value}
    (a28 : PySem.W.nsIn K mainGlobals "less" = some (some (.ref f28))) (l28 : K.lookup f28 = some ⟨oc28, od28, .func (PySem.W.fnOf "less" "less" (defArgs s_less) (defBody s_less) (defScope s_less) .none kV28 dc28 pm28 an28 cd28 ct28), sl28⟩) (c28 : PySem.W.codeIn K cd28 "less" = true) (k28 : PySem.W.keepIn K (.ref f28) = true)
    {f29 : Addr} {od29 an29 : Option Addr} {sl29 : Array (Option Value)} {oc29 kV29 dc29 pm29 cd29 ct29 : Value}
    (a29 : PySem.W.nsIn K mainGlobals "cleared" = some (some (.ref f29))) (l29 : K.lookup f29 = some ⟨oc29, od29, .func (PySem.W.fnOf "cleared" "cleared" (defArgs s_cleared) (defBody s_cleared) (defScope s_cleared) .none kV29 dc29 pm29 an29 cd29 ct29), sl29⟩) (c29 : PySem.W.codeIn K cd29 "cleared" = true) (k29 : PySem.W.keepIn K (.ref f29) = true)
    {f30 : Addr} {od30 an30 : Option Addr} {sl30 : Array (Option Value)} {oc30 kV30 dc30 pm30 cd30 ct30 : Value}
    (a30 : PySem.W.nsIn K mainGlobals "kernel" = some (some (.ref f30))) (l30 : K.lookup f30 = some ⟨oc30, od30, .func (PySem.W.fnOf "kernel" "kernel" (defArgs s_kernel) (defBody s_kernel) (defScope s_kernel) .none kV30 dc30 pm30 an30 cd30 ct30), sl30⟩) (c30 : PySem.W.codeIn K cd30 "kernel" = true) (k30 : PySem.W.keepIn K (.ref f30) = true)
    {f31 : Addr} {od31 an31 : Option Addr} {sl31 : Array (Option Value)} {oc31 kV31 dc31 pm31 cd31 ct31 : Value}
    (a31 : PySem.W.nsIn K mainGlobals "found_products" = some (some (.ref f31))) (l31 : K.lookup f31 = some ⟨oc31, od31, .func (PySem.W.fnOf "found_products" "found_products" (defArgs s_found_products) (defBody s_found_products) (defScope s_found_products) .none kV31 dc31 pm31 an31 cd31 ct31), sl31⟩) (c31 : PySem.W.codeIn K cd31 "found_products" = true) (k31 : PySem.W.keepIn K (.ref f31) = true)
    {f32 : Addr} {od32 an32 : Option Addr} {sl32 : Array (Option Value)} {oc32 kV32 dc32 pm32 cd32 ct32 : Value}
    (a32 : PySem.W.nsIn K mainGlobals "plain_products" = some (some (.ref f32))) (l32 : K.lookup f32 = some ⟨oc32, od32, .func (PySem.W.fnOf "plain_products" "plain_products" (defArgs s_plain_products) (defBody s_plain_products) (defScope s_plain_products) .none kV32 dc32 pm32 an32 cd32 ct32), sl32⟩) (c32 : PySem.W.codeIn K cd32 "plain_products" = true) (k32 : PySem.W.keepIn K (.ref f32) = true)
    {f33 : Addr} {od33 an33 : Option Addr} {sl33 : Array (Option Value)} {oc33 kV33 dc33 pm33 cd33 ct33 : Value}
    (a33 : PySem.W.nsIn K mainGlobals "law" = some (some (.ref f33))) (l33 : K.lookup f33 = some ⟨oc33, od33, .func (PySem.W.fnOf "law" "law" (defArgs s_law) (defBody s_law) (defScope s_law) .none kV33 dc33 pm33 an33 cd33 ct33), sl33⟩) (c33 : PySem.W.codeIn K cd33 "law" = true) (k33 : PySem.W.keepIn K (.ref f33) = true)
    (z0 : PySem.W.nsIn K mainGlobals "len" = some none)
    (z1 : PySem.W.nsIn K mainGlobals "abs" = some none)
    (z2 : PySem.W.nsIn K mainGlobals "int" = some none)
    (z3 : PySem.W.nsIn K mainGlobals "tuple" = some none)
    (z4 : PySem.W.nsIn K mainGlobals "list" = some none)
    (z5 : PySem.W.nsIn K mainGlobals "all" = some none)
    (z6 : PySem.W.nsIn K mainGlobals "any" = some none)
    (z7 : PySem.W.nsIn K mainGlobals "max" = some none)
    (z8 : PySem.W.nsIn K mainGlobals "isinstance" = some none)
    (z9 : PySem.W.nsIn K mainGlobals "bool" = some none)
    (z10 : PySem.W.nsIn K mainGlobals "str" = some none)
    (z11 : PySem.W.nsIn K mainGlobals "range" = some none)
    (z12 : PySem.W.nsIn K mainGlobals "zip" = some none)
    (z13 : PySem.W.nsIn K mainGlobals "sorted" = some none)
    (z14 : PySem.W.nsIn K mainGlobals "set" = some none)
    (z15 : PySem.W.nsIn K mainGlobals "dict" = some none)
    (z16 : PySem.W.nsIn K mainGlobals "enumerate" = some none)
    {u0 : Value} (qg0 : PySem.W.nsIn K mainGlobals "NAMES" = some (some u0)) (qr0 : repB K 20 u0 d_NAMES = true)
    {u1 : Value} (qg1 : PySem.W.nsIn K mainGlobals "ZERO" = some (some u1)) (qr1 : repB K 20 u1 d_ZERO = true) :
    ∃ fd : FuncData, (∀ (s : Shared) (v : Value), BindsTo s fd ⟨[v], []⟩ [("script", v)]) ∧ ∀ base : Heap, K.In base → base.Ns mainGlobals mg → FnOk l.prog w K mg base (L2.CX l.prog w) 7 fa fd ["script"] (spLaw K 15 c_law) := by
  have e := hfa.symm.trans (PySem.W.mg_of X G a33)
  cases e
  have blt : ∀ y ∈ bltNames, mg y = none := by
    intro y hy
    unfold bltNames at hy
    simp only [List.mem_cons, List.not_mem_nil, or_false] at hy
    rcases hy with rfl | rfl | rfl | rfl | rfl | rfl | rfl | rfl | rfl | rfl | rfl | rfl | rfl | rfl | rfl | rfl | rfl
    · exact PySem.W.mg_none_of X G z0
    · exact PySem.W.mg_none_of X G z1
    · exact PySem.W.mg_none_of X G z2
    · exact PySem.W.mg_none_of X G z3
    · exact PySem.W.mg_none_of X G z4
    · exact PySem.W.mg_none_of X G z5
    · exact PySem.W.mg_none_of X G z6
    · exact PySem.W.mg_none_of X G z7
    · exact PySem.W.mg_none_of X G z8
    · exact PySem.W.mg_none_of X G z9
    · exact PySem.W.mg_none_of X G z10
    · exact PySem.W.mg_none_of X G z11
    · exact PySem.W.mg_none_of X G z12
    · exact PySem.W.mg_none_of X G z13
    · exact PySem.W.mg_none_of X G z14
    · exact PySem.W.mg_none_of X G z15
    · exact PySem.W.mg_none_of X G z16
  have gl_NAMES : Glb K mg "NAMES" d_NAMES := glb_of X G qg0 qr0
  have gl_ZERO : Glb K mg "ZERO" d_ZERO := glb_of X G qg1 qr1
  have F33 := fun_mk (st := s_law) l33 c33 k33
  refine ⟨PySem.W.fnOf "law" "law" (defArgs s_law) (defBody s_law) (defScope s_law) .none kV33 dc33 pm33 an33 cd33 ct33, fun s v => .of_eq rfl, fun base _ _ => ?_⟩
  have F0 := fun_mk (st := s__law_town) l0 c0 k0
  have b0 := F0.binds (ps := ["script"]) fun _ _ _ _ _ _ us hl => match us, hl with | [_], _ => rfl
  have F1 := fun_mk (st := s__law_draw) l1 c1 k1
  have b1 := F1.binds (ps := ["script", "town", "limit"]) fun _ _ _ _ _ _ us hl => match us, hl with | [_, _, _], _ => rfl
  have need : ∀ p, needSs (fun x m g => Has l.prog w K mg base (townSys p) 6 x m g) (Glb K mg) (c_law p) := by
    intro p
    have h__law_draw : Has l.prog w K mg base (townSys p) 1 "_law_draw" 3 (g_draw p) := ⟨f1, _, _, rfl, ok_draw F1 (blt "len" (by decide +kernel)), PySem.W.mg_of X G a1, k1, b1⟩
    have h__law_pick := H__law_pick (P := l.prog) (w := w) (base := base) (p := p) (n := 1) (defAt X G a2 l2 c2 k2) blt (h__law_draw.mono (by decide)) 
    have h__law_frac := H__law_frac (P := l.prog) (w := w) (base := base) (p := p) (n := 0) (defAt X G a3 l3 c3 k3) blt  
    have h__law_measure := H__law_measure (P := l.prog) (w := w) (base := base) (p := p) (n := 2) (defAt X G a4 l4 c4 k4) blt (h__law_pick.mono (by decide)) (h__law_frac.mono (by decide)) 
    have h__law_table := H__law_table (P := l.prog) (w := w) (base := base) (p := p) (n := 3) (defAt X G a5 l5 c5 k5) blt (h__law_measure.mono (by decide)) (h__law_draw.mono (by decide)) 
    have h_is_name := H_is_name (P := l.prog) (w := w) (base := base) (p := p) (n := 0) (defAt X G a6 l6 c6 k6) blt  gl_NAMES
    have h_is_between := H_is_between (P := l.prog) (w := w) (base := base) (p := p) (n := 0) (defAt X G a7 l7 c7 k7) blt  
    have h_divisor := H_divisor (P := l.prog) (w := w) (base := base) (p := p) (n := 0) (defAt X G a8 l8 c8 k8) blt  
    have h_is_fraction := H_is_fraction (P := l.prog) (w := w) (base := base) (p := p) (n := 1) (defAt X G a9 l9 c9 k9) blt (h_is_between.mono (by decide)) (h_divisor.mono (by decide)) 
    have h_is_measure := H_is_measure (P := l.prog) (w := w) (base := base) (p := p) (n := 2) (defAt X G a10 l10 c10 k10) blt (h_is_fraction.mono (by decide)) 
    have h_is_table := H_is_table (P := l.prog) (w := w) (base := base) (p := p) (n := 3) (defAt X G a11 l11 c11 k11) blt (h_is_name.mono (by decide)) (h_is_measure.mono (by decide)) 
    have h_check_table := H_check_table (P := l.prog) (w := w) (base := base) (p := p) (n := 4) (defAt X G a12 l12 c12 k12) blt (h_is_table.mono (by decide)) 
    have h_check_name := H_check_name (P := l.prog) (w := w) (base := base) (p := p) (n := 1) (defAt X G a13 l13 c13 k13) blt (h_is_name.mono (by decide)) 
    have h_check_complete := H_check_complete (P := l.prog) (w := w) (base := base) (p := p) (n := 0) (defAt X G a14 l14 c14 k14) blt  gl_NAMES
    have h_fraction := H_fraction (P := l.prog) (w := w) (base := base) (p := p) (n := 1) (defAt X G a15 l15 c15 k15) blt (h_divisor.mono (by decide)) 
    have h_plus := H_plus (P := l.prog) (w := w) (base := base) (p := p) (n := 2) (defAt X G a16 l16 c16 k16) blt (h_fraction.mono (by decide)) 
    have h_times := H_times (P := l.prog) (w := w) (base := base) (p := p) (n := 2) (defAt X G a17 l17 c17 k17) blt (h_fraction.mono (by decide)) 
    have h_added := H_added (P := l.prog) (w := w) (base := base) (p := p) (n := 3) (defAt X G a18 l18 c18 k18) blt (h_plus.mono (by decide)) (h_times.mono (by decide)) 
    have h_over := H_over (P := l.prog) (w := w) (base := base) (p := p) (n := 2) (defAt X G a19 l19 c19 k19) blt (h_fraction.mono (by decide)) 
    have h_reduced := H_reduced (P := l.prog) (w := w) (base := base) (p := p) (n := 4) (defAt X G a20 l20 c20 k20) blt (h_added.mono (by decide)) (h_over.mono (by decide)) (h_times.mono (by decide)) gl_ZERO
    have h_as_product := H_as_product (P := l.prog) (w := w) (base := base) (p := p) (n := 5) (defAt X G a21 l21 c21 k21) blt (h_check_table.mono (by decide)) (h_check_name.mono (by decide)) (h_check_complete.mono (by decide)) (h_reduced.mono (by decide)) gl_NAMES gl_ZERO
    have h__law_doubled := H__law_doubled (P := l.prog) (w := w) (base := base) (p := p) (n := 0) (defAt X G a22 l22 c22 k22) blt  
    have h__law_rank := H__law_rank (P := l.prog) (w := w) (base := base) (p := p) (n := 0) (defAt X G a23 l23 c23 k23) blt  
    have h__law_plus := H__law_plus (P := l.prog) (w := w) (base := base) (p := p) (n := 1) (defAt X G a24 l24 c24 k24) blt (h__law_frac.mono (by decide)) 
    have h__law_times := H__law_times (P := l.prog) (w := w) (base := base) (p := p) (n := 1) (defAt X G a25 l25 c25 k25) blt (h__law_frac.mono (by decide)) 
    have h__law_all := H__law_all (P := l.prog) (w := w) (base := base) (p := p) (n := 2) (defAt X G a26 l26 c26 k26) blt (h__law_plus.mono (by decide)) (h__law_times.mono (by decide)) 
    have h_whole_measures := H_whole_measures (P := l.prog) (w := w) (base := base) (p := p) (n := 1) (defAt X G a27 l27 c27 k27) blt (h_divisor.mono (by decide)) 
    have h_less := H_less (P := l.prog) (w := w) (base := base) (p := p) (n := 0) (defAt X G a28 l28 c28 k28) blt  
    have h_cleared := H_cleared (P := l.prog) (w := w) (base := base) (p := p) (n := 1) (defAt X G a29 l29 c29 k29) blt (h_less.mono (by decide)) 
    have h_kernel := H_kernel (P := l.prog) (w := w) (base := base) (p := p) (n := 2) (defAt X G a30 l30 c30 k30) blt (h_whole_measures.mono (by decide)) (h_cleared.mono (by decide)) 
    have h_found_products := H_found_products (P := l.prog) (w := w) (base := base) (p := p) (n := 3) (defAt X G a31 l31 c31 k31) blt (h_kernel.mono (by decide)) (h_cleared.mono (by decide)) (h_less.mono (by decide)) 
    have h_plain_products := H_plain_products (P := l.prog) (w := w) (base := base) (p := p) (n := 5) (defAt X G a32 l32 c32 k32) blt (h_check_table.mono (by decide)) (h_check_complete.mono (by decide)) (h_found_products.mono (by decide)) 
    have h__law_draw := h__law_draw.mono (show _ ≤ 6 by decide)
    have h__law_pick := h__law_pick.mono (show _ ≤ 6 by decide)
    have h__law_frac := h__law_frac.mono (show _ ≤ 6 by decide)
    have h__law_measure := h__law_measure.mono (show _ ≤ 6 by decide)
    have h__law_table := h__law_table.mono (show _ ≤ 6 by decide)
    have h_is_name := h_is_name.mono (show _ ≤ 6 by decide)
    have h_is_between := h_is_between.mono (show _ ≤ 6 by decide)
    have h_divisor := h_divisor.mono (show _ ≤ 6 by decide)
    have h_is_fraction := h_is_fraction.mono (show _ ≤ 6 by decide)
    have h_is_measure := h_is_measure.mono (show _ ≤ 6 by decide)
    have h_is_table := h_is_table.mono (show _ ≤ 6 by decide)
    have h_check_table := h_check_table.mono (show _ ≤ 6 by decide)
    have h_check_name := h_check_name.mono (show _ ≤ 6 by decide)
    have h_check_complete := h_check_complete.mono (show _ ≤ 6 by decide)
    have h_fraction := h_fraction.mono (show _ ≤ 6 by decide)
    have h_plus := h_plus.mono (show _ ≤ 6 by decide)
    have h_times := h_times.mono (show _ ≤ 6 by decide)
    have h_added := h_added.mono (show _ ≤ 6 by decide)
    have h_over := h_over.mono (show _ ≤ 6 by decide)
    have h_reduced := h_reduced.mono (show _ ≤ 6 by decide)
    have h_as_product := h_as_product.mono (show _ ≤ 6 by decide)
    have h__law_doubled := h__law_doubled.mono (show _ ≤ 6 by decide)
    have h__law_rank := h__law_rank.mono (show _ ≤ 6 by decide)
    have h__law_plus := h__law_plus.mono (show _ ≤ 6 by decide)
    have h__law_times := h__law_times.mono (show _ ≤ 6 by decide)
    have h__law_all := h__law_all.mono (show _ ≤ 6 by decide)
    have h_whole_measures := h_whole_measures.mono (show _ ≤ 6 by decide)
    have h_less := h_less.mono (show _ ≤ 6 by decide)
    have h_cleared := h_cleared.mono (show _ ≤ 6 by decide)
    have h_kernel := h_kernel.mono (show _ ≤ 6 by decide)
    have h_found_products := h_found_products.mono (show _ ≤ 6 by decide)
    have h_plain_products := h_plain_products.mono (show _ ≤ 6 by decide)
    unfold c_law
    repeat' (first | exact True.intro | assumption | apply And.intro)
  exact law_sound F33 sc_law rfl rfl (by decide +kernel) (by decide +kernel) (by decide +kernel) rfl ((ok_town F0 (blt "list" (by decide +kernel))).mono (by decide)) b0 k0 (PySem.W.mg_of X G a0) blt k_law need
theorem walk {l : PySem.W.OpenLaw} {q : Program} {loose : List Str} {XP : (Str → Option Value) → Heap → Prop} {YP : World → Heap → Prop} {d : DefRec} {K : Params → PySem.W.Frag} (hn : l.most = some 63) (hdf : d.params.defaults = [])
    (hY : ∀ (w : World) (h : Heap), YP w h → (K w.params).In h)
    (F : ∀ (w : World) (mg : Str → Option Value) (fa : Addr) (h : Heap), (K w.params).In h → h.Ns mainGlobals mg → mg d.name = some (.ref fa) →
      ∃ fd : FuncData, (∀ (s : Shared) (u : Value), BindsTo s fd ⟨[u], []⟩ [("script", u)]) ∧ ∀ base : Heap, (K w.params).In base → base.Ns mainGlobals mg → FnOk l.prog w (K w.params) mg base (L2.CX l.prog w) 7 fa fd ["script"] (spLaw (K w.params) 15 c_law)) :
    PySem.W.WalkO q loose XP YP l.row.toRowW d [] (fun f vs => PySem.call f vs) :=
  L2.walk_of (n := 63) (k := 7) (x := "script") (CX := fun w => L2.CX l.prog w) (sp := fun w => spLaw (K w.params) 15 c_law) hn (by decide) hdf ⟨rfl, by decide, by decide⟩ hY F (fun _ _ a ns hl _ hS => ⟨a, ns, rfl, hS, hl, main ns hl, fun _ => rfl⟩) fun _ _ _ _ _ z => cx_no z
end Mf
open PySem PySem.W PyProof.Rows
set_option maxRecDepth 100000 in
set_option maxHeartbeats 0 in
theorem PySem.Challenge.cw_measureforms_k31_names_as_products_holds : PySem.Challenge.rw_measureforms_k31_names_as_products.Holds := by
  w_on; o_law; k_head; (case hw => w_witness2)
  k_fill
  refine Mf.walk (l := PySem.Challenge.rw_measureforms_k31_names_as_products) rfl rfl (fun w h Y => PySem.W.kIn_of Y) ?F
  case F =>
    intro w mg fa h KX G hmg
    refine' Mf.all_mk KX G hmg ?a0 ?l0 ?c0 ?k0 ?a1 ?l1 ?c1 ?k1 ?a2 ?l2 ?c2 ?k2 ?a3 ?l3 ?c3 ?k3 ?a4 ?l4 ?c4 ?k4 ?a5 ?l5 ?c5 ?k5 ?a6 ?l6 ?c6 ?k6 ?a7 ?l7 ?c7 ?k7 ?a8 ?l8 ?c8 ?k8 ?a9 ?l9 ?c9 ?k9 ?a10 ?l10 ?c10 ?k10 ?a11 ?l11 ?c11 ?k11 ?a12 ?l12 ?c12 ?k12 ?a13 ?l13 ?c13 ?k13 ?a14 ?l14 ?c14 ?k14 ?a15 ?l15 ?c15 ?k15 ?a16 ?l16 ?c16 ?k16 ?a17 ?l17 ?c17 ?k17 ?a18 ?l18 ?c18 ?k18 ?a19 ?l19 ?c19 ?k19 ?a20 ?l20 ?c20 ?k20 ?a21 ?l21 ?c21 ?k21 ?a22 ?l22 ?c22 ?k22 ?a23 ?l23 ?c23 ?k23 ?a24 ?l24 ?c24 ?k24 ?a25 ?l25 ?c25 ?k25 ?a26 ?l26 ?c26 ?k26 ?a27 ?l27 ?c27 ?k27 ?a28 ?l28 ?c28 ?k28 ?a29 ?l29 ?c29 ?k29 ?a30 ?l30 ?c30 ?k30 ?a31 ?l31 ?c31 ?k31 ?a32 ?l32 ?c32 ?k32 ?a33 ?l33 ?c33 ?k33 ?z0 ?z1 ?z2 ?z3 ?z4 ?z5 ?z6 ?z7 ?z8 ?z9 ?z10 ?z11 ?z12 ?z13 ?z14 ?z15 ?z16 ?qg0 ?qr0 ?qg1 ?qr1
    (case a0 => k_is)
    (case l0 => k_is)
    (case c0 => k_is)
    (case k0 => k_is)
    (case a1 => k_is)
    (case l1 => k_is)
    (case c1 => k_is)
    (case k1 => k_is)
    (case a2 => k_is)
    (case l2 => k_is)
    (case c2 => k_is)
    (case k2 => k_is)
    (case a3 => k_is)
    (case l3 => k_is)
    (case c3 => k_is)
    (case k3 => k_is)
    (case a4 => k_is)
    (case l4 => k_is)
    (case c4 => k_is)
    (case k4 => k_is)
    (case a5 => k_is)
    (case l5 => k_is)
    (case c5 => k_is)
    (case k5 => k_is)
    (case a6 => k_is)
    (case l6 => k_is)
    (case c6 => k_is)
    (case k6 => k_is)
    (case a7 => k_is)
    (case l7 => k_is)
    (case c7 => k_is)
    (case k7 => k_is)
    (case a8 => k_is)
    (case l8 => k_is)
    (case c8 => k_is)
    (case k8 => k_is)
    (case a9 => k_is)
    (case l9 => k_is)
    (case c9 => k_is)
    (case k9 => k_is)
    (case a10 => k_is)
    (case l10 => k_is)
    (case c10 => k_is)
    (case k10 => k_is)
    (case a11 => k_is)
    (case l11 => k_is)
    (case c11 => k_is)
    (case k11 => k_is)
    (case a12 => k_is)
    (case l12 => k_is)
    (case c12 => k_is)
    (case k12 => k_is)
    (case a13 => k_is)
    (case l13 => k_is)
    (case c13 => k_is)
    (case k13 => k_is)
    (case a14 => k_is)
    (case l14 => k_is)
    (case c14 => k_is)
    (case k14 => k_is)
    (case a15 => k_is)
    (case l15 => k_is)
    (case c15 => k_is)
    (case k15 => k_is)
    (case a16 => k_is)
    (case l16 => k_is)
    (case c16 => k_is)
    (case k16 => k_is)
    (case a17 => k_is)
    (case l17 => k_is)
    (case c17 => k_is)
    (case k17 => k_is)
    (case a18 => k_is)
    (case l18 => k_is)
    (case c18 => k_is)
    (case k18 => k_is)
    (case a19 => k_is)
    (case l19 => k_is)
    (case c19 => k_is)
    (case k19 => k_is)
    (case a20 => k_is)
    (case l20 => k_is)
    (case c20 => k_is)
    (case k20 => k_is)
    (case a21 => k_is)
    (case l21 => k_is)
    (case c21 => k_is)
    (case k21 => k_is)
    (case a22 => k_is)
    (case l22 => k_is)
    (case c22 => k_is)
    (case k22 => k_is)
    (case a23 => k_is)
    (case l23 => k_is)
    (case c23 => k_is)
    (case k23 => k_is)
    (case a24 => k_is)
    (case l24 => k_is)
    (case c24 => k_is)
    (case k24 => k_is)
    (case a25 => k_is)
    (case l25 => k_is)
    (case c25 => k_is)
    (case k25 => k_is)
    (case a26 => k_is)
    (case l26 => k_is)
    (case c26 => k_is)
    (case k26 => k_is)
    (case a27 => k_is)
    (case l27 => k_is)
    (case c27 => k_is)
    (case k27 => k_is)
    (case a28 => k_is)
    (case l28 => k_is)
    (case c28 => k_is)
    (case k28 => k_is)
    (case a29 => k_is)
    (case l29 => k_is)
    (case c29 => k_is)
    (case k29 => k_is)
    (case a30 => k_is)
    (case l30 => k_is)
    (case c30 => k_is)
    (case k30 => k_is)
    (case a31 => k_is)
    (case l31 => k_is)
    (case c31 => k_is)
    (case k31 => k_is)
    (case a32 => k_is)
    (case l32 => k_is)
    (case c32 => k_is)
    (case k32 => k_is)
    (case a33 => k_is)
    (case l33 => k_is)
    (case c33 => k_is)
    (case k33 => k_is)
    (case z0 => k_is)
    (case z1 => k_is)
    (case z2 => k_is)
    (case z3 => k_is)
    (case z4 => k_is)
    (case z5 => k_is)
    (case z6 => k_is)
    (case z7 => k_is)
    (case z8 => k_is)
    (case z9 => k_is)
    (case z10 => k_is)
    (case z11 => k_is)
    (case z12 => k_is)
    (case z13 => k_is)
    (case z14 => k_is)
    (case z15 => k_is)
    (case z16 => k_is)
    (case qg0 => k_is)
    (case qr0 => kernel_rfl)
    (case qg1 => k_is)
    (case qr1 => kernel_rfl)
