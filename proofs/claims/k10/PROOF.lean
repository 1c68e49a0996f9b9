import PyProof.Rows.All
import Wide.All
import OpenK.AllK
import Wide.FinOn
import HandS.ForMost
import HandS.ForExc
import HandS.Wide
import HandS.Zip
import HandS.TupAny
import HandS.TupMul
import HandS.TupLe
import HandS.IsInst
import KE.KDictPairs
import KE.SortData
import KE.DataFind
import HandS.Replace
import HandS.Small
import HandS.Deep
import HandS.SetKeys
import HandS.SetFor
import HandS.Style
import HandS.NoneIn
import PySem.Challenge.RW_measureforms_k10_whole_forms
set_option Elab.async false
set_option linter.all false
set_option maxRecDepth 100000
set_option maxHeartbeats 1000000
namespace Mf
open PySem L2
/-! Tuples that are told to the object: a new tuple has no dict of its own, and that stays known. -/
abbrev NewT (H : Hp) (Q : VK) (xs : List V) : Prop := ∀ p o, H p = none → o.dict = none → Q (.ref p) (upd H p (.frz o (.tup xs)))
section
variable {X : Cx} {es : List Expr} {t : TA} {pos : Pos}
/-- a tuple just pushed -/
theorem laidT {pins : List (Addr × Obj)} {σ : L2.St} {H : Hp} {s : Shared} {Q : VK} {xs : List V} {its : List Value} (I : Inv X pins σ H s) (r : Vals xs its) (hz : xs.length ≤ sizeLine) (q : NewT H Q xs) :
    EP X pins σ Q (.ref s.heap.objs.size) { s with heap := s.heap.push { cls := .type "tuple", data := .seq its.toArray } } := by
  refine ⟨.ref s.heap.objs.size, _, I.laid (t' := s.toks) (o := .frz { cls := .type "tuple", data := .seq its.toArray } (.tup xs)) (fun b ob e => Heap.get?_push_of_some _ e) (Nat.le_refl _) ?_, rfl, q _ { cls := .type "tuple", data := .seq its.toArray } (I.hok.fresh (Nat.le_refl _)) rfl⟩
  exact ⟨Heap.get?_push_size _ rfl, hz, its, r, ⟨_, Heap.get?_push_size _ rfl, rfl, _, rfl⟩⟩
def tTupZ (t : TA) : TE := fun σ H Q => t σ H fun xs H1 => xs.length ≤ sizeLine ∧ NewT H1 Q xs
theorem pe_tupZ {x1 : Nat} (h : PA X es t) : PE X (.Tuple es x1 pos) (tTupZ t) :=
  ⟨fun pins s σ H Q I hq => wpAny_Tuple_spliced (thn (h.run pos pins s σ H _ I hq) fun us s1 ⟨xs, H1, I1, r, z, q⟩ => ⟨by rw [← r.length]; exact z, laidT I1 r z q⟩)⟩
def rCatZ (K : PySem.W.Frag) : R2 := fun x y H Q => ∃ a b xs ys, x = .ref a ∧ y = .ref b ∧ SqT K H a xs ∧ SqT K H b ys ∧ xs.length + ys.length ≤ sizeLine ∧ (xs = [] → Q (.ref b) H) ∧ (ys = [] → Q (.ref a) H) ∧ NewT H Q (xs ++ ys)
theorem op_catZ : OpR X (binaryOp .Add) (rCatZ X.K) := by
  intro pins s σ H x y v u Q I rx ry h
  obtain ⟨a, b, xs, ys, rfl, rfl, ha, hb, hz, q0, q1, q2⟩ := h
  cases rx; cases ry
  obtain ⟨i1, r1, p1, _⟩ := I.tuple ha
  obtain ⟨i2, r2, p2, _⟩ := I.tuple hb
  by_cases hx : xs = []
  · subst hx
    cases r1
    exact cat_tup0 p1 p2 ⟨.ref b, H, I, rfl, q0 rfl⟩
  · refine HT.cat_tup p1 p2 (fun z => hx (r1.nil_iff.mp z)) (fun z => ⟨.ref a, H, I, rfl, q1 (r2.nil_iff.mp z)⟩) (fun z => ?_) (by rw [← r1.length, ← r2.length]; exact hz)
    exact laidT (its := i1 ++ i2) I (r1.append r2) (by rw [List.length_append]; exact hz) q2
def rSlZ (K : PySem.W.Frag) : V → Option Int → Option Int → Hp → VK → Prop := fun x lo hi H Q => ∃ a xs, x = .ref a ∧ SqT K H a xs ∧ (cutV xs lo hi = xs → Q (.ref a) H) ∧ NewT H Q (cutV xs lo hi)
theorem sl_tupZ : SlR X (rSlZ X.K) := by
  intro pins s σ H x v vl vu lo hi sl Q I rx hs pl pu h
  obtain ⟨a, xs, rfl, hx, q1, q2⟩ := h
  cases rx
  obtain ⟨its, r, ht, hz⟩ := I.tuple hx
  have hlen : its.toArray.size = xs.length := by rw [List.size_toArray]; exact r.length.symm
  refine ⟨"tuple", _, PyProof.Rows.slot_tuple_getitem.lookup, ht.typeIs, ?_⟩
  by_cases hw : HT.sIx xs.length 0 lo = 0 ∧ HT.sIx xs.length xs.length hi = xs.length
  · refine getItem_tuple_whole ht hs pl pu (by rw [hlen]; exact hw) ⟨.ref a, H, I, rfl, q1 ?_⟩
    unfold cutV
    rw [hw.1, hw.2, List.drop_zero, Nat.sub_zero, List.take_length]
  · refine HT.getItem_tuple_cut ht hs pl pu (by rw [hlen]; exact hw) ?_ (by rw [hlen]; exact hz)
    rw [hlen]
    exact laidT I ((r.drop (HT.sIx xs.length 0 lo)).take (HT.sIx xs.length xs.length hi - HT.sIx xs.length 0 lo)) (Nat.le_trans (cutV_length xs lo hi) hz) q2
theorem call_tupleZ : CallR X (.type "tuple") (fun xs H Q => ∃ p ys, xs = [.ref p] ∧ ((SqL X.K H p ys ∧ NewT H Q ys) ∨ (SqT X.K H p ys ∧ Q (.ref p) H))) := by
  intro pins s σ H xs us Q I r h
  obtain ⟨p, ys, rfl, h⟩ := h
  obtain ⟨u, rfl, rx⟩ := vals1 r
  cases rx
  rcases h with ⟨hq, q⟩ | ⟨hq, q⟩
  · obtain ⟨its, r', pl, hz⟩ := I.list hq
    have hlen := r'.length
    refine call_tuple_list pl.isList (fun h' kp => ?_) (by simp only [List.size_toArray] <;> omega)
    exact laidT (I.kept (h' := h') (t' := s.toks) kp) r' hz q
  · obtain ⟨its, r', pl, hz⟩ := I.tuple hq
    exact call_tuple_same pl ⟨.ref p, H, I, rfl, q⟩
def rRepZ (K : PySem.W.Frag) : R2 := fun x y H Q => ∃ l k xs, x = .ref l ∧ y = .int k ∧ SqT K H l xs ∧ xs ≠ [] ∧ 2 ≤ k ∧ k ≤ 1000 ∧ xs.length ≤ 1000 ∧ NewT H Q (List.replicate k.toNat xs).flatten
theorem op_repZ : OpR X (binaryOp .Mult) (rRepZ X.K) := by
  intro pins s σ H x y v u Q I rx ry h
  obtain ⟨l, k, xs, rfl, rfl, hT, hne, k2, k3, xz, q⟩ := h
  cases rx
  obtain ⟨tk, rfl⟩ := ry
  obtain ⟨its, r, ⟨⟨cls, dd, data, sl⟩, ho, hc, n, hd⟩, _⟩ := I.tuple hT
  dsimp only at hc hd
  subst hc hd
  have el : its.length = xs.length := r.length.symm
  have es : its.toArray.size = xs.length := by rw [List.size_toArray, el]
  have ie : its.toArray.isEmpty = false := by
    cases its with
    | nil => exact absurd (List.eq_nil_of_length_eq_zero el.symm) hne
    | cons _ _ => rfl
  have big : ((its.toArray.size : Nat) : Int) * k ≤ 1000000 := by
    rw [es]
    exact Int.le_trans (Int.mul_le_mul_of_nonneg_right (show ((xs.length : Nat) : Int) ≤ 1000 by omega) (by omega)) (by omega)
  have m6 : k.toNat * xs.length ≤ 1000 * 1000 := Nat.mul_le_mul (by omega) xz
  have a0 : (decide (k < -(2 ^ 63)) || decide (k ≥ 2 ^ 63)) = false := by simp only [Bool.or_eq_false_iff, decide_eq_false_iff_not]; omega
  have a1 : (its.toArray.isEmpty || k == 1) = false := by rw [ie, Bool.false_or, beq_eq_false_iff_ne]; omega
  have a2 : (decide (k ≤ 0) || its.toArray.isEmpty) = false := by rw [ie, Bool.or_false, decide_eq_false_iff_not]; omega
  have a4 : Builtin.Tuple.tupleTooMany (((its.toArray.size : Nat) : Int) * k) = false := by
    unfold Builtin.Tuple.tupleTooMany
    rw [sizeLine_eq, decide_eq_false_iff_not]
    omega
  have fl : (List.replicate k.toNat its).flatten.length ≤ sizeLine := by
    rw [PyProof.Rows.lm_len_rep_flat, el, sizeLine_eq]
    omega
  refine wpAny_binaryOp_repeat_ref (T := "tuple") (U := "int") (by decide) ⟨_, ho, rfl⟩ (fun s' => typeIs_int s' k tk) noFill_tuple_mul F.fills_int_mul F.slot_int_rmul repeat_tuple F.slot_int_index.lookup
    (call_meets F.slot_int_rmul (typeIs_int s k tk) F.entry_int_rmul (F.args_int_rmul_2 _ _) (int_rmul_tuple k tk l its.toArray n dd sl)
      ⟨ho, rfl, ⟨_, ho, rfl⟩, call_meets F.slot_tuple_mul ⟨_, ho, rfl⟩ F.entry_tuple_mul (F.args_tuple_mul_2 _ _)
        (tuple_mulW l its.toArray n dd sl k tk a0 a1 a2 (by omega) a4 (by rw [size_rep, List.size_toArray]; exact fl)) ⟨ho, ?_⟩⟩)
  rw [size_rep]
  exact laidT I (r.rep k.toNat) (by rw [PyProof.Rows.lm_len_rep_flat, sizeLine_eq]; omega) q
end
end Mf
set_option Elab.async false
set_option linter.all false
set_option maxRecDepth 100000
set_option maxHeartbeats 1000000
namespace Mf
open PySem L2

/-! ### data -/
inductive D where
  | non | bl (b : Bool) | int (i : Int) | str (x : Str) | tup (ds : List D) | lst (ds : List D) | dct (kvs : List (Str × D)) | adr (a : Addr) | scr (ns : List Int)

/-- a tuple without a dict of its own -/
def Pt (K : PySem.W.Frag) (F : Hp) (a : Addr) : Prop := (∃ o u, F a = some (.frz o u) ∧ o.dict = none) ∨ ∃ o, K.lookup a = some o ∧ o.dict = none
mutual
inductive Rep (K : PySem.W.Frag) (F : Hp) : V → D → Prop
  | non : Rep K F .non .non
  | bl (b : Bool) : Rep K F (.bl b) (.bl b)
  | int (i : Int) : Rep K F (.int i) (.int i)
  | str (x : Str) : Rep K F (.str x) (.str x)
  | adr (a : Addr) : Rep K F (.ref a) (.adr a)
  | scr {a : Addr} {ns : List Int} : SqL K F a (ns.map V.int) → Rep K F (.ref a) (.scr ns)
  | tup {a : Addr} {vs : List V} {ds : List D} : SqT K F a vs → Pt K F a → Reps K F vs ds → Rep K F (.ref a) (.tup ds)
  | lst {a : Addr} {vs : List V} {ds : List D} : F a = some (.lst vs) → Reps K F vs ds → Rep K F (.ref a) (.lst ds)
  | dct {a : Addr} {kvs : List (Key × V)} {es : List (Str × D)} : F a = some (.dK kvs) → RepK K F kvs es → Rep K F (.ref a) (.dct es)
inductive Reps (K : PySem.W.Frag) (F : Hp) : List V → List D → Prop
  | nil : Reps K F [] []
  | cons {v : V} {vs : List V} {d : D} {ds : List D} : Rep K F v d → Reps K F vs ds → Reps K F (v :: vs) (d :: ds)
inductive RepK (K : PySem.W.Frag) (F : Hp) : List (Key × V) → List (Str × D) → Prop
  | nil : RepK K F [] []
  | cons {x : Str} {v : V} {d : D} {kvs : List (Key × V)} {es : List (Str × D)} : Rep K F v d → RepK K F kvs es → RepK K F ((.inr x, v) :: kvs) ((x, d) :: es)
end

def Sub (F F' : Hp) : Prop := ∀ a o, F a = some o → F' a = some o
theorem Sub.refl (F : Hp) : Sub F F := fun _ _ h => h
theorem Sub.trans {F F1 F2 : Hp} (a : Sub F F1) (b : Sub F1 F2) : Sub F F2 := fun x o h => b x o (a x o h)
theorem Sub.new {F : Hp} {p : Addr} {o : HO} (h : F p = none) : Sub F (upd F p o) := fun a u e => by
  rw [upd_ne (ne_of_none e h)]
  exact e
theorem sqT_sub {K : PySem.W.Frag} {F F' : Hp} {a : Addr} {xs : List V} (e : Sub F F') (h : SqT K F a xs) : SqT K F' a xs := by
  rcases h with (h | ⟨o, h⟩) | h
  · exact .inl (.inl (e _ _ h))
  · exact .inl (.inr ⟨o, e _ _ h⟩)
  · exact .inr h
theorem Pt.sub {K : PySem.W.Frag} {F F' : Hp} {a : Addr} (e : Sub F F') (h : Pt K F a) : Pt K F' a := by
  rcases h with ⟨o, u, h, d⟩ | h
  · exact .inl ⟨o, u, e _ _ h, d⟩
  · exact .inr h
theorem sqL_sub {K : PySem.W.Frag} {F F' : Hp} {a : Addr} {xs : List V} (e : Sub F F') (h : SqL K F a xs) : SqL K F' a xs := by
  rcases h with (h | ⟨o, h⟩) | h
  · exact .inl (.inl (e _ _ h))
  · exact .inl (.inr ⟨o, e _ _ h⟩)
  · exact .inr h
mutual
theorem Rep.mono {K : PySem.W.Frag} {F F' : Hp} (e : Sub F F') : ∀ {v : V} {d : D}, Rep K F v d → Rep K F' v d
  | _, _, .non => .non
  | _, _, .bl b => .bl b
  | _, _, .int i => .int i
  | _, _, .str x => .str x
  | _, _, .adr a => .adr a
  | _, _, .scr h => .scr (sqL_sub e h)
  | _, _, .tup h t r => .tup (sqT_sub e h) (Pt.sub e t) (Reps.mono e r)
  | _, _, .lst h r => .lst (e _ _ h) (Reps.mono e r)
  | _, _, .dct h r => .dct (e _ _ h) (RepK.mono e r)
theorem Reps.mono {K : PySem.W.Frag} {F F' : Hp} (e : Sub F F') : ∀ {vs : List V} {ds : List D}, Reps K F vs ds → Reps K F' vs ds
  | _, _, .nil => .nil
  | _, _, .cons h r => .cons (Rep.mono e h) (Reps.mono e r)
theorem RepK.mono {K : PySem.W.Frag} {F F' : Hp} (e : Sub F F') : ∀ {vs : List (Key × V)} {ds : List (Str × D)}, RepK K F vs ds → RepK K F' vs ds
  | _, _, .nil => .nil
  | _, _, .cons h r => .cons (Rep.mono e h) (RepK.mono e r)
end
section
variable {K : PySem.W.Frag} {F : Hp}
theorem Reps.length : ∀ {vs : List V} {ds : List D}, Reps K F vs ds → vs.length = ds.length
  | _, _, .nil => rfl
  | _, _, .cons _ r => congrArg (· + 1) (Reps.length r)
theorem Reps.get : ∀ {vs : List V} {ds : List D} {i : Nat} {d : D}, Reps K F vs ds → ds[i]? = some d → ∃ v, vs[i]? = some v ∧ Rep K F v d
  | _, _, _, _, .nil, e => by simp at e
  | _, _, 0, _, .cons h _, e => by simp at e; subst e; exact ⟨_, rfl, h⟩
  | _, _, i + 1, d, .cons _ t, e => by
    obtain ⟨v, h1, h2⟩ := Reps.get (i := i) (d := d) t (by simpa using e)
    exact ⟨v, by simpa using h1, h2⟩
theorem Reps.getv : ∀ {vs : List V} {ds : List D} {i : Nat} {v : V}, Reps K F vs ds → vs[i]? = some v → ∃ d, ds[i]? = some d ∧ Rep K F v d
  | _, _, _, _, .nil, e => by simp at e
  | _, _, 0, _, .cons h _, e => by simp at e; subst e; exact ⟨_, rfl, h⟩
  | _, _, i + 1, d, .cons _ t, e => by
    obtain ⟨v, h1, h2⟩ := Reps.getv (i := i) (v := d) t (by simpa using e)
    exact ⟨v, by simpa using h1, h2⟩
theorem Reps.append : ∀ {xs ys : List V} {us ws : List D}, Reps K F xs us → Reps K F ys ws → Reps K F (xs ++ ys) (us ++ ws)
  | _, _, _, _, .nil, s => s
  | _, _, _, _, .cons r t, s => .cons r (Reps.append t s)
theorem Reps.take : ∀ {xs : List V} {us : List D} (n : Nat), Reps K F xs us → Reps K F (xs.take n) (us.take n)
  | _, _, 0, _ => .nil
  | _, _, _ + 1, .nil => .nil
  | _, _, n + 1, .cons r t => .cons r (Reps.take n t)
theorem Reps.drop : ∀ {xs : List V} {us : List D} (n : Nat), Reps K F xs us → Reps K F (xs.drop n) (us.drop n)
  | _, _, 0, r => r
  | _, _, _ + 1, .nil => .nil
  | _, _, n + 1, .cons _ t => Reps.drop n t
theorem Reps.set {x : V} {u : D} (r : Rep K F x u) : ∀ {xs : List V} {us : List D} (i : Nat), Reps K F xs us → Reps K F (xs.set i x) (us.set i u)
  | _, _, _, .nil => .nil
  | _, _, 0, .cons _ t => .cons r t
  | _, _, i + 1, .cons q t => .cons q (Reps.set r i t)
theorem Reps.erase : ∀ {xs : List V} {us : List D} (n : Nat), Reps K F xs us → Reps K F (xs.eraseIdx n) (us.eraseIdx n)
  | _, _, _, .nil => .nil
  | _, _, 0, .cons _ t => t
  | _, _, n + 1, .cons r t => .cons r (Reps.erase n t)
theorem Reps.rep {xs : List V} {us : List D} (r : Reps K F xs us) : ∀ n : Nat, Reps K F (List.replicate n xs).flatten (List.replicate n us).flatten
  | 0 => .nil
  | n + 1 => by
    rw [List.replicate_succ, List.replicate_succ, List.flatten_cons, List.flatten_cons]
    exact r.append (Reps.rep r n)
theorem Reps.rev : ∀ {xs : List V} {us : List D}, Reps K F xs us → Reps K F xs.reverse us.reverse
  | _, _, .nil => .nil
  | _, _, .cons h t => by
    rw [List.reverse_cons, List.reverse_cons]
    exact (Reps.rev t).append (.cons h .nil)
end

/-! ### the machine's mutable part -/
structure Sys where
  S : Type
  ok : S → Hp → Prop
  dm : S → Addr → Prop
  keep : ∀ s H H', ok s H → (∀ a, dm s a → H' a = H a) → ok s H'

structure Cf (Y : Sys) where
  F : Hp
  H : Hp
  s : Y.S

structure Ok {Y : Sys} (c : Cf Y) : Prop where
  sub : Sub c.F c.H
  cel : Y.ok c.s c.H
  dis : ∀ a, Y.dm c.s a → c.F a = none
  has : ∀ a, Y.dm c.s a → c.H a ≠ none

structure Step {Y : Sys} (c c' : Cf Y) : Prop where
  f : Sub c.F c'.F
  h : ∀ a o, c.H a = some o → ¬ Y.dm c.s a → c'.H a = some o
  n : ∀ a, c.H a ≠ none → c.F a = none → c'.F a = none
  d : ∀ a, Y.dm c.s a → Y.dm c'.s a
  g : ∀ a, c.H a ≠ none → Y.dm c'.s a → Y.dm c.s a

section
variable {Y : Sys} {c c1 c2 : Cf Y}
theorem Step.refl (c : Cf Y) : Step c c := ⟨Sub.refl _, fun _ _ h _ => h, fun _ _ h => h, fun _ h => h, fun _ _ h => h⟩
theorem Step.ne (t : Step c c1) (k : Ok c1) {a : Addr} (h : c.H a ≠ none) : c1.H a ≠ none := by
  by_cases q : Y.dm c.s a
  · exact k.has a (t.d a q)
  · cases e : c.H a with
    | none => exact absurd e h
    | some o => rw [t.h a o e q]; exact fun z => nomatch z
theorem Step.back (t : Step c c1) (k : Ok c1) {a : Addr} (h : c1.H a = none) : c.H a = none := by
  cases e : c.H a with
  | none => rfl
  | some o => exact absurd h (t.ne k (by rw [e]; exact fun z => nomatch z))
theorem Step.trans (t : Step c c1) (k : Ok c1) (u : Step c1 c2) : Step c c2 where
  f := t.f.trans u.f
  h := fun a o e nd => u.h a o (t.h a o e nd) fun z => nd (t.g a (by rw [e]; exact fun z => nomatch z) z)
  n := fun a e nf => u.n a (t.ne k e) (t.n a e nf)
  d := fun a z => u.d a (t.d a z)
  g := fun a e z => t.g a e (u.g a (t.ne k e) z)
/-- a new object that nobody can change -/
theorem Ok.new (k : Ok c) {p : Addr} (hp : c.H p = none) (o : HO) : Ok (⟨upd c.F p o, upd c.H p o, c.s⟩ : Cf Y) where
  sub := fun a u e => by
    have e : upd c.F p o a = some u := e
    show upd c.H p o a = some u
    by_cases q : a = p
    · subst q
      rw [upd_same] at e ⊢
      exact e
    · rw [upd_ne q] at e
      rw [upd_ne q]
      exact k.sub a u e
  cel := Y.keep _ _ _ k.cel fun a z => upd_ne (show a ≠ p from fun e => k.has a z (by rw [e]; exact hp))
  dis := fun a z => by
    show upd c.F p o a = none
    rw [upd_ne (show a ≠ p from fun e => k.has a z (by rw [e]; exact hp))]
    exact k.dis a z
  has := fun a z => by
    show upd c.H p o a ≠ none
    rw [upd_ne (show a ≠ p from fun e => k.has a z (by rw [e]; exact hp))]
    exact k.has a z
theorem Step.new (k : Ok c) {p : Addr} (hp : c.H p = none) (o : HO) : Step c (⟨upd c.F p o, upd c.H p o, c.s⟩ : Cf Y) where
  f := Sub.new (by
    cases e : c.F p with
    | none => rfl
    | some u => rw [k.sub _ _ e] at hp; cases hp)
  h := fun a u e _ => by
    show upd c.H p o a = some u
    rw [upd_ne (ne_of_none e hp)]
    exact e
  n := fun a e nf => by
    show upd c.F p o a = none
    rw [upd_ne (show a ≠ p from fun z => e (by rw [z]; exact hp))]
    exact nf
  d := fun _ z => z
  g := fun _ _ z => z
/-- a new object that is still the maker's own -/
theorem Ok.own (k : Ok c) {p : Addr} (hp : c.H p = none) (o : HO) : Ok (⟨c.F, upd c.H p o, c.s⟩ : Cf Y) where
  sub := fun a u e => by
    show upd c.H p o a = some u
    have q := k.sub a u e
    rw [upd_ne (ne_of_none q hp)]
    exact q
  cel := Y.keep _ _ _ k.cel fun a z => upd_ne (show a ≠ p from fun e => k.has a z (by rw [e]; exact hp))
  dis := k.dis
  has := fun a z => by
    show upd c.H p o a ≠ none
    rw [upd_ne (show a ≠ p from fun e => k.has a z (by rw [e]; exact hp))]
    exact k.has a z
theorem Step.own (k : Ok c) {p : Addr} (hp : c.H p = none) (o : HO) : Step c (⟨c.F, upd c.H p o, c.s⟩ : Cf Y) where
  f := Sub.refl _
  h := fun a u e _ => by
    show upd c.H p o a = some u
    rw [upd_ne (ne_of_none e hp)]
    exact e
  n := fun _ _ nf => nf
  d := fun _ z => z
  g := fun _ _ z => z
/-- what is owned changes -/
theorem Ok.mut (k : Ok c) {p : Addr} (hf : c.F p = none) (nd : ¬ Y.dm c.s p) (o : HO) : Ok (⟨c.F, upd c.H p o, c.s⟩ : Cf Y) where
  sub := fun a u e => by
    show upd c.H p o a = some u
    rw [upd_ne (ne_of_none e hf)]
    exact k.sub a u e
  cel := Y.keep _ _ _ k.cel fun a z => upd_ne (show a ≠ p from fun e => nd (e ▸ z))
  dis := k.dis
  has := fun a z => by
    show upd c.H p o a ≠ none
    rw [upd_ne (show a ≠ p from fun e => nd (e ▸ z))]
    exact k.has a z
/-- .. seen from the entry, ahead of which it was not -/
theorem Step.mut {c0 : Cf Y} (t : Step c0 c) {p : Addr} (h0 : c0.H p = none) (o : HO) : Step c0 (⟨c.F, upd c.H p o, c.s⟩ : Cf Y) where
  f := t.f
  h := fun a u e nd => by
    show upd c.H p o a = some u
    rw [upd_ne (ne_of_none e h0)]
    exact t.h a u e nd
  n := t.n
  d := t.d
  g := t.g
/-- what is owned is given up -/
theorem Ok.frz (k : Ok c) {p : Addr} (nd : ¬ Y.dm c.s p) {o : HO} (hp : c.H p = some o) : Ok (⟨upd c.F p o, c.H, c.s⟩ : Cf Y) where
  sub := fun a u e => by
    have e : upd c.F p o a = some u := e
    show c.H a = some u
    by_cases q : a = p
    · subst q
      rw [upd_same] at e
      rw [hp]
      exact e
    · rw [upd_ne q] at e
      exact k.sub a u e
  cel := k.cel
  dis := fun a z => by
    show upd c.F p o a = none
    rw [upd_ne (show a ≠ p from fun e => nd (e ▸ z))]
    exact k.dis a z
  has := k.has
theorem Step.frz {c0 : Cf Y} (t : Step c0 c) {p : Addr} (hf : c.F p = none) (h0 : c0.H p = none) (o : HO) : Step c0 (⟨upd c.F p o, c.H, c.s⟩ : Cf Y) where
  f := t.f.trans (Sub.new hf)
  h := t.h
  n := fun a e nf => by
    show upd c.F p o a = none
    rw [upd_ne (show a ≠ p from fun z => e (by rw [z]; exact h0))]
    exact t.n a e nf
  d := t.d
  g := t.g
end

/-! ### what is owned, what a slot holds, what an expression gives -/
def Own {Y : Sys} (K : PySem.W.Frag) (c : Cf Y) (p : Addr) (d : D) : Prop :=
  (match d with
    | .lst ds => ∃ vs, c.H p = some (.lst vs) ∧ Reps K c.F vs ds
    | .dct es => ∃ kvs, c.H p = some (.dK kvs) ∧ RepK K c.F kvs es
    | _ => False) ∧ c.F p = none ∧ ¬ Y.dm c.s p

inductive SV where
  | no | va (d : D) | ow (d : D)
inductive K3 where
  | v | t | o

section
variable {Y : Sys} {c c1 c2 : Cf Y} {K : PySem.W.Frag} {p : Addr} {d : D}
theorem Own.obj (h : Own K c p d) : c.H p ≠ none := by
  obtain ⟨h, _, _⟩ := h
  cases d with
  | lst ds => obtain ⟨vs, e, _⟩ := h; rw [e]; exact fun z => nomatch z
  | dct ds => obtain ⟨vs, e, _⟩ := h; rw [e]; exact fun z => nomatch z
  | _ => exact h.elim
theorem Own.step (h : Own K c p d) (t : Step c c1) : Own K c1 p d := by
  have ob := h.obj
  obtain ⟨h, hf, nd⟩ := h
  refine ⟨?_, t.n p ob hf, fun z => nd (t.g p ob z)⟩
  cases d with
  | lst ds => obtain ⟨vs, e, r⟩ := h; exact ⟨vs, t.h _ _ e nd, r.mono t.f⟩
  | dct ds => obtain ⟨vs, e, r⟩ := h; exact ⟨vs, t.h _ _ e nd, r.mono t.f⟩
  | _ => exact h.elim
/-- given up: it is data from then on -/
theorem Own.frz (h : Own K c p d) (k : Ok c) : ∃ o, c.H p = some o ∧ Ok (⟨upd c.F p o, c.H, c.s⟩ : Cf Y) ∧ Rep K (upd c.F p o) (.ref p) d ∧ Sub c.F (upd c.F p o) := by
  obtain ⟨h, hf, nd⟩ := h
  cases d with
  | lst ds =>
    obtain ⟨vs, e, r⟩ := h
    exact ⟨_, e, k.frz nd e, .lst upd_same (r.mono (Sub.new hf)), Sub.new hf⟩
  | dct ds =>
    obtain ⟨vs, e, r⟩ := h
    exact ⟨_, e, k.frz nd e, .dct upd_same (r.mono (Sub.new hf)), Sub.new hf⟩
  | _ => exact h.elim
/-- another's change leaves it -/
theorem Own.other (h : Own K c p d) {q : Addr} (n : p ≠ q) (o : HO) : Own K (⟨c.F, upd c.H q o, c.s⟩ : Cf Y) p d := by
  obtain ⟨h, hf, nd⟩ := h
  refine ⟨?_, hf, nd⟩
  cases d with
  | lst ds => obtain ⟨vs, e, r⟩ := h; exact ⟨vs, by rw [show (⟨c.F, upd c.H q o, c.s⟩ : Cf Y).H = upd c.H q o from rfl, upd_ne n]; exact e, r⟩
  | dct ds => obtain ⟨vs, e, r⟩ := h; exact ⟨vs, by rw [show (⟨c.F, upd c.H q o, c.s⟩ : Cf Y).H = upd c.H q o from rfl, upd_ne n]; exact e, r⟩
  | _ => exact h.elim
theorem Own.frzo (h : Own K c p d) {q : Addr} {o : HO} (n : p ≠ q) (hq : c.F q = none) : Own K (⟨upd c.F q o, c.H, c.s⟩ : Cf Y) p d := by
  obtain ⟨h, hf, nd⟩ := h
  refine ⟨?_, by show upd c.F q o p = none; rw [upd_ne n]; exact hf, nd⟩
  cases d with
  | lst ds => obtain ⟨vs, e, r⟩ := h; exact ⟨vs, e, r.mono (Sub.new hq)⟩
  | dct ds => obtain ⟨vs, e, r⟩ := h; exact ⟨vs, e, r.mono (Sub.new hq)⟩
  | _ => exact h.elim
end

/-- an expression's value: data, something new, or an owned thing looked at -/
def Is {Y : Sys} (K : PySem.W.Frag) (Hs : Hp) (c : Cf Y) : K3 → V → D → Prop
  | .v, v, d => Rep K c.F v d
  | .t, v, d => ∃ p, v = .ref p ∧ Own K c p d ∧ Hs p = none
  | .o, v, d => ∃ p, v = .ref p ∧ Own K c p d

structure Rel {Y : Sys} (K : PySem.W.Frag) (H0 : Hp) (c : Cf Y) (σ : L2.St) (ρ : List SV) : Prop where
  len : ρ.length = σ.length
  va : ∀ (i : Nat) (d : D), ρ[i]? = some (SV.va d) → ∃ v, σ[i]? = some (some v) ∧ Rep K c.F v d
  ow : ∀ (i : Nat) (d : D), ρ[i]? = some (SV.ow d) → ∃ p, σ[i]? = some (some (V.ref p)) ∧ Own K c p d ∧ H0 p = none
  ap : ∀ (i j : Nat) (d e : D) (p : Addr), i ≠ j → ρ[i]? = some (SV.ow d) → ρ[j]? = some (SV.ow e) → σ[i]? = some (some (V.ref p)) → σ[j]? ≠ some (some (V.ref p))

section
variable {Y : Sys} {c c1 c2 : Cf Y} {K : PySem.W.Frag} {Hs H0 : Hp} {k : K3} {v : V} {d : D} {σ : L2.St} {ρ : List SV}
theorem Is.step (h : Is K Hs c k v d) (t : Step c c1) : Is K Hs c1 k v d := by
  cases k with
  | v => exact Rep.mono t.f h
  | t => obtain ⟨p, e, o, z⟩ := h; exact ⟨p, e, o.step t, z⟩
  | o => obtain ⟨p, e, o⟩ := h; exact ⟨p, e, o.step t⟩
theorem Is.back {Hs' : Hp} (h : Is K Hs c k v d) (hb : ∀ a, Hs a = none → Hs' a = none) : Is K Hs' c k v d := by
  cases k with
  | v => exact h
  | t => obtain ⟨p, e, o, z⟩ := h; exact ⟨p, e, o, hb _ z⟩
  | o => exact h
theorem Rel.step (r : Rel K H0 c σ ρ) (t : Step c c1) : Rel K H0 c1 σ ρ where
  len := r.len
  va := fun i d e => let ⟨v, h, q⟩ := r.va i d e; ⟨v, h, q.mono t.f⟩
  ow := fun i d e => let ⟨p, h, q, z⟩ := r.ow i d e; ⟨p, h, q.step t, z⟩
  ap := r.ap
/-- frozen: seen from the start c -/
theorem Is.data {c0 : Cf Y} (h : Is K c0.H c k v d) (hk : k ≠ .o) (t : Step c0 c) (ok : Ok c) : ∃ c' : Cf Y, c'.s = c.s ∧ c'.H = c.H ∧ Step c0 c' ∧ Ok c' ∧ Rep K c'.F v d := by
  cases k with
  | v => exact ⟨c, rfl, rfl, t, ok, h⟩
  | o => exact absurd rfl hk
  | t =>
    obtain ⟨p, rfl, o, z⟩ := h
    obtain ⟨ob, e, ok', r, _⟩ := o.frz ok
    exact ⟨⟨upd c.F p ob, c.H, c.s⟩, rfl, rfl, t.frz o.2.1 z ob, ok', r⟩
end
end Mf
set_option Elab.async false
set_option linter.all false
set_option maxRecDepth 100000
set_option maxHeartbeats 1000000
namespace Mf
open PySem L2

/-! ### data compared -/
mutual
def D.py : D → PyData
  | .non => .none | .bl b => .bool b | .int i => .int i | .str x => .str x
  | .tup ds => .tuple (pys ds) | .lst ds => .list (pys ds) | .dct _ => .none | .adr _ => .none | .scr _ => .none
def pys : List D → List PyData
  | [] => []
  | d :: ds => d.py :: pys ds
end
/-- plain data of at most a depth -/
def okS (x : Str) : Bool := x.cps.all (· < 0x110000)
mutual
def D.sh : Nat → D → Bool
  | _, .non => true | _, .bl _ => true | _, .int _ => true | _, .str x => okS x
  | n + 1, .tup ds => shs n ds | n + 1, .lst ds => shs n ds | _, _ => false
def shs : Nat → List D → Bool
  | _, [] => true
  | n, d :: ds => d.sh n && shs n ds
end
mutual
def deq : D → D → Bool
  | .non, .non => true
  | .bl a, .bl b => a == b
  | .bl a, .int j => (if a then 1 else 0) == j
  | .int i, .bl b => i == (if b then 1 else 0)
  | .int i, .int j => i == j
  | .str x, .str y => x == y
  | .lst xs, .lst ys => deqs xs ys
  | .tup xs, .tup ys => deqs xs ys
  | _, _ => false
def deqs : List D → List D → Bool
  | [], [] => true
  | x :: xs, y :: ys => deq x y && deqs xs ys
  | _, _ => false
end
def flatD : D → Bool
  | .non => true | .bl _ => true | .int _ => true | .str _ => true | _ => false

/-! ### results -/
inductive Res (S α : Type) where
  | ok (a : α) (s : S) | ex (x : Str) (s : S) | er
def Res.bind {S α β : Type} : Res S α → (α → S → Res S β) → Res S β
  | .ok a s, f => f a s
  | .ex x s, _ => .ex x s
  | .er, _ => .er
def liftO {S α : Type} (s : S) : Option α → Res S α
  | some a => .ok a s
  | none => .er
abbrev Sem (S : Type) := List D → S → Res S D

/-! ### syntax -/
inductive Bop where | add | sub | mul | fdv | mod
inductive Cop where | eq | ne | lt | le | gt | ge | isin | notin | is | isnot
inductive B1 where | len | abs | int | tuple | list | all | any | max | dict | sorted
inductive M1 where | sindex | lindex | lcount
inductive Ty where | int | bool | tuple | str | list
inductive Tg where | nm (i : Nat) | nil | cons (t r : Tg)
mutual
inductive CE (S : Type) : Type where
  | var (i : Nat) | con (d : D) | glb (x : Str) (d : D)
  | tup (es : CA S) | lst (es : CA S)
  | bin (o : Bop) (a b : CE S) | neg (a : CE S) | not (a : CE S)
  | cmp (o : Cop) (a b : CE S) | chn (o o' : Cop) (a b c : CE S)
  | and (a b : CE S) | or (a b : CE S) | one (a : CE S) | ife (t a b : CE S)
  | ix (a i : CE S) | slL (a lo : CE S) | slH (a hi : CE S) | slB (a lo hi : CE S)
  | call (x : Str) (n : Nat) (g : Sem S) (es : CA S)
  | b1 (f : B1) (e : CE S) | m1 (f : M1) (a b : CE S) | isi (e : CE S) (t : Ty)
  | lc (it : CI S) (tg : Tg) (ifs : CA S) (elt : CE S) (vs : List Nat)
  | sset (e : CE S) | rev (e : CE S)
  | lc2 (it : CI S) (tg : Tg) (it1 : CI S) (tg1 : Tg) (elt : CE S) (vs vs1 : List Nat)
inductive CA (S : Type) : Type where
  | nil | cons (e : CE S) (es : CA S)
inductive CI (S : Type) : Type where
  | seq (e : CE S) | rng (e : CE S) | zip (a b : CE S)
end

/-! ### operators on data -/
def mulOk (i j : Int) : Bool := decide (i.natAbs.log2 + j.natAbs.log2 < 1000000)
def divOk (j : Int) : Bool := decide (j ≠ 0) && decide (j.natAbs.log2 < 9000)
def lenOk (n : Nat) : Bool := decide (n ≤ 1000000)
def binD : Bop → D → D → Option (K3 × D)
  | .add, .int i, .int j => some (.v, .int (i + j))
  | .add, .tup xs, .tup ys => if lenOk (xs.length + ys.length) then some (.v, .tup (xs ++ ys)) else none
  | .add, .lst xs, .lst ys => if lenOk (xs.length + ys.length) then some (.t, .lst (xs ++ ys)) else none
  | .add, .str x, .str y => if lenOk (x.length + y.length) then some (.v, .str (x ++ y)) else none
  | .sub, .int i, .int j => some (.v, .int (i - j))
  | .mul, .int i, .int j => if mulOk i j then some (.v, .int (i * j)) else none
  | .mul, .tup xs, .int k => if decide (2 ≤ k) && decide (k ≤ 1000) && decide (xs.length ≤ 1000) && !xs.isEmpty then some (.v, .tup (List.replicate k.toNat xs).flatten) else none
  | .mul, .lst xs, .int k => if decide (0 ≤ k) && decide (k ≤ 1000) && decide (xs.length ≤ 1000) then some (.t, .lst (List.replicate k.toNat xs).flatten) else none
  | .fdv, .int i, .int j => if divOk j then some (.v, .int (i.fdiv j)) else none
  | .mod, .int i, .int j => if decide (j ≠ 0) then some (.v, .int (i.fmod j)) else none
  | _, _, _ => none
def eqD (x y : D) : Option Bool := if x.sh 60 && y.sh 60 then some (deq x y) else none
def lookD (x : Str) : List (Str × D) → Option D
  | [] => none
  | (y, d) :: r => if y = x then some d else lookD x r
def inD : D → D → Option Bool
  | x, .tup ds => if (flatD x && ds.all flatD) || (x.sh 60 && shs 59 ds) then some (ds.any fun y => deq y x) else none
  | x, .lst ds => if (flatD x && ds.all flatD) || (x.sh 60 && shs 59 ds) then some (ds.any fun y => deq y x) else none
  | .str x, .str z => some (!(Builtin.Str.occurrences z x 0 z.length 1).isEmpty)
  | .str x, .dct es => some (lookD x es).isSome
  | _, _ => none
def isD : D → D → Option Bool
  | .non, .non => some true
  | .bl a, .bl b => some (decide (a = b))
  | _, .non => some false
  | _, _ => none
def cmpD : Cop → D → D → Option Bool
  | .eq, x, y => eqD x y
  | .ne, x, y => (eqD x y).map (!·)
  | .lt, .int i, .int j => some (decide (i < j))
  | .lt, .str x, .str y => some (decide (x.cps.toList < y.cps.toList))
  | .le, .int i, .int j => some (decide (i ≤ j))
  | .gt, .int i, .int j => some (decide (j < i))
  | .ge, .int i, .int j => some (decide (j ≤ i))
  | .isin, x, y => inD x y
  | .notin, x, y => (inD x y).map (!·)
  | .is, x, y => isD x y
  | .isnot, x, y => (isD x y).map (!·)
  | _, _, _ => none
def ixD : D → D → Option D
  | .tup ds, .int i => atI ds i
  | .lst ds, .int i => atI ds i
  | .str x, .int i => if lenOk x.length then (atI x.cps.toList i).map fun c => .str ⟨#[c]⟩ else none
  | .dct es, .str x => lookD x es
  | _, _ => none
def slD (d : D) (lo hi : Option Int) : Option (K3 × D) :=
  match d with
  | .tup ds => some (.v, .tup ((ds.drop (HT.sIx ds.length 0 lo)).take (HT.sIx ds.length ds.length hi - HT.sIx ds.length 0 lo)))
  | .lst ds => some (.t, .lst ((ds.drop (HT.sIx ds.length 0 lo)).take (HT.sIx ds.length ds.length hi - HT.sIx ds.length 0 lo)))
  | .str x => if lenOk x.length then some (.v, .str (cutS x lo hi)) else none
  | _ => none
def boolsD : List D → Option (List Bool)
  | [] => some []
  | .bl b :: r => (boolsD r).map (b :: ·)
  | _ => none
def intsD : List D → Option (List Int)
  | [] => some []
  | .int b :: r => (intsD r).map (b :: ·)
  | _ => none
def maxL : List Int → Int → Int
  | [], m => m
  | x :: r, m => maxL r (if m < x then x else m)
def putD (es : List (Str × D)) (k : Str) (v : D) : List (Str × D) :=
  if (es.any fun kv => decide (kv.1 = k)) = true then es.map (fun kv => if kv.1 = k then (kv.1, v) else kv) else es ++ [(k, v)]
def pairsD : List D → Option (List (Str × D))
  | [] => some []
  | .tup [.str k, v] :: r => (pairsD r).map ((k, v) :: ·)
  | _ => none
def dictD (kvs : List (Str × D)) : List (Str × D) := kvs.foldl (fun acc kv => putD acc kv.1 kv.2) []
def leD (x y : D) : Bool := !PySem.W.dataLt y.py x.py
def insD (x : D) : List D → List D
  | [] => [x]
  | y :: r => if leD x y then x :: y :: r else y :: insD x r
/-- sorted, equal ones in the old order -/
def sortD : List D → List D
  | [] => []
  | x :: r => insD x (sortD r)
def tup1 : D → Bool
  | .tup (_ :: _) => true
  | _ => false
def notTup : D → Bool
  | .tup _ => false
  | .non => false
  | _ => true
def sortOk (ds : List D) : Bool := shs 59 ds && (ds.all fun x => ds.all fun y => PySem.W.alike x.py y.py) && (ds.all tup1 || ds.all notTup)
def b1D : B1 → D → Option (K3 × D)
  | .len, .lst ds => some (.v, .int ds.length)
  | .len, .tup ds => some (.v, .int ds.length)
  | .len, .str x => if lenOk x.length then some (.v, .int x.length) else none
  | .abs, .int i => some (.v, .int (if i < 0 then -i else i))
  | .int, .int i => some (.v, .int i)
  | .int, .bl b => some (.v, .int (if b then 1 else 0))
  | .tuple, .lst ds => some (.v, .tup ds)
  | .tuple, .tup ds => some (.v, .tup ds)
  | .list, .lst ds => some (.t, .lst ds)
  | .list, .tup ds => some (.t, .lst ds)
  | .all, .lst ds => (boolsD ds).map fun bs => (.v, .bl (bs.all id))
  | .any, .lst ds => (boolsD ds).map fun bs => (.v, .bl (bs.any id))
  | .dict, .lst ds => (pairsD ds).map fun kvs => (.t, .dct (dictD kvs))
  | .dict, .tup ds => (pairsD ds).map fun kvs => (.t, .dct (dictD kvs))
  | .sorted, .lst ds => if sortOk ds then some (.t, .lst (sortD ds)) else none
  | .max, .lst ds => match intsD ds with | some (m :: r) => some (.v, .int (maxL r m)) | _ => none
  | _, _ => none
def rcvD : M1 → D → Bool
  | .sindex, .str _ => true
  | .lindex, .lst _ => true
  | .lcount, .lst _ => true
  | _, _ => false
def m1D : M1 → D → D → Option (K3 × D)
  | .sindex, .str a, .str b => match Builtin.Str.occurrences a b 0 a.length 1 with | i :: _ => some (.v, .int (i : Nat)) | [] => none
  | .lindex, .lst ds, y => if y.sh 60 && shs 59 ds then (ds.findIdx? fun z => deq z y).map fun j => (.v, .int (j : Nat)) else none
  | .lcount, .lst ds, y => if y.sh 60 && shs 59 ds then some (.v, .int (ds.countP fun z => deq z y : Nat)) else none
  | _, _, _ => none
def isiD : Ty → D → Option Bool
  | _, .dct _ => none
  | _, .adr _ => none
  | _, .scr _ => none
  | .int, d => some (match d with | .int _ => true | .bl _ => true | _ => false)
  | .bool, d => some (match d with | .bl _ => true | _ => false)
  | .tuple, d => some (match d with | .tup _ => true | _ => false)
  | .str, d => some (match d with | .str _ => true | _ => false)
  | .list, d => some (match d with | .lst _ => true | _ => false)

/-! ### sorted(set(l)) -/
def keyD : D → Option Key
  | .int i => some (.inl i)
  | .str x => some (.inr x)
  | _ => none
def keysD : List D → Option (List Key)
  | [] => some []
  | d :: ds => match keyD d, keysD ds with
    | some k, some ks => some (k :: ks)
    | _, _ => none
def dK : Key → D
  | .inl i => .int i
  | .inr x => .str x
def dedK : List Key → List Key
  | [] => []
  | k :: ks => if (ks.any fun x => decide (x = k)) = true then dedK ks else k :: dedK ks
def revD : D → Option D
  | .tup ds => some (.tup ds.reverse)
  | _ => none
def ssetD : D → Option (K3 × D)
  | .lst ds => match keysD ds with
    | some ks => if (decide (ks.length ≤ 1000) && (ks.all (fun k => k.isLeft == true) || ks.all fun k => k.isLeft == false)) = true then some (.t, .lst (sortD ((dedK ks).map dK))) else none
    | none => none
  | _ => none

/-! ### targets -/
def asgL : Tg → List D → List SV → Option (List SV)
  | .nm _, _, _ => none
  | .nil, [], ρ => some ρ
  | .nil, _ :: _, _ => none
  | .cons _ _, [], _ => none
  | .cons t r, d :: ds, ρ =>
    match t with
    | .nm i => if i < ρ.length then asgL r ds (ρ.set i (.va d)) else none
    | .nil => none
    | .cons t' r' => match d with | .tup es => (asgL (.cons t' r') es ρ).bind (asgL r ds) | _ => none
def asgT (t : Tg) (d : D) (ρ : List SV) : Option (List SV) := asgL (.cons t .nil) [d] ρ
def wipeR (ρ : List SV) : List Nat → List SV
  | [] => ρ
  | v :: vs => (wipeR ρ vs).set v .no

/-- what is owned, out of sight -/
def hide1 : SV → SV
  | .ow _ => .no
  | x => x
def hideR (ρ : List SV) : List SV := ρ.map hide1

/-! ### the evaluator -/
def dat {S : Type} : K3 × D → S → Res S D
  | (.o, _), _ => .er
  | (_, d), s => .ok d s
def noEx {S α : Type} : Res S α → Res S α
  | .ok a s => .ok a s
  | _ => .er
/-- in a for (st): an owned thing isn't walked -/
def stk {S : Type} : Bool → K3 × D → S → Res S (K3 × D)
  | true, (.o, _), _ => .er
  | _, x, s => .ok x s
def walkR {S : Type} (f : D → S → Res S (Option D)) : List D → S → Res S (List D)
  | [], s => .ok [] s
  | d :: ds, s => (f d s).bind fun o s1 => (walkR f ds s1).bind fun r s2 => .ok (o.toList ++ r) s2
def walkL {S : Type} (f : D → S → Res S (List D)) : List D → S → Res S (List D)
  | [], s => .ok [] s
  | d :: ds, s => (f d s).bind fun o s1 => (walkL f ds s1).bind fun r s2 => .ok (o ++ r) s2
def rngD (n : Nat) : List D := (List.range n).map fun (i : Nat) => D.int (i : Int)
def zipD : List D → List D → List D
  | x :: xs, y :: ys => .tup [x, y] :: zipD xs ys
  | _, _ => []
def itemsD : D → Option (List D)
  | .lst ds => some ds
  | .tup ds => some ds
  | .str z => some (z.cps.toList.map fun c => .str ⟨#[c]⟩)
  | _ => none
def seqD : D → Option (List D)
  | .lst ds => some ds
  | .tup ds => some ds
  | .str z => if z.cps.all (· < 128) = true then some (z.cps.toList.map fun c => .str ⟨#[c]⟩) else none
  | _ => none
def zipK (x y : D) : Option (List D) := match seqD x, seqD y with
  | some xs, some ys => some (zipD xs ys)
  | _, _ => none
def tru {S : Type} : K3 × D → S → Res S Bool
  | (_, .bl b), s => .ok b s
  | _, _ => .er
def intOf {S : Type} : K3 × D → S → Res S Int
  | (_, .int b), s => .ok b s
  | _, _ => .er
def kd {S : Type} (s : S) (d : Option D) : Res S (K3 × D) := liftO s (d.map fun d => (.v, d))
mutual
def ev {S : Type} : CE S → List SV → S → Res S (K3 × D)
  | .var i, ρ, s => match ρ[i]? with
    | some (.va d) => .ok (.v, d) s
    | some (.ow d) => .ok (.o, d) s
    | _ => .er
  | .con d, _, s => .ok (.v, d) s
  | .glb _ d, _, s => .ok (.v, d) s
  | .tup es, ρ, s => (evA es ρ s).bind fun ds s => if lenOk ds.length then .ok (.v, .tup ds) s else .er
  | .lst es, ρ, s => (evA es ρ s).bind fun ds s => if lenOk ds.length then .ok (.t, .lst ds) s else .er
  | .bin o a b, ρ, s => (ev a ρ s).bind fun x s => (ev b ρ s).bind fun y s => liftO s (binD o x.2 y.2)
  | .neg a, ρ, s => (ev a ρ s).bind fun x s => (intOf x s).bind fun i s => .ok (.v, .int (-i)) s
  | .not a, ρ, s => (ev a ρ s).bind fun x s => (tru x s).bind fun b s => .ok (.v, .bl (!b)) s
  | .cmp o a b, ρ, s => (ev a ρ s).bind fun x s => (ev b ρ s).bind fun y s => kd s ((cmpD o x.2 y.2).map .bl)
  | .chn o o' a b c, ρ, s => (ev a ρ s).bind fun x s => (ev b ρ s).bind fun y s => (liftO s (cmpD o x.2 y.2)).bind fun k s =>
      if k then (ev c ρ s).bind fun z s => kd s ((cmpD o' y.2 z.2).map .bl) else .ok (.v, .bl false) s
  | .and a b, ρ, s => (ev a ρ s).bind fun x s => (tru x s).bind fun k s => if k then ev b ρ s else .ok (.v, .bl false) s
  | .or a b, ρ, s => (ev a ρ s).bind fun x s => (tru x s).bind fun k s => if k then .ok (.v, .bl true) s else ev b ρ s
  | .one a, ρ, s => ev a ρ s
  | .ife t a b, ρ, s => (ev t ρ s).bind fun x s => (tru x s).bind fun k s => if k then ev a ρ s else ev b ρ s
  | .ix a i, ρ, s => (ev a ρ s).bind fun x s => (ev i ρ s).bind fun y s => kd s (ixD x.2 y.2)
  | .slL a lo, ρ, s => (ev a ρ s).bind fun x s => (ev lo ρ s).bind fun y s => (intOf y s).bind fun i s => liftO s (slD x.2 (some i) none)
  | .slH a hi, ρ, s => (ev a ρ s).bind fun x s => (ev hi ρ s).bind fun y s => (intOf y s).bind fun i s => liftO s (slD x.2 none (some i))
  | .slB a lo hi, ρ, s => (ev a ρ s).bind fun x s => (ev lo ρ s).bind fun y s => (intOf y s).bind fun i s => (ev hi ρ s).bind fun z s => (intOf z s).bind fun j s => liftO s (slD x.2 (some i) (some j))
  | .call _ n g es, ρ, s => (evA es ρ s).bind fun ds s => if ds.length = n then (g ds s).bind fun d s => .ok (.v, d) s else .er
  | .b1 f e, ρ, s => (ev e ρ s).bind fun x s => liftO s (b1D f x.2)
  | .m1 f a b, ρ, s => (ev a ρ s).bind fun x s => if rcvD f x.2 then (ev b ρ s).bind fun y s => liftO s (m1D f x.2 y.2) else .er
  | .isi e t, ρ, s => (ev e ρ s).bind fun x s => kd s ((isiD t x.2).map .bl)
  | .lc it tg ifs elt vs, ρ, s => (evI false it ρ s).bind fun ds s => if !lenOk ds.length then .er else (walkR (fun d s => match asgT tg d (wipeR ρ vs) with
      | none => .er
      | some ρ' => (noEx (evT ifs ρ' s)).bind fun k s => if k then (noEx (ev elt ρ' s)).bind fun y s => (dat y s).bind fun e s => .ok (some e) s else .ok none s) ds s).bind fun r s => .ok (.t, .lst r) s
  | .rev e, ρ, s => (ev e ρ s).bind fun x s => kd s (revD x.2)
  | .sset e, ρ, s => (ev e ρ s).bind fun x s => liftO s (ssetD x.2)
  | .lc2 it tg it1 tg1 elt vs vs1, ρ, s => (evI false it ρ s).bind fun ds s => if !lenOk ds.length then .er else (walkL (fun d s => match asgT tg d (wipeR (hideR ρ) vs) with
      | none => .er
      | some ρ' => (noEx (evI true it1 (hideR ρ') s)).bind fun ds1 s => walkR (fun d1 s => match asgT tg1 d1 (wipeR (hideR ρ') vs1) with
        | none => .er
        | some ρ2 => (noEx (ev elt ρ2 s)).bind fun y s => (dat y s).bind fun e s => .ok (some e) s) ds1 s) ds s).bind fun r s => if lenOk r.length then .ok (.t, .lst r) s else .er
def evA {S : Type} : CA S → List SV → S → Res S (List D)
  | .nil, _, s => .ok [] s
  | .cons e es, ρ, s => (ev e ρ s).bind fun x s => (dat x s).bind fun d s => (evA es ρ s).bind fun ds s => .ok (d :: ds) s
def evT {S : Type} : CA S → List SV → S → Res S Bool
  | .nil, _, s => .ok true s
  | .cons t _, ρ, s => (ev t ρ s).bind tru
def evI {S : Type} (st : Bool) : CI S → List SV → S → Res S (List D)
  | .seq e, ρ, s => (ev e ρ s).bind fun x s => (stk st x s).bind fun x s => liftO s (itemsD x.2)
  | .rng e, ρ, s => (ev e ρ s).bind fun x s => (intOf x s).bind fun n s => if decide (-1000000 ≤ n) && decide (n ≤ 1000000) then .ok (rngD n.toNat) s else .er
  | .zip a b, ρ, s => (ev a ρ s).bind fun x s => (stk st x s).bind fun x s => (ev b ρ s).bind fun y s => (stk st y s).bind fun y s => liftO s (zipK x.2 y.2)
end
end Mf
set_option Elab.async false
set_option linter.all false
set_option maxRecDepth 100000
set_option maxHeartbeats 1000000
namespace Mf
open PySem L2

/-! ### views of a value -/
section
variable {Y : Sys} {c : Cf Y} {K : PySem.W.Frag} {Hs : Hp} {k : K3} {v : V}
theorem Is.int {i : Int} (h : Is K Hs c k v (.int i)) : v = .int i := by
  cases k with
  | v => cases h; rfl
  | t => obtain ⟨p, _, o, _⟩ := h; exact o.1.elim
  | o => obtain ⟨p, _, o⟩ := h; exact o.1.elim
theorem Is.bl {b : Bool} (h : Is K Hs c k v (.bl b)) : v = .bl b := by
  cases k with
  | v => cases h; rfl
  | t => obtain ⟨p, _, o, _⟩ := h; exact o.1.elim
  | o => obtain ⟨p, _, o⟩ := h; exact o.1.elim
theorem Is.str {x : Str} (h : Is K Hs c k v (.str x)) : v = .str x := by
  cases k with
  | v => cases h; rfl
  | t => obtain ⟨p, _, o, _⟩ := h; exact o.1.elim
  | o => obtain ⟨p, _, o⟩ := h; exact o.1.elim
theorem Is.non (h : Is K Hs c k v .non) : v = .non := by
  cases k with
  | v => cases h; rfl
  | t => obtain ⟨p, _, o, _⟩ := h; exact o.1.elim
  | o => obtain ⟨p, _, o⟩ := h; exact o.1.elim
theorem Is.tup {ds : List D} (h : Is K Hs c k v (.tup ds)) (ok : Ok c) : ∃ p vs, v = .ref p ∧ SqT K c.H p vs ∧ (SqT K c.F p vs ∧ Pt K c.F p) ∧ Reps K c.F vs ds := by
  cases k with
  | v => cases h with | tup q t r => exact ⟨_, _, rfl, sqT_sub ok.sub q, ⟨q, t⟩, r⟩
  | t => obtain ⟨p, _, o, _⟩ := h; exact o.1.elim
  | o => obtain ⟨p, _, o⟩ := h; exact o.1.elim
theorem Is.lst {ds : List D} (h : Is K Hs c k v (.lst ds)) (ok : Ok c) : ∃ p vs, v = .ref p ∧ c.H p = some (.lst vs) ∧ Reps K c.F vs ds := by
  cases k with
  | v => cases h with | lst q r => exact ⟨_, _, rfl, ok.sub _ _ q, r⟩
  | t => obtain ⟨p, e, o, _⟩ := h; obtain ⟨vs, q, r⟩ := o.1; exact ⟨p, vs, e, q, r⟩
  | o => obtain ⟨p, e, o⟩ := h; obtain ⟨vs, q, r⟩ := o.1; exact ⟨p, vs, e, q, r⟩
theorem Is.dct {ds : List (Str × D)} (h : Is K Hs c k v (.dct ds)) (ok : Ok c) : ∃ p kvs, v = .ref p ∧ c.H p = some (.dK kvs) ∧ RepK K c.F kvs ds := by
  cases k with
  | v => cases h with | dct q r => exact ⟨_, _, rfl, ok.sub _ _ q, r⟩
  | t => obtain ⟨p, e, o, _⟩ := h; obtain ⟨vs, q, r⟩ := o.1; exact ⟨p, vs, e, q, r⟩
  | o => obtain ⟨p, e, o⟩ := h; obtain ⟨vs, q, r⟩ := o.1; exact ⟨p, vs, e, q, r⟩
end

/-! ### == of data -/
mutual
theorem py_dp {K : PySem.W.Frag} {F H : Hp} (e : Sub F H) : ∀ {n : Nat} {v : V} {d : D}, Rep K F v d → d.sh n = true → Dp K H v d.py
  | _, _, _, .non, _ => .non
  | _, _, _, .bl b, _ => .bl b
  | _, _, _, .int i, _ => .int i
  | _, _, _, .str x, _ => .str x
  | n, _, _, .adr a, h => by cases n <;> cases h
  | n, _, _, .scr _, h => by cases n <;> cases h
  | n, _, _, .dct _ _, h => by cases n <;> cases h
  | 0, _, _, .tup _ _ _, h => by cases h
  | 0, _, _, .lst _ _, h => by cases h
  | n + 1, _, _, .tup q _ r, h => .tup (sqT_sub e q) (pys_dp e r h)
  | n + 1, _, _, .lst q r, h => .lst (.inl (.inl (e _ _ q))) (pys_dp e r h)
theorem pys_dp {K : PySem.W.Frag} {F H : Hp} (e : Sub F H) : ∀ {n : Nat} {vs : List V} {ds : List D}, Reps K F vs ds → shs n ds = true → DpAll K H vs (pys ds)
  | _, _, _, .nil, _ => .nil
  | _, _, _, .cons h r, q => by
    have q := Bool.and_eq_true_iff.mp q
    exact .cons (py_dp e h q.1) (pys_dp e r q.2)
end
mutual
theorem py_sh : ∀ (n : Nat) (d : D), d.sh n = true → d.py.canLay0 = true ∧ d.py.depth ≤ n
  | _, .non, _ => ⟨rfl, Nat.zero_le _⟩
  | _, .bl _, _ => ⟨rfl, Nat.zero_le _⟩
  | _, .int _, _ => ⟨rfl, Nat.zero_le _⟩
  | n, .str x, h => ⟨by cases n <;> exact h, Nat.zero_le _⟩
  | n, .adr a, h => by cases n <;> cases h
  | n, .scr a, h => by cases n <;> cases h
  | n, .dct _, h => by cases n <;> cases h
  | 0, .tup _, h => by cases h
  | 0, .lst _, h => by cases h
  | n + 1, .tup ds, h => ⟨(pys_sh n ds h).1, Nat.succ_le_succ (pys_sh n ds h).2⟩
  | n + 1, .lst ds, h => ⟨(pys_sh n ds h).1, Nat.succ_le_succ (pys_sh n ds h).2⟩
theorem pys_sh : ∀ (n : Nat) (ds : List D), shs n ds = true → PyData.canLayAll0 (pys ds) = true ∧ PyData.depthAll (pys ds) ≤ n
  | _, [], _ => ⟨rfl, Nat.zero_le _⟩
  | n, d :: ds, h => by
    have q := Bool.and_eq_true_iff.mp h
    have a := py_sh n d q.1
    have b := pys_sh n ds q.2
    exact ⟨Bool.and_eq_true_iff.mpr ⟨a.1, b.1⟩, Nat.max_le.mpr ⟨a.2, b.2⟩⟩
end
theorem shaped_of {d : D} (h : d.sh 60 = true) : SeqAt.shaped d.py = true :=
  Bool.and_eq_true_iff.mpr ⟨(py_sh 60 d h).1, decide_eq_true (Nat.le_trans (py_sh 60 d h).2 (by decide))⟩
theorem sh_dct {n : Nat} {x : List (Str × D)} : (D.dct x).sh n = false := by cases n <;> rfl
theorem sh_scr {n : Nat} {x : List Int} : (D.scr x).sh n = false := by cases n <;> rfl
theorem sh_adr {n : Nat} {x : Addr} : (D.adr x).sh n = false := by cases n <;> rfl
mutual
theorem py_eqv : ∀ (n m : Nat) (d e : D), d.sh n = true → e.sh m = true → PyData.eqv d.py e.py = deq d e
  | n, m, .dct _, e, h, _ => by rw [sh_dct] at h; cases h
  | n, m, .adr _, e, h, _ => by rw [sh_adr] at h; cases h
  | n, m, .scr _, e, h, _ => by rw [sh_scr] at h; cases h
  | n, m, d, .dct _, _, h => by rw [sh_dct] at h; cases h
  | n, m, d, .adr _, _, h => by rw [sh_adr] at h; cases h
  | n, m, d, .scr _, _, h => by rw [sh_scr] at h; cases h
  | n + 1, m + 1, .tup xs, .tup ys, h, h' => pys_eqv n m xs ys h h'
  | n + 1, m + 1, .lst xs, .lst ys, h, h' => pys_eqv n m xs ys h h'
  | 0, _, .tup xs, .tup ys, h, h' => by cases h
  | 0, _, .lst xs, .lst ys, h, h' => by cases h
  | _ + 1, 0, .tup xs, .tup ys, h, h' => by cases h'
  | _ + 1, 0, .lst xs, .lst ys, h, h' => by cases h'
  | _, _, .non, .non, _, _ => rfl
  | _, _, .non, .bl _, _, _ => rfl
  | _, _, .non, .int _, _, _ => rfl
  | _, _, .non, .str _, _, _ => rfl
  | _, _, .non, .tup _, _, _ => rfl
  | _, _, .non, .lst _, _, _ => rfl
  | _, _, .bl _, .non, _, _ => rfl
  | _, _, .bl _, .bl _, _, _ => rfl
  | _, _, .bl _, .int _, _, _ => rfl
  | _, _, .bl _, .str _, _, _ => rfl
  | _, _, .bl _, .tup _, _, _ => rfl
  | _, _, .bl _, .lst _, _, _ => rfl
  | _, _, .int _, .non, _, _ => rfl
  | _, _, .int _, .bl _, _, _ => rfl
  | _, _, .int _, .int _, _, _ => rfl
  | _, _, .int _, .str _, _, _ => rfl
  | _, _, .int _, .tup _, _, _ => rfl
  | _, _, .int _, .lst _, _, _ => rfl
  | _, _, .str _, .non, _, _ => rfl
  | _, _, .str _, .bl _, _, _ => rfl
  | _, _, .str _, .int _, _, _ => rfl
  | _, _, .str _, .str _, _, _ => rfl
  | _, _, .str _, .tup _, _, _ => rfl
  | _, _, .str _, .lst _, _, _ => rfl
  | _, _, .tup _, .non, _, _ => rfl
  | _, _, .tup _, .bl _, _, _ => rfl
  | _, _, .tup _, .int _, _, _ => rfl
  | _, _, .tup _, .str _, _, _ => rfl
  | _, _, .tup _, .lst _, _, _ => rfl
  | _, _, .lst _, .non, _, _ => rfl
  | _, _, .lst _, .bl _, _, _ => rfl
  | _, _, .lst _, .int _, _, _ => rfl
  | _, _, .lst _, .str _, _, _ => rfl
  | _, _, .lst _, .tup _, _, _ => rfl
theorem pys_eqv : ∀ (n m : Nat) (ds es : List D), shs n ds = true → shs m es = true → PyData.eqvAll (pys ds) (pys es) = deqs ds es
  | _, _, [], [], _, _ => rfl
  | _, _, [], _ :: _, _, _ => rfl
  | _, _, _ :: _, [], _, _ => rfl
  | n, m, d :: ds, e :: es, h, h' => by
    have q := Bool.and_eq_true_iff.mp h
    have q' := Bool.and_eq_true_iff.mp h'
    show (PyData.eqv d.py e.py && PyData.eqvAll (pys ds) (pys es)) = (deq d e && deqs ds es)
    rw [py_eqv n m d e q.1 q'.1, pys_eqv n m ds es q.2 q'.2]
end
theorem Is.dp {Y : Sys} {c : Cf Y} {K : PySem.W.Frag} {Hs : Hp} {k : K3} {v : V} {d : D} (h : Is K Hs c k v d) (ok : Ok c) (hs : d.sh 60 = true) : Dp K c.H v d.py := by
  cases k with
  | v => exact py_dp ok.sub h hs
  | t =>
    obtain ⟨p, rfl, o, _⟩ := h
    cases d with
    | lst ds => obtain ⟨vs, q, r⟩ := o.1; exact .lst (.inl (.inl q)) (pys_dp (n := 59) ok.sub r hs)
    | dct _ => rw [sh_dct] at hs; cases hs
    | _ => exact o.1.elim
  | o =>
    obtain ⟨p, rfl, o⟩ := h
    cases d with
    | lst ds => obtain ⟨vs, q, r⟩ := o.1; exact .lst (.inl (.inl q)) (pys_dp (n := 59) ok.sub r hs)
    | dct _ => rw [sh_dct] at hs; cases hs
    | _ => exact o.1.elim
end Mf
set_option Elab.async false
set_option linter.all false
set_option maxRecDepth 100000
set_option maxHeartbeats 1000000
namespace Mf
open PySem L2 PySem.Spec PyProof.Rows

section
variable {X : Cx}
/-! ### l.remove(x) of data -/
def rRemD (K : PySem.W.Frag) : V → List V → Hp → VK → Prop := fun x xs H Q => ∃ (l : Addr) (vs : List V) (y : V) (d : PyData) (ds : List PyData) (j : Nat), x = V.ref l ∧ xs = [y] ∧ H l = some (.lst vs) ∧ DpAll K H vs ds ∧ Dp K H y d ∧
  SeqAt.shaped (.list ds) = true ∧ SeqAt.shaped d = true ∧ SeqAt.dataPlace ds d = some j ∧ Q .non (upd H l (.lst (vs.eraseIdx j)))
theorem vals_erase : ∀ {xs : List V} {us : List Value} (n : Nat), Vals xs us → Vals (xs.eraseIdx n) (us.eraseIdx n)
  | _, _, _, .nil => .nil
  | _, _, 0, .cons _ t => t
  | _, _, n + 1, .cons r t => .cons r (vals_erase n t)
theorem mt_removeD (hu : X.A.units + 65 < cLine) : MtM X "list.remove" (rRemD X.K) := by
  intro pins s σ H x xs v us Q I rx rxs h
  obtain ⟨l, vs, y, d, ds, j, rfl, rfl, hH, hl, hy, sl, sd, hj, q⟩ := h
  cases rx
  obtain ⟨u, rfl, ru⟩ := rxs.one
  obtain ⟨bs, r1⟩ := Dp.reads I d y u hy ru
  obtain ⟨z, its, n, r, hn, e⟩ := I.lstM hH
  obtain ⟨as, h4⟩ := Dp.readsAll I ds _ its hl r
  have hxs : PyData.canLayAll0 ds = true := SeqAt.canLay_of_shaped sl
  have hroom : X.A.units + 1 + min (PyData.depthAll ds) d.depth < cLine := room_in_shaped sd hu
  have hmap : its.map (SeqAt.readOf s.heap) = ds := SeqAt.readsAll_map ds its as hxs h4
  obtain ⟨g1, g2, g3⟩ := List.findIdx?_eq_some_iff_getElem.mp hj
  have hlen : its.length = ds.length := by rw [← hmap, List.length_map]
  have at_ : ∀ (m : Nat) (hm : m < its.toArray.size) (hd : m < ds.length), SeqAt.readOf s.heap its.toArray[m] = ds[m] := by
    intro m hm hd
    have e2 : (its.map (SeqAt.readOf s.heap))[m]? = ds[m]? := by rw [hmap]
    rw [List.getElem?_map, List.getElem?_eq_getElem (by simpa using hm), List.getElem?_eq_getElem hd] at e2
    simpa using e2
  refine call_meets PySem.F.slot_list_remove ⟨_, e, rfl⟩ PySem.F.entry_list_remove (PySem.F.args_list_remove_2 _ _)
    (SeqAt.list_removeAt l its.toArray n none #[] u (fun u => PyData.eqv (SeqAt.readOf s.heap u) d) j (by rw [List.size_toArray]; omega) ?_ ?_ (by rw [List.size_toArray]; omega)) ⟨e, SeqAt.items_eqAt (vs := its.toArray) (show ReadsAll s.heap its.toArray.toList ds as from h4) r1 hxs (SeqAt.canLay_of_shaped sd) hroom, ?_⟩
  · have hjs : j < its.toArray.size := by rw [List.size_toArray]; omega
    show PyData.eqv (SeqAt.readOf s.heap (its.toArray[j]'hjs)) d = true
    rw [at_ j hjs g1]
    exact g2
  · intro m hm hmj
    show PyData.eqv (SeqAt.readOf s.heap its.toArray[m]) d = false
    rw [at_ m hm (by omega)]
    have := g3 m hmj
    simpa using this
  · refine ⟨.non, _, I.lset (its' := its.eraseIdx j) (t' := s.toks) hH e ?_ (vals_erase j r) ?_, rfl, q⟩
    · show its.toArray.eraseIdxIfInBounds j = (its.eraseIdx j).toArray
      rw [List.eraseIdxIfInBounds_toArray]
    · have := List.length_eraseIdx_le vs j
      omega
/-! ### x in a tuple or a list of data -/
def rInT (K : PySem.W.Frag) (neg : Bool) : R2 := fun x y H Q => ∃ d ds, Dp K H x d ∧ (Dp K H y (.list ds) ∨ Dp K H y (.tuple ds)) ∧ SeqAt.shaped d = true ∧ SeqAt.shaped (.list ds) = true ∧ Q (.bl (neg ^^ ds.any fun z => PyData.eqv z d)) H
theorem op_inT (hu : X.A.units + 65 < cLine) : OpR X (compareOp .In) (rInT X.K false) := by
  intro pins s σ H x y v u Q I rx ry h
  obtain ⟨d, ds, hd, he, sd, se, q⟩ := h
  obtain ⟨as, r1⟩ := Dp.reads I d x v hd rx
  rw [Bool.false_xor] at q
  rcases he with he | he
  · obtain ⟨bs, r2⟩ := Dp.reads I (.list ds) y u he ry
    exact SeqAt.in_list_reads r2 r1 (SeqAt.canLay_of_shaped se) (SeqAt.canLay_of_shaped sd) (room_in_shaped sd hu) ⟨.bl _, H, I, rfl, q⟩
  · obtain ⟨bs, r2⟩ := Dp.reads I (.tuple ds) y u he ry
    exact SeqAt.in_tuple_reads r2 r1 (SeqAt.canLay_of_shaped se) (SeqAt.canLay_of_shaped sd) (room_in_shaped sd hu) ⟨.bl _, H, I, rfl, q⟩
theorem op_notInT (hu : X.A.units + 65 < cLine) : OpR X (compareOp .NotIn) (rInT X.K true) := by
  intro pins s σ H x y v u Q I rx ry h
  obtain ⟨d, ds, hd, he, sd, se, q⟩ := h
  obtain ⟨as, r1⟩ := Dp.reads I d x v hd rx
  rw [Bool.true_xor] at q
  rcases he with he | he
  · obtain ⟨bs, r2⟩ := Dp.reads I (.list ds) y u he ry
    exact SeqAt.notIn_list_reads r2 r1 (SeqAt.canLay_of_shaped se) (SeqAt.canLay_of_shaped sd) (room_in_shaped sd hu) ⟨.bl _, H, I, rfl, q⟩
  · obtain ⟨bs, r2⟩ := Dp.reads I (.tuple ds) y u he ry
    exact SeqAt.notIn_tuple_reads r2 r1 (SeqAt.canLay_of_shaped se) (SeqAt.canLay_of_shaped sd) (room_in_shaped sd hu) ⟨.bl _, H, I, rfl, q⟩
/-! ### l.count(x) -/
def rCntD (K : PySem.W.Frag) : V → List V → Hp → VK → Prop := fun x xs H Q => ∃ (l : Addr) (vs : List V) (y : V) (d : PyData) (ds : List PyData), x = V.ref l ∧ xs = [y] ∧ SqL K H l vs ∧ DpAll K H vs ds ∧ Dp K H y d ∧
  SeqAt.shaped (.list ds) = true ∧ SeqAt.shaped d = true ∧ Q (.int (ds.countP fun z => PyData.eqv z d : Nat)) H
theorem mt_countD (hu : X.A.units + 65 < cLine) : MtR X "list.count" (rCntD X.K) := by
  intro pins s σ H x xs v us Q I rx rxs h
  obtain ⟨l, vs, y, d, ds, rfl, rfl, hs, hl, hy, sl, sd, q⟩ := h
  cases rx
  obtain ⟨u, rfl, ru⟩ := rxs.one
  obtain ⟨bs, r1⟩ := Dp.reads I d y u hy ru
  obtain ⟨its, rv, ⟨⟨cls, dd, data, sls⟩, n, ho, hc, hdn, hdt⟩, hlen⟩ := I.list hs
  simp only at hc hdt
  subst hc hdt
  obtain ⟨as, h4⟩ := Dp.readsAll I ds _ its hl rv
  have hxs : PyData.canLayAll0 ds = true := SeqAt.canLay_of_shaped sl
  have hroom : X.A.units + 1 + min (PyData.depthAll ds) d.depth < cLine := room_in_shaped sd hu
  have hmap : its.map (SeqAt.readOf s.heap) = ds := SeqAt.readsAll_map ds its as hxs h4
  refine call_meets PySem.F.slot_list_count ⟨_, ho, rfl⟩ PySem.F.entry_list_count (PySem.F.args_list_count_2 _ _)
    (SeqAt.list_countAt l its.toArray n dd sls u (fun u => PyData.eqv (SeqAt.readOf s.heap u) d)) ⟨ho, SeqAt.items_eqAt (vs := its.toArray) (show ReadsAll s.heap its.toArray.toList ds as from h4) r1 hxs (SeqAt.canLay_of_shaped sd) hroom, ?_⟩
  have ec : its.toArray.toList.countP (fun u => PyData.eqv (SeqAt.readOf s.heap u) d) = ds.countP fun z => PyData.eqv z d := by
    rw [← hmap, List.countP_map]
    rfl
  refine ⟨.int (ds.countP fun z => PyData.eqv z d : Nat), H, I.tok _, ⟨s.toks, ?_⟩, q⟩
  show Value.int ((its.toArray.toList.countP (fun u => PyData.eqv (SeqAt.readOf s.heap u) d) : Nat) : Int) s.toks = _
  rw [ec]
/-! ### dict(pairs) -/
def rDict (K : PySem.W.Frag) : List V → Hp → VK → Prop := fun xs H Q => ∃ (a : Addr) (ps : List Addr) (kvs : List (Key × V)), xs = [.ref a] ∧ (SqL K H a (ps.map V.ref) ∨ (SqT K H a (ps.map V.ref) ∧ Pt K H a)) ∧ Paired (fun p kv => SqT K H p [kV kv.1, kv.2]) ps kvs ∧
    ∀ p, H p = none → Q (.ref p) (upd H p (.dK (mergeK [] kvs)))
theorem pairs_ofZ {pins : List (Addr × Obj)} {σ : L2.St} {H : Hp} {s : Shared} (I : L2.Inv X pins σ H s) : ∀ {ps : List Addr} {kvs : List (Key × V)}, Paired (fun p kv => SqT X.K H p [kV kv.1, kv.2]) ps kvs →
    ∃ (prs : List (Key × Value)) (pvs : List (Value × Value)), KV kvs prs ∧ prs.length = ps.length ∧ pvs.length = ps.length ∧ ∀ (j : Nat) (key v : Value), pvs[j]? = some (key, v) → ∃ k, prs[j]? = some (k, v) ∧ keyIs k key = true ∧ ps[j]? = some (ps.getD j 0) ∧ IsTup s.heap (ps.getD j 0) #[key, v]
  | _, _, .nil => ⟨[], [], .nil, rfl, rfl, fun j k v e => by simp at e⟩
  | _, _, .cons (a := p) (b := kv) h t => by
    obtain ⟨prs, pvs, r, hl, hl2, hp⟩ := pairs_ofZ I t
    obtain ⟨its, rv, ht, _⟩ := I.tuple h
    obtain ⟨u, y, ei, ru, ry⟩ := vals2 rv
    subst ei
    refine ⟨(kv.1, y) :: prs, (u, y) :: pvs, .cons ⟨rfl, ry⟩ r, by rw [List.length_cons, List.length_cons, hl], by rw [List.length_cons, List.length_cons, hl2], fun j key v e => ?_⟩
    cases j with
    | zero =>
      have e' : (u, y) = (key, v) := Option.some.inj e
      cases e'
      exact ⟨kv.1, rfl, kV_is (P := X.prog) (w := X.w) ru, rfl, ht⟩
    | succ j =>
      obtain ⟨k, e1, e2, e3, e4⟩ := hp j key v (by simpa using e)
      refine ⟨k, by simpa using e1, e2, ?_, ?_⟩
      · simpa using e3
      · simpa using e4
theorem call_dictZ (hcalm : X.calm = true) : CallR X (.type "dict") (rDict X.K) := by
  intro pins s σ H xs us Q I r q
  obtain ⟨a, ps, kvs, ex, hq, hp, q⟩ := q
  rcases hq with hq | ⟨hq, ht⟩
  · exact call_dictP hcalm pins s σ H xs us Q I r ⟨a, ps, kvs, ex, hq, hp, q⟩
  subst ex
  obtain ⟨u, eu, rx⟩ := vals1 r
  subst eu
  cases rx
  obtain ⟨its, rv, ⟨o, ho, hc, n, hdat⟩, hz⟩ := I.tuple hq
  have hod : o.dict = none := by
    rcases ht with ⟨o', u, h1, h2⟩ | ⟨o', h1, h2⟩
    · have := (I.hok a _ h1).1
      rw [ho] at this
      cases this
      exact h2
    · have := I.kIn a o' h1
      rw [ho] at this
      cases this
      exact h2
  have ei := refs_at rv
  subst ei
  rw [List.length_map] at hz
  obtain ⟨prs, pvs, rel, hl, hl2, hpr⟩ := pairs_ofZ I hp
  refine PySem.call_dict_pairs (knd := mixKind X.prog X.w) (kvs := prs) (PairArg.tuple a (ps.map Value.ref).toArray (fun j => ps.getD j 0) pvs) (I.ok.hd hcalm) ⟨⟨o, n, ho, hc, hod, hdat⟩, by simp [hl2], fun j k v e => ?_⟩ ⟨by rw [hl, hl2], fun i key v e => ?_⟩ (by rw [hl2]; exact hz) fun h' tk hd' k => ?_
  · obtain ⟨k', e1, e2, e3, e4⟩ := hpr j k v e
    refine ⟨?_, .inl e4⟩
    rw [List.getElem?_toArray, List.getElem?_map, e3]
    rfl
  · obtain ⟨k', e1, e2, _⟩ := hpr i key v e
    exact ⟨k', e1, e2⟩
  · have hm : (s.heap.objs.size == sysModules) = false := beq_eq_false_iff_ne.mpr (Nat.ne_of_gt I.big)
    have hlen : (mergeK [] kvs).length ≤ sizeLine := by
      refine Nat.le_trans (length_mergeK kvs []) ?_
      rw [List.length_nil, Nat.zero_add, rel.length, hl]
      exact hz
    exact ⟨.ref s.heap.objs.size, upd H s.heap.objs.size (.dK (mergeK [] kvs)), I.laid (t' := tk) (fun b o e => k b o (fun z => nomatch z) e) (Nat.le_refl _) (show ObjOk X.prog X.w _ _ _ (.dK (mergeK [] kvs)) from ⟨hlen, hm, merged [] prs, KV.merge rel .nil, hd'⟩), rfl, q _ (I.hok.fresh (Nat.le_refl _))⟩
/-! ### sorted(l) of data -/
def rSortD (K : PySem.W.Frag) : List V → Hp → VK → Prop := fun xs H Q => ∃ (a : Addr) (bs : List (V × D)), xs = [.ref a] ∧ SqL K H a (bs.map (·.1)) ∧ DpAll K H (bs.map (·.1)) (bs.map fun b => b.2.py) ∧
  PySem.W.AllAlike (bs.map fun b => b.2.py) ∧ PySem.W.Sortable (bs.map fun b => b.2.py) ∧ (∀ b ∈ bs, b.2.py.depth ≤ 60) ∧ ∀ l, H l = none → Q (.ref l) (upd H l (.lst ((bs.mergeSort (PySem.W.dataLe false fun b => b.2.py)).map (·.1))))
theorem each_vals : ∀ {bs : List (V × D)} {us : List Value}, Vals (bs.map (·.1)) us → PySem.W.EachIs (fun u (b : V × D) => RelV b.1 u) us bs
  | [], _, .nil => .nil
  | _ :: _, _, .cons h t => .cons h (each_vals t)
theorem vals_each : ∀ {bs : List (V × D)} {us : List Value}, PySem.W.EachIs (fun u (b : V × D) => RelV b.1 u) us bs → Vals (bs.map (·.1)) us
  | [], _, .nil => .nil
  | _ :: _, _, .cons h t => .cons h (vals_each t)
theorem cr_sortedD (hu : X.A.units + 65 < cLine) : CallR X (.builtin "sorted") (rSortD X.K) := by
  intro pins s σ H xs us Q I r q
  obtain ⟨a, bs, rfl, hq, hd, hal, hso, hdp, q⟩ := q
  obtain ⟨u, eu, rx⟩ := vals1 r
  subst eu
  cases rx
  obtain ⟨its, rv, pl, hz⟩ := I.list hq
  rw [List.length_map] at hz
  obtain ⟨as, h4⟩ := Dp.readsAll I _ _ its hd rv
  refine PySem.W.sorted_data (R := fun u (b : V × D) => RelV b.1 u) (enc := fun b : V × D => b.2.py) pl.isList (each_vals rv) (PySem.W.readsAll_each _ h4) hal hso hz (fun b hb => ?_) fun out ho eo => ?_
  · have := hdp b hb
    omega
  · obtain ⟨c, hc⟩ := sortedAll_at s.heap its out.toArray
    have rr := vals_each eo
    refine ⟨.ref (s.heap.objs.size + 1), upd H (s.heap.objs.size + 1) (.lst ((bs.mergeSort (PySem.W.dataLe false fun b => b.2.py)).map (·.1))), I.laid (t' := s.toks) (fun _ _ => sortedAll_old) (Nat.le_succ _) (show ObjOk X.prog X.w _ _ _ (.lst _) from ⟨?_, out, c, rr, hc⟩), rfl, q _ (I.hok.fresh (Nat.le_succ _))⟩
    rw [List.length_map, List.length_mergeSort]
    exact hz
end
end Mf
set_option Elab.async false
set_option linter.all false
set_option maxRecDepth 100000
set_option maxHeartbeats 1000000
namespace Mf
open PySem L2

theorem szM {n : Nat} (h : lenOk n = true) : n ≤ sizeLine := Nat.le_trans (of_decide_eq_true h) (by decide)
/-- what a call of the machine is to reach: data d of kind k, the state as it was -/
abbrev Fin {Y : Sys} (K : PySem.W.Frag) (c : Cf Y) (k : K3) (d : D) (Q : VK) : Prop := ∀ v (c' : Cf Y), c'.s = c.s → Step c c' → Ok c' → Is K c.H c' k v d → Q v c'.H

section
variable {Y : Sys} {c : Cf Y} {K : PySem.W.Frag} {Q : VK} {k : K3} {d : D}
theorem Fin.here (q : Fin K c .v d Q) (ok : Ok c) {v : V} (h : Rep K c.F v d) : Q v c.H := q v c rfl (Step.refl c) ok h
theorem Fin.tup {ds : List D} {vs : List V} (q : Fin K c .v (.tup ds) Q) (ok : Ok c) (r : Reps K c.F vs ds) : NewT c.H Q vs := fun p o hp ho =>
  q (.ref p) ⟨upd c.F p (.frz o (.tup vs)), upd c.H p (.frz o (.tup vs)), c.s⟩ rfl (Step.new ok hp _) (ok.new hp _) (Rep.tup (.inl (.inr ⟨o, upd_same⟩)) (.inl ⟨o, _, upd_same, ho⟩) (r.mono (Step.new ok hp (.frz o (.tup vs))).f))
theorem Ok.fr (ok : Ok c) {p : Addr} (hp : c.H p = none) : c.F p = none := by
  cases e : c.F p with
  | none => rfl
  | some u => rw [ok.sub _ _ e] at hp; cases hp
theorem Fin.lst {ds : List D} {vs : List V} (q : Fin K c .t (.lst ds) Q) (ok : Ok c) (r : Reps K c.F vs ds) : ∀ p, c.H p = none → Q (.ref p) (upd c.H p (.lst vs)) := fun p hp =>
  q (.ref p) ⟨c.F, upd c.H p (.lst vs), c.s⟩ rfl (Step.own ok hp _) (ok.own hp _) ⟨p, rfl, ⟨⟨vs, upd_same, r⟩, ok.fr hp, fun z => ok.has p z hp⟩, hp⟩
end

section
variable {X : Cx}
def CDivV (_ j : Int) : Prop := j ≠ 0 ∧ j.natAbs.log2 < 9000
theorem op_fdivV : OpR X (binaryOp .FloorDiv) (rI CDivV fun i j => .int (i.fdiv j)) := opI fun _ _ _ _ _ _ _ hc q => PyProof.Rows.floordiv_int hc.1 q (.inl (PyProof.noPylong_of_log2 hc.2))
def opB : Bop → Operator
  | .add => .Add | .sub => .Sub | .mul => .Mult | .fdv => .FloorDiv | .mod => .Mod
def rB (K : PySem.W.Frag) : Bop → R2
  | .add => fun x y H Q => rI0 (fun i j => .int (i + j)) x y H Q ∨ (rCatZ K x y H Q ∨ (rCat x y H Q ∨ (∃ i j, x = .str i ∧ y = .str j ∧ i.length + j.length ≤ sizeLine ∧ Q (.str (i ++ j)) H)))
  | .sub => rI0 (fun i j => .int (i - j))
  | .mul => fun x y H Q => rI CMulW (fun i j => .int (i * j)) x y H Q ∨ (rRepZ K x y H Q ∨ rRep x y H Q)
  | .fdv => rI CDivV fun i j => .int (i.fdiv j)
  | .mod => rI (fun _ j => j ≠ 0) fun i j => .int (i.fmod j)
theorem op_B (o : Bop) : OpR X (binaryOp (opB o)) (rB X.K o) := by
  cases o with
  | add => exact OpR.or op_add (OpR.or op_catZ (OpR.or op_cat op_add_str))
  | sub => exact op_sub
  | mul => exact OpR.or op_mulW (OpR.or op_repZ op_rep)
  | fdv => exact op_fdivV
  | mod => exact op_modN
end
theorem bin_use {Y : Sys} {c : Cf Y} {K : PySem.W.Frag} {H1 H2 : Hp} {k1 k2 k : K3} {x y : V} {a b d : D} {o : Bop} {Q : VK} (ok : Ok c) (hx : Is K H1 c k1 x a) (hy : Is K H2 c k2 y b) (e : binD o a b = some (k, d)) (q : Fin K c k d Q) : rB K o x y c.H Q := by
  unfold binD at e
  split at e
  · cases e
    exact .inl ⟨_, _, hx.int, hy.int, q.here ok (.int _)⟩
  · split at e
    · rename_i xs ys hl
      cases e
      obtain ⟨p, vs, rfl, h1, h1', r1⟩ := hx.tup ok
      obtain ⟨p2, vs2, rfl, h2, h2', r2⟩ := hy.tup ok
      refine .inr (.inl ⟨p, p2, vs, vs2, rfl, rfl, h1, h2, ?_, fun z => ?_, fun z => ?_, q.tup ok (r1.append r2)⟩)
      · rw [r1.length, r2.length]
        exact szM hl
      · subst z
        cases r1
        exact q.here ok (.tup h2'.1 h2'.2 r2)
      · subst z
        cases r2
        rw [List.append_nil] at q
        exact q.here ok (.tup h1'.1 h1'.2 r1)
    · cases e
  · split at e
    · rename_i xs ys hl
      cases e
      obtain ⟨p, vs, rfl, h1, r1⟩ := hx.lst ok
      obtain ⟨p2, vs2, rfl, h2, r2⟩ := hy.lst ok
      refine .inr (.inr (.inl ⟨p, p2, vs, vs2, rfl, rfl, h1, h2, ?_, q.lst ok (r1.append r2)⟩))
      rw [r1.length, r2.length]
      exact szM hl
    · cases e
  · split at e
    · rename_i xs ys hl
      cases e
      exact .inr (.inr (.inr ⟨_, _, hx.str, hy.str, szM hl, q.here ok (.str _)⟩))
    · cases e
  · cases e
    exact ⟨_, _, hx.int, hy.int, q.here ok (.int _)⟩
  · split at e
    · rename_i xs ys hl
      cases e
      exact .inl ⟨_, _, hx.int, hy.int, (of_decide_eq_true hl : xs.natAbs.log2 + ys.natAbs.log2 < 1000000), q.here ok (.int _)⟩
    · cases e
  · split at e
    · rename_i xs kk hl
      cases e
      simp only [Bool.and_eq_true, decide_eq_true_eq] at hl
      obtain ⟨⟨⟨l1, l2⟩, l3⟩, l4⟩ := hl
      obtain ⟨p, vs, rfl, h1, h1', r1⟩ := hx.tup ok
      refine .inr (.inl ⟨p, _, vs, rfl, hy.int, h1, fun z => ?_, l1, l2, ?_, q.tup ok (r1.rep _)⟩)
      · subst z
        cases r1
        cases l4
      · rw [r1.length]
        exact l3
    · cases e
  · split at e
    · rename_i xs kk hl
      cases e
      simp only [Bool.and_eq_true, decide_eq_true_eq] at hl
      obtain ⟨⟨l1, l2⟩, l3⟩ := hl
      obtain ⟨p, vs, rfl, h1, r1⟩ := hx.lst ok
      refine .inr (.inr ⟨p, _, vs, rfl, hy.int, h1, by omega, by omega, ?_, q.lst ok (r1.rep _)⟩)
      rw [r1.length]
      exact Nat.le_trans (Nat.mul_le_mul l3 (show kk.toNat ≤ 1000 by omega)) (by decide)
    · cases e
  · split at e
    · rename_i xs ys hl
      cases e
      have hl := Bool.and_eq_true_iff.mp hl
      exact ⟨_, _, hx.int, hy.int, ⟨of_decide_eq_true hl.1, of_decide_eq_true hl.2⟩, q.here ok (.int _)⟩
    · cases e
  · split at e
    · rename_i xs ys hl
      cases e
      exact ⟨_, _, hx.int, hy.int, of_decide_eq_true hl, q.here ok (.int _)⟩
    · cases e
  · cases e

/-! ### comparisons -/
theorem lookD_val {K : PySem.W.Frag} {F : Hp} {x : Str} : ∀ {kvs : List (Key × V)} {es : List (Str × D)}, RepK K F kvs es → (∀ d, lookD x es = some d → ∃ v, valV kvs (.inr x) = some v ∧ Rep K F v d) ∧ (lookD x es = none → valV kvs (.inr x) = none)
  | _, _, .nil => And.intro (fun d h => by cases h) (fun _ => rfl)
  | _, _, .cons (x := y) (v := v) (d := d) (kvs := kvs) (es := es) h r => by
    have ih := lookD_val (x := x) r
    by_cases e : y = x
    · subst e
      have e1 : lookD y ((y, d) :: es) = some d := if_pos rfl
      have e2 : valV ((Sum.inr y, v) :: kvs) (.inr y) = some v := by
        unfold valV
        rw [List.find?_cons_of_pos (by simp)]
        rfl
      exact ⟨fun d' q => by rw [e1] at q; cases q; exact ⟨v, e2, h⟩, fun q => by rw [e1] at q; cases q⟩
    · have e1 : lookD x ((y, d) :: es) = lookD x es := if_neg e
      have e2 : valV ((Sum.inr y, v) :: kvs) (.inr x) = valV kvs (.inr x) := by
        unfold valV
        rw [List.find?_cons_of_neg (by simpa using e)]
      rw [e1, e2]
      exact ih
section
variable {X : Cx}
theorem op_in_dct (hu : X.A.units + 1 < cLine) : OpR X (compareOp .In) (fun x y H Q => ∃ a o, y = .ref a ∧ DGet H a x o ∧ Q (.bl o.isSome) H) := by
  intro pins s σ H x y v u Q I rx ry h
  obtain ⟨a, o, rfl, g, q⟩ := h
  cases ry
  exact d_in hu I g rx fun s3 I3 => ⟨.bl o.isSome, H, I3, rfl, q⟩
theorem op_notin_dct (hu : X.A.units + 1 < cLine) : OpR X (compareOp .NotIn) (fun x y H Q => ∃ a o, y = .ref a ∧ DGet H a x o ∧ Q (.bl (!o.isSome)) H) := by
  intro pins s σ H x y v u Q I rx ry h
  obtain ⟨a, o, rfl, g, q⟩ := h
  cases ry
  exact d_notIn hu I g rx fun s3 I3 => ⟨.bl (!o.isSome), H, I3, rfl, q⟩
theorem hr65 {n : Nat} (hr : Room n X.A) : X.A.units + 65 < cLine := by
  have := hr.un
  omega
def opC : Cop → CmpOp
  | .eq => .Eq | .ne => .NotEq | .lt => .Lt | .le => .LtE | .gt => .Gt | .ge => .GtE | .isin => .In | .notin => .NotIn | .is => .Is | .isnot => .IsNot
def rC (K : PySem.W.Frag) : Cop → R2
  | .eq => rEqD K
  | .ne => rNeD K
  | .lt => fun x y H Q => rI0 (fun i j => .bl (decide (i < j))) x y H Q ∨ (∃ i j, x = .str i ∧ y = .str j ∧ Q (.bl (decide (i.cps.toList < j.cps.toList))) H)
  | .le => rI0 fun i j => .bl (decide (i ≤ j))
  | .gt => rI0 fun i j => .bl (decide (j < i))
  | .ge => rI0 fun i j => .bl (decide (j ≤ i))
  | .isin => fun x y H Q => rIn K false x y H Q ∨ (rInT K false x y H Q ∨ ((∃ i j, x = .str i ∧ y = .str j ∧ Q (.bl (!(Builtin.Str.occurrences j i 0 j.length 1).isEmpty)) H) ∨ ∃ a o, y = .ref a ∧ DGet H a x o ∧ Q (.bl o.isSome) H))
  | .notin => fun x y H Q => rIn K true x y H Q ∨ (rInT K true x y H Q ∨ ((∃ i j, x = .str i ∧ y = .str j ∧ Q (.bl (!(!(Builtin.Str.occurrences j i 0 j.length 1).isEmpty))) H) ∨ ∃ a o, y = .ref a ∧ DGet H a x o ∧ Q (.bl (!o.isSome)) H))
  | .is => fun x y H Q => (y = .non ∧ Q (.bl (decide (x = .non))) H) ∨ (∃ a b, x = .bl a ∧ y = .bl b ∧ Q (.bl (decide (a = b))) H)
  | .isnot => fun x y H Q => (y = .non ∧ Q (.bl (!decide (x = .non))) H) ∨ (∃ a b, x = .bl a ∧ y = .bl b ∧ Q (.bl (!decide (a = b))) H)
theorem op_C {n : Nat} (hr : Room n X.A) (o : Cop) : OpR X (compareOp (opC o)) (rC X.K o) := by
  cases o with
  | eq => exact op_eqD hr.units
  | ne => exact op_neD hr.units
  | lt => exact OpR.or op_lt op_lt_str
  | le => exact op_le
  | gt => exact op_gt
  | ge => exact op_ge
  | isin => exact OpR.or op_in_seq (OpR.or (op_inT (hr65 hr)) (OpR.or op_in_str (op_in_dct (hu_of hr))))
  | notin => exact OpR.or op_notIn_seq (OpR.or (op_notInT (hr65 hr)) (OpR.or op_notin_str (op_notin_dct (hu_of hr))))
  | is => exact OpR.or op_isN op_is_bl
  | isnot => exact OpR.or op_notN op_isnot_bl
end
theorem rep_flat {K : PySem.W.Frag} {F : Hp} {v : V} {d : D} (h : Rep K F v d) (f : flatD d = true) : flatV v = true := by
  cases h <;> first | rfl | cases f
theorem rep_eqV {K : PySem.W.Frag} {F : Hp} {v w : V} {d e : D} (h : Rep K F v d) (g : Rep K F w e) (f : flatD d = true) (f' : flatD e = true) : eqV v w = deq d e := by
  cases h <;> cases g <;> first | rfl | cases f | cases f'
theorem reps_flat {K : PySem.W.Frag} {F : Hp} : ∀ {vs : List V} {ds : List D}, Reps K F vs ds → ds.all flatD = true → vs.all flatV = true
  | _, _, .nil, _ => rfl
  | _, _, .cons h r, f => by
    have f := Bool.and_eq_true_iff.mp f
    exact Bool.and_eq_true_iff.mpr ⟨rep_flat h f.1, reps_flat r f.2⟩
theorem reps_in {K : PySem.W.Frag} {F : Hp} {x : V} {e : D} (g : Rep K F x e) (fe : flatD e = true) : ∀ {vs : List V} {ds : List D}, Reps K F vs ds → ds.all flatD = true → inV x vs = ds.any fun y => deq y e
  | _, _, .nil, _ => rfl
  | _, _, .cons h r, f => by
    have f := Bool.and_eq_true_iff.mp f
    unfold inV
    rw [List.any_cons, List.any_cons, rep_eqV h g f.1 fe, ← reps_in g fe r f.2]
    rfl
theorem Is.flat {Y : Sys} {c : Cf Y} {K : PySem.W.Frag} {H1 : Hp} {k : K3} {x : V} {a : D} (h : Is K H1 c k x a) (f : flatD a = true) : Rep K c.F x a := by
  cases k with
  | v => exact h
  | t => obtain ⟨p, _, o, _⟩ := h; cases a <;> first | exact o.1.elim | cases f
  | o => obtain ⟨p, _, o⟩ := h; cases a <;> first | exact o.1.elim | cases f
theorem shaped_lst {ds : List D} (h : shs 59 ds = true) : SeqAt.shaped (.list (pys ds)) = true := shaped_of (d := .lst ds) h
theorem any_pys {e : D} (he : e.sh 60 = true) : ∀ (ds : List D), shs 59 ds = true → ((pys ds).any fun z => PyData.eqv z e.py) = ds.any fun y => deq y e
  | [], _ => rfl
  | d :: ds, h => by
    have h := Bool.and_eq_true_iff.mp h
    show (PyData.eqv d.py e.py || (pys ds).any fun z => PyData.eqv z e.py) = (deq d e || ds.any fun y => deq y e)
    rw [py_eqv 59 60 d e h.1 he, any_pys he ds h.2]
theorem in_use {Y : Sys} {c : Cf Y} {K : PySem.W.Frag} {H1 H2 : Hp} {k1 k2 : K3} {x y : V} {a b : D} {r : Bool} (ok : Ok c) (hx : Is K H1 c k1 x a) (hy : Is K H2 c k2 y b) (e : inD a b = some r) :
    (∃ p xs, y = .ref p ∧ (SqL K c.H p xs ∨ SqT K c.H p xs) ∧ flatV x = true ∧ xs.all flatV = true ∧ inV x xs = r) ∨ (∃ d ds, Dp K c.H x d ∧ (Dp K c.H y (.list ds) ∨ Dp K c.H y (.tuple ds)) ∧ SeqAt.shaped d = true ∧ SeqAt.shaped (.list ds) = true ∧ (ds.any fun z => PyData.eqv z d) = r) ∨ (∃ i j, x = .str i ∧ y = .str j ∧ (!(Builtin.Str.occurrences j i 0 j.length 1).isEmpty) = r) ∨ ∃ p o, y = .ref p ∧ DGet c.H p x o ∧ o.isSome = r := by
  unfold inD at e
  split at e
  · split at e
    · rename_i ds hf
      cases e
      rcases Bool.or_eq_true_iff.mp hf with hf | hf
      rotate_left
      · have hf := Bool.and_eq_true_iff.mp hf
        exact .inr (.inl ⟨_, _, hx.dp ok hf.1, .inr (hy.dp ok hf.2), shaped_of hf.1, shaped_lst hf.2, any_pys hf.1 ds hf.2⟩)
      have hf := Bool.and_eq_true_iff.mp hf
      obtain ⟨p, vs, rfl, h1, h1', r1⟩ := hy.tup ok
      exact .inl ⟨p, vs, rfl, .inr h1, rep_flat (hx.flat hf.1) hf.1, reps_flat r1 hf.2, reps_in (hx.flat hf.1) hf.1 r1 hf.2⟩
    · cases e
  · split at e
    · rename_i ds hf
      cases e
      rcases Bool.or_eq_true_iff.mp hf with hf | hf
      rotate_left
      · have hf := Bool.and_eq_true_iff.mp hf
        exact .inr (.inl ⟨_, _, hx.dp ok hf.1, .inl (hy.dp ok hf.2), shaped_of hf.1, shaped_lst hf.2, any_pys hf.1 ds hf.2⟩)
      have hf := Bool.and_eq_true_iff.mp hf
      obtain ⟨p, vs, rfl, h1, r1⟩ := hy.lst ok
      exact .inl ⟨p, vs, rfl, .inl (.inl (.inl h1)), rep_flat (hx.flat hf.1) hf.1, reps_flat r1 hf.2, reps_in (hx.flat hf.1) hf.1 r1 hf.2⟩
    · cases e
  · cases e
    exact .inr (.inr (.inl ⟨_, _, hx.str, hy.str, rfl⟩))
  · rename_i x' es
    cases e
    obtain ⟨p, kvs, rfl, h1, r1⟩ := hy.dct ok
    refine .inr (.inr (.inr ⟨p, _, rfl, by rw [hx.str]; exact DGet.k (k := .inr x') h1, ?_⟩))
    have q := lookD_val (x := x') r1
    cases hl : lookD x' es with
    | none => rw [q.2 hl]; rfl
    | some d => obtain ⟨v, ev, _⟩ := q.1 d hl; rw [ev]; rfl
  · cases e
theorem is_use {Y : Sys} {c : Cf Y} {K : PySem.W.Frag} {H1 H2 : Hp} {k1 k2 : K3} {x y : V} {a b : D} {r : Bool} (hx : Is K H1 c k1 x a) (hy : Is K H2 c k2 y b) (e : isD a b = some r) :
    (y = .non ∧ decide (x = .non) = r) ∨ (∃ a b, x = .bl a ∧ y = .bl b ∧ decide (a = b) = r) := by
  unfold isD at e
  split at e
  · cases e
    exact .inl ⟨hy.non, decide_eq_true hx.non⟩
  · cases e
    exact .inr ⟨_, _, hx.bl, hy.bl, rfl⟩
  · rename_i hn
    cases e
    refine .inl ⟨hy.non, decide_eq_false fun z => ?_⟩
    subst z
    cases k1 with
    | v => cases hx with | non => exact hn rfl
    | t => obtain ⟨p, z, _⟩ := hx; cases z
    | o => obtain ⟨p, z, _⟩ := hx; cases z
  · cases e
theorem cmp_use {Y : Sys} {c : Cf Y} {K : PySem.W.Frag} {H1 H2 : Hp} {k1 k2 : K3} {x y : V} {a b : D} {o : Cop} {r : Bool} {Q : VK} (ok : Ok c) (hx : Is K H1 c k1 x a) (hy : Is K H2 c k2 y b) (e : cmpD o a b = some r) (q : Q (.bl r) c.H) : rC K o x y c.H Q := by
  have eqs : ∀ {r : Bool}, eqD a b = some r → ∃ d e, Dp K c.H x d ∧ Dp K c.H y e ∧ SeqAt.shaped d = true ∧ SeqAt.shaped e = true ∧ PyData.eqv d e = r := by
    intro r e
    unfold eqD at e
    split at e
    · rename_i h
      have h := Bool.and_eq_true_iff.mp h
      cases e
      exact ⟨_, _, hx.dp ok h.1, hy.dp ok h.2, shaped_of h.1, shaped_of h.2, py_eqv _ _ _ _ h.1 h.2⟩
    · cases e
  cases o with
  | eq =>
    obtain ⟨d, e', h1, h2, h3, h4, h5⟩ := eqs e
    exact ⟨d, e', h1, h2, h3, h4, by rw [h5]; exact q⟩
  | ne =>
    have e : (eqD a b).map (!·) = some r := e
    obtain ⟨r', e1, e2⟩ := Option.map_eq_some_iff.mp e
    obtain ⟨d, e', h1, h2, h3, h4, h5⟩ := eqs e1
    exact ⟨d, e', h1, h2, h3, h4, by rw [h5, e2]; exact q⟩
  | isin =>
    rcases in_use ok hx hy e with ⟨p, xs, h1, h2, h3, h4, h5⟩ | ⟨d, ds, h1, h2, h3, h4, h5⟩ | ⟨i, j, h1, h2, h3⟩ | ⟨p, o, h1, h2, h3⟩
    · exact .inl ⟨p, xs, h1, h2, h3, h4, by rw [if_neg Bool.false_ne_true, h5]; exact q⟩
    · exact .inr (.inl ⟨d, ds, h1, h2, h3, h4, by rw [h5, Bool.false_xor]; exact q⟩)
    · exact .inr (.inr (.inl ⟨i, j, h1, h2, by rw [h3]; exact q⟩))
    · exact .inr (.inr (.inr ⟨p, o, h1, h2, by rw [h3]; exact q⟩))
  | notin =>
    have e : (inD a b).map (!·) = some r := e
    obtain ⟨r', e1, e2⟩ := Option.map_eq_some_iff.mp e
    rcases in_use ok hx hy e1 with ⟨p, xs, h1, h2, h3, h4, h5⟩ | ⟨d, ds, h1, h2, h3, h4, h5⟩ | ⟨i, j, h1, h2, h3⟩ | ⟨p, o, h1, h2, h3⟩
    · exact .inl ⟨p, xs, h1, h2, h3, h4, by rw [if_pos rfl, h5, e2]; exact q⟩
    · exact .inr (.inl ⟨d, ds, h1, h2, h3, h4, by rw [h5, Bool.true_xor, e2]; exact q⟩)
    · exact .inr (.inr (.inl ⟨i, j, h1, h2, by rw [h3, e2]; exact q⟩))
    · exact .inr (.inr (.inr ⟨p, o, h1, h2, by rw [h3, e2]; exact q⟩))
  | is =>
    rcases is_use hx hy e with ⟨h1, h2⟩ | ⟨a', b', h1, h2, h3⟩
    · exact .inl ⟨h1, by rw [h2]; exact q⟩
    · exact .inr ⟨a', b', h1, h2, by rw [h3]; exact q⟩
  | isnot =>
    have e : (isD a b).map (!·) = some r := e
    obtain ⟨r', e1, e2⟩ := Option.map_eq_some_iff.mp e
    rcases is_use hx hy e1 with ⟨h1, h2⟩ | ⟨a', b', h1, h2, h3⟩
    · exact .inl ⟨h1, by rw [h2, e2]; exact q⟩
    · exact .inr ⟨a', b', h1, h2, by rw [h3, e2]; exact q⟩
  | lt =>
    unfold cmpD at e
    split at e <;> first | cases e | skip
    all_goals first | (exact .inl ⟨_, _, hx.int, hy.int, q⟩) | (exact .inr ⟨_, _, hx.str, hy.str, q⟩) | skip
    all_goals simp_all
  | le =>
    unfold cmpD at e
    split at e <;> first | cases e | skip
    all_goals first | (exact ⟨_, _, hx.int, hy.int, q⟩) | simp_all
  | gt =>
    unfold cmpD at e
    split at e <;> first | cases e | skip
    all_goals first | (exact ⟨_, _, hx.int, hy.int, q⟩) | simp_all
  | ge =>
    unfold cmpD at e
    split at e <;> first | cases e | skip
    all_goals first | (exact ⟨_, _, hx.int, hy.int, q⟩) | simp_all
end Mf
set_option Elab.async false
set_option linter.all false
set_option maxRecDepth 100000
set_option maxHeartbeats 1000000
namespace Mf
open PySem L2

theorem CallR.or {X : Cx} {f : Value} {r r' : List V → Hp → VK → Prop} (h : CallR X f r) (h' : CallR X f r') : CallR X f (fun vs H Q => r vs H Q ∨ r' vs H Q) := by
  intro pins s σ H vs us Q I rs q
  rcases q with q | q
  · exact h pins s σ H vs us Q I rs q
  · exact h' pins s σ H vs us Q I rs q
/-! ### subscripts -/
section
variable {X : Cx}
theorem ix_dct (hu : X.A.units + 1 < cLine) : IxR X (fun x y H Q => ∃ a v, x = .ref a ∧ DGet H a y (some v) ∧ Q v H) := by
  intro value slice pins s σ H x y v u Q I rx ry h hs
  obtain ⟨a, w', rfl, g, q⟩ := h
  cases rx
  exact PyProof.Rows.tail_any (dict_typeIs I g) PySem.F.slot_dict_getitem.lookup (d_getItem hu I g ry fun w'' s' I' r' => ⟨w', H, I', r', q⟩) hs
def rX (K : PySem.W.Frag) : R2 := fun x y H Q => rIx K x y H Q ∨ ∃ a v, x = .ref a ∧ DGet H a y (some v) ∧ Q v H
theorem ix_X {n : Nat} (hr : Room n X.A) : IxR X (rX X.K) := IxR.or ix_seq (ix_dct (hu_of hr))
end
theorem Reps.atI {K : PySem.W.Frag} {F : Hp} {vs : List V} {ds : List D} {i : Int} {d : D} (r : Reps K F vs ds) (e : L2.atI ds i = some d) : ∃ v, L2.atI vs i = some v ∧ Rep K F v d := by
  unfold L2.atI at e ⊢
  rw [r.length]
  cases h : ixN ds.length i with
  | none => rw [h] at e; cases e
  | some j =>
    rw [h] at e
    exact r.get (show ds[j]? = some d from e)
theorem ix_use {Y : Sys} {c : Cf Y} {K : PySem.W.Frag} {H1 H2 : Hp} {k1 k2 : K3} {x y : V} {a b d : D} {Q : VK} (ok : Ok c) (hx : Is K H1 c k1 x a) (hy : Is K H2 c k2 y b) (e : ixD a b = some d) (q : Fin K c .v d Q) : rX K x y c.H Q := by
  unfold ixD at e
  split at e
  · obtain ⟨p, vs, rfl, h1, h1', r1⟩ := hx.tup ok
    obtain ⟨v, e1, r2⟩ := r1.atI e
    exact .inl (.inr (.inl ⟨p, vs, _, v, rfl, hy.int, h1, e1, q.here ok r2⟩))
  · obtain ⟨p, vs, rfl, h1, r1⟩ := hx.lst ok
    obtain ⟨v, e1, r2⟩ := r1.atI e
    exact .inl (.inl ⟨p, vs, _, v, rfl, hy.int, .inl (.inl h1), e1, q.here ok r2⟩)
  · split at e
    · rename_i z i hl
      obtain ⟨cc, e1, e2⟩ := Option.map_eq_some_iff.mp e
      subst e2
      exact .inl (.inr (.inr ⟨z, i, cc, hx.str, hy.int, szM hl, e1, q.here ok (.str _)⟩))
    · cases e
  · rename_i es z
    obtain ⟨p, kvs, rfl, h1, r1⟩ := hx.dct ok
    obtain ⟨v, ev, rv⟩ := (lookD_val (x := z) r1).1 d e
    exact .inr ⟨p, v, rfl, by rw [hy.str, ← ev]; exact DGet.k (k := .inr z) h1, q.here ok rv⟩
  · cases e
/-! ### slices -/
def rS (K : PySem.W.Frag) : V → Option Int → Option Int → Hp → VK → Prop := fun x lo hi H Q => rSlZ K x lo hi H Q ∨ (rSlL K x lo hi H Q ∨ rSlS x lo hi H Q)
theorem sl_S {X : Cx} : SlR X (rS X.K) := SlR.or sl_tupZ (SlR.or sl_list sl_str)
theorem sl_use {Y : Sys} {c : Cf Y} {K : PySem.W.Frag} {H1 : Hp} {k1 k : K3} {x : V} {a d : D} {lo hi : Option Int} {Q : VK} (ok : Ok c) (hx : Is K H1 c k1 x a) (e : slD a lo hi = some (k, d)) (q : Fin K c k d Q) : rS K x lo hi c.H Q := by
  unfold slD at e
  split at e
  · rename_i ds
    cases e
    obtain ⟨p, vs, rfl, h1, h1', r1⟩ := hx.tup ok
    have rc : Reps K c.F (cutV vs lo hi) ((ds.drop (HT.sIx ds.length 0 lo)).take (HT.sIx ds.length ds.length hi - HT.sIx ds.length 0 lo)) := by
      unfold cutV
      rw [r1.length]
      exact (r1.drop _).take _
    refine .inl ⟨p, vs, rfl, h1, fun z => ?_, q.tup ok rc⟩
    rw [z] at rc
    exact q.here ok (.tup h1'.1 h1'.2 rc)
  · rename_i ds
    cases e
    obtain ⟨p, vs, rfl, h1, r1⟩ := hx.lst ok
    refine .inr (.inl ⟨p, vs, rfl, .inl (.inl h1), q.lst ok ?_⟩)
    unfold cutV
    rw [r1.length]
    exact (r1.drop _).take _
  · split at e
    · rename_i z hl
      cases e
      exact .inr (.inr ⟨z, hx.str, szM hl, q.here ok (.str _)⟩)
    · cases e
  · cases e
/-! ### built-ins of one argument -/
def nmB : B1 → Str
  | .len => "len" | .abs => "abs" | .int => "int" | .tuple => "tuple" | .list => "list" | .all => "all" | .any => "any" | .max => "max" | .dict => "dict" | .sorted => "sorted"
def vlB : B1 → Value
  | .len => .builtin "len" | .abs => .builtin "abs" | .int => .type "int" | .tuple => .type "tuple" | .list => .type "list" | .all => .builtin "all" | .any => .builtin "any" | .max => .builtin "max" | .dict => .type "dict" | .sorted => .builtin "sorted"
def r1 (K : PySem.W.Frag) : B1 → List V → Hp → VK → Prop
  | .len => fun xs H Q => ∃ x n, xs = [x] ∧ LenV K x H n ∧ Q (.int n) H
  | .abs => fun xs H Q => ∃ i, xs = [.int i] ∧ Q (.int (if i < 0 then -i else i)) H
  | .int => fun xs H Q => (∃ i, xs = [.int i] ∧ Q (.int i) H) ∨ ∃ k, xs = [.bl k] ∧ Q (.int (if k then 1 else 0)) H
  | .tuple => fun xs H Q => ∃ p ys, xs = [.ref p] ∧ ((SqL K H p ys ∧ NewT H Q ys) ∨ (SqT K H p ys ∧ Q (.ref p) H))
  | .list => fun xs H Q => ∃ p ys, xs = [.ref p] ∧ (SqL K H p ys ∨ SqT K H p ys) ∧ ∀ l, H l = none → Q (.ref l) (upd H l (.lst ys))
  | .all => rAll K
  | .any => rAny K
  | .max => rMax K
  | .dict => rDict K
  | .sorted => rSortD K
theorem call_1 {X : Cx} {n : Nat} (hr : Room n X.A) (hc : X.calm = true) (f : B1) : CallR X (vlB f) (r1 X.K f) := by
  cases f with
  | len => exact call_len
  | abs => exact call_abs
  | int => exact call_int1
  | tuple => exact call_tupleZ
  | list => exact call_list_of
  | all => exact cr_all hc
  | any => exact cr_any hc
  | max => exact cr_max hc
  | dict => exact call_dictZ hc
  | sorted => exact cr_sortedD (hr65 hr)
theorem bools_rep {K : PySem.W.Frag} {F : Hp} : ∀ {vs : List V} {ds : List D} {bs : List Bool}, Reps K F vs ds → boolsD ds = some bs → vs = bs.map V.bl
  | _, _, _, .nil, e => by cases e; rfl
  | _, _, bs, .cons (d := d) h r, e => by
    cases h <;> first | cases e | skip
    obtain ⟨b', e1, e2⟩ := Option.map_eq_some_iff.mp e
    subst e2
    rw [bools_rep r e1]
    rfl
theorem ints_rep {K : PySem.W.Frag} {F : Hp} : ∀ {vs : List V} {ds : List D} {bs : List Int}, Reps K F vs ds → intsD ds = some bs → vs = bs.map V.int
  | _, _, _, .nil, e => by cases e; rfl
  | _, _, bs, .cons (d := d) h r, e => by
    cases h <;> first | cases e | skip
    obtain ⟨b', e1, e2⟩ := Option.map_eq_some_iff.mp e
    subst e2
    rw [ints_rep r e1]
    rfl
theorem maxL_spec : ∀ (r : List Int) (m : Int), (maxL r m = m ∨ maxL r m ∈ r) ∧ m ≤ maxL r m ∧ ∀ y ∈ r, y ≤ maxL r m
  | [], m => ⟨.inl rfl, Int.le_refl _, fun _ h => nomatch h⟩
  | x :: r, m => by
    have ih := maxL_spec r (if m < x then x else m)
    have e : maxL (x :: r) m = maxL r (if m < x then x else m) := rfl
    rw [e]
    obtain ⟨i1, i2, i3⟩ := ih
    by_cases h : m < x
    · rw [if_pos h] at i1 i2 i3 ⊢
      refine ⟨.inr ?_, by omega, fun y hy => ?_⟩
      · rcases i1 with i1 | i1
        · rw [i1]; exact List.mem_cons_self
        · exact List.mem_cons_of_mem _ i1
      · rcases List.mem_cons.mp hy with z | z
        · rw [z]; exact i2
        · exact i3 y z
    · rw [if_neg h] at i1 i2 i3 ⊢
      refine ⟨?_, i2, fun y hy => ?_⟩
      · rcases i1 with i1 | i1
        · exact .inl i1
        · exact .inr (List.mem_cons_of_mem _ i1)
      · rcases List.mem_cons.mp hy with z | z
        · rw [z]; omega
        · exact i3 y z
theorem putD_any {K : PySem.W.Frag} {F : Hp} {k : Str} : ∀ {kvs : List (Key × V)} {es : List (Str × D)}, RepK K F kvs es → (kvs.any fun kv => decide (kv.1 = Sum.inr k)) = es.any fun kv => decide (kv.1 = k)
  | _, _, .nil => rfl
  | _, _, .cons (x := x) h r => by
    rw [List.any_cons, List.any_cons, putD_any r]
    congr 1
    by_cases e : x = k
    · subst e; simp
    · have : ¬ (Sum.inr x : Key) = Sum.inr k := fun z => e (Sum.inr.inj z)
      simp [e]
theorem RepK.append {K : PySem.W.Frag} {F : Hp} : ∀ {a b : List (Key × V)} {x y : List (Str × D)}, RepK K F a x → RepK K F b y → RepK K F (a ++ b) (x ++ y)
  | _, _, _, _, .nil, s => s
  | _, _, _, _, .cons h r, s => .cons h (RepK.append r s)
theorem putD_map {K : PySem.W.Frag} {F : Hp} {k : Str} {v : V} {d : D} (hv : Rep K F v d) : ∀ {kvs : List (Key × V)} {es : List (Str × D)}, RepK K F kvs es → RepK K F (kvs.map fun kv => if kv.1 = Sum.inr k then (kv.1, v) else kv) (es.map fun kv => if kv.1 = k then (kv.1, d) else kv)
  | _, _, .nil => .nil
  | _, _, .cons (x := x) h r => by
    rw [List.map_cons, List.map_cons]
    by_cases e : x = k
    · subst e
      rw [if_pos rfl, if_pos rfl]
      exact .cons hv (putD_map hv r)
    · have e' : ¬ (Sum.inr x : Key) = Sum.inr k := fun z => e (Sum.inr.inj z)
      rw [if_neg e', if_neg e]
      exact .cons h (putD_map hv r)
theorem RepK.put {K : PySem.W.Frag} {F : Hp} {kvs : List (Key × V)} {es : List (Str × D)} {k : Str} {v : V} {d : D} (r : RepK K F kvs es) (hv : Rep K F v d) : RepK K F (putK kvs (.inr k) v) (putD es k d) := by
  unfold putK putD
  rw [putD_any r]
  split
  · exact putD_map hv r
  · exact r.append (.cons hv .nil)
theorem RepK.merge {K : PySem.W.Frag} {F : Hp} : ∀ {more : List (Key × V)} {ms : List (Str × D)} {kvs : List (Key × V)} {es : List (Str × D)}, RepK K F more ms → RepK K F kvs es → RepK K F (more.foldl (fun acc kv => putK acc kv.1 kv.2) kvs) (ms.foldl (fun acc kv => putD acc kv.1 kv.2) es)
  | _, _, _, _, .nil, s => s
  | _, _, _, _, .cons h r, s => by
    rw [List.foldl_cons, List.foldl_cons]
    exact RepK.merge r (s.put h)
theorem pairs_rep {K : PySem.W.Frag} {F H : Hp} (e : Sub F H) : ∀ {vs : List V} {ds : List D} {es : List (Str × D)}, Reps K F vs ds → pairsD ds = some es → ∃ (ps : List Addr) (kvs : List (Key × V)), vs = ps.map V.ref ∧ Paired (fun p kv => SqT K H p [kV kv.1, kv.2]) ps kvs ∧ RepK K F kvs es
  | _, _, _, .nil, h => by cases h; exact ⟨[], [], rfl, .nil, .nil⟩
  | _, _, es, .cons (d := d) h r, q => by
    unfold pairsD at q
    split at q
    · rename_i heq; cases heq
    · rename_i heq
      cases heq
      obtain ⟨es', e1, e2⟩ := Option.map_eq_some_iff.mp q
      subst e2
      obtain ⟨ps, kvs, h1, h2, h3⟩ := pairs_rep e r e1
      cases h with
      | tup hs hp hr =>
        cases hr with
        | cons ha ht =>
          cases ht with
          | cons hb hn =>
            cases hn
            cases ha
            exact ⟨_ :: ps, (.inr _, _) :: kvs, by rw [h1]; rfl, .cons (sqT_sub e hs) h2, .cons hb h3⟩
    · cases q
theorem Fin.dct {Y : Sys} {c : Cf Y} {K : PySem.W.Frag} {es : List (Str × D)} {kvs : List (Key × V)} {Q : VK} (q : Fin K c .t (.dct es) Q) (ok : Ok c) (r : RepK K c.F kvs es) : ∀ p, c.H p = none → Q (.ref p) (upd c.H p (.dK kvs)) := fun p hp =>
  q (.ref p) ⟨c.F, upd c.H p (.dK kvs), c.s⟩ rfl (Step.own ok hp _) (ok.own hp _) ⟨p, rfl, ⟨⟨kvs, upd_same, r⟩, ok.fr hp, fun z => ok.has p z hp⟩, hp⟩
/-! sorting -/
theorem ins_perm (x : D) : ∀ l, (insD x l).Perm (x :: l)
  | [] => .refl _
  | y :: r => by
    unfold insD
    split
    · exact .refl _
    · exact ((ins_perm x r).cons y).trans (.swap x y r)
theorem sort_perm : ∀ l, (sortD l).Perm l
  | [] => .refl _
  | x :: r => (ins_perm x _).trans ((sort_perm r).cons x)
theorem leD_eq : leD = PySem.W.dataLe false D.py := rfl
theorem leD_total : PySem.W.TotalLe leD := PySem.W.sortLe_total (PyProof.Rows.listOrd PyProof.Rows.itemOrd) false fun b : D => PySem.W.keyToks b.py
theorem ins_sorted (x : D) : ∀ l, l.Pairwise (fun a b => leD a b = true) → (insD x l).Pairwise (fun a b => leD a b = true)
  | [], _ => List.pairwise_singleton _ _
  | y :: r, h => by
    have hc := List.pairwise_cons.mp h
    unfold insD
    split
    · rename_i hl
      refine List.pairwise_cons.mpr ⟨fun z hz => ?_, h⟩
      rcases List.mem_cons.mp hz with e | e
      · rw [e]; exact hl
      · exact leD_total.1 _ _ _ hl (hc.1 z e)
    · rename_i hl
      refine List.pairwise_cons.mpr ⟨fun z hz => ?_, ins_sorted x r hc.2⟩
      rcases List.mem_cons.mp ((ins_perm x r).mem_iff.mp hz) with e | e
      · rw [e]
        have := leD_total.2 x y
        rcases this with t | t
        · exact absurd t hl
        · exact t
      · exact hc.1 z e
theorem sort_sorted : ∀ l, (sortD l).Pairwise (fun a b => leD a b = true)
  | [] => .nil
  | x :: r => ins_sorted x _ (sort_sorted r)
theorem ins_stable (c x : D) : ∀ l, (insD x l).filter (PySem.W.sameRank leD c) = (x :: l).filter (PySem.W.sameRank leD c)
  | [] => rfl
  | y :: r => by
    unfold insD
    split
    · rfl
    · rename_i hl
      have ih := ins_stable c x r
      rw [List.filter_cons, ih]
      cases hx : PySem.W.sameRank leD c x <;> cases hy : PySem.W.sameRank leD c y <;> simp [List.filter_cons, hx, hy]
      exfalso
      unfold PySem.W.sameRank at hx hy
      rw [Bool.and_eq_true] at hx hy
      exact hl (leD_total.1 _ _ _ hx.2 hy.1)
theorem sort_stab (c : D) : ∀ l, (sortD l).filter (PySem.W.sameRank leD c) = l.filter (PySem.W.sameRank leD c)
  | [] => rfl
  | x :: r => by
    show (insD x (sortD r)).filter _ = _
    rw [ins_stable c x (sortD r), List.filter_cons, List.filter_cons, sort_stab c r]
theorem sortD_eq (l : List D) : sortD l = l.mergeSort leD := PySem.W.sort_unique leD_total (sort_sorted l) fun c => sort_stab c l
theorem Reps.zip {K : PySem.W.Frag} {F : Hp} : ∀ {vs : List V} {ds : List D}, Reps K F vs ds → (vs.zip ds).map (·.1) = vs ∧ (vs.zip ds).map (·.2) = ds
  | _, _, .nil => ⟨rfl, rfl⟩
  | _, _, .cons h r => by
    obtain ⟨a, b⟩ := Reps.zip r
    exact ⟨by rw [List.zip_cons_cons, List.map_cons, a], by rw [List.zip_cons_cons, List.map_cons, b]⟩
theorem Reps.mem {K : PySem.W.Frag} {F : Hp} : ∀ {vs : List V} {ds : List D}, Reps K F vs ds → ∀ b ∈ vs.zip ds, Rep K F b.1 b.2
  | _, _, .nil, b, h => by cases h
  | _, _, .cons h r, b, hb => by
    rw [List.zip_cons_cons] at hb
    rcases List.mem_cons.mp hb with e | e
    · rw [e]; exact h
    · exact Reps.mem r b e
theorem Reps.of {K : PySem.W.Frag} {F : Hp} : ∀ {bs : List (V × D)}, (∀ b ∈ bs, Rep K F b.1 b.2) → Reps K F (bs.map (·.1)) (bs.map (·.2))
  | [], _ => .nil
  | b :: bs, h => .cons (h b List.mem_cons_self) (Reps.of fun z hz => h z (List.mem_cons_of_mem _ hz))
theorem sort_rep {K : PySem.W.Frag} {F : Hp} {vs : List V} {ds : List D} (r : Reps K F vs ds) : Reps K F (((vs.zip ds).mergeSort (PySem.W.dataLe false fun b : V × D => b.2.py)).map (·.1)) (sortD ds) := by
  have e : sortD ds = ((vs.zip ds).mergeSort (PySem.W.dataLe false fun b : V × D => b.2.py)).map (·.2) := by
    have q := PySem.W.sort_maps (r := PySem.W.dataLe false fun b : V × D => b.2.py) (s := leD) (l := vs.zip ds) (fun b : V × D => b.2) (fun a _ b _ => rfl)
    rw [(Reps.zip r).2] at q
    rw [sortD_eq, ← q]
  rw [e]
  exact Reps.of fun b hb => Reps.mem r b (List.mem_mergeSort.mp hb)
theorem pys_map : ∀ ds : List D, pys ds = ds.map D.py
  | [] => rfl
  | d :: ds => by rw [List.map_cons, ← pys_map ds]; rfl
theorem shs_mem {n : Nat} : ∀ {ds : List D}, shs n ds = true → ∀ d ∈ ds, d.sh n = true
  | _ :: _, h, d, hd => by
    have h := Bool.and_eq_true_iff.mp h
    rcases List.mem_cons.mp hd with e | e
    · rw [e]; exact h.1
    · exact shs_mem h.2 d e
theorem sortOk_all {ds : List D} (h : sortOk ds = true) : shs 59 ds = true ∧ PySem.W.AllAlike (ds.map D.py) ∧ PySem.W.Sortable (ds.map D.py) := by
  unfold sortOk at h
  rw [Bool.and_eq_true, Bool.and_eq_true, Bool.or_eq_true] at h
  obtain ⟨⟨h1, h2⟩, h3⟩ := h
  refine ⟨h1, fun d hd d' hd' => ?_, ?_⟩
  · obtain ⟨x, hx, rfl⟩ := List.mem_map.mp hd
    obtain ⟨y, hy, rfl⟩ := List.mem_map.mp hd'
    exact List.all_eq_true.mp (List.all_eq_true.mp h2 x hx) y hy
  · rcases h3 with h3 | h3
    · refine .inl fun d hd => ?_
      obtain ⟨x, hx, rfl⟩ := List.mem_map.mp hd
      have := List.all_eq_true.mp h3 x hx
      unfold tup1 at this
      split at this
      · exact ⟨_, _, rfl⟩
      · cases this
    · refine .inr fun d hd => ?_
      obtain ⟨x, hx, rfl⟩ := List.mem_map.mp hd
      have := List.all_eq_true.mp h3 x hx
      have hsx := shs_mem h1 x hx
      cases x with
      | non => cases this
      | tup _ => cases this
      | dct _ => rw [sh_dct] at hsx; cases hsx
      | adr _ => rw [sh_adr] at hsx; cases hsx
      | scr _ => rw [sh_scr] at hsx; cases hsx
      | bl _ => exact ⟨fun z => (nomatch z), fun _ z => (nomatch z)⟩
      | int _ => exact ⟨fun z => (nomatch z), fun _ z => (nomatch z)⟩
      | str _ => exact ⟨fun z => (nomatch z), fun _ z => (nomatch z)⟩
      | lst _ => exact ⟨fun z => (nomatch z), fun _ z => (nomatch z)⟩
theorem b1_use {Y : Sys} {c : Cf Y} {K : PySem.W.Frag} {H1 : Hp} {k1 k : K3} {x : V} {a d : D} {f : B1} {Q : VK} (ok : Ok c) (hx : Is K H1 c k1 x a) (e : b1D f a = some (k, d)) (q : Fin K c k d Q) : r1 K f [x] c.H Q := by
  unfold b1D at e
  split at e
  · cases e
    obtain ⟨p, vs, rfl, h1, r⟩ := hx.lst ok
    refine ⟨_, _, rfl, .inl ⟨vs, .inl (.inl h1), rfl⟩, ?_⟩
    rw [r.length]
    exact q.here ok (.int _)
  · cases e
    obtain ⟨p, vs, rfl, h1, _, r⟩ := hx.tup ok
    refine ⟨_, _, rfl, .inr ⟨vs, h1, rfl⟩, ?_⟩
    rw [r.length]
    exact q.here ok (.int _)
  · split at e
    · rename_i hl
      cases e
      rw [hx.str]
      exact ⟨_, _, rfl, ⟨szM hl, rfl⟩, q.here ok (.int _)⟩
    · cases e
  · cases e
    exact ⟨_, by rw [hx.int], q.here ok (.int _)⟩
  · cases e
    exact .inl ⟨_, by rw [hx.int], q.here ok (.int _)⟩
  · cases e
    exact .inr ⟨_, by rw [hx.bl], q.here ok (.int _)⟩
  · cases e
    obtain ⟨p, vs, rfl, h1, r⟩ := hx.lst ok
    exact ⟨p, vs, rfl, .inl ⟨.inl (.inl h1), q.tup ok r⟩⟩
  · cases e
    obtain ⟨p, vs, rfl, h1, h1', r⟩ := hx.tup ok
    exact ⟨p, vs, rfl, .inr ⟨h1, q.here ok (.tup h1'.1 h1'.2 r)⟩⟩
  · cases e
    obtain ⟨p, vs, rfl, h1, r⟩ := hx.lst ok
    exact ⟨p, vs, rfl, .inl (.inl (.inl h1)), q.lst ok r⟩
  · cases e
    obtain ⟨p, vs, rfl, h1, h1', r⟩ := hx.tup ok
    exact ⟨p, vs, rfl, .inr h1, q.lst ok r⟩
  · obtain ⟨bs, e1, e2⟩ := Option.map_eq_some_iff.mp e
    cases e2
    obtain ⟨p, vs, rfl, h1, r⟩ := hx.lst ok
    have e3 := bools_rep r e1
    subst e3
    exact ⟨p, bs, rfl, .inl (.inl h1), q.here ok (.bl _)⟩
  · obtain ⟨bs, e1, e2⟩ := Option.map_eq_some_iff.mp e
    cases e2
    obtain ⟨p, vs, rfl, h1, r⟩ := hx.lst ok
    have e3 := bools_rep r e1
    subst e3
    exact ⟨p, bs, rfl, .inl (.inl h1), q.here ok (.bl _)⟩
  · obtain ⟨es, e1, e2⟩ := Option.map_eq_some_iff.mp e
    cases e2
    obtain ⟨p, vs, rfl, h1, r⟩ := hx.lst ok
    obtain ⟨ps, kvs, rfl, h2, h3⟩ := pairs_rep ok.sub r e1
    exact ⟨p, ps, kvs, rfl, .inl (.inl (.inl h1)), h2, q.dct ok (h3.merge .nil)⟩
  · obtain ⟨es, e1, e2⟩ := Option.map_eq_some_iff.mp e
    cases e2
    obtain ⟨p, vs, rfl, h1, h1', r⟩ := hx.tup ok
    obtain ⟨ps, kvs, rfl, h2, h3⟩ := pairs_rep ok.sub r e1
    exact ⟨p, ps, kvs, rfl, .inr ⟨h1, h1'.2.sub ok.sub⟩, h2, q.dct ok (h3.merge .nil)⟩
  · split at e
    · rename_i ds hs
      cases e
      obtain ⟨p, vs, rfl, h1, r⟩ := hx.lst ok
      obtain ⟨s1, s2, s3⟩ := sortOk_all hs
      obtain ⟨z1, z2⟩ := Reps.zip r
      have z3 : (vs.zip ds).map (fun b => b.2.py) = ds.map D.py := by
        rw [← z2, List.map_map, z2]
        rfl
      refine ⟨p, vs.zip ds, rfl, by rw [z1]; exact .inl (.inl h1), ?_, by rw [z3]; exact s2, by rw [z3]; exact s3, fun b hb => ?_, q.lst ok (sort_rep r)⟩
      · rw [z1, z3, ← pys_map]
        exact pys_dp ok.sub r s1
      · have hm : b.2 ∈ ds := by rw [← z2]; exact List.mem_map.mpr ⟨b, hb, rfl⟩
        exact Nat.le_trans (py_sh 59 b.2 (shs_mem s1 _ hm)).2 (by decide)
    · cases e
  · split at e
    · rename_i ms m r' hi
      cases e
      obtain ⟨p, vs, rfl, h1, r⟩ := hx.lst ok
      have e3 := ints_rep r hi
      subst e3
      obtain ⟨s1, s2, s3⟩ := maxL_spec r' m
      refine ⟨p, _, rfl, .inl (.inl h1), Nat.succ_pos _, fun M hM hmax => ?_⟩
      have : M = maxL r' m := by
        have l1 : maxL r' m ≤ M := by
          rcases s1 with s1 | s1
          · rw [s1]; exact hmax m List.mem_cons_self
          · exact hmax _ (List.mem_cons_of_mem _ s1)
        have l2 : M ≤ maxL r' m := by
          rcases List.mem_cons.mp hM with z | z
          · rw [z]; exact s2
          · exact s3 M z
        omega
      rw [this]
      exact q.here ok (.int _)
    · cases e
  · cases e
/-! ### methods of one argument -/
def nmM : M1 → Str
  | .sindex => "index" | .lindex => "index" | .lcount => "count"
def tyM : M1 → String
  | .sindex => "str" | .lindex => "list" | .lcount => "list"
def idM : M1 → String
  | .sindex => "str.index" | .lindex => "list.index" | .lcount => "list.count"
def rM (K : PySem.W.Frag) : M1 → V → List V → Hp → VK → Prop
  | .sindex => fun x xs H Q => ∃ a b i rest, x = .str a ∧ xs = [.str b] ∧ Builtin.Str.occurrences a b 0 a.length 1 = i :: rest ∧ Q (.int (i : Nat)) H
  | .lindex => rIndexD K
  | .lcount => rCntD K
theorem mt_M {X : Cx} {n : Nat} (hr : Room n X.A) (f : M1) : MtR X (idM f) (rM X.K f) := by
  cases f with
  | sindex => exact mt_sindex
  | lindex => exact mt_indexD (hr65 hr)
  | lcount => exact mt_countD (hr65 hr)
theorem rcv_ty {Y : Sys} {c : Cf Y} {K : PySem.W.Frag} {H1 : Hp} {k1 : K3} {x : V} {a : D} {f : M1} (ok : Ok c) (hx : Is K H1 c k1 x a) (h : rcvD f a = true) : tyV K (tyM f) x c.H := by
  unfold rcvD at h
  split at h
  · rw [hx.str]; exact rfl
  · obtain ⟨p, vs, rfl, h1, r⟩ := hx.lst ok
    exact .inl ⟨rfl, vs, .inl (.inl h1)⟩
  · obtain ⟨p, vs, rfl, h1, r⟩ := hx.lst ok
    exact .inl ⟨rfl, vs, .inl (.inl h1)⟩
  · cases h
theorem countP_pys {e : D} (he : e.sh 60 = true) : ∀ (ds : List D), shs 59 ds = true → ((pys ds).countP fun z => PyData.eqv z e.py) = ds.countP fun y => deq y e
  | [], _ => rfl
  | d :: ds, h => by
    have h := Bool.and_eq_true_iff.mp h
    show (d.py :: pys ds).countP _ = _
    rw [List.countP_cons, List.countP_cons, countP_pys he ds h.2, py_eqv 59 60 d e h.1 he]
theorem pys_get {i : Nat} {ds : List D} : (pys ds)[i]? = ds[i]?.map D.py := by rw [pys_map, List.getElem?_map]
theorem m1_use {Y : Sys} {c : Cf Y} {K : PySem.W.Frag} {H1 H2 : Hp} {k1 k2 k : K3} {x y : V} {a b d : D} {f : M1} {Q : VK} (ok : Ok c) (hx : Is K H1 c k1 x a) (hy : Is K H2 c k2 y b) (e : m1D f a b = some (k, d)) (q : Fin K c k d Q) : rM K f x [y] c.H Q := by
  unfold m1D at e
  split at e
  · split at e
    · rename_i i rest ho
      cases e
      exact ⟨_, _, _, _, hx.str, by rw [hy.str], ho, q.here ok (.int _)⟩
    · cases e
  · split at e
    · rename_i ds hs
      have hs := Bool.and_eq_true_iff.mp hs
      obtain ⟨j, e1, e2⟩ := Option.map_eq_some_iff.mp e
      cases e2
      obtain ⟨g1, g2, g3⟩ := List.findIdx?_eq_some_iff_getElem.mp e1
      have hd := hx.dp ok (show (D.lst ds).sh 60 = true from hs.2)
      obtain ⟨p, vs, rfl, h1, r⟩ := hx.lst ok
      refine ⟨p, y, _, pys ds, j, (ds[j]).py, rfl, rfl, hd, hy.dp ok hs.1, shaped_lst hs.2, shaped_of hs.1, ?_, ?_, ?_, q.here ok (.int _)⟩
      · rw [pys_get, List.getElem?_eq_getElem g1]; rfl
      · rw [py_eqv 59 60 _ _ (shs_mem hs.2 _ (List.getElem_mem g1)) hs.1]; exact g2
      · intro m z hm hz
        have hml : m < ds.length := by omega
        rw [pys_get, List.getElem?_eq_getElem hml] at hz
        cases hz
        rw [py_eqv 59 60 _ _ (shs_mem hs.2 _ (List.getElem_mem hml)) hs.1]
        have := g3 m hm
        simpa using this
    · cases e
  · split at e
    · rename_i ds hs
      have hs := Bool.and_eq_true_iff.mp hs
      cases e
      have hd := hx.dp ok (show (D.lst ds).sh 60 = true from hs.2)
      obtain ⟨p, vs, rfl, h1, r⟩ := hx.lst ok
      refine ⟨p, vs, y, _, pys ds, rfl, rfl, .inl (.inl h1), pys_dp ok.sub r hs.2, hy.dp ok hs.1, shaped_lst hs.2, shaped_of hs.1, ?_⟩
      rw [countP_pys hs.1 ds hs.2]
      exact q.here ok (.int _)
    · cases e
  · cases e
/-! ### isinstance -/
def nmT : Ty → String
  | .int => "int" | .bool => "bool" | .tuple => "tuple" | .str => "str" | .list => "list"
theorem isi_use {Y : Sys} {c : Cf Y} {K : PySem.W.Frag} {H1 : Hp} {k1 : K3} {x : V} {a : D} {t : Ty} {b : Bool} {Q : VK} (ok : Ok c) (hx : Is K H1 c k1 x a) (e : isiD t a = some b) (q : Q (.bl b) c.H) : rIsi K [x, .ty (nmT t)] c.H Q := by
  have go : ∀ {s : String}, TyX K c.H x (.type s) → kitB s (nmT t) = some b → rIsi K [x, .ty (nmT t)] c.H Q := fun h1 h2 => ⟨x, _, _, _, b, rfl, .ty _, h1, kit_ty h2, q⟩
  cases a with
  | non =>
    rw [hx.non] at go ⊢
    refine go (.base .non) ?_
    cases t <;> (cases e; first | (show _ = some true; decide +kernel) | (show _ = some false; decide +kernel))
  | bl v =>
    rw [hx.bl] at go ⊢
    refine go (.base (.bl _)) ?_
    cases t <;> (cases e; first | (show _ = some true; decide +kernel) | (show _ = some false; decide +kernel))
  | int v =>
    rw [hx.int] at go ⊢
    refine go (.base (.int _)) ?_
    cases t <;> (cases e; first | (show _ = some true; decide +kernel) | (show _ = some false; decide +kernel))
  | str v =>
    rw [hx.str] at go ⊢
    refine go (.base (.str _)) ?_
    cases t <;> (cases e; first | (show _ = some true; decide +kernel) | (show _ = some false; decide +kernel))
  | tup ds =>
    obtain ⟨p, vs, rfl, h1, h1', r⟩ := hx.tup ok
    refine go (s := "tuple") ?_ ?_
    · rcases h1 with (h | ⟨o, h⟩) | ⟨o, its, n, hk, hc, _⟩
      · exact .base (.tup h)
      · exact .fTuple h
      · exact .kTuple hk hc
    · cases t <;> (cases e; first | (show _ = some true; decide +kernel) | (show _ = some false; decide +kernel))
  | lst ds =>
    obtain ⟨p, vs, rfl, h1, r⟩ := hx.lst ok
    refine go (.base (.lst h1)) ?_
    cases t <;> (cases e; first | (show _ = some true; decide +kernel) | (show _ = some false; decide +kernel))
  | dct _ => cases t <;> cases e
  | adr _ => cases t <;> cases e
  | scr _ => cases t <;> cases e
/-! ### what is walked -/
def iSeq (K : PySem.W.Frag) (tl : TE) : TI := fun σ H R => tl σ H fun x H1 => (∃ a, x = .ref a ∧ (∃ xs, SqL K H1 a xs) ∧ R (Itl K a) H1) ∨ (∃ a, x = .ref a ∧ (∃ xs, SqT K H1 a xs) ∧ R (Itt K a) H1) ∨ ∃ z, x = .str z ∧ R (Its z) H1
theorem pi_seq {X : Cx} {tg l : Expr} {tl : TE} (hl : PE X l tl) : PI X tg l (iSeq X.K tl) := by
  refine ⟨fun pins s σ H R I h => ?_⟩
  refine thn (hl.run pins s σ H _ I h) fun v s1 ⟨x, H1, I1, r1, q1⟩ => ?_
  rcases q1 with ⟨a, e, ⟨xs, hq⟩, q⟩ | ⟨a, e, ⟨xs, hq⟩, q⟩ | ⟨z, e, q⟩
  · subst e
    cases r1
    obtain ⟨its, rv, p, hz⟩ := I1.list hq
    refine wpAny_pyIter_list p.isList ?_
    refine ⟨s1.heap.objs.size, [s1.heap.objs.size], _, _, H1, rfl, I1.kept (t' := s1.toks) fun b o e => Heap.get?_push_of_some _ e, turn_list a _, ⟨_, Heap.get?_push_size _ rfl, rfl, rfl⟩, fun b hb => ?_, q⟩
    have e : b = s1.heap.objs.size := by simpa using hb
    subst e
    exact I1.fpOk (Nat.le_refl _) (I1.hok.fresh (Nat.le_refl _))
  · subst e
    cases r1
    obtain ⟨its, rv, p, hz⟩ := I1.tuple hq
    refine wpAny_pyIter_tuple (show s1.heap.IsTuple a its.toArray from p) ?_
    refine ⟨s1.heap.objs.size, [s1.heap.objs.size], _, _, H1, rfl, I1.kept (t' := s1.toks) fun b o e => Heap.get?_push_of_some _ e, turn_tuple a _, ⟨_, Heap.get?_push_size _ rfl, rfl, rfl⟩, fun b hb => ?_, q⟩
    have e : b = s1.heap.objs.size := by simpa using hb
    subst e
    exact I1.fpOk (Nat.le_refl _) (I1.hok.fresh (Nat.le_refl _))
  · subst e
    obtain ⟨t, rfl⟩ := r1
    cases ha : z.cps.all (· < 128)
    · exact wpAny_pyIter_wide ha (pi_one (tk := s1.toks) I1 _ (turn_str _ z t "str_iterator" (.inr rfl)) ⟨_, Heap.get?_push_size _ rfl, rfl, rfl⟩ q)
    · exact wpAny_pyIter_ascii ha (pi_one (tk := s1.toks) I1 _ (turn_str _ z t "str_ascii_iterator" (.inl rfl)) ⟨_, Heap.get?_push_size _ rfl, rfl, rfl⟩ q)
end Mf
set_option Elab.async false
set_option linter.all false
set_option maxRecDepth 100000
set_option maxHeartbeats 4000000
namespace Mf
open PySem L2 PySem.Spec PyProof.Rows
/-! ### sets of ints and texts, made from a list, then sorted -/
def kOf (e : Int × Value) : Key := match e.2 with | .int k _ => .inl k | .str x _ => .inr x | _ => .inl 0
def GdK (w : World) (e : Int × Value) : Prop := ∃ k : Key, RelV (kV k) e.2 ∧ e.1 = keyH w k
theorem kOf_rel {k : Key} {h : Int} {u : Value} (r : RelV (kV k) u) : kOf (h, u) = k := by
  cases k with
  | inl i => obtain ⟨t, e⟩ := (show ∃ t, u = Value.int i t from r); subst e; rfl
  | inr x => obtain ⟨t, e⟩ := (show ∃ t, u = Value.str x t from r); subst e; rfl
def memK (ks : List Key) (j : Key) : Bool := ks.any fun x => decide (x = j)
theorem memK_iff {ks : List Key} {j : Key} : memK ks j = true ↔ j ∈ ks := by
  unfold memK
  rw [List.any_eq_true]
  exact ⟨fun ⟨x, hx, e⟩ => of_decide_eq_true e ▸ hx, fun h => ⟨j, h, decide_eq_true rfl⟩⟩
def encK : Key → PyData
  | .inl i => .int i
  | .inr x => .str x
def SetM (w : World) (h : Heap) (a : Addr) (S : Key → Bool) (n : Nat) : Prop :=
  ∃ o es ep t, h.get? a = some o ∧ o.ExactSet ∧ o.data = .set es ep t ∧ (∀ e ∈ es.toList, GdK w e) ∧ (es.toList.map kOf).Nodup ∧ (∀ k, S k = true ↔ k ∈ es.toList.map kOf) ∧
    es.size < scanBound ∧ t.fits es.size = true ∧ es.size = n ∧ Ris t.place.toList ∧ (w.params.followText "set-order" = true ∨ t.led = true)
section
variable {P : Program} {w : World} {h h' : Heap} {a : Addr} {S : Key → Bool} {n : Nat}
theorem SetM.at (R : SetM w h a S n) (k : ∀ o, h.get? a = some o → h'.get? a = some o) : SetM w h' a S n := let ⟨o, es, ep, t, ho, r⟩ := R; ⟨o, es, ep, t, k o ho, r⟩
theorem SetM.congr {S' : Key → Bool} (R : SetM w h a S n) (e : ∀ k, S' k = S k) : SetM w h a S' n := by
  rw [show S' = S from funext e]; exact R
theorem gd_elems {l : List (Int × Value)} (g : ∀ e ∈ l, GdK w e) : ElemsOf (mixKind P w) l := fun e he => by
  obtain ⟨k, h1, h2⟩ := g e he
  exact ⟨⟨k, kV_is h1, h2⟩, key_scan h1⟩
theorem gd_is {e : Int × Value} (g : GdK w e) (k : Key) : (mixKind P w).is k e.2 = true ↔ kOf e = k := by
  obtain ⟨h0, u⟩ := e
  obtain ⟨k0, h1, _⟩ := g
  rw [kOf_rel h1]
  constructor
  · intro z
    exact (mixKind P w).inj u k0 k (kV_is h1) z
  · intro z; subst z; exact kV_is h1
theorem gd_mem {l : List (Int × Value)} (g : ∀ e ∈ l, GdK w e) (k : Key) : k ∈ l.map kOf ↔ ∃ e ∈ l, (mixKind P w).is k e.2 = true := by
  rw [List.mem_map]
  exact ⟨fun ⟨e, he, q⟩ => ⟨e, he, (gd_is (g e he) k).2 q⟩, fun ⟨e, he, q⟩ => ⟨e, he, (gd_is (g e he) k).1 q⟩⟩
end
section
variable {P : Program} {w : World} {A : Around} {E : Value → Shared → Prop} {s : Shared} {a : Addr} {S : Key → Bool} {n : Nat}
theorem setM_tail {g : Bool → PySem.Sem Unit} (hg : ∀ (b : Bool) (s₁ : Shared) (Q' : Unit → Shared → Prop), Q' () s₁ → wpAny (model P w) A (g b) Q' E s₁)
    {o : Obj} {es : Array (Int × Value)} {ep : Nat} {t : SetTable} (ho : s.heap.get? a = some o) (hex : o.ExactSet) (hd : o.data = .set es ep t)
    {es1 : Array (Int × Value)} {t2 : SetTable} {S' : Key → Bool} (g1 : ∀ e ∈ es1.toList, GdK w e) (nd1 : (es1.toList.map kOf).Nodup) (m1 : ∀ k, S' k = true ↔ k ∈ es1.toList.map kOf)
    (hb1 : es1.size < scanBound) (hf2 : t2.fits es1.size = true) (hr : Ris t2.place.toList) (hl : w.params.followText "set-order" = true ∨ t2.led = true) {wasD : Bool} {R : Option Bool → Shared → Prop}
    (hR : ∀ h', Heap.SameBut a s.heap h' → SetM w h' a S' es1.size → R (some true) { s with heap := h' }) :
    wpAny (model P w) A (do
        storeSet a es1 t2
        if (!wasD && t2.tooFull) = true then do
            g (relayAll t2 es1 (SetTable.grown es1.size)).2.2; storeSet a (relayAll t2 es1 (SetTable.grown es1.size)).1 (relayAll t2 es1 (SetTable.grown es1.size)).2.1
            pure (some true)
          else pure (some true)) R E s := by
  refine wpAny_bind (wpAny_storeSet_of ho hd ?_ (fits_of_scanBound hb1))
  have ho1 := store_at (es' := es1) (t' := t2) ho hd
  have sb1 := Heap.SameBut.update s.heap a (Obj.putSet es1 t2)
  split
  · have q1 := relayAll_perm t2 es1 (SetTable.grown es1.size)
    have q2 := relayAll_fits t2 es1 (SetTable.grown es1.size)
    have q3 := relayAll_ris t2 es1 (SetTable.grown es1.size)
    have q4 := relayAll_led t2 es1 (SetTable.grown es1.size)
    generalize relayAll t2 es1 (SetTable.grown es1.size) = Z at q1 q2 q3 q4 ⊢
    obtain ⟨es2, t3, gv⟩ := Z
    dsimp only at q1 q2 q3 q4 ⊢
    have hsz : es2.size = es1.size := by rw [← Array.length_toList, q1.length_eq, Array.length_toList]
    have hb2 : es2.size < scanBound := hsz ▸ hb1
    refine wpAny_bind (hg _ _ _ (wpAny_bind (wpAny_storeSet_of ho1 rfl (wpAny_pure (hR _ (sb1.trans (Heap.SameBut.update _ a _)) ?_)) (fits_of_scanBound hb2))))
    exact ⟨_, es2, _, t3, store_at (es' := es2) (t' := t3) ho1 rfl, hex, rfl, fun e he => g1 e (q1.mem_iff.mp he), (q1.map kOf).nodup_iff.mpr nd1, fun k => (m1 k).trans (q1.map kOf).mem_iff.symm, hb2, q2, hsz, q3, hl.imp id fun z => by rw [q4]; exact z⟩
  · exact wpAny_pure (hR _ sb1 ⟨_, es1, _, t2, ho1, hex, rfl, g1, nd1, m1, hb1, hf2, rfl, hr, hl⟩)
theorem setM_add {k : Key} {u : Value} (ru : RelV (kV k) u) {Q : Bool → Shared → Prop} (R : SetM w s.heap a S n) (room : n + 1 < scanBound)
    (hQ : ∀ h', Heap.SameBut a s.heap h' → SetM w h' a (fun j => S j || decide (j = k)) (if S k = true then n else n + 1) → Q (!S k) { s with heap := h' }) :
    wpAny (model P w) A (setAddHashed a u ((mixKind P w).hash k)) Q E s := by
  obtain ⟨o, es, ep, t, ho, hex, hd, g, nd, hm, hb, hf, hn, hr, hl⟩ := R
  have hsc : u.scannable = true := key_scan ru
  have hel : ElemsOf (mixKind P w) es.toList := gd_elems g
  unfold setAddHashed setAddHashedIn
  refine wpAny_holding (wpAny_bind (wpAny_setState_of ho hd hf ?_))
  dsimp only
  rw [byScan_of hsc hb hel]
  simp only [↓reduceIte]
  unfold setAddByScan
  refine wpAny_bind (wpAny_bind (wpAny_rule (wpAny_bind (wpAny_setScan_of (kV_is (P := P) ru) ho hd hf hel ?_))))
  cases hfi : List.findIdx? (fun e => (mixKind P w).is k e.2) es.toList with
  | some j =>
    dsimp only
    obtain ⟨hj, pj, _⟩ := List.findIdx?_eq_some_iff_getElem.mp hfi
    have hSk : S k = true := (hm k).2 ((gd_mem (P := P) (w := w) g k).2 ⟨es.toList[j], List.getElem_mem hj, pj⟩)
    have q := hQ s.heap (Heap.SameBut.refl a s.heap) ⟨o, es, ep, t, ho, hex, hd, g, nd, fun i => by
      rw [Bool.or_eq_true, decide_eq_true_eq, ← hm i]; exact ⟨fun z => z.elim id (fun e => e ▸ hSk), .inl⟩, hb, hf, by rw [if_pos hSk]; exact hn, hr, hl⟩
    rw [hSk] at q
    exact wpAny_pure (wpAny_pure q)
  | none =>
    dsimp only
    have hnk : k ∉ es.toList.map kOf := fun z => by
      obtain ⟨e, he, q⟩ := (gd_mem (P := P) (w := w) g k).1 z
      have c := List.findIdx?_eq_none_iff.mp hfi e he
      rw [q] at c; cases c
    have hSk : S k = false := by
      cases q : S k with
      | false => rfl
      | true => exact absurd ((hm k).1 q) hnk
    have hgw : ∀ (b : Bool) {s₁ : Shared} {Q' : Unit → Shared → Prop}, Q' () s₁ → wpAny (model P w) A (match b with | true => rule "set.scan.the-table-gave-way" | false => pure ()) Q' E s₁ := fun b s₁ Q' q => by
      cases b
      · exact wpAny_pure q
      · exact wpAny_rule q
    have q1 := layNew_perm t es ((mixKind P w).hash k) u
    have q2 := layNew_fits t es ((mixKind P w).hash k) u
    have q3 := layNew_ris t es ((mixKind P w).hash k) u hr
    have q4 := layNew_led t es ((mixKind P w).hash k) u
    generalize layNew t es ((mixKind P w).hash k) u = Z at q1 q2 q3 q4 ⊢
    obtain ⟨es1, t1, wd, gv⟩ := Z
    dsimp only at q1 q2 q3 q4 ⊢
    rw [Array.toList_push] at q1
    have pc : es1.toList.Perm (((mixKind P w).hash k, u) :: es.toList) := q1.trans (List.perm_append_singleton _ _)
    have pk : (es1.toList.map kOf).Perm (k :: es.toList.map kOf) := by
      have := pc.map kOf
      rwa [List.map_cons, kOf_rel ru] at this
    have g1 : ∀ e ∈ es1.toList, GdK w e := fun e he => by
      rcases List.mem_cons.mp (pc.mem_iff.mp he) with z | z
      · rw [z]; exact ⟨k, ru, rfl⟩
      · exact g e z
    have nd1 : (es1.toList.map kOf).Nodup := pk.nodup_iff.mpr (List.nodup_cons.mpr ⟨hnk, nd⟩)
    have m1 : ∀ i, (S i || decide (i = k)) = true ↔ i ∈ es1.toList.map kOf := fun i => by
      rw [Bool.or_eq_true, decide_eq_true_eq, hm i, pk.mem_iff, List.mem_cons]; exact Or.comm
    have hsz : es1.size = n + 1 := by rw [← Array.length_toList, pc.length_eq, List.length_cons, Array.length_toList, hn]
    have hb1 : es1.size < scanBound := hsz ▸ room
    have hled : w.params.followText "set-order" = true ∨ t1.led = true := hl.imp id fun z => by rw [q4]; exact z
    have fin : ∀ h', Heap.SameBut a s.heap h' → SetM w h' a (fun j => S j || decide (j = k)) es1.size → Q true { s with heap := h' } := fun h' sb r => by
      have q := hQ h' sb
      rw [hSk] at q; rw [hsz] at r
      exact q r
    refine wpAny_bind (hgw _ ?_)
    have hg2 : ∀ (b : Bool) (s₁ : Shared) (Q' : Unit → Shared → Prop), Q' () s₁ → wpAny (model P w) A (match b with | true => rule "set.scan.the-table-gave-way" | false => pure ()) Q' E s₁ := fun b s₁ Q' q => hgw b q
    split
    · refine wpAny_bind ?_
      rw [hashByValue_scannable 8 hsc]
      refine wpAny_pure (setM_tail ?_ ho hex hd g1 nd1 m1 hb1 ?_ ?_ ?_ ?_)
      · intro b s₁ Q' q; cases b <;> first | exact wpAny_pure q | exact wpAny_rule q
      · first | (split <;> first | exact q2 | exact SetTable.fits_plain_off q2) | exact q2
      · first | (split <;> exact q3) | exact q3
      · first | (split <;> exact hled) | exact hled
      · intro h' sb r; dsimp only; exact wpAny_pure (fin h' sb r)
    · refine wpAny_bind (wpAny_pure ?_)
      simp only [↓reduceIte]
      refine setM_tail ?_ ho hex hd g1 nd1 m1 hb1 q2 q3 hled ?_
      · intro b s₁ Q' q; cases b <;> first | exact wpAny_pure q | exact wpAny_rule q
      · intro h' sb r; dsimp only; exact wpAny_pure (fin h' sb r)
/-- the loop of set(l) -/
theorem setM_loop {I : Addr} {fp wr : List Addr} {G : Array GenState → Array GenState → Prop} {n : Nat} {Pv : Nat → Value → Prop} {St : Nat → Shared → Prop} {R : Result → Shared → Prop}
    (W : WalksS P w A.in1 I fp wr G n Pv St) (D : Addr) (hSf : D ∉ fp) (ks : List Key) (hn : n = ks.length) (hb : ks.length + 1 < scanBound) (hval : ∀ i v, Pv i v → ∃ k, ks[i]? = some k ∧ RelV (kV k) v) :
    ∀ (k i : Nat) (s : Shared), n - i = k → i ≤ n → St i s → (∃ c, c ≤ i ∧ SetM w s.heap D (memK (ks.take i)) c) →
      (∀ s' c, Moved (D :: wr) G s s' → c ≤ n → SetM w s'.heap D (memK ks) c → R (.ok (.ret .none)) s') → codeAny (model P w) A (.builtin "set.update.loop" ⟨[.ref D, .ref I], []⟩) R s := by
  have hSw : D ∉ wr := fun h => hSf (W.sub _ h)
  have hsub : ∀ b ∈ wr, b ∈ D :: wr := fun b hb => List.mem_cons_of_mem _ hb
  intro k
  induction k with
  | zero =>
    intro i s hk' hi hst ⟨c, hc, hS⟩ hR
    obtain rfl : i = n := by omega
    refine codeAny_builtin F.entry_set_update_loop ?_
    rw [Around.under_plainId F.plain_set_update_loop _]
    show wpAny _ A.in1 (pyNext (.ref I) >>= _) _ _ s
    refine wpAny_bind (W.done s _ _ hst fun s' hm => ?_)
    show wpAny _ A.in1 (ret Value.none) _ _ s'
    rw [show ks.take i = ks from List.take_of_length_le (by omega)] at hS
    exact wpAny_pure (hR s' c (hm.mono hsub) hc (hS.at fun o e => hm.heap D o hSw e))
  | succ k ih =>
    intro i s hk' hi hst ⟨c, hc, hS⟩ hR
    have hlt : i < n := by omega
    refine codeAny_builtin F.entry_set_update_loop ?_
    rw [Around.under_plainId F.plain_set_update_loop _]
    show wpAny _ A.in1 (pyNext (.ref I) >>= _) _ _ s
    refine wpAny_bind (W.item i s _ _ hlt hst fun v s' hP hst' hm => ?_)
    obtain ⟨z, hz, rv⟩ := hval i v hP
    have hS' : SetM w s'.heap D (memK (ks.take i)) c := hS.at fun o e => hm.heap D o hSw e
    show wpAny _ A.in1 (holding [v] (setAdd D v) >>= _) _ _ s'
    refine wpAny_bind (wpAny_holding ?_)
    unfold setAdd
    refine wpAny_holding (wpAny_bind ((mixKind P w).pyHash (k := z) (kV_is rv) ?_))
    refine setM_add (s := { s' with toks := s'.toks + 1 }) rv hS' (by omega) fun h' hsb hS2 => ?_
    have hS3 : SetM w h' D (memK (ks.take (i + 1))) (if memK (ks.take i) z = true then c else c + 1) := hS2.congr fun j => by
      unfold memK
      rw [List.take_add_one, hz, List.any_append]
      simp [eq_comm]
    have hc3 : (if memK (ks.take i) z = true then c else c + 1) ≤ i + 1 := by split <;> omega
    refine wpAny_pure ⟨plainId_quiet F.plain_set_update_loop _, ih (i + 1) _ (by omega) hlt (W.frame _ s' _ _ hst' (Nat.le_succ _) fun b hb o e => (hsb.2 b (fun h : b = D => hSf (h ▸ hb))).trans e) ⟨_, hc3, hS3⟩ fun s'' c2 hm'' hc'' hS'' => ?_⟩
    exact hR s'' c2 (Moved.trans W.gtrans ((hm.mono hsub).then_heap (Nat.le_succ _) fun b o hb e => (hsb.2 b (fun h : b = D => hb (h ▸ List.mem_cons_self))).trans e) hm'') hc'' hS''
theorem setM_new {h : Heap} {ks : List Key} (ho : h.get? a = some { cls := .type "set", dict := none, data := .set #[] 0 (.fresh 0 0 (!w.params.followText "set-order")) }) : SetM w h a (memK (ks.take 0)) 0 := by
  refine ⟨_, #[], 0, _, ho, ⟨rfl, rfl, rfl⟩, rfl, (fun e he => by simp at he), (by simp), (fun k => by simp [memK]), (by decide), (by rfl), rfl, List.Pairwise.nil, ?_⟩
  show _ ∨ (!w.params.followText "set-order") = true
  cases w.params.followText "set-order" <;> simp
/-- set(l) -/
theorem setM_call {l : Addr} {items : Array Value} (ks : List Key) {Q : Value → Shared → Prop} (hh : A.handled = none) (hl : s.heap.IsList l items) (hit : Vals (ks.map kV) items.toList) (hb : ks.length + 1 < scanBound)
    (h : ∀ (h' : Heap) (tk c : Nat), SetM w h' s.heap.objs.size (memK ks) c → c ≤ ks.length → (∀ b o, s.heap.get? b = some o → h'.get? b = some o) → Q (.ref s.heap.objs.size) { s with heap := h', toks := tk }) :
    wpAny (model P w) A (call (.type "set") [.ref l]) Q E s := by
  have hisz : items.size = ks.length := by
    have q := hit.length
    rw [List.length_map, Array.length_toList] at q
    exact q.symm
  obtain ⟨c, tl, hmro⟩ := F.called_set.mro
  have hmade := F.called_set.made
  have hsub := F.called_set.sub
  refine wpAny_call (codeAny_of_tree ?_)
  show wpAny _ _ (callAny (.type "set") _) _ _ _
  refine wpAny_pure ⟨Code.quiet_builtin _ (by decide +kernel), codeAny_builtin F.entry_type_call ?_⟩
  rw [Around.under_plain (weight_type_call_type "set" [.ref l] []) rfl]
  have h1 := F.called_set.notType
  have h2 := F.called_set.canCreate
  have hct := F.typeCall_set_1 (.ref l)
  repeat (any_goals (first | assumption | wp_step))
  refine codeAny_mono (code_set_led1 (.ref l) (E := E) (Q₁ := fun obj s₁ => obj = .ref s.heap.objs.size ∧ s₁ = { s with heap := s.heap.push { cls := .type "set", dict := none, data := .set #[] 0 (.fresh 0 0 (!w.params.followText "set-order")) } }) ⟨rfl, rfl⟩) fun r s₁ hr => ?_
  cases r with
  | error e => exact hr
  | ok fl =>
    cases fl with
    | ret obj =>
      obtain ⟨rfl, rfl⟩ := hr
      have hNw : (s.heap.push { cls := .type "set", dict := none, data := .set #[] 0 (.fresh 0 0 (!w.params.followText "set-order")) }).get? s.heap.objs.size = some { cls := .type "set", dict := none, data := .set #[] 0 (.fresh 0 0 (!w.params.followText "set-order")) } := Heap.get?_push_size _ rfl
      have hTy : Shared.TypeIs { s with heap := s.heap.push { cls := .type "set", dict := none, data := .set #[] 0 (.fresh 0 0 (!w.params.followText "set-order")) } } (.ref s.heap.objs.size) "set" := ⟨_, hNw, rfl⟩
      have hli := F.called_set.init.lookup
      have hbi := F.called_set.init.bind (.ref s.heap.objs.size)
      repeat (any_goals (first | assumption | wp_step))
      refine codeAny_mono (codeAny_call_builtin (R := wants (fun r s₂ => r = .none ∧ ∃ h' tk c, s₂ = { s with heap := h', toks := tk } ∧ SetM w h' s.heap.objs.size (memK ks) c ∧ c ≤ ks.length ∧ (∀ b o, s.heap.get? b = some o → h'.get? b = some o)) E) F.called_set.init.plain F.entry_set_init (check_set_init_1 hTy ?_)) fun r₂ s₂ hr₂ => ?_
      · obtain ⟨⟨ocls, odict, odata, oslots⟩, hol, hcl, nl, hdl⟩ := hl
        simp only at hcl hdl
        subst hcl; subst hdl
        have hol' : (s.heap.push { cls := .type "set", dict := none, data := .set #[] 0 (.fresh 0 0 (!w.params.followText "set-order")) }).get? l = some { cls := .type "list", dict := odict, data := .seq items nl, slots := oslots } := Heap.get?_push_of_some _ hol
        have hsls := PySem.F.sub_list_set
        have hslf := PySem.F.sub_list_frozenset
        have hne : (Value.type "list" == Value.type "dict") = false := by decide
        have hl1 : (s.heap.push { cls := .type "set", dict := none, data := .set #[] 0 (.fresh 0 0 (!w.params.followText "set-order")) }).IsList l items := ⟨_, hol', rfl, nl, rfl⟩
        unfold Builtin.«set.__init__» noKeywords Builtin.Frozenset.updateFrom
        generalize hPI : pyIter = PI
        wp_walk
        subst hPI
        refine wpAny_pyIter_list hl1 ?_
        refine wpAny_bind (wpAny_runValue ?_)
        have hlS : l < s.heap.objs.size := Heap.lt_size hol
        have hh3 : A.in1.in1.in1.handled = none := by simp [hh]
        have hneI : l ≠ (s.heap.push { cls := .type "set", dict := none, data := .set #[] 0 (.fresh 0 0 (!w.params.followText "set-order")) }).objs.size := by rw [Heap.size_push]; exact Nat.ne_of_lt (Nat.lt_succ_of_lt hlS)
        have hSf : s.heap.objs.size ∉ [(s.heap.push { cls := .type "set", dict := none, data := .set #[] 0 (.fresh 0 0 (!w.params.followText "set-order")) }).objs.size, l] := by
          rw [Heap.size_push]; simp only [List.mem_cons, List.mem_singleton, List.not_mem_nil, or_false, not_or]
          exact ⟨Nat.ne_of_lt (Nat.lt_succ_self _), Nat.ne_of_gt hlS⟩
        have hval : ∀ (i : Nat) (v : Value), items[i]? = some v → ∃ k, ks[i]? = some k ∧ RelV (kV k) v := fun i v hv => by
          have hi : i < ks.length := by rw [← hisz]; exact (Array.getElem?_eq_some_iff.mp hv).1
          obtain ⟨u, hu, ru⟩ := hit.get (i := i) (x := kV ks[i]) (by simp [hi])
          refine ⟨ks[i], List.getElem?_eq_getElem hi, ?_⟩
          rw [Array.getElem?_toList, hv] at hu
          exact (Option.some.inj hu) ▸ ru
        refine setM_loop ((Walks.list hh3 _ l hneI items).toS) s.heap.objs.size hSf ks hisz hb hval (items.size - 0) 0 _ (by omega) (Nat.zero_le _) ⟨⟨_, Heap.get?_push_size _ rfl, rfl, rfl⟩, (hl1.push _)⟩ ?hS0 ?hR
        case hS0 => exact ⟨0, Nat.le_refl 0, setM_new (Heap.get?_push_of_some _ hNw)⟩
        case hR =>
          intro s' c' hm hc' hS'
          obtain ⟨h', g2, d', tk', os'⟩ := s'
          obtain rfl : g2 = s.gens := hm.gens
          obtain rfl : d' = s.drawn := hm.drawn
          obtain rfl : os' = s.os := hm.os
          show wpAny _ _ _ _ _ _
          refine wpAny_pure ?_
          show wpAny _ _ (ret Value.none) _ _ _
          refine wpAny_pure ⟨rfl, h', tk', c', rfl, hS', by omega, fun b o e => ?_⟩
          have hb0 : b < s.heap.objs.size := Heap.lt_size e
          exact hm.heap b o (fun z => by
            rw [Heap.size_push] at z
            rcases List.mem_cons.mp z with z | z
            · exact absurd z (Nat.ne_of_lt hb0)
            · exact absurd (List.mem_singleton.mp z) (Nat.ne_of_lt (Nat.lt_succ_of_lt hb0))) (Heap.get?_push_of_some _ (Heap.get?_push_of_some _ e))
      · cases r₂ with
        | error e => exact hr₂
        | ok fl₂ =>
          cases fl₂ with
          | ret r =>
            obtain ⟨rfl, h', tk, c', rfl, hS', hc', hk'⟩ := hr₂
            repeat (any_goals (first | assumption | wp_step))
            exact h _ _ _ hS' hc' hk'
          | _ => exact hr₂.elim
    | _ => exact hr.elim
/-- sorted of such a set -/
theorem setM_sorted {k0 : Bool} {Q : Value → Shared → Prop} (R : SetM w s.heap a S n) (hh : A.handled = none) (hs : ∀ k, S k = true → k.isLeft = k0) (hz : n ≤ 1000) (hu : A.units + 65 < cLine)
    (hQ : ∀ s' p (out : List Value) (c : Nat) (bs : List Key), (∀ b o, s.heap.get? b = some o → s'.heap.get? b = some o) → s'.gens = s.gens → s'.os = s.os → s.heap.objs.size ≤ p →
      s'.heap.get? p = some (seqObj "list" out.toArray c) → Vals (bs.map kV) out → bs.Nodup → (∀ k, k ∈ bs ↔ S k = true) → bs.Pairwise (fun x y => PySem.W.dataLe false encK x y = true) → Q (.ref p) s') :
    wpAny (model P w) A (call (.builtin "sorted") [.ref a]) Q E s := by
  obtain ⟨o, es, ep, t, ho, hex, hd, g, nd, hm, hb, hf, hn, hr, hl⟩ := R
  refine Calls.call_function_entry kind_sorted plain_sorted entry_sorted (args_sorted1 _) ?_
  unfold Builtin.«sorted»
  refine wpAny_bind (m := checkCount "sorted" 1 1 _) (wpAny_pure ?_)
  refine wpAny_bind (collect_set (A := A.in1) hh ⟨o, ho, hex.1, hd⟩ hf hb hr hl fun s1 vs k1 hz1 g1 o1 pm => ?_)
  have hvl : vs.length = n := by rw [pm.length_eq, List.length_map, Array.length_toList]; exact hn
  let bs := vs.map fun v => kOf (0, v)
  have hvals : Vals (bs.map kV) vs := by
    have : ∀ l : List Value, (∀ v ∈ l, ∃ k : Key, RelV (kV k) v) → Vals ((l.map fun v => kOf (0, v)).map kV) l := by
      intro l
      induction l with
      | nil => intro _; exact .nil
      | cons v l ih =>
        intro hv
        obtain ⟨k, rk⟩ := hv v List.mem_cons_self
        refine .cons ?_ (ih fun u hu => hv u (List.mem_cons_of_mem _ hu))
        show RelV (kV (kOf (0, v))) v
        rw [kOf_rel rk]
        exact rk
    refine this vs fun v hv => ?_
    obtain ⟨e, he, q⟩ := List.mem_map.mp (pm.mem_iff.mp hv)
    obtain ⟨k, rk, _⟩ := g e he
    exact ⟨k, q ▸ rk⟩
  have pk : bs.Perm (es.toList.map kOf) := by
    have q := pm.map fun v => kOf (0, v)
    rw [List.map_map] at q
    exact q
  have hmem : ∀ k, k ∈ bs ↔ S k = true := fun k => by rw [pk.mem_iff, ← hm k]
  refine wpAny_bind (wpAny_newList ?_ (by rw [hvl, sizeLine_eq]; omega))
  have hoL : (s1.heap.push (seqObj "list" vs.toArray 0)).get? s1.heap.objs.size = some (seqObj "list" vs.toArray 0) := Heap.get?_push_size _ rfl
  have each : ∀ {ks : List Key} {us : List Value}, Vals (ks.map kV) us → PySem.W.EachIs (fun u (k : Key) => RelV (kV k) u) us ks := fun {ks} => by
    induction ks with
    | nil => intro us h; cases h; exact .nil
    | cons k ks ih => intro us h; cases h with | cons h1 h2 => exact .cons h1 (ih h2)
  have unea : ∀ {ks : List Key} {us : List Value}, PySem.W.EachIs (fun u (k : Key) => RelV (kV k) u) us ks → Vals (ks.map kV) us := fun {ks} => by
    induction ks with
    | nil => intro us h; cases h; exact .nil
    | cons k ks ih => intro us h; cases h with | cons h1 h2 => exact .cons h1 (ih h2)
  have hal : PySem.W.AllAlike (bs.map encK) := fun d hd d' hd' => by
    obtain ⟨x, hx, rfl⟩ := List.mem_map.mp hd
    obtain ⟨y, hy, rfl⟩ := List.mem_map.mp hd'
    have ex := hs x ((hmem x).mp hx)
    have ey := hs y ((hmem y).mp hy)
    cases x <;> cases y <;> first | rfl | (rw [← ex] at ey; cases ey)
  have hso : PySem.W.Sortable (bs.map encK) := .inr fun d hd => by
    obtain ⟨x, hx, rfl⟩ := List.mem_map.mp hd
    cases x <;> exact ⟨fun z => (nomatch z), fun _ z => (nomatch z)⟩
  have er : PySem.W.EachIs (fun v k => ∃ as, Reads (s1.heap.push (seqObj "list" vs.toArray 0)) v (encK k) as ∧ s1.heap.objs.size ∉ as) vs bs := by
    refine (each hvals).mono fun v k rk => ?_
    cases k with
    | inl i => obtain ⟨t, e⟩ := (show ∃ t, v = Value.int i t from rk); subst e; exact ⟨[], .int _ _, fun z => (nomatch z)⟩
    | inr x => obtain ⟨t, e⟩ := (show ∃ t, v = Value.str x t from rk); subst e; exact ⟨[], .str _ _, fun z => (nomatch z)⟩
  have hbl : bs.length = n := by rw [List.length_map, hvl]
  refine wpAny_bind (wpAny_holding (PySem.W.list_sort_data (R := fun u (k : Key) => RelV (kV k) u) (enc := encK) hoL (each hvals) er hal hso (by rw [hbl, sizeLine_eq]; omega) (fun b _ => ?_) fun out ho' eo => ?_))
  · have : (encK b).depth = 0 := by cases b <;> rfl
    rw [this]
    show A.units + 1 + 1 + 0 < cLine
    omega
  · obtain ⟨c, hc⟩ := sortedHeap_at (vs := vs) (out := out.toArray) hoL
    have pms : (bs.mergeSort (PySem.W.dataLe false encK)).Perm bs := List.mergeSort_perm _ _
    refine wpAny_pure ⟨_, rfl, hQ { s1 with heap := sortedHeap (s1.heap.push (seqObj "list" vs.toArray 0)) s1.heap.objs.size vs out.toArray } s1.heap.objs.size out c (bs.mergeSort (PySem.W.dataLe false encK)) (fun b u e => ?_) g1 o1 hz1 hc (unea eo) (pms.nodup_iff.mpr (pk.nodup_iff.mpr nd)) (fun k => by rw [pms.mem_iff]; exact hmem k) ?_⟩
    · have q := k1 b u e
      have hlt := Heap.lt_size q
      show (sortedHeap (s1.heap.push (seqObj "list" vs.toArray 0)) s1.heap.objs.size vs out.toArray).get? b = some u
      rw [sortedHeap_old (Nat.ne_of_lt hlt) (by rw [size_push']; exact Nat.lt_succ_of_lt hlt)]
      exact Heap.get?_push_of_some _ q
    · have tot := PySem.W.sortLe_total (PyProof.Rows.listOrd PyProof.Rows.itemOrd) false fun k : Key => PySem.W.keyToks (encK k)
      exact List.pairwise_mergeSort (le := PySem.W.dataLe false encK) (fun a b c h1 h2 => tot.trans a b c h1 h2) (fun a b => by rcases tot.total a b with z | z <;> (rw [Bool.or_eq_true]; first | exact .inl z | exact .inr z)) _
end
end Mf
set_option Elab.async false
set_option linter.all false
set_option maxRecDepth 100000
set_option maxHeartbeats 1000000
namespace Mf
open PySem L2

/-! ### readings by the evaluator -/
section
variable {Y : Sys} (K : PySem.W.Frag) (mg : Str → Option Value) (W : WX)
def Post {α β : Type} (σ : L2.St) (c : Cf Y) (J : β → Cf Y → α → Prop) (Q : β → Hp → Prop) : Res Y.S α → Prop
  | .ok a s' => ∀ b (c' : Cf Y), c'.s = s' → Step c c' → Ok c' → J b c' a → Q b c'.H
  | .ex x s' => ∀ C (c' : Cf Y), mg x = some (.ref C) → c'.s = s' → Step c c' → Ok c' → W (.ref C) none σ c'.H
  | .er => False
def tR {α β : Type} (J : Cf Y → β → Cf Y → α → Prop) (f : List SV → Y.S → Res Y.S α) : L2.St → Hp → (β → Hp → Prop) → Prop :=
  fun σ H Q => ∃ (c : Cf Y) (H0 : Hp) (ρ : List SV), c.H = H ∧ Ok c ∧ Rel K H0 c σ ρ ∧ Post mg W σ c (J c) Q (f ρ c.s)
def JE (c : Cf Y) (v : V) (c' : Cf Y) (a : K3 × D) : Prop := Is K c.H c' a.1 v a.2
def JB (_ : Cf Y) (b : Bool) (_ : Cf Y) (a : Bool) : Prop := b = a
def JA (_ : Cf Y) (vs : List V) (c' : Cf Y) (ds : List D) : Prop := Reps K c'.F vs ds
/-- an item: data, or (of a zip, to be taken apart at once) a tuple of data -/
def RepW (z : Bool) (F : Hp) (v : V) (d : D) : Prop := Rep K F v d ∨ (z = true ∧ ∃ a vs ds, v = .ref a ∧ d = .tup ds ∧ SqT K F a vs ∧ Reps K F vs ds)
def zipI {S : Type} : CI S → Bool
  | .zip _ _ => true
  | _ => false
def Gd (z : Bool) (J : It) (G : Cf Y → Prop) (ds : List D) : Prop :=
  ∀ c : Cf Y, G c → Ok c → ∀ i : Nat, (ds.length ≤ i → J.stop i c.H) ∧
    ∀ d, ds[i]? = some d → J.go i c.H ∧ ∀ x H', J.yld i c.H x H' → ∃ c' : Cf Y, c'.H = H' ∧ c'.s = c.s ∧ Step c c' ∧ Ok c' ∧ RepW K z c'.F x d
def JI (st z : Bool) (_ : Cf Y) (J : It) (c' : Cf Y) (ds : List D) : Prop := ∃ G : Cf Y → Prop, Gd K z J G ds ∧ ∀ c'', (if st = true then Sub c'.F c''.F else Step c' c'') → G c''
abbrev tE (e : CE Y.S) : TE := tR K mg W (JE K) (ev e)
abbrev tT (e : CE Y.S) : TT := tR K mg W JB (fun ρ s => (ev e ρ s).bind tru)
abbrev tA (es : CA Y.S) : TA := tR K mg W (JA K) (evA es)
abbrev tI (st : Bool) (it : CI Y.S) : TI := tR K mg W (JI K st (zipI it)) (evI st it)
end
section
variable {Y : Sys} {K : PySem.W.Frag} {mg : Str → Option Value} {W : WX} {α β γ δ : Type} {σ : L2.St} {c c' : Cf Y} {H0 : Hp} {ρ : List SV}
theorem Post.shift {J J' : β → Cf Y → α → Prop} {Q : β → Hp → Prop} {r : Res Y.S α} (h : Post mg W σ c J Q r) (t : Step c c') (ok : Ok c') (hJ : ∀ b c'' a, J' b c'' a → J b c'' a) : Post mg W σ c' J' Q r := by
  cases r with
  | ok a s' => exact fun b c'' e t' ok'' j => h b c'' e (t.trans ok t') ok'' (hJ b c'' a j)
  | ex x s' => exact fun C c'' m e t' ok'' => h C c'' m e (t.trans ok t') ok''
  | er => exact h
theorem JE.back (t : Step c c') (ok : Ok c') (v : V) (c'' : Cf Y) (a : K3 × D) (h : JE K c' v c'' a) : JE K c v c'' a := Is.back h fun _ z => t.back ok z
theorem Post.shiftE {Q : VK} {r : Res Y.S (K3 × D)} (h : Post mg W σ c (JE K c) Q r) (t : Step c c') (ok : Ok c') : Post mg W σ c' (JE K c') Q r := h.shift t ok (JE.back t ok)
theorem tR.bind {J : Cf Y → β → Cf Y → α → Prop} {f : List SV → Y.S → Res Y.S α} {J' : γ → Cf Y → δ → Prop} {Q' : γ → Hp → Prop} {R : α → Y.S → Res Y.S δ} {Qa : β → Hp → Prop}
    (ok : Ok c) (rel : Rel K H0 c σ ρ) (h : Post mg W σ c J' Q' ((f ρ c.s).bind R))
    (k : ∀ b (c' : Cf Y) a, f ρ c.s = .ok a c'.s → Step c c' → Ok c' → Rel K H0 c' σ ρ → J c b c' a → Post mg W σ c J' Q' (R a c'.s) → Qa b c'.H) : tR K mg W J f σ c.H Qa := by
  refine ⟨c, H0, ρ, rfl, ok, rel, ?_⟩
  cases e : f ρ c.s with
  | ok a s' =>
    rw [e] at h
    intro b c' es t ok' j
    subst es
    exact k b c' a e t ok' (rel.step t) j h
  | ex x s' => rw [e] at h; exact h
  | er => rw [e] at h; exact h
theorem Post.fin {J : β → Cf Y → α → Prop} {Q : β → Hp → Prop} {a : α} {b : β} (h : Post mg W σ c J Q (.ok a c.s)) (ok : Ok c) (j : J b c a) : Q b c.H := h b c rfl (Step.refl c) ok j
/-- the machine's step behind the operands -/
theorem Post.fi {Q : VK} {k : K3} {d : D} (h : Post mg W σ c (JE K c) Q (.ok (k, d) c.s))   : Mf.Fin K c k d Q := fun v c' e t ok i => h v c' e t ok i
theorem Post.lift {Q : VK} {o : Option (K3 × D)} (h : Post mg W σ c (JE K c) Q (liftO c.s o)) : ∃ k d, o = some (k, d) ∧ Mf.Fin K c k d Q := by
  cases o with
  | none => exact h.elim
  | some x => exact ⟨x.1, x.2, rfl, h.fi⟩
theorem Post.kd {Q : VK} {o : Option D} (h : Post mg W σ c (JE K c) Q (kd c.s o)) : ∃ d, o = some d ∧ Mf.Fin K c .v d Q := by
  cases o with
  | none => exact h.elim
  | some x => exact ⟨x, rfl, h.fi⟩
theorem Post.tru {J : β → Cf Y → α → Prop} {Q : β → Hp → Prop} {R : Bool → Y.S → Res Y.S α} {x : K3 × D} {s : Y.S} (h : Post mg W σ c J Q ((Mf.tru x s).bind R)) : ∃ b, x.2 = .bl b ∧ Post mg W σ c J Q (R b s) := by
  obtain ⟨k, d⟩ := x
  cases d with
  | bl b => exact ⟨b, rfl, h⟩
  | _ => exact h.elim
theorem Post.int {J : β → Cf Y → α → Prop} {Q : β → Hp → Prop} {R : Int → Y.S → Res Y.S α} {x : K3 × D} {s : Y.S} (h : Post mg W σ c J Q ((intOf x s).bind R)) : ∃ b, x.2 = .int b ∧ Post mg W σ c J Q (R b s) := by
  obtain ⟨k, d⟩ := x
  cases d with
  | int b => exact ⟨b, rfl, h⟩
  | _ => exact h.elim
theorem Post.dat {J : β → Cf Y → α → Prop} {Q : β → Hp → Prop} {R : D → Y.S → Res Y.S α} {x : K3 × D} {s : Y.S} (h : Post mg W σ c J Q ((Mf.dat x s).bind R)) : x.1 ≠ .o ∧ Post mg W σ c J Q (R x.2 s) := by
  obtain ⟨k, d⟩ := x
  cases k with
  | v => exact ⟨fun z => (nomatch z), h⟩
  | t => exact ⟨fun z => (nomatch z), h⟩
  | o => exact h.elim
theorem Post.stk {J : β → Cf Y → α → Prop} {Q : β → Hp → Prop} {st : Bool} {R : K3 × D → Y.S → Res Y.S α} {x : K3 × D} {s : Y.S} (h : Post mg W σ c J Q ((Mf.stk st x s).bind R)) : (st = true → x.1 ≠ .o) ∧ Post mg W σ c J Q (R x s) := by
  obtain ⟨k, d⟩ := x
  cases st with
  | false => exact ⟨fun z => (nomatch z), h⟩
  | true =>
    cases k with
    | v => exact ⟨fun _ z => (nomatch z), h⟩
    | t => exact ⟨fun _ z => (nomatch z), h⟩
    | o => exact h.elim
end
theorem _root_.L2.PE.weak {X : Cx} {e : Expr} {t t' : TE} (h : PE X e t) (k : ∀ σ H Q, t' σ H Q → t σ H Q) : PE X e t' := ⟨fun pins s σ H Q I q => h.run pins s σ H Q I (k σ H Q q)⟩
theorem _root_.L2.PT.weak {X : Cx} {e : Expr} {t t' : TT} (h : PT X e t) (k : ∀ σ H Q, t' σ H Q → t σ H Q) : PT X e t' := ⟨fun pins s σ H Q I q => h.run pins s σ H Q I (k σ H Q q)⟩
theorem _root_.L2.PW.weak {X : Cx} {e : Expr} {t t' : TT} (h : PW X e t) (k : ∀ σ H Q, t' σ H Q → t σ H Q) : PW X e t' := ⟨fun w pins s σ H Q I q => h.run w pins s σ H Q I (k σ H Q q)⟩
theorem _root_.L2.PA.weak {X : Cx} {es : List Expr} {t t' : TA} (h : PA X es t) (k : ∀ σ H Q, t' σ H Q → t σ H Q) : PA X es t' := ⟨fun pos pins s σ H Q I q => h.run pos pins s σ H Q I (k σ H Q q)⟩
theorem _root_.L2.PI.weak {X : Cx} {tg e : Expr} {t t' : TI} (h : PI X tg e t) (k : ∀ σ H Q, t' σ H Q → t σ H Q) : PI X tg e t' := ⟨fun pins s σ H Q I q => h.run pins s σ H Q I (k σ H Q q)⟩

/-! ### the checker -/
def bltNames : List Str := ["len", "abs", "int", "tuple", "list", "all", "any", "max", "isinstance", "bool", "str", "range", "zip", "sorted", "set", "dict", "enumerate"]
def visB (sc : Scope) (x : Str) : Bool := (match sc.names.lookup x with | some .local => true | some .cell => true | some .free => true | _ => false) && !(x == ("__debug__" : Str)) && !(x == ("__classdict__" : Str))
def glB (sc : Scope) (x : Str) : Bool := (match sc.names.lookup x with | some .globalImplicit => true | _ => false) && !(x == ("__debug__" : Str)) && !(x == ("__name__" : Str))
def notStar : Expr → Bool
  | .Starred _ _ => false
  | _ => true
def notSet : Expr → Bool
  | .Set _ _ _ => false
  | _ => true
def notSlice : Expr → Bool
  | .Slice _ _ _ _ => false
  | _ => true
def notComp : Expr → Bool
  | .ListComp _ _ _ _ => false
  | .SetComp _ _ _ _ => false
  | .DictComp _ _ _ _ _ => false
  | _ => true
def isBO : Expr → Bool
  | .BoolOp _ _ _ => true
  | _ => false
/-- may stand as a test -/
def tstP : Expr → Bool
  | .Name _ _ => true
  | .Call _ _ _ _ => true
  | .Subscript _ _ _ => true
  | _ => false
def tstOk : Expr → Bool
  | .BoolOp _ _ _ => true
  | .Compare _ _ _ _ => true
  | .UnaryOp .Not _ _ => true
  | e => tstP e
def opEq : Bop → Operator → Bool
  | .add, .Add => true | .sub, .Sub => true | .mul, .Mult => true | .fdv, .FloorDiv => true | .mod, .Mod => true | _, _ => false
def cmpEq : Cop → CmpOp → Bool
  | .eq, .Eq => true | .ne, .NotEq => true | .lt, .Lt => true | .le, .LtE => true | .gt, .Gt => true | .ge, .GtE => true | .isin, .In => true | .notin, .NotIn => true | .is, .Is => true | .isnot, .IsNot => true | _, _ => false
def conEq : D → Const → Bool
  | .int i, .int j => decide (i = j)
  | .str x, .str y => x == y
  | .bl a, .bool b => a == b
  | .non, .none => true
  | _, _ => false
def lenTg : Tg → Nat
  | .cons _ r => lenTg r + 1
  | _ => 0
def slots : Tg → List Nat
  | .nm i => [i]
  | .nil => []
  | .cons t r => slots t ++ slots r
/-- fns: the names whose cells are made here -/
def chkTs (N : List Str) (sc : Scope) (fns : Str → Bool) : Tg → List Expr → Bool
  | .nil, [] => true
  | .cons (.nm i) r, .Name x _ :: es => (N[i]? == some x) && (match sc.names.lookup x with | some .local => true | some .cell => fns x | _ => false) && chkTs N sc fns r es
  | .cons (.cons t' r') r, .Tuple es' _ _ :: es => chkTs N sc fns (.cons t' r') es' && chkTs N sc fns r es
  | _, _ => false
def chkT (N : List Str) (sc : Scope) (fns : Str → Bool) (t : Tg) (e : Expr) : Bool := chkTs N sc fns (.cons t .nil) [e]
def rcvE : Expr → Bool
  | .Name _ _ => true
  | .Constant _ _ _ => true
  | _ => false
def isTupE : Expr → Bool
  | .Tuple _ _ _ => true
  | _ => false
mutual
def chkE {S : Type} (N : List Str) : Scope → CE S → Expr → Bool
  | sc, .var i, e0 => match e0 with
    | .Name x _ => (N[i]? == some x) && visB sc x
    | _ => false
  | _, .con d, e0 => match e0 with
    | .Constant k _ _ => conEq d k
    | _ => false
  | sc, .glb x _, e0 => match e0 with
    | .Name y _ => (y == x) && glB sc y
    | _ => false
  | sc, .tup es, e0 => match e0 with
    | .Tuple xs _ _ => chkA N sc es xs
    | _ => false
  | sc, .lst es, e0 => match e0 with
    | .List xs _ => chkA N sc es xs
    | _ => false
  | sc, .bin o a b, e0 => match e0 with
    | .BinOp a' o' b' _ => opEq o o' && chkE N sc a a' && chkE N sc b b'
    | _ => false
  | sc, .neg a, e0 => match e0 with
    | .UnaryOp .USub a' _ => chkE N sc a a'
    | _ => false
  | sc, .not a, e0 => match e0 with
    | .UnaryOp .Not a' _ => chkE N sc a a' && tstOk a'
    | _ => false
  | sc, .cmp o a b, e0 => match e0 with
    | .Compare a' [o'] [b'] _ => cmpEq o o' && notSet b' && chkE N sc a a' && chkE N sc b b'
    | _ => false
  | sc, .chn o p a b c, e0 => match e0 with
    | .Compare a' [o', p'] [b', c'] _ => cmpEq o o' && cmpEq p p' && notSet c' && chkE N sc a a' && chkE N sc b b' && chkE N sc c c'
    | _ => false
  | sc, .and a b, e0 => match e0 with
    | .BoolOp .And (a' :: b' :: r) pos => tstOk a' && chkE N sc a a' && chkE N sc b (.BoolOp .And (b' :: r) pos)
    | _ => false
  | sc, .or a b, e0 => match e0 with
    | .BoolOp .Or (a' :: b' :: r) pos => tstOk a' && chkE N sc a a' && chkE N sc b (.BoolOp .Or (b' :: r) pos)
    | _ => false
  | sc, .one a, e0 => match e0 with
    | .BoolOp _ [a'] _ => tstOk a' && chkE N sc a a'
    | _ => false
  | sc, .ife t a b, e0 => match e0 with
    | .IfExp t' a' b' _ => tstOk t' && chkE N sc t t' && chkE N sc a a' && chkE N sc b b'
    | _ => false
  | sc, .ix a i, e0 => match e0 with
    | .Subscript a' i' _ => notSlice i' && chkE N sc a a' && chkE N sc i i'
    | _ => false
  | sc, .slL a lo, e0 => match e0 with
    | .Subscript a' (.Slice (some lo') none none _) _ => chkE N sc a a' && chkE N sc lo lo'
    | _ => false
  | sc, .slH a hi, e0 => match e0 with
    | .Subscript a' (.Slice none (some hi') none _) _ => chkE N sc a a' && chkE N sc hi hi'
    | _ => false
  | sc, .slB a lo hi, e0 => match e0 with
    | .Subscript a' (.Slice (some lo') (some hi') none _) _ => chkE N sc a a' && chkE N sc lo lo' && chkE N sc hi hi'
    | _ => false
  | sc, .call x _ _ es, e0 => match e0 with
    | .Call (.Name y _) xs [] _ => (y == x) && glB sc y && chkA N sc es xs
    | _ => false
  | sc, .b1 f e, e0 => match e0 with
    | .Call (.Name y _) [e'] [] _ => (y == nmB f) && glB sc y && notStar e' && chkE N sc e e'
    | _ => false
  | sc, .m1 f a b, e0 => match e0 with
    | .Call (.Attribute a' m apos) [b'] [] cpos => (m == nmM f) && rcvE a' && notStar b' && (apos.endLine == cpos.line) && chkE N sc a a' && chkE N sc b b'
    | _ => false
  | sc, .isi e t, e0 => match e0 with
    | .Call (.Name y _) [e', .Name z _] [] _ => (y == ("isinstance" : Str)) && glB sc y && (z == (Str.ofString (nmT t))) && glB sc z && notStar e' && chkE N sc e e'
    | _ => false
  | sc, .lc it tg ifs elt vs, e0 => match e0 with
    | .ListComp elt' [⟨tg', iter', ifs', 0⟩] scope _ =>
      chkI N sc it iter' tg' && notSet iter' && blkC N sc scope (vs.map fun i => (N.getD i "", i)) && (slots tg).all (fun i => vs.contains i) &&
      chkT N (relS scope sc) (fun x => scope.names.lookup x == some .cell) tg tg' && chkC N (relS scope sc) ifs ifs' && chkE N (relS scope sc) elt elt'
    | _ => false
  | sc, .rev e, e0 => match e0 with
    | .Subscript e' (.Slice none none (some (.UnaryOp .USub (.Constant (.int 1) _ _) _)) _) _ => chkE N sc e e'
    | _ => false
  | sc, .sset e, e0 => match e0 with
    | .Call (.Name y _) [.Call (.Name z _) [e'] [] _] [] _ => (y == ("sorted" : Str)) && glB sc y && (z == ("set" : Str)) && glB sc z && notStar e' && chkE N sc e e'
    | _ => false
  | sc, .lc2 it tg it1 tg1 elt vs vs1, e0 => match e0 with
    | .ListComp elt' [⟨tg', iter', [], 0⟩, ⟨tg1', iter1', [], 0⟩] scope _ =>
      chkI N sc it iter' tg' && notSet iter' && blkC N sc scope (vs.map fun i => (N.getD i "", i)) && (slots tg).all (fun i => vs.contains i) && chkT N (relS scope sc) (fun x => scope.names.lookup x == some .cell) tg tg' &&
      (chkI N (relS scope sc) it1 iter1' tg1' && notSet iter1' && (slots tg1).all (fun i => vs1.contains i) && chkT N (relS scope sc) (fun x => scope.names.lookup x == some .cell) tg1 tg1' && vs1.all (fun i => vs.contains i) && chkE N (relS scope sc) elt elt')
    | _ => false
def chkA {S : Type} (N : List Str) : Scope → CA S → List Expr → Bool
  | _, .nil, [] => true
  | sc, .cons e es, x :: xs => notStar x && chkE N sc e x && chkA N sc es xs
  | _, _, _ => false
def chkC {S : Type} (N : List Str) : Scope → CA S → List Expr → Bool
  | _, .nil, [] => true
  | sc, .cons e .nil, [x] => tstOk x && chkE N sc e x
  | _, _, _ => false
def chkI {S : Type} (N : List Str) : Scope → CI S → Expr → Expr → Bool
  | sc, .seq e, x, _ => chkE N sc e x
  | sc, .rng e, x, _ => match x with
    | .Call (.Name y _) [x] [] _ => (y == ("range" : Str)) && glB sc y && notStar x && chkE N sc e x
    | _ => false
  | sc, .zip a b, x, tg => match x with
    | .Call (.Name y _) [x, z] [] _ => (y == ("zip" : Str)) && glB sc y && notStar x && notStar z && isTupE tg && chkE N sc a x && chkE N sc b z
    | _ => false
end
/-! ### what the names stand for -/
mutual
def needE {S : Type} (P : Str → Nat → Sem S → Prop) (G : Str → D → Prop) : CE S → Prop
  | .glb x d => G x d
  | .tup es => needA P G es
  | .lst es => needA P G es
  | .bin _ a b => needE P G a ∧ needE P G b
  | .neg a => needE P G a
  | .not a => needE P G a
  | .cmp _ a b => needE P G a ∧ needE P G b
  | .chn _ _ a b c => needE P G a ∧ needE P G b ∧ needE P G c
  | .and a b => needE P G a ∧ needE P G b
  | .or a b => needE P G a ∧ needE P G b
  | .one a => needE P G a
  | .ife t a b => needE P G t ∧ needE P G a ∧ needE P G b
  | .ix a i => needE P G a ∧ needE P G i
  | .slL a i => needE P G a ∧ needE P G i
  | .slH a i => needE P G a ∧ needE P G i
  | .slB a i j => needE P G a ∧ needE P G i ∧ needE P G j
  | .call x n g es => P x n g ∧ needA P G es
  | .b1 _ e => needE P G e
  | .m1 _ a b => needE P G a ∧ needE P G b
  | .isi e _ => needE P G e
  | .lc it _ ifs elt _ => needI P G it ∧ needA P G ifs ∧ needE P G elt
  | .sset e => needE P G e
  | .rev e => needE P G e
  | .lc2 it _ it1 _ elt _ _ => needI P G it ∧ needI P G it1 ∧ needE P G elt
  | _ => True
def needA {S : Type} (P : Str → Nat → Sem S → Prop) (G : Str → D → Prop) : CA S → Prop
  | .nil => True
  | .cons e es => needE P G e ∧ needA P G es
def needI {S : Type} (P : Str → Nat → Sem S → Prop) (G : Str → D → Prop) : CI S → Prop
  | .seq e => needE P G e
  | .rng e => needE P G e
  | .zip a b => needE P G a ∧ needE P G b
end
/-- a def's promise: data to data -/
def spOf {Y : Sys} (K : PySem.W.Frag) (mg : Str → Option Value) (m : Nat) (g : Sem Y.S) : Sp := fun vs H Q E => ∃ (c : Cf Y) (ds : List D), c.H = H ∧ Ok c ∧ Reps K c.F vs ds ∧ vs.length = m ∧
  match g ds c.s with
  | .ok d s' => ∀ v (c' : Cf Y), c'.s = s' → Step c c' → Ok c' → Rep K c'.F v d → Q v c'.H
  | .ex x s' => ∀ C (c' : Cf Y), mg x = some (.ref C) → c'.s = s' → Step c c' → Ok c' → E (.ref C) none c'.H
  | .er => False
structure Has (P : Program) (w : World) (K : PySem.W.Frag) (mg : Str → Option Value) (base : Heap) (Y : Sys) (n : Nat) (x : Str) (m : Nat) (g : Sem Y.S) : Prop where
  has : ∃ (f : Addr) (fd : FuncData) (ps : List Str), ps.length = m ∧ FnOk P w K mg base (L2.CX P w) n f fd ps (spOf (Y := Y) K mg m g) ∧ mg x = some (.ref f) ∧ PySem.W.keepIn K (.ref f) = true ∧ Binds K fd ps []
def Glb (K : PySem.W.Frag) (mg : Str → Option Value) (x : Str) (d : D) : Prop := ∃ u v, mg x = some u ∧ RelV v u ∧ ∀ F, Rep K F v d
structure Cxt (X : Cx) (W : WX) (n : Nat) (N : List Str) (sc : Scope) : Prop where
  hN : X.N = N
  hs : X.env.scope = sc
  nd : N.Nodup
  calm : X.calm = true
  room : Room n X.A
  tk : Takes X W
  we : ∃ E : XK, W = fun cls d _ H => E cls d H
  blt : ∀ x ∈ bltNames, X.mg x = none
end Mf
set_option Elab.async false
set_option linter.all false
set_option maxRecDepth 100000
set_option maxHeartbeats 1000000
namespace Mf
open PySem L2

/-! ### side conditions from the checker -/
theorem visB_ok {sc : Scope} {x : Str} (h : visB sc x = true) : Vis sc x ∧ (x == ("__debug__" : Str)) = false ∧ (x == ("__classdict__" : Str)) = false := by
  unfold visB at h
  simp only [Bool.and_eq_true, Bool.not_eq_true'] at h
  obtain ⟨⟨h1, h2⟩, h3⟩ := h
  refine ⟨?_, h2, h3⟩
  unfold Vis
  split at h1
  · exact .inl (by assumption)
  · exact .inr (.inl (by assumption))
  · exact .inr (.inr (by assumption))
  · cases h1
theorem glB_ok {sc : Scope} {x : Str} (h : glB sc x = true) : sc.names.lookup x = some .globalImplicit ∧ (x == ("__debug__" : Str)) = false ∧ x ≠ "__name__" := by
  unfold glB at h
  simp only [Bool.and_eq_true, Bool.not_eq_true'] at h
  obtain ⟨⟨h1, h2⟩, h3⟩ := h
  refine ⟨?_, h2, beq_eq_false_iff_ne.mp h3⟩
  split at h1
  · assumption
  · cases h1
theorem star_cons {e : Expr} (h : notStar e = true) (es : List Expr) (env : Env) : starEach (e :: es) env = (false, eval e env) :: starEach es env := by
  cases e <;> first | rfl | cases h
theorem star_none {pos : Pos} {env : Env} : ∀ {S : Type} {N : List Str} {sc : Scope} {cs : CA S} {es : List Expr}, chkA N sc cs es = true → (backTo pos (starEach es env)).any (·.1) = false := by
  have key : ∀ {es : List Expr}, (∀ e ∈ es, notStar e = true) → (backTo pos (starEach es env)).any (·.1) = false := by
    intro es h
    have e : ∀ {es : List Expr}, (∀ e ∈ es, notStar e = true) → ∀ p ∈ starEach es env, p.1 = false := by
      intro es
      induction es with
      | nil => intro _ p hp; cases hp
      | cons x xs ih =>
        intro h p hp
        rw [star_cons (h x List.mem_cons_self)] at hp
        rcases List.mem_cons.mp hp with z | z
        · rw [z]
        · exact ih (fun e he => h e (List.mem_cons_of_mem _ he)) p z
    have e2 := e h
    rw [List.any_eq_false]
    intro p hp
    unfold backTo at hp
    simp only [List.mem_map] at hp
    obtain ⟨q, hq, rfl⟩ := hp
    simpa using e2 q hq
  intro S N sc cs es h
  refine key ?_
  revert cs
  induction es with
  | nil => intro _ _ e he; cases he
  | cons x xs ih =>
    intro cs h e he
    cases cs with
    | nil => cases h
    | cons c cs =>
      unfold chkA at h
      simp only [Bool.and_eq_true] at h
      rcases List.mem_cons.mp he with z | z
      · rw [z]; exact h.1.1
      · exact ih h.2 e z
theorem marks_ok {op : CmpOp} {b : Expr} (h : notSet b = true) : behindInMarks op b = false := by
  cases b <;> first | rfl | cases h
theorem set_ok {e : Expr} {env : Env} (h : notSet e = true) : ∀ x, foldedSetIterable e env x = pure x := by
  intro x
  cases e <;> first | rfl | cases h
theorem plain_ok {b : Expr} (h : notSlice b = true) : PlainIx b := by
  intro o i
  cases b <;> first | rfl | cases h
theorem test_ok {e : Expr} {env : Env} (h : tstP e = true) : ∀ whole, isTrue e env whole = (do let v ← whole; standAt e.pos; holding [v] (truthy v)) := by
  intro whole
  cases e <;> first | rfl | cases h
theorem opEq_ok {o : Bop} {o' : Operator} (h : opEq o o' = true) : o' = opB o := by
  cases o <;> cases o' <;> first | rfl | cases h
theorem cmpEq_ok {o : Cop} {o' : CmpOp} (h : cmpEq o o' = true) : o' = opC o := by
  cases o <;> cases o' <;> first | rfl | cases h

/-! ### tests by values -/
section
variable {Y : Sys} {K : PySem.W.Frag} {mg : Str → Option Value} {W : WX}
theorem tT_tE {e : CE Y.S} {σ : L2.St} {H : Hp} {Q : Bool → Hp → Prop} (h : tT K mg W e σ H Q) : tE K mg W e σ H (fun v H1 => ∃ k, v = .bl k ∧ Q k H1) := by
  obtain ⟨c, H0, ρ, rfl, ok, rel, p⟩ := h
  refine tR.bind ok rel p fun b c' a ea t ok' rel' j p' => ?_
  have p' : Post mg W σ c (JB c) Q ((tru a c'.s).bind fun b s => .ok b s) := by
    cases e2 : tru a c'.s <;> (rw [e2] at p'; exact p')
  obtain ⟨k, ek, p2⟩ := p'.tru
  obtain ⟨k3, d⟩ := a
  have ek : d = .bl k := ek
  subst ek
  exact ⟨k, Is.bl j, p2 k c' rfl t ok' rfl⟩
end
end Mf
set_option Elab.async false
set_option linter.all false
set_option maxRecDepth 100000
set_option maxHeartbeats 1000000
namespace Mf
open PySem L2

section
variable {X : Cx} {Y : Sys} {W : WX} {n : Nat} {N : List Str} {sc : Scope} {pos : Pos} {a' b' c' : Expr} {a b e : CE Y.S}
theorem se_var {i : Nat} {x : Str} (C : Cxt X W n N sc) (h1 : (N[i]? == some x) = true) (h2 : visB sc x = true) : PE X (.Name x pos) (tE (Y := Y) X.K X.mg W (.var i)) := by
  obtain ⟨v1, v2, v3⟩ := visB_ok h2
  refine (pe_var (X := X) (i := i) (x := x) (pos := pos) (by rw [C.hN]; exact beq_iff_eq.mp h1) (by rw [C.hs]; exact v1) v2 v3).weak fun σ H Q h => ?_
  obtain ⟨c, H0, ρ, rfl, ok, rel, p⟩ := h
  have p : Post X.mg W σ c (JE X.K c) Q (match ρ[i]? with | some (.va d) => .ok (.v, d) c.s | some (.ow d) => .ok (.o, d) c.s | _ => .er) := p
  split at p
  · rename_i d er
    obtain ⟨v, es, r⟩ := rel.va i d er
    exact ⟨v, es, p.fin ok r⟩
  · rename_i d er
    obtain ⟨q, es, r, _⟩ := rel.ow i d er
    exact ⟨.ref q, es, p.fin ok ⟨q, rfl, r⟩⟩
  · exact p.elim
theorem se_con {d : D} {k : Const} {j : Nat} (h : conEq d k = true) : PE X (.Constant k j pos) (tE (Y := Y) X.K X.mg W (.con d)) := by
  have go : ∀ {v : V}, PE X (.Constant k j pos) (tC v) → (∀ F, Rep X.K F v d) → PE X (.Constant k j pos) (tE (Y := Y) X.K X.mg W (.con d)) := fun {v} h1 h2 => h1.weak fun σ H Q h => by
    obtain ⟨c, H0, ρ, rfl, ok, rel, p⟩ := h
    have p : Post X.mg W σ c (JE X.K c) Q (.ok (.v, d) c.s) := p
    exact p.fin ok (h2 c.F)
  cases d <;> cases k <;> first | cases h | skip
  · exact go pe_non fun _ => .non
  · exact go (pe_bl) fun _ => by rw [show _ = _ from beq_iff_eq.mp h]; exact .bl _
  · exact go (pe_int) fun _ => by rw [of_decide_eq_true h]; exact .int _
  · exact go (pe_str) fun _ => by rw [show _ = _ from beq_iff_eq.mp h]; exact .str _
theorem se_glb {x : Str} {d : D} (C : Cxt X W n N sc) (h2 : glB sc x = true) (g : Glb X.K X.mg x d) : PE X (.Name x pos) (tE (Y := Y) X.K X.mg W (.glb x d)) := by
  obtain ⟨v1, v2, v3⟩ := glB_ok h2
  obtain ⟨u, v, e1, e2, e3⟩ := g
  refine (pe_glob (X := X) (x := x) (pos := pos) (by unfold Gl Env.kindOf; rw [C.hs]; exact v1) e1 e2 v2).weak fun σ H Q h => ?_
  obtain ⟨c, H0, ρ, rfl, ok, rel, p⟩ := h
  have p : Post X.mg W σ c (JE X.K c) Q (.ok (.v, d) c.s) := p
  exact p.fin ok (e3 c.F)
theorem se_bin {o : Bop} (ha : PE X a' (tE X.K X.mg W a)) (hb : PE X b' (tE X.K X.mg W b)) : PE X (.BinOp a' (opB o) b' pos) (tE X.K X.mg W (.bin o a b)) := by
  refine (pe_op (op_B o) ha hb).weak fun σ H Q h => ?_
  obtain ⟨c, H0, ρ, rfl, ok, rel, p⟩ := h
  have p : Post X.mg W σ c (JE X.K c) Q ((ev a ρ c.s).bind fun x s => (ev b ρ s).bind fun y s => liftO s (binD o x.2 y.2)) := p
  refine tR.bind ok rel p fun x c1 xa ea t1 ok1 rel1 j1 p1 => ?_
  refine tR.bind ok1 rel1 (p1.shiftE t1 ok1) fun y c2 xb eb t2 ok2 rel2 j2 p2 => ?_
  obtain ⟨k, d, e, q⟩ := (p2.shiftE t2 ok2).lift
  exact bin_use ok2 (Is.step j1 t2) j2 e q
theorem se_neg (ha : PE X a' (tE X.K X.mg W a)) : PE X (.UnaryOp .USub a' pos) (tE X.K X.mg W (.neg a)) := by
  refine (pe_un un_neg ha).weak fun σ H Q h => ?_
  obtain ⟨c, H0, ρ, rfl, ok, rel, p⟩ := h
  have p : Post X.mg W σ c (JE X.K c) Q ((ev a ρ c.s).bind fun x s => (intOf x s).bind fun i s => .ok (.v, .int (-i)) s) := p
  refine tR.bind ok rel p fun x c1 xa ea t1 ok1 rel1 j1 p1 => ?_
  obtain ⟨i, ei, q⟩ := (p1.shiftE t1 ok1).int
  obtain ⟨k, d⟩ := xa
  have ei : d = .int i := ei
  subst ei
  exact ⟨i, Is.int j1, q.fin ok1 (Rep.int (-i))⟩
theorem se_notE (ha : PE X a' (tE X.K X.mg W a)) : PE X (.UnaryOp .Not a' pos) (tE X.K X.mg W (.not a)) := by
  refine (pe_not ha).weak fun σ H Q h => ?_
  obtain ⟨c, H0, ρ, rfl, ok, rel, p⟩ := h
  have p : Post X.mg W σ c (JE X.K c) Q ((ev a ρ c.s).bind fun x s => (tru x s).bind fun b s => .ok (.v, .bl (!b)) s) := p
  refine tR.bind ok rel p fun x c1 xa ea t1 ok1 rel1 j1 p1 => ?_
  obtain ⟨i, ei, q⟩ := (p1.shiftE t1 ok1).tru
  obtain ⟨k, d⟩ := xa
  have ei : d = .bl i := ei
  subst ei
  exact ⟨i, Is.bl j1, q.fin ok1 (Rep.bl (!i))⟩
theorem bind_tru_tru {S : Type} (r : Res S (K3 × D)) : (r.bind fun x s => (tru x s).bind fun b s => (Res.ok (K3.v, D.bl (!b)) s : Res S (K3 × D))).bind tru = (r.bind tru).bind fun b s => .ok (!b) s := by
  cases r with
  | ok x s =>
    obtain ⟨k, d⟩ := x
    cases d <;> rfl
  | _ => rfl
theorem se_notT (ha : PT X a' (tT X.K X.mg W a)) : PT X (.UnaryOp .Not a' pos) (tT X.K X.mg W (.not a)) := by
  refine (pt_not ha).weak fun σ H Q h => ?_
  obtain ⟨c, H0, ρ, rfl, ok, rel, p⟩ := h
  have p : Post X.mg W σ c (JB c) Q (((ev a ρ c.s).bind fun x s => (tru x s).bind fun b s => .ok (.v, .bl (!b)) s).bind tru) := p
  rw [bind_tru_tru] at p
  refine tR.bind (f := fun ρ s => (ev a ρ s).bind tru) ok rel p fun x c1 xa ea t1 ok1 rel1 j1 p1 => ?_
  have j1 : x = xa := j1
  subst j1
  exact p1 (!x) c1 rfl t1 ok1 rfl
theorem se_cmpE {o : Cop} (C : Cxt X W n N sc) (hs : notSet b' = true) (ha : PE X a' (tE X.K X.mg W a)) (hb : PE X b' (tE X.K X.mg W b)) : PE X (.Compare a' [opC o] [b'] pos) (tE X.K X.mg W (.cmp o a b)) ∧ PT X (.Compare a' [opC o] [b'] pos) (tT X.K X.mg W (.cmp o a b)) := by
  have go : ∀ σ H Q, tE X.K X.mg W (.cmp o a b) σ H Q → tOp (rC X.K o) (tE X.K X.mg W a) (tE X.K X.mg W b) σ H Q := fun σ H Q h => by
    obtain ⟨c, H0, ρ, rfl, ok, rel, p⟩ := h
    have p : Post X.mg W σ c (JE X.K c) Q ((ev a ρ c.s).bind fun x s => (ev b ρ s).bind fun y s => kd s ((cmpD o x.2 y.2).map .bl)) := p
    refine tR.bind ok rel p fun x c1 xa ea t1 ok1 rel1 j1 p1 => ?_
    refine tR.bind ok1 rel1 (p1.shiftE t1 ok1) fun y c2 xb eb t2 ok2 rel2 j2 p2 => ?_
    obtain ⟨d, e, q⟩ := (p2.shiftE t2 ok2).kd
    obtain ⟨r, e1, e2⟩ := Option.map_eq_some_iff.mp e
    subst e2
    exact cmp_use ok2 (Is.step j1 t2) j2 e1 (q.here ok2 (.bl r))
  exact ⟨(pe_cmpR (op_C C.room o) ha hb (marks_ok hs)).weak go, (pt_cmpR (op_C C.room o) ha hb (marks_ok hs)).weak fun σ H Q h => go σ H _ (tT_tE h)⟩
theorem se_chn {o o2 : Cop} {c3 : CE Y.S} (C : Cxt X W n N sc) (hs : notSet c' = true) (ha : PE X a' (tE X.K X.mg W a)) (hb : PE X b' (tE X.K X.mg W b)) (hc : PE X c' (tE X.K X.mg W c3)) :
    PE X (.Compare a' [opC o, opC o2] [b', c'] pos) (tE X.K X.mg W (.chn o o2 a b c3)) ∧ PT X (.Compare a' [opC o, opC o2] [b', c'] pos) (tT X.K X.mg W (.chn o o2 a b c3)) := by
  have hm : lastMarks [opC o, opC o2] [b', c'] = false := marks_ok hs
  have go : ∀ σ H Q, tE X.K X.mg W (.chn o o2 a b c3) σ H Q → tChain (rC X.K o) (rC X.K o2) (tE X.K X.mg W a) (tE X.K X.mg W b) (tE X.K X.mg W c3) σ H Q := fun σ H Q h => by
    obtain ⟨c, H0, ρ, rfl, ok, rel, p⟩ := h
    have p : Post X.mg W σ c (JE X.K c) Q ((ev a ρ c.s).bind fun x s => (ev b ρ s).bind fun y s => (liftO s (cmpD o x.2 y.2)).bind fun k s =>
      if k then (ev c3 ρ s).bind fun z s => kd s ((cmpD o2 y.2 z.2).map .bl) else .ok (.v, .bl false) s) := p
    refine tR.bind ok rel p fun x c1 xa ea t1 ok1 rel1 j1 p1 => ?_
    refine tR.bind ok1 rel1 (p1.shiftE t1 ok1) fun y c2 xb eb t2 ok2 rel2 j2 p2 => ?_
    have p2 := p2.shiftE t2 ok2
    cases e : cmpD o xa.2 xb.2 with
    | none => rw [e] at p2; exact p2.elim
    | some k =>
      rw [e] at p2
      refine cmp_use ok2 (Is.step j1 t2) j2 e ⟨k, rfl, ?_⟩
      cases k with
      | false => exact iteF (p2.fin ok2 (Rep.bl false))
      | true =>
        refine iteT ?_
        have p2 : Post X.mg W σ c2 (JE X.K c2) Q ((ev c3 ρ c2.s).bind fun z s => kd s ((cmpD o2 xb.2 z.2).map .bl)) := p2
        refine tR.bind ok2 rel2 p2 fun z c3 xc ec t3 ok3 rel3 j3 p3 => ?_
        obtain ⟨d, e, q⟩ := (p3.shiftE t3 ok3).kd
        obtain ⟨r, e1, e2⟩ := Option.map_eq_some_iff.mp e
        subst e2
        exact cmp_use ok3 (Is.step j2 t3) j3 e1 (q.here ok3 (.bl r))
  exact ⟨(pe_chain (op_C C.room o) (op_C C.room o2) ha hb hc hm).weak go, (pt_chain (op_C C.room o) (op_C C.room o2) ha hb hc hm).weak fun σ H Q h => go σ H _ (tT_tE h)⟩
theorem se_andE {r : List Expr} (ha : PE X a' (tE X.K X.mg W a)) (hb : PE X (.BoolOp .And (b' :: r) pos) (tE X.K X.mg W b)) : PE X (.BoolOp .And (a' :: b' :: r) pos) (tE X.K X.mg W (.and a b)) := by
  refine (pe_and ha hb).weak fun σ H Q h => ?_
  obtain ⟨c, H0, ρ, rfl, ok, rel, p⟩ := h
  have p : Post X.mg W σ c (JE X.K c) Q ((ev a ρ c.s).bind fun x s => (tru x s).bind fun k s => if k then ev b ρ s else .ok (.v, .bl false) s) := p
  refine tR.bind ok rel p fun x c1 xa ea t1 ok1 rel1 j1 p1 => ?_
  obtain ⟨i, ei, q⟩ := (p1.shiftE t1 ok1).tru
  obtain ⟨k, d⟩ := xa
  have ei : d = .bl i := ei
  subst ei
  refine ⟨i, Is.bl j1, ?_⟩
  cases i with
  | false => exact iteF (q.fin ok1 (Rep.bl false))
  | true => exact iteT ⟨c1, H0, ρ, rfl, ok1, rel1, q⟩
theorem se_orE {r : List Expr} (ha : PE X a' (tE X.K X.mg W a)) (hb : PE X (.BoolOp .Or (b' :: r) pos) (tE X.K X.mg W b)) : PE X (.BoolOp .Or (a' :: b' :: r) pos) (tE X.K X.mg W (.or a b)) := by
  refine (pe_or ha hb).weak fun σ H Q h => ?_
  obtain ⟨c, H0, ρ, rfl, ok, rel, p⟩ := h
  have p : Post X.mg W σ c (JE X.K c) Q ((ev a ρ c.s).bind fun x s => (tru x s).bind fun k s => if k then .ok (.v, .bl true) s else ev b ρ s) := p
  refine tR.bind ok rel p fun x c1 xa ea t1 ok1 rel1 j1 p1 => ?_
  obtain ⟨i, ei, q⟩ := (p1.shiftE t1 ok1).tru
  obtain ⟨k, d⟩ := xa
  have ei : d = .bl i := ei
  subst ei
  refine ⟨i, Is.bl j1, ?_⟩
  cases i with
  | true => exact iteT (q.fin ok1 (Rep.bl true))
  | false => exact iteF ⟨c1, H0, ρ, rfl, ok1, rel1, q⟩
theorem bind_and {S : Type} (r : Res S (K3 × D)) (f : S → Res S (K3 × D)) : (r.bind fun x s => (tru x s).bind fun k s => if k then f s else .ok (K3.v, D.bl false) s).bind tru = (r.bind tru).bind fun k s => if k then (f s).bind tru else .ok false s := by
  cases r with
  | ok x s =>
    obtain ⟨k, d⟩ := x
    cases d with
    | bl b => cases b <;> rfl
    | _ => rfl
  | _ => rfl
theorem bind_or {S : Type} (r : Res S (K3 × D)) (f : S → Res S (K3 × D)) : (r.bind fun x s => (tru x s).bind fun k s => if k then .ok (K3.v, D.bl true) s else f s).bind tru = (r.bind tru).bind fun k s => if k then .ok true s else (f s).bind tru := by
  cases r with
  | ok x s =>
    obtain ⟨k, d⟩ := x
    cases d with
    | bl b => cases b <;> rfl
    | _ => rfl
  | _ => rfl
theorem se_andT {r : List Expr} (ha : PT X a' (tT X.K X.mg W a)) (hb : PW X (.BoolOp .And (b' :: r) pos) (tT X.K X.mg W b)) : PW X (.BoolOp .And (a' :: b' :: r) pos) (tT X.K X.mg W (.and a b)) := by
  refine (pw_and ha hb).weak fun σ H Q h => ?_
  obtain ⟨c, H0, ρ, rfl, ok, rel, p⟩ := h
  have p : Post X.mg W σ c (JB c) Q (((ev a ρ c.s).bind fun x s => (tru x s).bind fun k s => if k then ev b ρ s else .ok (.v, .bl false) s).bind tru) := p
  rw [bind_and] at p
  refine tR.bind (f := fun ρ s => (ev a ρ s).bind tru) ok rel p fun x c1 xa ea t1 ok1 rel1 j1 p1 => ?_
  have j1 : x = xa := j1
  subst j1
  have p1 := p1.shift (J' := JB c1) t1 ok1 fun _ _ _ z => z
  cases x with
  | false => exact iteF (p1.fin ok1 rfl)
  | true => exact iteT ⟨c1, H0, ρ, rfl, ok1, rel1, p1⟩
theorem se_orT {r : List Expr} (ha : PT X a' (tT X.K X.mg W a)) (hb : PW X (.BoolOp .Or (b' :: r) pos) (tT X.K X.mg W b)) : PW X (.BoolOp .Or (a' :: b' :: r) pos) (tT X.K X.mg W (.or a b)) := by
  refine (pw_or ha hb).weak fun σ H Q h => ?_
  obtain ⟨c, H0, ρ, rfl, ok, rel, p⟩ := h
  have p : Post X.mg W σ c (JB c) Q (((ev a ρ c.s).bind fun x s => (tru x s).bind fun k s => if k then .ok (.v, .bl true) s else ev b ρ s).bind tru) := p
  rw [bind_or] at p
  refine tR.bind (f := fun ρ s => (ev a ρ s).bind tru) ok rel p fun x c1 xa ea t1 ok1 rel1 j1 p1 => ?_
  have j1 : x = xa := j1
  subst j1
  have p1 := p1.shift (J' := JB c1) t1 ok1 fun _ _ _ z => z
  cases x with
  | true => exact iteT (p1.fin ok1 rfl)
  | false => exact iteF ⟨c1, H0, ρ, rfl, ok1, rel1, p1⟩
theorem bind_asso {S α β γ : Type} (r : Res S α) (f : α → S → Res S β) (g : β → S → Res S γ) : (r.bind f).bind g = r.bind fun a s => (f a s).bind g := by
  cases r <;> rfl
theorem se_ife {t' : Expr} {t : CE Y.S} (ht : PT X t' (tT X.K X.mg W t)) (ha : PE X a' (tE X.K X.mg W a)) (hb : PE X b' (tE X.K X.mg W b)) : PE X (.IfExp t' a' b' pos) (tE X.K X.mg W (.ife t a b)) := by
  refine (pe_ifExp ht ha hb).weak fun σ H Q h => ?_
  obtain ⟨c, H0, ρ, rfl, ok, rel, p⟩ := h
  have p : Post X.mg W σ c (JE X.K c) Q ((ev t ρ c.s).bind fun x s => (tru x s).bind fun k s => if k then ev a ρ s else ev b ρ s) := p
  rw [← bind_asso] at p
  refine tR.bind (f := fun ρ s => (ev t ρ s).bind tru) ok rel p fun x c1 xa ea t1 ok1 rel1 j1 p1 => ?_
  have j1 : x = xa := j1
  subst j1
  have p1 := p1.shiftE t1 ok1
  cases x with
  | true => exact iteT ⟨c1, H0, ρ, rfl, ok1, rel1, p1⟩
  | false => exact iteF ⟨c1, H0, ρ, rfl, ok1, rel1, p1⟩
theorem se_ix (C : Cxt X W n N sc) (hs : notSlice b' = true) (ha : PE X a' (tE X.K X.mg W a)) (hb : PE X b' (tE X.K X.mg W b)) : PE X (.Subscript a' b' pos) (tE X.K X.mg W (.ix a b)) := by
  refine (pe_ix (ix_X C.room) ha hb (plain_ok hs)).weak fun σ H Q h => ?_
  obtain ⟨c, H0, ρ, rfl, ok, rel, p⟩ := h
  have p : Post X.mg W σ c (JE X.K c) Q ((ev a ρ c.s).bind fun x s => (ev b ρ s).bind fun y s => kd s (ixD x.2 y.2)) := p
  refine tR.bind ok rel p fun x c1 xa ea t1 ok1 rel1 j1 p1 => ?_
  refine tR.bind ok1 rel1 (p1.shiftE t1 ok1) fun y c2 xb eb t2 ok2 rel2 j2 p2 => ?_
  obtain ⟨d, e, q⟩ := (p2.shiftE t2 ok2).kd
  exact ix_use ok2 (Is.step j1 t2) j2 e q
theorem se_slL {p2 : Pos} (ha : PE X a' (tE X.K X.mg W a)) (hb : PE X b' (tE X.K X.mg W b)) : PE X (.Subscript a' (.Slice (some b') none none p2) pos) (tE X.K X.mg W (.slL a b)) := by
  refine (pe_slice sl_S ha (po_some hb) po_none).weak fun σ H Q h => ?_
  obtain ⟨c, H0, ρ, rfl, ok, rel, p⟩ := h
  have p : Post X.mg W σ c (JE X.K c) Q ((ev a ρ c.s).bind fun x s => (ev b ρ s).bind fun y s => (intOf y s).bind fun i s => liftO s (slD x.2 (some i) none)) := p
  refine tR.bind ok rel p fun x c1 xa ea t1 ok1 rel1 j1 p1 => ?_
  refine tR.bind ok1 rel1 (p1.shiftE t1 ok1) fun y c2 xb eb t2 ok2 rel2 j2 p2 => ?_
  obtain ⟨i, ei, q⟩ := (p2.shiftE t2 ok2).int
  obtain ⟨k, d⟩ := xb
  have ei : d = .int i := ei
  subst ei
  obtain ⟨k, d, e, q⟩ := q.lift
  exact ⟨i, Is.int j2, sl_use ok2 (Is.step j1 t2) e q⟩
theorem se_slH {p2 : Pos} (ha : PE X a' (tE X.K X.mg W a)) (hb : PE X b' (tE X.K X.mg W b)) : PE X (.Subscript a' (.Slice none (some b') none p2) pos) (tE X.K X.mg W (.slH a b)) := by
  refine (pe_slice sl_S ha po_none (po_some hb)).weak fun σ H Q h => ?_
  obtain ⟨c, H0, ρ, rfl, ok, rel, p⟩ := h
  have p : Post X.mg W σ c (JE X.K c) Q ((ev a ρ c.s).bind fun x s => (ev b ρ s).bind fun y s => (intOf y s).bind fun i s => liftO s (slD x.2 none (some i))) := p
  refine tR.bind ok rel p fun x c1 xa ea t1 ok1 rel1 j1 p1 => ?_
  refine tR.bind ok1 rel1 (p1.shiftE t1 ok1) fun y c2 xb eb t2 ok2 rel2 j2 p2 => ?_
  obtain ⟨i, ei, q⟩ := (p2.shiftE t2 ok2).int
  obtain ⟨k, d⟩ := xb
  have ei : d = .int i := ei
  subst ei
  obtain ⟨k, d, e, q⟩ := q.lift
  exact ⟨i, Is.int j2, sl_use ok2 (Is.step j1 t2) e q⟩
theorem se_slB {p2 : Pos} {h' : Expr} {hi : CE Y.S} (ha : PE X a' (tE X.K X.mg W a)) (hb : PE X b' (tE X.K X.mg W b)) (hh : PE X h' (tE X.K X.mg W hi)) : PE X (.Subscript a' (.Slice (some b') (some h') none p2) pos) (tE X.K X.mg W (.slB a b hi)) := by
  refine (pe_slice sl_S ha (po_some hb) (po_some hh)).weak fun σ H Q h => ?_
  obtain ⟨c, H0, ρ, rfl, ok, rel, p⟩ := h
  have p : Post X.mg W σ c (JE X.K c) Q ((ev a ρ c.s).bind fun x s => (ev b ρ s).bind fun y s => (intOf y s).bind fun i s => (ev hi ρ s).bind fun z s => (intOf z s).bind fun j s => liftO s (slD x.2 (some i) (some j))) := p
  refine tR.bind ok rel p fun x c1 xa ea t1 ok1 rel1 j1 p1 => ?_
  refine tR.bind ok1 rel1 (p1.shiftE t1 ok1) fun y c2 xb eb t2 ok2 rel2 j2 p2 => ?_
  obtain ⟨i, ei, q⟩ := (p2.shiftE t2 ok2).int
  obtain ⟨k, d⟩ := xb
  have ei : d = .int i := ei
  subst ei
  refine ⟨i, Is.int j2, tR.bind ok2 rel2 q fun z c3 xc ec t3 ok3 rel3 j3 p3 => ?_⟩
  obtain ⟨j, ej, q⟩ := (p3.shiftE t3 ok3).int
  obtain ⟨k, d⟩ := xc
  have ej : d = .int j := ej
  subst ej
  obtain ⟨k, d, e, q⟩ := q.lift
  exact ⟨j, Is.int j3, sl_use ok3 (Is.step (Is.step j1 t2) t3) e q⟩
theorem se_tup {es : List Expr} {cs : CA Y.S} {k : Nat} (ha : PA X es (tA X.K X.mg W cs)) : PE X (.Tuple es k pos) (tE X.K X.mg W (.tup cs)) := by
  refine (pe_tupZ ha).weak fun σ H Q h => ?_
  obtain ⟨c, H0, ρ, rfl, ok, rel, p⟩ := h
  have p : Post X.mg W σ c (JE X.K c) Q ((evA cs ρ c.s).bind fun ds s => if lenOk ds.length then .ok (.v, .tup ds) s else .er) := p
  refine tR.bind ok rel p fun xs c1 ds ea t1 ok1 rel1 j1 p1 => ?_
  have j1 : Reps X.K c1.F xs ds := j1
  have p1 := p1.shiftE t1 ok1
  split at p1
  · rename_i hl
    exact ⟨by rw [j1.length]; exact szM hl, p1.fi.tup ok1 j1⟩
  · exact p1.elim
theorem se_lst {es : List Expr} {cs : CA Y.S} (ha : PA X es (tA X.K X.mg W cs)) : PE X (.List es pos) (tE X.K X.mg W (.lst cs)) := by
  refine (pe_lst ha).weak fun σ H Q h => ?_
  obtain ⟨c, H0, ρ, rfl, ok, rel, p⟩ := h
  have p : Post X.mg W σ c (JE X.K c) Q ((evA cs ρ c.s).bind fun ds s => if lenOk ds.length then .ok (.t, .lst ds) s else .er) := p
  refine tR.bind ok rel p fun xs c1 ds ea t1 ok1 rel1 j1 p1 => ?_
  have j1 : Reps X.K c1.F xs ds := j1
  have p1 := p1.shiftE t1 ok1
  split at p1
  · rename_i hl
    exact ⟨by rw [j1.length]; exact szM hl, p1.fi.lst ok1 j1⟩
  · exact p1.elim
theorem sa_nil : PA X [] (tA (Y := Y) X.K X.mg W .nil) := by
  refine pa_nil.weak fun σ H Q h => ?_
  obtain ⟨c, H0, ρ, rfl, ok, rel, p⟩ := h
  have p : Post X.mg W σ c (JA X.K c) Q (.ok [] c.s) := p
  exact p.fin ok Reps.nil
theorem sa_cons {es : List Expr} {cs : CA Y.S} (hs : notStar a' = true) (ha : PE X a' (tE X.K X.mg W a)) (hr : PA X es (tA X.K X.mg W cs)) : PA X (a' :: es) (tA X.K X.mg W (.cons a cs)) := by
  refine (pa_cons ha hr (star_cons hs _ _)).weak fun σ H Q h => ?_
  obtain ⟨c, H0, ρ, rfl, ok, rel, p⟩ := h
  have p : Post X.mg W σ c (JA X.K c) Q ((ev a ρ c.s).bind fun x s => (dat x s).bind fun d s => (evA cs ρ s).bind fun ds s => .ok (d :: ds) s) := p
  refine tR.bind ok rel p fun x c1 xa ea t1 ok1 rel1 j1 p1 => ?_
  obtain ⟨ko, p1⟩ := p1.dat
  obtain ⟨c2, es2, eh2, t2, ok2, r2⟩ := Is.data j1 ko t1 ok1
  rw [← eh2]
  rw [← es2] at p1
  have rel2 := rel.step t2
  have p1 := p1.shift (J' := JA X.K c2) t2 ok2 fun _ _ _ z => z
  refine tR.bind ok2 rel2 p1 fun vs c3 ds ea3 t3 ok3 rel3 j3 p3 => ?_
  have j3 : Reps X.K c3.F vs ds := j3
  exact (p3.shift (J' := JA X.K c3) t3 ok3 fun _ _ _ z => z).fin ok3 (Reps.cons (r2.mono t3.f) j3)
end
end Mf
set_option Elab.async false
set_option linter.all false
set_option maxRecDepth 100000
set_option maxHeartbeats 1000000
namespace Mf
open PySem L2 PySem.Spec PyProof.Rows
/-! ### zip of any two of list, tuple, text -/
inductive Zk where
  | lst (l : Addr) | tup (l : Addr) | str (x : Str) (t : Tok)
def Zk.val : Zk → Value
  | .lst l => .ref l | .tup l => .ref l | .str x t => .str x t
def Zk.it (h : Heap) (a : Addr) (i : Nat) : Zk → Prop
  | .lst l => h.IsListIter a l i | .tup l => h.IsTupleIter a l i | .str x t => h.IsStrIter a "str_ascii_iterator" x t i
def Zk.ne (a : Addr) : Zk → Prop
  | .lst l => l ≠ a | .tup l => l ≠ a | .str _ _ => True
/-- an i-th item with P -/
def Zk.has (h : Heap) (i : Nat) (P : Value → Prop) : Zk → Prop
  | .lst l => ∃ its u, h.IsList l its ∧ its[i]? = some u ∧ P u
  | .tup l => ∃ its u, h.IsTuple l its ∧ its[i]? = some u ∧ P u
  | .str x _ => ∃ c, x.cps[i]? = some c ∧ ∀ t, P (.str ⟨#[c]⟩ t)
def Zk.over (h : Heap) (i : Nat) : Zk → Prop
  | .lst l => ∃ its, h.IsList l its ∧ its[i]? = none
  | .tup l => ∃ its, h.IsTuple l its ∧ its[i]? = none
  | .str x _ => x.cps[i]? = none
def Zk.here (h : Heap) : Zk → Prop
  | .lst l => ∃ its, h.IsList l its
  | .tup l => ∃ its, h.IsTuple l its
  | .str x _ => x.cps.all (· < 128) = true
section
variable {h h' : Heap} {a b : Addr} {i : Nat} {P : Value → Prop} {c : Zk}
theorem Zk.it_ext (e : c.it h a i) (hs : Heap.ExtBut b h h') (hab : a ≠ b) : c.it h' a i := by
  cases c with
  | lst l => exact Heap.IsListIter.extBut e hs hab
  | tup l => exact Heap.IsTupleIter.extBut e hs hab
  | str x t => exact Heap.IsStrIter.extBut e hs hab
theorem Zk.it_at (e : c.it h a i) (k : ∀ o, h.get? a = some o → h'.get? a = some o) : c.it h' a i := by
  cases c with
  | lst l => exact Heap.IsListIter.at e k
  | tup l => exact Heap.IsTupleIter.at e k
  | str x t => obtain ⟨o, ho, r⟩ := e; exact ⟨o, k o ho, r⟩
theorem Zk.it_obj (e : c.it h a i) : ∃ o, h.get? a = some o ∧ ∀ v, o.data ≠ .cell v := by
  cases c with
  | lst l => obtain ⟨o, ho, _, d⟩ := e; exact ⟨o, ho, fun v q => by rw [d] at q; cases q⟩
  | tup l => obtain ⟨o, ho, _, d⟩ := e; exact ⟨o, ho, fun v q => by rw [d] at q; cases q⟩
  | str x t => obtain ⟨o, ho, _, d⟩ := e; exact ⟨o, ho, fun v q => by rw [d] at q; cases q⟩
theorem Zk.has_ext (e : c.has h i P) (hs : Heap.ExtBut b h h') (hab : c.ne b) : c.has h' i P := by
  cases c with
  | lst l => obtain ⟨its, u, h1, h2⟩ := e; exact ⟨its, u, h1.extBut hs hab, h2⟩
  | tup l => obtain ⟨its, u, h1, h2⟩ := e; exact ⟨its, u, h1.extBut hs hab, h2⟩
  | str x t => exact e
theorem Zk.over_ext (e : c.over h i) (hs : Heap.ExtBut b h h') (hab : c.ne b) : c.over h' i := by
  cases c with
  | lst l => obtain ⟨its, h1, h2⟩ := e; exact ⟨its, h1.extBut hs hab, h2⟩
  | tup l => obtain ⟨its, h1, h2⟩ := e; exact ⟨its, h1.extBut hs hab, h2⟩
  | str x t => exact e
end
section
variable {prog : Program} {w : World} {A : Around} {E : Value → Shared → Prop} {s : Shared} {c c1 c2 : Zk} {i : Nat}
theorem Zk.next {a : Addr} {P : Value → Prop} {Q : Value → Shared → Prop} (e : c.it s.heap a i) (hx : c.has s.heap i P) (hQ : ∀ u h' tk, P u → c.it h' a (i + 1) → Heap.SameBut a s.heap h' → Q u { s with heap := h', toks := tk }) :
    wpAny (model prog w) A (Builtin.SmallTypes.nextOf (.ref a)) Q E s := by
  cases c with
  | lst l => obtain ⟨its, u, h1, h2, h3⟩ := hx; exact wpAny_nextOf_list_item e h1 h2 fun h' k1 k2 => hQ u h' s.toks h3 k1 k2
  | tup l => obtain ⟨its, u, h1, h2, h3⟩ := hx; exact RZ.nextOf_tuple_item e h1 h2 fun h' k1 k2 => hQ u h' s.toks h3 k1 k2
  | str x t => obtain ⟨ch, h1, h2⟩ := hx; exact wpAny_nextOf_ascii_item e h1 fun h' k1 k2 => hQ _ h' (s.toks + 1) (h2 _) k1 k2
theorem Zk.stop {a : Addr} {Q : Value → Shared → Prop} (hh : A.handled = none) (e : c.it s.heap a i) (hx : c.over s.heap i)
    (hE : ∀ h' e, Heap.ExtBut a s.heap h' → (∃ o, h'.get? e = some o ∧ o.cls = .type "StopIteration") → E (.ref e) { s with heap := h' }) : wpAny (model prog w) A (Builtin.SmallTypes.nextOf (.ref a)) Q E s := by
  cases c with
  | lst l => obtain ⟨its, h1, h2⟩ := hx; exact wpAny_nextOf_list_end hh e h1 h2 hE
  | tup l => obtain ⟨its, h1, h2⟩ := hx; exact RZ.nextOf_tuple_end hh e h1 h2 hE
  | str x t => exact wpAny_nextOf_ascii_end hh e hx hE
structure Zap (z TI TO i1 i2 : Addr) : Prop where
  a1 : TI ≠ z
  a2 : TO ≠ z
  a3 : i1 ≠ z
  a4 : i2 ≠ z
  a5 : TI ≠ TO
  a6 : TI ≠ i1
  a7 : TI ≠ i2
  a8 : TO ≠ i1
  a9 : TO ≠ i2
  a0 : i1 ≠ i2
variable {z TI TO i1 i2 : Addr}
abbrev Zst (h : Heap) (z TI TO i1 i2 : Addr) (c1 c2 : Zk) (i : Nat) : Prop := IsZip h z TI TO .none ∧ IsPair h TI (.ref i1) (.ref i2) ∧ (∃ x y, IsPair h TO x y) ∧ c1.it h i1 i ∧ c2.it h i2 i
theorem zk_item {P1 P2 : Value → Prop} {Q : Value → Shared → Prop} (D : Zap z TI TO i1 i2) (st : Zst s.heap z TI TO i1 i2 c1 c2 i) (n1 : c1.ne z) (n2 : c2.ne z ∧ c2.ne i1 ∧ c2.ne TO) (hx : c1.has s.heap i P1) (hy : c2.has s.heap i P2)
    (hQ : ∀ h' tk x y, P1 x → P2 y → IsZip h' z TI TO (rawInt s.heap.objs.size) → IsPair h' TO x y → c1.it h' i1 (i + 1) → c2.it h' i2 (i + 1) → IsPair h' s.heap.objs.size x y →
      (∀ c o, c ≠ z → c ≠ TO → c ≠ i1 → c ≠ i2 → s.heap.get? c = some o → h'.get? c = some o) → Q (.ref s.heap.objs.size) { s with heap := h', toks := tk }) :
    wpAny (model prog w) A (Builtin.«zip.__next__» ⟨[.ref z], []⟩) (fun fin s' => ∃ v, fin = .done (.ret v) ∧ Q v s') E s := by
  obtain ⟨hz, hTI, ⟨a, b, hTO⟩, h1, h2⟩ := st
  show wpAny _ _ (field (.ref z) 2 >>= _) _ _ _
  refine wpAny_bind (wpAny_field hz rfl (x := .bool false) rfl ?_); show wpAny _ _ (field (.ref z) 3 >>= _) _ _ _
  refine wpAny_bind (wpAny_field hz rfl (x := .ref TI) rfl (wpAny_bind (wpAny_seqItems hTI rfl ?_)))
  show wpAny _ _ (Builtin.SmallTypes.ownedTupleIsFree (.ref z) >>= _) _ _ _
  refine wpAny_bind ?_
  unfold Builtin.SmallTypes.ownedTupleIsFree
  refine wpAny_bind (wpAny_field hz rfl (x := .none) rfl (wpAny_pure ?_))
  simp only [if_true]
  refine wpAny_bind (wpAny_rule (wpAny_bind (wpAny_field hz rfl (x := .ref TO) rfl (wpAny_bind (wpAny_setField_rec hz (by simp) fun g1 z1 e1 => ?_)))))
  replace z1 : IsZip g1 z TI TO .ellipsis := z1
  refine wpAny_bind ?_
  simp only [List.zipIdx_cons, List.zipIdx_nil, List.forIn_cons, List.forIn_nil]
  refine wpAny_bind (wpAny_bind (wpAny_onRaise ?_)); show wpAny _ _ (Builtin.SmallTypes.nextOf (.ref i1) >>= _) _ _ _
  refine wpAny_bind (Zk.next (Zk.it_ext h1 e1.extBut D.a3) (Zk.has_ext hx e1.extBut n1) fun x g2 t2 px q2 e2 => wpAny_pure ?_)
  have T2 : IsPair g2 TO a b := e2.extBut _ _ D.a8 (e1.extBut _ _ D.a2 hTO)
  refine wpAny_bind (wpAny_seqItems T2 rfl (wpAny_bind (wpAny_updateSeq_pair T2 fun g3 T3 e3 => wpAny_bind (wpAny_letGo (wpAny_pure ?_)))))
  replace T3 : IsPair g3 TO x b := T3
  refine wpAny_bind (wpAny_bind (wpAny_onRaise ?_)); show wpAny _ _ (Builtin.SmallTypes.nextOf (.ref i2) >>= _) _ _ _
  refine wpAny_bind (Zk.next (Zk.it_ext (Zk.it_ext (Zk.it_ext h2 e1.extBut D.a4) e2.extBut D.a0.symm) e3.extBut D.a9.symm) (Zk.has_ext (Zk.has_ext (Zk.has_ext hy e1.extBut n2.1) e2.extBut n2.2.1) e3.extBut n2.2.2) fun y g4 t4 py q4 e4 => wpAny_pure ?_)
  have T4 : IsPair g4 TO x b := e4.extBut _ _ D.a9 T3
  refine wpAny_bind (wpAny_seqItems T4 rfl (wpAny_bind (wpAny_updateSeq_pair T4 fun g5 T5 e5 => wpAny_bind (wpAny_letGo (wpAny_pure (wpAny_pure ?_))))))
  replace T5 : IsPair g5 TO x y := T5
  refine wpAny_bind (wpAny_seqItems T5 rfl (wpAny_bind (wpAny_newTuple ?_)))
  have hsz : g5.objs.size = s.heap.objs.size := by rw [e5.1, e4.1, e3.1, e2.1, e1.1]
  have z5 : IsZip g5 z TI TO .ellipsis := e5.extBut _ _ D.a2.symm (e4.extBut _ _ D.a4.symm (e3.extBut _ _ D.a2.symm (e2.extBut _ _ D.a3.symm z1)))
  have k5 : ∀ c o, c ≠ z → c ≠ TO → c ≠ i1 → c ≠ i2 → s.heap.get? c = some o → g5.get? c = some o := fun c o b1 b2 b3 b4 e => e5.extBut _ _ b2 (e4.extBut _ _ b4 (e3.extBut _ _ b2 (e2.extBut _ _ b3 (e1.extBut _ _ b1 e))))
  have r1 : c1.it g5 i1 (i + 1) := Zk.it_ext (Zk.it_ext (Zk.it_ext q2 e3.extBut D.a8.symm) e4.extBut D.a0) e5.extBut D.a8.symm
  have r2 : c2.it g5 i2 (i + 1) := Zk.it_ext q4 e5.extBut D.a9.symm
  have zlt : z < g5.objs.size := Heap.lt_size z5
  show wpAny _ _ (Builtin.SmallTypes.ownedTupleHandOut (.ref z) (.ref g5.objs.size) >>= _) _ _ _
  refine wpAny_bind ?_
  unfold Builtin.SmallTypes.ownedTupleHandOut
  have z6 : IsZip (g5.push { cls := .type "tuple", data := .seq #[x, y] }) z TI TO .ellipsis := Heap.get?_push_of_some _ z5
  refine wpAny_bind (wpAny_setField_rec z6 (by simp) fun g7 z7 e7 => ?_)
  replace z7 : IsZip g7 z TI TO (rawInt g5.objs.size) := z7
  refine wpAny_setField_rec z7 (by simp) fun g8 z8 e8 => ?_
  replace z8 : IsZip g8 z TI TO (rawInt g5.objs.size) := z8
  have up : ∀ c o, c ≠ z → g5.get? c = some o → g8.get? c = some o := fun c o b1 e => e8.extBut _ _ b1 (e7.extBut _ _ b1 (Heap.get?_push_of_some _ e))
  have T8 : IsPair g8 g5.objs.size x y := e8.extBut _ _ (Nat.ne_of_gt zlt) (e7.extBut _ _ (Nat.ne_of_gt zlt) (Heap.get?_push_size _ rfl))
  rw [hsz] at z8 T8
  refine wpAny_pure ⟨_, rfl, ?_⟩
  show Q (.ref g5.objs.size) _
  rw [hsz]
  exact hQ g8 _ x y px py z8 (up _ _ D.a2 T5) (Zk.it_at r1 fun o e => up _ o D.a3 e) (Zk.it_at r2 fun o e => up _ o D.a4 e) T8 fun c o b1 b2 b3 b4 e => up c o b1 (k5 c o b1 b2 b3 b4 e)
theorem zk_end {Q : PySem.Fin → Shared → Prop} (hh : A.handled = none) (D : Zap z TI TO i1 i2) (st : Zst s.heap z TI TO i1 i2 c1 c2 i) (n1 : c1.ne z) (n2 : c2.ne z ∧ c2.ne i1 ∧ c2.ne TO)
    (he : c1.over s.heap i ∨ (c1.has s.heap i (fun _ => True) ∧ c2.over s.heap i))
    (hE : ∀ h' e tk, (∀ c o, c ≠ z → c ≠ TO → c ≠ i1 → c ≠ i2 → s.heap.get? c = some o → h'.get? c = some o) → (∃ o, h'.get? e = some o ∧ o.cls = .type "StopIteration") → E (.ref e) { s with heap := h', toks := tk }) :
    wpAny (model prog w) A (Builtin.«zip.__next__» ⟨[.ref z], []⟩) Q E s := by
  obtain ⟨hz, hTI, ⟨a, b, hTO⟩, h1, h2⟩ := st
  show wpAny _ _ (field (.ref z) 2 >>= _) _ _ _
  refine wpAny_bind (wpAny_field hz rfl (x := .bool false) rfl ?_); show wpAny _ _ (field (.ref z) 3 >>= _) _ _ _
  refine wpAny_bind (wpAny_field hz rfl (x := .ref TI) rfl (wpAny_bind (wpAny_seqItems hTI rfl ?_)))
  show wpAny _ _ (Builtin.SmallTypes.ownedTupleIsFree (.ref z) >>= _) _ _ _
  refine wpAny_bind ?_
  unfold Builtin.SmallTypes.ownedTupleIsFree
  refine wpAny_bind (wpAny_field hz rfl (x := .none) rfl (wpAny_pure ?_))
  simp only [if_true]
  refine wpAny_bind (wpAny_rule (wpAny_bind (wpAny_field hz rfl (x := .ref TO) rfl (wpAny_bind (wpAny_setField_rec hz (by simp) fun g1 z1 e1 => ?_)))))
  replace z1 : IsZip g1 z TI TO .ellipsis := z1
  refine wpAny_bind ?_
  simp only [List.zipIdx_cons, List.zipIdx_nil, List.forIn_cons, List.forIn_nil]
  refine wpAny_bind (wpAny_bind (wpAny_onRaise ?_)); show wpAny _ _ (Builtin.SmallTypes.nextOf (.ref i1) >>= _) _ _ _
  rcases he with he | ⟨hx, he⟩
  · refine wpAny_bind (Zk.stop hh (Zk.it_ext h1 e1.extBut D.a3) (Zk.over_ext he e1.extBut n1) fun g2 e e2 ho => ?_)
    obtain ⟨oe, hoe, hce⟩ := ho
    have z2 : IsZip g2 z TI TO .ellipsis := e2 _ _ D.a3.symm z1
    have hez : e ≠ z := fun x => by subst x; rw [z2] at hoe; cases hoe; simp at hce
    exact wpAny_setField_rec z2 (by simp) fun g3 _ e3 => hE g3 e s.toks (fun c o b1 _ b3 _ x => e3.extBut _ _ b1 (e2 _ _ b3 (e1.extBut _ _ b1 x))) ⟨oe, e3.extBut _ _ hez hoe, hce⟩
  · refine wpAny_bind (Zk.next (Zk.it_ext h1 e1.extBut D.a3) (Zk.has_ext hx e1.extBut n1) fun x g2 t2 px q2 e2 => wpAny_pure ?_)
    have T2 : IsPair g2 TO a b := e2.extBut _ _ D.a8 (e1.extBut _ _ D.a2 hTO)
    refine wpAny_bind (wpAny_seqItems T2 rfl (wpAny_bind (wpAny_updateSeq_pair T2 fun g3 T3 e3 => wpAny_bind (wpAny_letGo (wpAny_pure ?_)))))
    refine wpAny_bind (wpAny_bind (wpAny_onRaise ?_)); show wpAny _ _ (Builtin.SmallTypes.nextOf (.ref i2) >>= _) _ _ _
    refine wpAny_bind (Zk.stop hh (Zk.it_ext (Zk.it_ext (Zk.it_ext h2 e1.extBut D.a4) e2.extBut D.a0.symm) e3.extBut D.a9.symm) (Zk.over_ext (Zk.over_ext (Zk.over_ext he e1.extBut n2.1) e2.extBut n2.2.1) e3.extBut n2.2.2) fun g4 e e4 ho => ?_)
    obtain ⟨oe, hoe, hce⟩ := ho
    have z4 : IsZip g4 z TI TO .ellipsis := e4 _ _ D.a4.symm (e3.extBut _ _ D.a2.symm (e2.extBut _ _ D.a3.symm z1))
    have hez : e ≠ z := fun x => by subst x; rw [z4] at hoe; cases hoe; simp at hce
    exact wpAny_setField_rec z4 (by simp) fun g5 _ e5 => hE g5 e _ (fun c o b1 b2 b3 b4 x => e5.extBut _ _ b1 (e4 _ _ b4 (e3.extBut _ _ b2 (e2.extBut _ _ b3 (e1.extBut _ _ b1 x))))) ⟨oe, e5.extBut _ _ hez hoe, hce⟩
theorem zk_next {P1 P2 : Value → Prop} {Q : Option Value → Shared → Prop} (D : Zap z TI TO i1 i2) (st : Zst s.heap z TI TO i1 i2 c1 c2 i) (n1 : c1.ne z) (n2 : c2.ne z ∧ c2.ne i1 ∧ c2.ne TO) (hx : c1.has s.heap i P1) (hy : c2.has s.heap i P2)
    (hQ : ∀ h' tk x y, P1 x → P2 y → IsZip h' z TI TO (rawInt s.heap.objs.size) → IsPair h' TO x y → c1.it h' i1 (i + 1) → c2.it h' i2 (i + 1) → IsPair h' s.heap.objs.size x y →
      (∀ c o, c ≠ z → c ≠ TO → c ≠ i1 → c ≠ i2 → s.heap.get? c = some o → h'.get? c = some o) → Q (some (.ref s.heap.objs.size)) { s with heap := h', toks := tk }) : wpAny (model prog w) A (pyNext (.ref z)) Q E s := by
  have hT : s.TypeIs (.ref z) "zip" := ⟨_, st.1, rfl⟩
  unfold pyNext
  exact wpAny_bind (wpAny_attempt (wpAny_callSpecial?_slot (name := Str.ofString "__next__") hT F.slot_zip_next (wpAny_call_entry F.slot_zip_next hT F.entry_zip_next (zk_item D st n1 n2 hx hy fun h' tk x y b1 b2 b3 b4 b5 b6 b7 b8 => wpAny_pure (hQ h' tk x y b1 b2 b3 b4 b5 b6 b7 b8)) (F.args_zip_next_1 _))))
theorem zk_done {Q : Option Value → Shared → Prop} (hh : A.handled = none) (D : Zap z TI TO i1 i2) (st : Zst s.heap z TI TO i1 i2 c1 c2 i) (n1 : c1.ne z) (n2 : c2.ne z ∧ c2.ne i1 ∧ c2.ne TO)
    (he : c1.over s.heap i ∨ (c1.has s.heap i (fun _ => True) ∧ c2.over s.heap i))
    (hQ : ∀ h' tk, (∀ c o, c ≠ z → c ≠ TO → c ≠ i1 → c ≠ i2 → s.heap.get? c = some o → h'.get? c = some o) → Q none { s with heap := h', toks := tk }) : wpAny (model prog w) A (pyNext (.ref z)) Q E s := by
  have hT : s.TypeIs (.ref z) "zip" := ⟨_, st.1, rfl⟩
  unfold pyNext
  refine wpAny_bind (wpAny_attempt (wpAny_callSpecial?_slot (name := Str.ofString "__next__") hT F.slot_zip_next (wpAny_call_entry F.slot_zip_next hT F.entry_zip_next (zk_end hh D st n1 n2 he fun h' e tk hk ho => ?_) (F.args_zip_next_1 _))))
  obtain ⟨o, ho, hc⟩ := ho
  exact wpAny_bind (wpAny_isInstance (T := "StopIteration") (b := true) ⟨o, ho, hc⟩ isSubtype_stop (wpAny_pure (hQ _ tk hk)))
def Zk.obj : Zk → Obj
  | .lst l => { cls := .type "list_iterator", data := .fields #[.ref l, .int 0 0] }
  | .tup l => { cls := .type "tuple_iterator", data := .fields #[.ref l, .int 0 0] }
  | .str x t => { cls := .type "str_ascii_iterator", data := .fields #[.str x t, .int 0 0] }
theorem Zk.iter {Q : Value → Shared → Prop} (hc : c.here s.heap) (hQ : Q (.ref s.heap.objs.size) { s with heap := s.heap.push c.obj }) : wpAny (model prog w) A (pyIter c.val) Q E s := by
  cases c with
  | lst l => obtain ⟨its, h⟩ := hc; exact wpAny_pyIter_list h hQ
  | tup l => obtain ⟨its, h⟩ := hc; exact wpAny_pyIter_tuple h hQ
  | str x t => exact wpAny_pyIter_ascii hc hQ
theorem Zk.here_push {h : Heap} {o : Obj} (e : c.here h) : c.here (h.push o) := by
  cases c with
  | lst l => obtain ⟨its, h⟩ := e; exact ⟨its, h.push _⟩
  | tup l => obtain ⟨its, h⟩ := e; exact ⟨its, h.push _⟩
  | str x t => exact e
abbrev zk3 (h : Heap) (c1 c2 : Zk) : Heap := ((h.push c1.obj).push c2.obj).push { cls := .type "tuple", data := .seq #[.ref h.objs.size, .ref (h.push c1.obj).objs.size] }
abbrev zk4 (h : Heap) (c1 c2 : Zk) : Heap := (zk3 h c1 c2).push { cls := .type "tuple", data := .seq #[.none, .none] }
abbrev zk5 (h : Heap) (c1 c2 : Zk) : Heap := (zk4 h c1 c2).push { cls := .type "zip", data := .fields #[.none, .bool false, .bool false, .ref ((h.push c1.obj).push c2.obj).objs.size, .ref (zk3 h c1 c2).objs.size] }
end
theorem zk_new (c1 c2 : Zk) : Meets (Builtin.«zip.__new__» ⟨[.type "zip", c1.val, c2.val], []⟩) (fun _ R s => c1.here s.heap ∧ c2.here s.heap ∧
      R (.ok (.ret (.ref (zk4 s.heap c1 c2).objs.size))) { s with heap := zk5 s.heap c1 c2 }) :=
  .of_wp fun prog w A R s h => by
    obtain ⟨hp, g, d, tk, os⟩ := s; obtain ⟨hl1, hl2, h⟩ := h
    have hsub := PySem.sub_zip
    have hL1 : c1.here (Shared.heap ⟨hp, g, d, tk, os⟩) := hl1
    have hL2 : c2.here (Shared.heap ⟨hp.push c1.obj, g, d, tk, os⟩) := Zk.here_push hl2
    wp_walk using Zk.iter hL1, Zk.iter hL2
    exact ⟨_, rfl, h⟩
section
variable {prog : Program} {w : World} {A : Around} {E : Value → Shared → Prop} {s : Shared}
theorem Zk.it_new {h : Heap} {c : Zk} {a : Addr} (e : h.get? a = some c.obj) : c.it h a 0 := by
  cases c with
  | lst l => exact ⟨_, e, rfl, rfl⟩
  | tup l => exact ⟨_, e, rfl, rfl⟩
  | str x t => exact ⟨_, e, rfl, rfl⟩
theorem Zk.alive (c : Zk) : c.obj.isFreed = false := by cases c <;> rfl
theorem zk_call (c1 c2 : Zk) {Q : Value → Shared → Prop} (hl1 : c1.here s.heap) (hl2 : c2.here s.heap)
    (h : ∀ h', Zst h' (s.heap.objs.size + 4) (s.heap.objs.size + 2) (s.heap.objs.size + 3) s.heap.objs.size (s.heap.objs.size + 1) c1 c2 0 →
      (∀ c o, s.heap.get? c = some o → h'.get? c = some o) → Q (.ref (s.heap.objs.size + 4)) { s with heap := h' }) :
    wpAny (model prog w) A (call (.type "zip") [c1.val, c2.val]) Q E s := by
  refine callType_new F.called_zip (by decide) (F.typeCall_zip_2 _ _) (F.newCall_zip_2 _ _) (fun obj => F.args_object_init_3 obj _ _) F.entry_zip_new (zk_new c1 c2) ⟨hl1, hl2, ?_⟩
  have y1 : (s.heap.push c1.obj).objs.size = s.heap.objs.size + 1 := Heap.size_push ..
  have y2 : ((s.heap.push c1.obj).push c2.obj).objs.size = s.heap.objs.size + 2 := by rw [Heap.size_push, y1]
  have y3 : (zk3 s.heap c1 c2).objs.size = s.heap.objs.size + 3 := by rw [Heap.size_push, y2]
  have y4 : (zk4 s.heap c1 c2).objs.size = s.heap.objs.size + 4 := by rw [Heap.size_push, y3]
  have x5 : (zk5 s.heap c1 c2).get? (zk4 s.heap c1 c2).objs.size = some _ := Heap.get?_push_size _ rfl
  have x4 : (zk5 s.heap c1 c2).get? (zk3 s.heap c1 c2).objs.size = some _ := Heap.get?_push_of_some _ (Heap.get?_push_size _ rfl)
  have x3 : (zk5 s.heap c1 c2).get? ((s.heap.push c1.obj).push c2.obj).objs.size = some _ := Heap.get?_push_of_some _ (Heap.get?_push_of_some _ (Heap.get?_push_size _ rfl))
  have x2 : (zk5 s.heap c1 c2).get? (s.heap.push c1.obj).objs.size = some _ := Heap.get?_push_of_some _ (Heap.get?_push_of_some _ (Heap.get?_push_of_some _ (Heap.get?_push_size _ c2.alive)))
  have x1 : (zk5 s.heap c1 c2).get? s.heap.objs.size = some _ := Heap.get?_push_of_some _ (Heap.get?_push_of_some _ (Heap.get?_push_of_some _ (Heap.get?_push_of_some _ (Heap.get?_push_size _ c1.alive))))
  show _ ∧ _
  rw [y2, y3, y4] at x5
  rw [y1, y2] at x3
  rw [y3] at x4
  rw [y1] at x2
  rw [y4]
  exact ⟨⟨_, x5, rfl⟩, h _ ⟨x5, x3, ⟨_, _, x4⟩, Zk.it_new x1, Zk.it_new x2⟩ fun c o x => Heap.get?_push_of_some _ (Heap.get?_push_of_some _ (Heap.get?_push_of_some _ (Heap.get?_push_of_some _ (Heap.get?_push_of_some _ x))))⟩
end
/-! at the layer's level -/
def Zk.vs (K : PySem.W.Frag) (H : Hp) (xs : List V) : Zk → Prop
  | .lst l => SqL K H l xs
  | .tup l => SqT K H l xs
  | .str x _ => x.cps.all (· < 128) = true ∧ xs = x.cps.toList.map fun c => V.str ⟨#[c]⟩
section
variable {X : Cx} {pins : List (Addr × Obj)} {σ : L2.St} {H : Hp} {s : Shared} {c : Zk} {xs ys : List V} {i : Nat} {x : V}
theorem Zk.has_of (I : Inv X pins σ H s) (h : c.vs X.K H xs) (hx : xs[i]? = some x) : c.has s.heap i (RelV x) := by
  cases c with
  | lst l =>
    obtain ⟨its, rv, p, _⟩ := I.list h
    obtain ⟨u, hu, ru⟩ := rv.get hx
    exact ⟨its.toArray, u, p.isList, by simpa using hu, ru⟩
  | tup l =>
    obtain ⟨its, rv, p, _⟩ := I.tuple h
    obtain ⟨u, hu, ru⟩ := rv.get hx
    exact ⟨its.toArray, u, p, by simpa using hu, ru⟩
  | str z t =>
    obtain ⟨_, rfl⟩ := h
    rw [List.getElem?_map] at hx
    obtain ⟨ch, h1, rfl⟩ := Option.map_eq_some_iff.mp hx
    exact ⟨ch, by simpa using h1, fun t => ⟨t, rfl⟩⟩
theorem Zk.over_of (I : Inv X pins σ H s) (h : c.vs X.K H xs) (hx : xs.length ≤ i) : c.over s.heap i := by
  cases c with
  | lst l =>
    obtain ⟨its, rv, p, _⟩ := I.list h
    have := rv.length
    exact ⟨its.toArray, p.isList, by simp; omega⟩
  | tup l =>
    obtain ⟨its, rv, p, _⟩ := I.tuple h
    have := rv.length
    exact ⟨its.toArray, p, by simp; omega⟩
  | str z t =>
    obtain ⟨_, rfl⟩ := h
    rw [List.length_map, Array.length_toList] at hx
    exact Array.getElem?_eq_none hx
theorem Zk.here_of (I : Inv X pins σ H s) (h : c.vs X.K H xs) : c.here s.heap := by
  cases c with
  | lst l => obtain ⟨its, rv, p, _⟩ := I.list h; exact ⟨its.toArray, p.isList⟩
  | tup l => obtain ⟨its, rv, p, _⟩ := I.tuple h; exact ⟨its.toArray, p⟩
  | str z t => exact h.1
theorem Zk.vs_inj (I : Inv X pins σ H s) (h : c.vs X.K H xs) (h' : c.vs X.K H ys) : xs = ys := by
  cases c with
  | lst l => exact I.list_inj h h'
  | tup l => exact I.tuple_inj h h'
  | str z t => rw [h.2, h'.2]
theorem Zk.lt_of (I : Inv X pins σ H s) (h : c.vs X.K H xs) {a : Addr} (ha : s.heap.objs.size ≤ a) : c.ne a := by
  cases c with
  | lst l =>
    obtain ⟨its, rv, p, _⟩ := I.list h
    have := p.lt
    show l ≠ a
    exact Nat.ne_of_lt (Nat.lt_of_lt_of_le this ha)
  | tup l =>
    obtain ⟨its, rv, p, _⟩ := I.tuple h
    obtain ⟨o, ho, _⟩ := p
    show l ≠ a
    exact Nat.ne_of_lt (Nat.lt_of_lt_of_le (Heap.lt_size ho) ha)
  | str z t => exact True.intro
end
def Itk (K : PySem.W.Frag) (c1 c2 : Zk) : It :=
  ⟨fun i H => ∃ (xs ys : List V) (x y : V), c1.vs K H xs ∧ c2.vs K H ys ∧ xs[i]? = some x ∧ ys[i]? = some y,
    fun i H v H' => ∃ T x y, v = .ref T ∧ H T = none ∧ H' = upd H T (.tup [x, y]) ∧ (∀ xs, c1.vs K H xs → xs[i]? = some x) ∧ ∀ ys, c2.vs K H ys → ys[i]? = some y,
    fun i H => ∃ xs ys : List V, c1.vs K H xs ∧ c2.vs K H ys ∧ (xs.length ≤ i ∨ ys.length ≤ i)⟩
theorem turn_zk {P : Program} {w : World} {K : PySem.W.Frag} {elts : List Expr} {kk : Nat} {tpos : Pos} {z TI TO i1 i2 : Addr} {c1 c2 : Zk} (D : Zap z TI TO i1 i2) (n1 : c1.ne z) (n2 : c2.ne z ∧ c2.ne i1 ∧ c2.ne TO) :
    Turn P w K (.Tuple elts kk tpos) (Itk K c1 c2) [z, TI, TO, i1, i2] z (fun i h => Zst h z TI TO i1 i2 c1 c2 i) where
  mem := by simp
  obj := fun i h st c hc => by
    obtain ⟨hz, hTI, ⟨x, y, hTO⟩, q1, q2⟩ := st
    simp only [List.mem_cons, List.not_mem_nil, or_false] at hc
    rcases hc with rfl | rfl | rfl | rfl | rfl
    · exact ⟨_, hz, fun v q => nomatch q⟩
    · exact ⟨_, hTI, fun v q => nomatch q⟩
    · exact ⟨_, hTO, fun v q => nomatch q⟩
    · exact Zk.it_obj q1
    · exact Zk.it_obj q2
  keep := fun i h h' st k => by
    obtain ⟨hz, hTI, ⟨x, y, hTO⟩, h1, h2⟩ := st
    exact ⟨k z (by simp) _ hz, k TI (by simp) _ hTI, ⟨x, y, k TO (by simp) _ hTO⟩, Zk.it_at h1 fun o q => k i1 (by simp) o q, Zk.it_at h2 fun o q => k i2 (by simp) o q⟩
  item := by
    intro X hP hw hK hc i pins s σ H E I hf st hg
    subst hP hw hK
    obtain ⟨xs, ys, x, y, hqx, hqy, hx, hy⟩ := hg
    have hzl : z < s.heap.objs.size := Heap.lt_size st.1
    have hTI := st.2.1
    have hlt : ∀ c ∈ [z, TI, TO, i1, i2], c < s.heap.objs.size := fun c hcm => by
      obtain ⟨hz, hTI, ⟨x, y, hTO⟩, q1, q2⟩ := st
      simp only [List.mem_cons, List.not_mem_nil, or_false] at hcm
      rcases hcm with rfl | rfl | rfl | rfl | rfl
      · exact hzl
      · exact Heap.lt_size hTI
      · exact Heap.lt_size hTO
      · obtain ⟨_, e1, _⟩ := Zk.it_obj q1; exact Heap.lt_size e1
      · obtain ⟨_, e2, _⟩ := Zk.it_obj q2; exact Heap.lt_size e2
    refine zk_next D st n1 n2 (Zk.has_of I hqx hx) (Zk.has_of I hqy hy) fun h' tk u u2 ru ru2 z' TO' h1' h2' hT hk => ?_
    refine ⟨_, rfl, wpAny_letOwnedTupleGo_zip (s := { s with heap := h', toks := tk }) z' fun h'' z'' sb => ?_⟩
    have hT2 : h''.get? s.heap.objs.size = some { cls := .type "tuple", data := .seq #[u, u2] } := (sb.2 _ (Nat.ne_of_gt hzl)).trans hT
    have new : ObjOk X.prog X.w (upd H s.heap.objs.size (.tup [x, y])) h'' s.heap.objs.size (.tup [x, y]) := ⟨by show 2 ≤ sizeLine; decide, [u, u2], .cons ru (.cons ru2 .nil), ⟨_, hT2, rfl, _, rfl⟩⟩
    have I1 : Inv X pins σ (upd H s.heap.objs.size (.tup [x, y])) { s with heap := h'', toks := tk } :=
      I.turnedNew (t' := tk) (ch := [z, TI, TO, i1, i2]) (fun c o hb q => (sb.2 c (fun q' => hb (by simp [q']))).trans (hk c o (fun q' => hb (by simp [q'])) (fun q' => hb (by simp [q'])) (fun q' => hb (by simp [q'])) (fun q' => hb (by simp [q'])) q)) hf (Nat.le_refl _) new
    refine ⟨.ref s.heap.objs.size, _, I1, rfl, ⟨_, x, y, rfl, I.hok.fresh (Nat.le_refl _), rfl, fun l hl => by rw [Zk.vs_inj I hl hqx]; exact hx, fun l hl => by rw [Zk.vs_inj I hl hqy]; exact hy⟩, ⟨z'', ?_, ⟨u, u2, (sb.2 _ D.a2).trans TO'⟩, Zk.it_at h1' fun o q => (sb.2 _ D.a3).trans q, Zk.it_at h2' fun o q => (sb.2 _ D.a4).trans q⟩, fun c hcm => ?_⟩
    · exact (sb.2 _ D.a1).trans (hk _ _ D.a1 D.a5 D.a6 D.a7 hTI)
    · rw [upd_ne (Nat.ne_of_lt (hlt c hcm))]
      exact (hf c hcm).1
  done := by
    intro X hP hw hK hc i pins s σ H E I hf st hg
    subst hP hw hK
    obtain ⟨xs, ys, hqx, hqy, hend⟩ := hg
    have he : c1.over s.heap i ∨ (c1.has s.heap i (fun _ => True) ∧ c2.over s.heap i) := by
      by_cases hx : xs.length ≤ i
      · exact .inl (Zk.over_of I hqx hx)
      · have hx : i < xs.length := by omega
        have q := Zk.has_of I hqx (List.getElem?_eq_getElem hx)
        refine .inr ⟨?_, Zk.over_of I hqy (by omega)⟩
        cases c1 with
        | lst l => obtain ⟨a, b, e1, e2, _⟩ := q; exact ⟨a, b, e1, e2, trivial⟩
        | tup l => obtain ⟨a, b, e1, e2, _⟩ := q; exact ⟨a, b, e1, e2, trivial⟩
        | str x t => obtain ⟨a, e1, _⟩ := q; exact ⟨a, e1, fun _ => trivial⟩
    exact zk_done (I.ok.hd hc) D st n1 n2 he fun h' tk hk => ⟨rfl, I.turnedL (t' := tk) (ch := [z, TI, TO, i1, i2]) (fun c o hb q => hk c o (fun q' => hb (by simp [q'])) (fun q' => hb (by simp [q'])) (fun q' => hb (by simp [q'])) (fun q' => hb (by simp [q'])) q) hf⟩
  self := fun A i s Q E st h => wpAny_pyIter_zip st.1 h
/-- the value v is of this kind -/
def Zk.isV (v : V) : Zk → Prop
  | .lst l => v = .ref l
  | .tup l => v = .ref l
  | .str x _ => v = .str x
inductive Zv where
  | lst | tup | str
def Zv.of : Zv → V → Tok → Zk
  | .lst, .ref l, _ => .lst l
  | .tup, .ref l, _ => .tup l
  | _, .str x, t => .str x t
  | _, _, t => .str ⟨#[]⟩ t
def iZk (K : PySem.W.Frag) (ta : TA) : TI := fun σ H R => ta σ H fun vs H1 => ∃ (a b : V) (k1 k2 : Zv), vs = [a, b] ∧ ((∀ l, a = .ref l → k1 ≠ .str) ∧ (∀ l, b = .ref l → k2 ≠ .str) ∧ ((∃ l, a = .ref l) ∨ ∃ x, a = .str x) ∧ ((∃ l, b = .ref l) ∨ ∃ x, b = .str x)) ∧
  ∃ xs ys, (∀ t, (k1.of a t).vs K H1 xs) ∧ (∀ t, (k2.of b t).vs K H1 ys) ∧ ∀ t t', R (Itk K (k1.of a t) (k2.of b t')) H1
theorem zv_val {k : Zv} {a : V} {u : Value} (h1 : ∀ l, a = .ref l → k ≠ .str) (h2 : (∃ l, a = .ref l) ∨ ∃ x, a = .str x) (r : RelV a u) : ∃ t, (k.of a t).val = u := by
  rcases h2 with ⟨l, rfl⟩ | ⟨x, rfl⟩
  · cases r
    cases k with
    | lst => exact ⟨0, rfl⟩
    | tup => exact ⟨0, rfl⟩
    | str => exact absurd rfl (h1 l rfl)
  · obtain ⟨t, rfl⟩ := r
    exact ⟨t, by cases k <;> rfl⟩
theorem pi_zk {X : Cx} {e e2 : Expr} {ta : TA} {p pos tpos : Pos} {elts : List Expr} {kk : Nat} (hg : Gl X "zip") (hm : X.mg "zip" = none) (ha : PA X [e, e2] ta)
    (hs : starEach [e, e2] X.env = (false, eval e X.env) :: starEach [e2] X.env) (hpl : (backTo pos (starEach [e2] X.env)).any (·.1) = false) :
    PI X (.Tuple elts kk tpos) (.Call (.Name "zip" p) [e, e2] [] pos) (iZk X.K ta) := by
  refine ⟨fun pins s σ H R I h => Call_ (ld_blt I hg hm PyProof.Rows.boot_zip (PyProof.Rows.callWith_type1 (thn (ha.run pos pins s σ H _ I h) fun us s1 ⟨vs, H1, I1, r1, q1⟩ => ?_) hs hpl))⟩
  obtain ⟨a, b, k1, k2, rfl, ⟨w1, w2, w3, w4⟩, xs, ys, hx, hy, q⟩ := q1
  cases r1 with
  | cons r rr =>
    cases rr with
    | cons r' rr =>
      cases rr
      obtain ⟨t, rfl⟩ := zv_val w1 w3 r
      obtain ⟨t', rfl⟩ := zv_val w2 w4 r'
      have fresh5 : ∀ c, c ∈ [s1.heap.objs.size + 4, s1.heap.objs.size + 2, s1.heap.objs.size + 3, s1.heap.objs.size, s1.heap.objs.size + 1] → FpOk X pins H1 c := fun c hcm => by
        have hle : s1.heap.objs.size ≤ c := by
          simp only [List.mem_cons, List.not_mem_nil, or_false] at hcm
          rcases hcm with z | z | z | z | z <;> (rw [z]; first | exact Nat.le_add_right _ _ | exact Nat.le_refl _)
        exact I1.fpOk hle (I1.hok.fresh hle)
      refine zk_call (k1.of a t) (k2.of b t') (Zk.here_of I1 (hx t)) (Zk.here_of I1 (hy t')) fun h' st hk => wpAny_pyIter_zip st.1 ?_
      have I2 : Inv X pins σ H1 { s1 with heap := h' } := I1.kept (t' := s1.toks) hk
      refine ⟨s1.heap.objs.size + 4, [s1.heap.objs.size + 4, s1.heap.objs.size + 2, s1.heap.objs.size + 3, s1.heap.objs.size, s1.heap.objs.size + 1], _, _, H1, rfl, I2, turn_zk ?_ (Zk.lt_of I1 (hx t) (Nat.le_add_right _ _)) ⟨Zk.lt_of I1 (hy t') (Nat.le_add_right _ _), Zk.lt_of I1 (hy t') (Nat.le_refl _), Zk.lt_of I1 (hy t') (Nat.le_add_right _ _)⟩, st, fresh5, q t t'⟩
      constructor <;> (intro z; have z : (_ : Nat) = _ := z; omega)
end Mf
set_option Elab.async false
set_option linter.all false
set_option maxRecDepth 100000
set_option maxHeartbeats 1000000
namespace Mf
open PySem L2

section
variable {X : Cx} {Y : Sys} {W : WX} {n : Nat} {N : List Str} {sc : Scope} {pos p p2 : Pos} {a' b' c' : Expr} {a b e : CE Y.S}
theorem Cxt.gl (C : Cxt X W n N sc) {x : Str} (h : glB sc x = true) : Gl X x := by
  unfold Gl Env.kindOf
  rw [C.hs]
  exact (glB_ok h).1
theorem Cxt.bltn (C : Cxt X W n N sc) {x : Str} (h : bltNames.contains x = true) : X.mg x = none := C.blt x (List.contains_iff_mem.mp h)
theorem se_call {x : Str} {m : Nat} {g : Sem Y.S} {es : List Expr} {cs : CA Y.S} (C : Cxt X W n N sc) (hg : glB sc x = true) (hx : Has X.prog X.w X.K X.mg X.base Y n x m g) (hc : chkA N sc cs es = true) (ha : PA X es (tA X.K X.mg W cs)) : PE X (.Call (.Name x p) es [] pos) (tE X.K X.mg W (.call x m g cs)) := by
  obtain ⟨f, fd, ps, hl, F, hm, hk, hb⟩ := hx.has
  obtain ⟨E, hE⟩ := C.we
  have tk : Takes X (fun cls d _ H => E cls d H) := by rw [← hE]; exact C.tk
  have ps' : Passes (L2.CX X.prog X.w) X E := passes_call tk fun _ _ _ _ z => z
  have hdb := (glB_ok hg).2.1
  have go : ∀ σ H Q, tE X.K X.mg W (.call x m g cs) σ H Q → tCall (spOf (Y := Y) X.K X.mg m g) [] E (tA X.K X.mg W cs) σ H Q := fun σ H Q h => by
    obtain ⟨c, H0, ρ, rfl, ok, rel, p⟩ := h
    have p : Post X.mg W σ c (JE X.K c) Q ((evA cs ρ c.s).bind fun ds s => if ds.length = m then (g ds s).bind fun d s => .ok (.v, d) s else .er) := p
    refine tR.bind ok rel p fun vs c1 ds ea t1 ok1 rel1 j1 p1 => ?_
    have j1 : Reps X.K c1.F vs ds := j1
    have p1 := p1.shiftE t1 ok1
    split at p1
    · rename_i hd
      rw [List.append_nil]
      refine ⟨c1, ds, rfl, ok1, j1, by rw [j1.length]; exact hd, ?_⟩
      cases er : g ds c1.s with
      | ok d s' =>
        rw [er] at p1
        exact fun v c2 es t2 ok2 r2 => p1 v c2 es t2 ok2 r2
      | ex y s' =>
        rw [er] at p1
        intro C' c2 e1 e2 t2 ok2
        have q := p1 C' c2 e1 e2 t2 ok2
        rw [hE] at q
        exact q
      | er => rw [er] at p1; exact p1
    · exact p1.elim
  cases es with
  | nil =>
    cases cs with
    | nil =>
      refine (pe_call0 F C.room (C.gl hg) hm hk hb .nil ps' hdb).weak fun σ H Q h => ?_
      obtain ⟨c, H0, ρ, rfl, ok, rel, p⟩ := h
      have p : Post X.mg W σ c (JE X.K c) Q (if ([] : List D).length = m then (g [] c.s).bind fun d s => .ok (.v, d) s else .er) := p
      split at p
      · rename_i hd
        refine ⟨c, [], rfl, ok, .nil, hd, ?_⟩
        cases er : g [] c.s with
        | ok d s' =>
          rw [er] at p
          exact fun v c2 es t2 ok2 r2 => p v c2 es t2 ok2 r2
        | ex y s' =>
          rw [er] at p
          intro C' c2 e1 e2 t2 ok2
          have q := p C' c2 e1 e2 t2 ok2
          rw [hE] at q
          exact q
        | er => rw [er] at p; exact p
      · exact p.elim
    | cons _ _ => cases hc
  | cons e1 es =>
    cases cs with
    | nil => cases hc
    | cons k ks =>
      unfold chkA at hc
      simp only [Bool.and_eq_true] at hc
      exact (pe_call F C.room (C.gl hg) hm hk hb .nil ps' ha hdb (star_cons hc.1.1 _ _) (star_none hc.2)).weak go
theorem pe_call1 {x : Str} {u : Value} {r : List V → Hp → VK → Prop} {t : TA} (hc : CallR X u r) (hu : (∃ id, u = .builtin id) ∨ ∃ T, u = .type T) (hg : Gl X x) (hm : X.mg x = none) (hv : bootBuiltins x = some u) (hn : x ≠ "__name__") (hdb : (x == ("__debug__" : Str)) = false) {es : List Expr} (ha : PA X (a' :: es) t) (hs : notStar a' = true)
    (hp : (backTo pos (starEach es X.env)).any (·.1) = false) : PE X (.Call (.Name x p) (a' :: es) [] pos) (tCB r t) := by
  rcases hu with ⟨id, rfl⟩ | ⟨T, rfl⟩
  · exact pe_callB hc hg hm hv ha hn hdb (star_cons hs _ _) hp
  · exact pe_callTy hc hg hm hv ha hn hdb (star_cons hs _ _) hp
theorem vlB_or (f : B1) : (∃ id, vlB f = .builtin id) ∨ ∃ T, vlB f = .type T := by
  cases f <;> first | exact .inl ⟨_, rfl⟩ | exact .inr ⟨_, rfl⟩
theorem boot_1 (f : B1) : bootBuiltins (nmB f) = some (vlB f) := by
  cases f <;> decide +kernel
theorem in_1 (f : B1) : bltNames.contains (nmB f) = true := by
  cases f <;> decide +kernel
theorem se_b1 {f : B1} (C : Cxt X W n N sc) (hg : glB sc (nmB f) = true) (hs : notStar a' = true) (ha : PE X a' (tE X.K X.mg W a)) : PE X (.Call (.Name (nmB f) p) [a'] [] pos) (tE X.K X.mg W (.b1 f a)) := by
  refine (pe_call1 (call_1 C.room C.calm f) (vlB_or f) (C.gl hg) (C.bltn (in_1 f)) (boot_1 f) (glB_ok hg).2.2 (glB_ok hg).2.1 (pa_cons ha pa_nil (star_cons hs _ _)) hs rfl).weak fun σ H Q h => ?_
  obtain ⟨c, H0, ρ, rfl, ok, rel, p⟩ := h
  have p : Post X.mg W σ c (JE X.K c) Q ((ev a ρ c.s).bind fun x s => liftO s (b1D f x.2)) := p
  refine tR.bind ok rel p fun x c1 xa ea t1 ok1 rel1 j1 p1 => ?_
  obtain ⟨k, d, e, q⟩ := (p1.shiftE t1 ok1).lift
  exact b1_use ok1 j1 e q
theorem few_ok {cpos : Pos} {e' : Expr} (hs : notStar e' = true) : ((backTo cpos (starEach [e'] X.env)).all (fun x => !x.1) && (backToKw cpos (keywordEach [] X.env)).all (fun x => x.1.isSome) && decide ([e'].length + ([] : List Keyword).length + (if ([] : List Keyword).isEmpty then 0 else 1) < 30)) = true := by
  rw [star_cons hs]
  rfl
theorem rcv_base {o : Expr} {m : Str} (h : rcvE o = true) : attributeBase o m X.env (eval o X.env) = eval o X.env := by
  cases o <;> first | rfl | cases h
theorem pe_bmM (f : M1) {o : Expr} {apos cpos : Pos} {to : TE} {t : TA} {r : V → List V → Hp → VK → Prop} (hm : MtR X (idM f) r) (ho : PE X o to) (ha : PA X [a'] t) (hr : rcvE o = true) (hs : notStar a' = true) (hl : (apos.endLine == cpos.line) = true) :
    PE X (.Call (.Attribute o (nmM f) apos) [a'] [] cpos) (tBM X.K (tyM f) r to t) := by
  cases f with
  | sindex => exact pe_bm PySem.F.plainAttrs_str PySem.F.slot_str_index PySem.F.type_str_index hm ho ha (rcv_base hr) (few_ok hs) hl (star_cons hs _ _) rfl
  | lindex => exact pe_bm PySem.F.plainAttrs_list PySem.F.slot_list_index PySem.F.type_list_index hm ho ha (rcv_base hr) (few_ok hs) hl (star_cons hs _ _) rfl
  | lcount => exact pe_bm PySem.F.plainAttrs_list PySem.F.slot_list_count PySem.F.type_list_count hm ho ha (rcv_base hr) (few_ok hs) hl (star_cons hs _ _) rfl
theorem se_m1 {f : M1} {apos cpos : Pos} (C : Cxt X W n N sc) (hr : rcvE a' = true) (hs : notStar b' = true) (hl : (apos.endLine == cpos.line) = true) (ha : PE X a' (tE X.K X.mg W a)) (hb : PE X b' (tE X.K X.mg W b)) :
    PE X (.Call (.Attribute a' (nmM f) apos) [b'] [] cpos) (tE X.K X.mg W (.m1 f a b)) := by
  refine (pe_bmM f (mt_M C.room f) ha (pa_cons hb pa_nil (star_cons hs _ _)) hr hs hl).weak fun σ H Q h => ?_
  obtain ⟨c, H0, ρ, rfl, ok, rel, p⟩ := h
  have p : Post X.mg W σ c (JE X.K c) Q ((ev a ρ c.s).bind fun x s => if rcvD f x.2 then (ev b ρ s).bind fun y s => liftO s (m1D f x.2 y.2) else .er) := p
  refine tR.bind ok rel p fun x c1 xa ea t1 ok1 rel1 j1 p1 => ?_
  have p1 := p1.shiftE t1 ok1
  split at p1
  · rename_i hrc
    refine ⟨rcv_ty ok1 j1 hrc, ?_⟩
    refine tR.bind ok1 rel1 p1 fun y c2 xb eb t2 ok2 rel2 j2 p2 => ?_
    obtain ⟨k, d, e, q⟩ := (p2.shiftE t2 ok2).lift
    exact m1_use ok2 (Is.step j1 t2) j2 e q
  · exact p1.elim
theorem boot_T (t : Ty) : bootBuiltins (Str.ofString (nmT t)) = some (.type (nmT t)) := by
  cases t <;> decide +kernel
theorem in_T (t : Ty) : bltNames.contains (Str.ofString (nmT t)) = true := by
  cases t <;> decide +kernel
theorem se_isi {t : Ty} {p3 : Pos} (C : Cxt X W n N sc) (hg : glB sc "isinstance" = true) (hg2 : glB sc (Str.ofString (nmT t)) = true) (hs : notStar a' = true) (ha : PE X a' (tE X.K X.mg W a)) : PE X (.Call (.Name "isinstance" p) [a', .Name (Str.ofString (nmT t)) p2] [] pos) (tE X.K X.mg W (.isi a t)) := by
  have hT : PE X (.Name (Str.ofString (nmT t)) p2) (tC (.ty (nmT t))) := pe_bltn (C.gl hg2) (C.bltn (in_T t)) (boot_T t) rfl (glB_ok hg2).2.2 (glB_ok hg2).2.1
  refine (pe_call1 call_isi (.inl ⟨_, rfl⟩) (C.gl hg) (C.bltn (by decide +kernel)) (by decide +kernel) (glB_ok hg).2.2 (glB_ok hg).2.1 (pa_cons ha (pa_cons hT pa_nil) (star_cons hs _ _)) hs rfl).weak fun σ H Q h => ?_
  obtain ⟨c, H0, ρ, rfl, ok, rel, p⟩ := h
  have p : Post X.mg W σ c (JE X.K c) Q ((ev a ρ c.s).bind fun x s => kd s ((isiD t x.2).map .bl)) := p
  refine tR.bind ok rel p fun x c1 xa ea t1 ok1 rel1 j1 p1 => ?_
  obtain ⟨d, e, q⟩ := (p1.shiftE t1 ok1).kd
  obtain ⟨r, e1, e2⟩ := Option.map_eq_some_iff.mp e
  subst e2
  exact isi_use ok1 j1 e1 (q.here ok1 (.bl r))
end

/-! ### what is walked -/
section
variable {Y : Sys} {K : PySem.W.Frag} {G : Cf Y → Prop} {z : Bool}
theorem gd_lst {q : Addr} {ds : List D} (h : ∀ c, G c → Ok c → ∃ vs, c.H q = some (.lst vs) ∧ Reps K c.F vs ds) : Gd K z (Itl K q) G ds := by
  intro c hG ok i
  obtain ⟨vs, e, r⟩ := h c hG ok
  refine ⟨fun hi => ⟨vs, .inl (.inl e), by rw [r.length]; exact hi⟩, fun d hd => ?_⟩
  obtain ⟨v, hv, rv⟩ := r.get hd
  refine ⟨⟨vs, v, .inl (.inl e), hv⟩, fun x H' hy => ?_⟩
  obtain ⟨rfl, hy⟩ := hy
  have ex : x = v := Option.some.inj ((hy vs (.inl (.inl e))).symm.trans hv)
  subst ex
  exact ⟨c, rfl, rfl, Step.refl c, ok, .inl rv⟩
theorem gd_tup {q : Addr} {ds : List D} (h : ∀ c, G c → Ok c → ∃ vs, SqT K c.H q vs ∧ Reps K c.F vs ds) : Gd K z (Itt K q) G ds := by
  intro c hG ok i
  obtain ⟨vs, e, r⟩ := h c hG ok
  refine ⟨fun hi => ⟨vs, e, by rw [r.length]; exact hi⟩, fun d hd => ?_⟩
  obtain ⟨v, hv, rv⟩ := r.get hd
  refine ⟨⟨vs, v, e, hv⟩, fun x H' hy => ?_⟩
  obtain ⟨rfl, hy⟩ := hy
  have ex : x = v := Option.some.inj ((hy vs e).symm.trans hv)
  subst ex
  exact ⟨c, rfl, rfl, Step.refl c, ok, .inl rv⟩
theorem gd_str {y : Str} : Gd K z (Its y) G (y.cps.toList.map fun c => .str ⟨#[c]⟩) := by
  intro c hG ok i
  refine ⟨fun hi => ?_, fun d hd => ?_⟩
  · rw [List.length_map, Array.length_toList] at hi
    exact hi
  · rw [List.getElem?_map, Array.getElem?_toList] at hd
    obtain ⟨cc, e1, e2⟩ := Option.map_eq_some_iff.mp hd
    refine ⟨(Array.getElem?_eq_some_iff.mp e1).1, fun x H' hy => ?_⟩
    obtain ⟨rfl, c2, e3, rfl⟩ := hy
    rw [e1] at e3
    cases e3
    subst e2
    exact ⟨c, rfl, rfl, Step.refl c, ok, .inl (.str _)⟩
theorem gd_rng {k : Nat} : Gd K z (Itr 0 k) G (rngD k) := by
  intro c hG ok i
  unfold rngD
  refine ⟨fun hi => ?_, fun d hd => ?_⟩
  · rw [List.length_map, List.length_range] at hi
    exact hi
  · rw [List.getElem?_map] at hd
    obtain ⟨j, e1, e2⟩ := Option.map_eq_some_iff.mp hd
    obtain ⟨hj, e3⟩ := List.getElem?_eq_some_iff.mp e1
    rw [List.getElem_range] at e3
    subst e3
    rw [List.length_range] at hj
    refine ⟨hj, fun x H' hy => ?_⟩
    obtain ⟨rfl, rfl⟩ := hy
    subst e2
    rw [Int.zero_add]
    exact ⟨c, rfl, rfl, Step.refl c, ok, .inl (.int _)⟩
theorem zipD_get : ∀ {xs ys : List D} {i : Nat} {d : D}, (zipD xs ys)[i]? = some d → ∃ x y, xs[i]? = some x ∧ ys[i]? = some y ∧ d = .tup [x, y]
  | [], _, i, d, h => by simp [zipD] at h
  | _ :: _, [], i, d, h => by simp [zipD] at h
  | x :: xs, y :: ys, 0, d, h => by
    simp [zipD] at h
    exact ⟨x, y, rfl, rfl, h.symm⟩
  | x :: xs, y :: ys, i + 1, d, h => by
    simp [zipD] at h
    obtain ⟨a, b, h1, h2, h3⟩ := zipD_get h
    exact ⟨a, b, by simpa using h1, by simpa using h2, h3⟩
theorem zipD_len : ∀ (xs ys : List D), (zipD xs ys).length = min xs.length ys.length
  | [], _ => by simp [zipD]
  | _ :: _, [] => by simp [zipD]
  | x :: xs, y :: ys => by
    simp [zipD, zipD_len xs ys]
theorem gd_pair {c : Cf Y} (ok : Ok c) {T : Addr} {x y : V} {d e : D} (hT : c.H T = none) (hx : Rep K c.F x d) (hy : Rep K c.F y e) :
    ∃ c' : Cf Y, c'.H = upd c.H T (.tup [x, y]) ∧ c'.s = c.s ∧ Step c c' ∧ Ok c' ∧ RepW K true c'.F (.ref T) (.tup [d, e]) :=
  ⟨⟨upd c.F T (.tup [x, y]), upd c.H T (.tup [x, y]), c.s⟩, rfl, rfl, Step.new ok hT _, ok.new hT _, .inr ⟨rfl, T, _, _, rfl, rfl, .inl (.inl upd_same), .cons (hx.mono (Step.new ok hT (.tup [x, y])).f) (.cons (hy.mono (Step.new ok hT (.tup [x, y])).f) .nil)⟩⟩
theorem gd_zk {k1 k2 : Zk} {ds es : List D} (h : ∀ c, G c → Ok c → ∃ vs, k1.vs K c.H vs ∧ Reps K c.F vs ds) (h2 : ∀ c, G c → Ok c → ∃ vs, k2.vs K c.H vs ∧ Reps K c.F vs es) : Gd K true (Itk K k1 k2) G (zipD ds es) := by
  intro c hG ok i
  obtain ⟨vs, e, r⟩ := h c hG ok
  obtain ⟨vs2, e2, r2⟩ := h2 c hG ok
  refine ⟨fun hi => ⟨vs, vs2, e, e2, ?_⟩, fun d hd => ?_⟩
  · rw [zipD_len] at hi
    rw [r.length, r2.length]
    omega
  · obtain ⟨dx, dy, g1, g2, rfl⟩ := zipD_get hd
    obtain ⟨v, hv, rv⟩ := r.get g1
    obtain ⟨v2, hv2, rv2⟩ := r2.get g2
    refine ⟨⟨vs, vs2, v, v2, e, e2, hv, hv2⟩, fun x H' hy => ?_⟩
    obtain ⟨T, x1, x2, rfl, hT, rfl, f1, f2⟩ := hy
    have ex : x1 = v := Option.some.inj ((f1 vs e).symm.trans hv)
    have ex2 : x2 = v2 := Option.some.inj ((f2 vs2 e2).symm.trans hv2)
    subst ex ex2
    exact gd_pair ok hT rv rv2
def zvOf : D → Zv
  | .lst _ => .lst
  | .tup _ => .tup
  | _ => .str
theorem reps_signs {F : Hp} : ∀ l : List Nat, Reps K F (l.map fun c => V.str ⟨#[c]⟩) (l.map fun c => D.str ⟨#[c]⟩)
  | [] => .nil
  | _ :: l => .cons (.str _) (reps_signs l)
theorem zv_is {Hs : Hp} {c : Cf Y} {k : K3} {v : V} {d : D} {xs : List D} (e : seqD d = some xs) (h : Is K Hs c k v d) (ok : Ok c) :
    (∀ l, v = .ref l → zvOf d ≠ .str) ∧ ((∃ l, v = .ref l) ∨ ∃ x, v = .str x) ∧ ∃ vs, Reps K c.F vs xs ∧ ∀ t, ((zvOf d).of v t).vs K c.H vs := by
  unfold seqD at e
  split at e
  · cases e
    obtain ⟨q, vs, rfl, h1, r1⟩ := Is.lst h ok
    exact ⟨fun _ _ z => (nomatch z), .inl ⟨q, rfl⟩, vs, r1, fun t => .inl (.inl h1)⟩
  · cases e
    obtain ⟨q, vs, rfl, h1, _, r1⟩ := Is.tup h ok
    exact ⟨fun _ _ z => (nomatch z), .inl ⟨q, rfl⟩, vs, r1, fun t => h1⟩
  · split at e
    · rename_i z hz
      cases e
      rw [Is.str h]
      exact ⟨fun _ z => (nomatch z), .inr ⟨z, rfl⟩, _, reps_signs z.cps.toList, fun t => ⟨hz, rfl⟩⟩
    · cases e
  · cases e
/-- an operand that is walked: in a for it is given up first -/
theorem walk_of {st : Bool} {c c1 : Cf Y} {x : V} {k : K3} {d : D} (hk : st = true → k ≠ .o) (j : Is K c.H c1 k x d) (t : Step c c1) (ok : Ok c1) :
    ∃ c2 : Cf Y, ∃ k2 : K3, c2.s = c1.s ∧ c2.H = c1.H ∧ Step c c2 ∧ Ok c2 ∧ Is K c.H c2 k2 x d ∧ (st = true → k2 = .v) := by
  cases st with
  | false => exact ⟨c1, k, rfl, rfl, t, ok, j, fun z => nomatch z⟩
  | true =>
    obtain ⟨c2, e1, e2, t2, ok2, r⟩ := Is.data j (hk rfl) t ok
    exact ⟨c2, .v, e1, e2, t2, ok2, r, fun _ => rfl⟩
theorem Is.later {st : Bool} {Hs : Hp} {c c2 : Cf Y} {x : V} {k : K3} {d : D} (j : Is K Hs c k x d) (hk : st = true → k = .v) (h : if st = true then Sub c.F c2.F else Step c c2) : Is K Hs c2 k x d := by
  cases st with
  | false => exact Is.step j h
  | true =>
    have hk := hk rfl
    subst hk
    exact Rep.mono h j
end
section
variable {X : Cx} {Y : Sys} {W : WX} {n : Nat} {N : List Str} {sc : Scope} {pos p p2 : Pos} {a' b' c' tg : Expr} {a b e : CE Y.S} {st : Bool}
theorem si_seq (ha : PE X a' (tE X.K X.mg W a)) : PI X tg a' (tI X.K X.mg W st (.seq a)) := by
  refine (pi_seq ha).weak fun σ H R h => ?_
  obtain ⟨c, H0, ρ, rfl, ok, rel, p⟩ := h
  have p : Post X.mg W σ c (JI X.K st false c) R ((ev a ρ c.s).bind fun x s => (stk st x s).bind fun x s => liftO s (itemsD x.2)) := p
  refine tR.bind ok rel p fun x c1 xa ea t1 ok1 rel1 j1 p1 => ?_
  obtain ⟨hk, p1⟩ := p1.stk
  obtain ⟨k, d⟩ := xa
  obtain ⟨c2, k2, e1, e2, t2, ok2, j2, hv⟩ := walk_of hk j1 t1 ok1
  have p1 : Post X.mg W σ c (JI X.K st false c) R (liftO c1.s (itemsD d)) := p1
  have fin : ∀ {J : It} {ds : List D}, itemsD d = some ds → Gd X.K false J (fun c'' : Cf Y => Is X.K c.H c'' k2 x d) ds → R J c1.H := fun {J ds} ed g => by
    rw [ed] at p1
    rw [← e2]
    exact p1 J c2 e1 t2 ok2 ⟨_, g, fun c'' h => Is.later j2 hv h⟩
  cases d with
  | lst ds =>
    obtain ⟨q, vs, rfl, h1, r1⟩ := Is.lst j1 ok1
    refine .inl ⟨q, rfl, ⟨vs, .inl (.inl h1)⟩, fin rfl (gd_lst fun c'' g ok'' => ?_)⟩
    obtain ⟨q', vs', e3, h3, r3⟩ := Is.lst g ok''
    cases e3
    exact ⟨vs', h3, r3⟩
  | tup ds =>
    obtain ⟨q, vs, rfl, h1, _, r1⟩ := Is.tup j1 ok1
    refine .inr (.inl ⟨q, rfl, ⟨vs, h1⟩, fin rfl (gd_tup fun c'' g ok'' => ?_)⟩)
    obtain ⟨q', vs', e3, h3, _, r3⟩ := Is.tup g ok''
    cases e3
    exact ⟨vs', h3, r3⟩
  | str z => exact .inr (.inr ⟨z, Is.str j1, fin rfl gd_str⟩)
  | _ => exact p1.elim
theorem si_rng (C : Cxt X W n N sc) (hg : glB sc "range" = true) (hs : notStar a' = true) (ha : PE X a' (tE X.K X.mg W a)) : PI X tg (.Call (.Name "range" p) [a'] [] pos) (tI X.K X.mg W st (.rng a)) := by
  refine (pi_range1 (C.gl hg) (C.bltn (by decide +kernel)) (pa_cons ha pa_nil (star_cons hs _ _)) (star_cons hs _ _)).weak fun σ H R h => ?_
  obtain ⟨c, H0, ρ, rfl, ok, rel, p⟩ := h
  have p : Post X.mg W σ c (JI X.K st false c) R ((ev a ρ c.s).bind fun x s => (intOf x s).bind fun n s => if decide (-1000000 ≤ n) && decide (n ≤ 1000000) then .ok (rngD n.toNat) s else .er) := p
  refine tR.bind ok rel p fun x c1 xa ea t1 ok1 rel1 j1 p1 => ?_
  obtain ⟨i, ei, q⟩ := p1.int
  obtain ⟨k, d⟩ := xa
  have ei : d = .int i := ei
  subst ei
  split at q
  · rename_i hb
    simp only [Bool.and_eq_true, decide_eq_true_eq] at hb
    exact ⟨i, by rw [Is.int j1], by omega, by omega, q _ c1 rfl t1 ok1 ⟨fun _ => True, gd_rng, fun _ _ => trivial⟩⟩
  · exact q.elim
theorem si_zip (C : Cxt X W n N sc) (hg : glB sc "zip" = true) (hs : notStar a' = true) (hs2 : notStar b' = true) (ht : isTupE tg = true) (ha : PE X a' (tE X.K X.mg W a)) (hb : PE X b' (tE X.K X.mg W b)) : PI X tg (.Call (.Name "zip" p) [a', b'] [] pos) (tI X.K X.mg W st (.zip a b)) := by
  cases tg <;> first | cases ht | skip
  refine (pi_zk (C.gl hg) (C.bltn (by decide +kernel)) (pa_cons ha (pa_cons hb pa_nil (star_cons hs2 _ _)) (star_cons hs _ _)) (star_cons hs _ _) (by rw [star_cons hs2]; rfl)).weak fun σ H R h => ?_
  obtain ⟨c, H0, ρ, rfl, ok, rel, p⟩ := h
  have p : Post X.mg W σ c (JI X.K st true c) R ((ev a ρ c.s).bind fun x s => (stk st x s).bind fun x s => (ev b ρ s).bind fun y s => (stk st y s).bind fun y s => liftO s (zipK x.2 y.2)) := p
  refine tR.bind ok rel p fun x c1 xa ea t1 ok1 rel1 j1 p1 => ?_
  obtain ⟨hk, p1⟩ := p1.stk
  obtain ⟨k, d⟩ := xa
  obtain ⟨c2, k2, e1, e2, t2, ok2, j2, hv⟩ := walk_of hk j1 t1 ok1
  rw [← e2]
  rw [← e1] at p1
  have p1 := p1.shift (J' := JI X.K st true c2) t2 ok2 fun _ _ _ z => z
  refine tR.bind ok2 (rel.step t2) p1 fun y c3 ya eb t3 ok3 rel3 j3 p3 => ?_
  obtain ⟨hk3, p3⟩ := p3.stk
  obtain ⟨k3, d3⟩ := ya
  obtain ⟨c4, k4, e3, e4, t4, ok4, j4, hv4⟩ := walk_of hk3 j3 t3 ok3
  have p3 : Post X.mg W σ c2 (JI X.K st true c2) R (liftO c3.s (zipK d d3)) := p3
  have fin : ∀ {J : It} {ds : List D}, zipK d d3 = some ds → Gd X.K true J (fun c'' : Cf Y => Is X.K c.H c'' k2 x d ∧ Is X.K c2.H c'' k4 y d3) ds → R J c3.H := fun {J ds} ed g => by
    rw [ed] at p3
    rw [← e4]
    refine p3 J c4 e3 t4 ok4 ⟨_, g, fun c'' h => ⟨?_, Is.later j4 hv4 h⟩⟩
    exact Is.later (Is.step j2 t4) hv h
  have j3' := Is.step j2 t3
  cases eds : seqD d with
  | none => unfold zipK at p3; rw [eds] at p3; exact p3.elim
  | some ds =>
    cases ees : seqD d3 with
    | none => unfold zipK at p3; rw [eds, ees] at p3; exact p3.elim
    | some es =>
      have ez : zipK d d3 = some (zipD ds es) := by unfold zipK; rw [eds, ees]
      obtain ⟨u1, u2, vs, r1, u3⟩ := zv_is eds j3' ok3
      obtain ⟨w1, w2, vs2, r2, w3⟩ := zv_is ees j3 ok3
      refine ⟨x, y, zvOf d, zvOf d3, rfl, ⟨u1, w1, u2, w2⟩, vs, vs2, u3, w3, fun t t' => fin ez (gd_zk (fun c'' g ok'' => ?_) fun c'' g ok'' => ?_)⟩
      · obtain ⟨_, _, vs', r', u'⟩ := zv_is eds g.1 ok''
        exact ⟨vs', u' t, r'⟩
      · obtain ⟨_, _, vs', r', u'⟩ := zv_is ees g.2 ok''
        exact ⟨vs', u' t', r'⟩
end
end Mf
set_option Elab.async false
set_option linter.all false
set_option maxRecDepth 100000
set_option maxHeartbeats 1000000
namespace Mf
open PySem L2

/-! ### slots -/
section
variable {Y : Sys} {K : PySem.W.Frag} {H0 : Hp} {c : Cf Y} {σ : L2.St} {ρ : List SV}
theorem Rel.set (r : Rel K H0 c σ ρ) {i : Nat} {v : V} {d : D} (h : Rep K c.F v d) (hi : i < ρ.length) : Rel K H0 c (σ.set i (some v)) (ρ.set i (.va d)) where
  len := by rw [List.length_set, List.length_set]; exact r.len
  va := fun j e hj => by
    by_cases q : i = j
    · subst q
      rw [List.getElem?_set_self hi] at hj
      cases hj
      exact ⟨v, List.getElem?_set_self (by rw [← r.len]; exact hi), h⟩
    · rw [List.getElem?_set_ne q] at hj
      obtain ⟨v', h1, h2⟩ := r.va j e hj
      exact ⟨v', by rw [List.getElem?_set_ne q]; exact h1, h2⟩
  ow := fun j e hj => by
    by_cases q : i = j
    · subst q
      rw [List.getElem?_set_self hi] at hj
      cases hj
    · rw [List.getElem?_set_ne q] at hj
      obtain ⟨v', h1, h2⟩ := r.ow j e hj
      exact ⟨v', by rw [List.getElem?_set_ne q]; exact h1, h2⟩
  ap := fun j k e e' p hjk hj hk hp => by
    by_cases q : i = j
    · subst q
      rw [List.getElem?_set_self hi] at hj
      cases hj
    · by_cases q' : i = k
      · subst q'
        rw [List.getElem?_set_self hi] at hk
        cases hk
      · rw [List.getElem?_set_ne q] at hj hp
        rw [List.getElem?_set_ne q'] at hk ⊢
        exact r.ap j k e e' p hjk hj hk hp
theorem Rel.unset (r : Rel K H0 c σ ρ) (i : Nat) (x : Option V) : Rel K H0 c (σ.set i x) (ρ.set i .no) where
  len := by rw [List.length_set, List.length_set]; exact r.len
  va := fun j e hj => by
    by_cases q : i = j
    · subst q
      by_cases hi : i < ρ.length
      · rw [List.getElem?_set_self hi] at hj; cases hj
      · rw [List.getElem?_eq_none (by rw [List.length_set]; omega)] at hj; cases hj
    · rw [List.getElem?_set_ne q] at hj
      obtain ⟨v', h1, h2⟩ := r.va j e hj
      exact ⟨v', by rw [List.getElem?_set_ne q]; exact h1, h2⟩
  ow := fun j e hj => by
    by_cases q : i = j
    · subst q
      by_cases hi : i < ρ.length
      · rw [List.getElem?_set_self hi] at hj; cases hj
      · rw [List.getElem?_eq_none (by rw [List.length_set]; omega)] at hj; cases hj
    · rw [List.getElem?_set_ne q] at hj
      obtain ⟨v', h1, h2⟩ := r.ow j e hj
      exact ⟨v', by rw [List.getElem?_set_ne q]; exact h1, h2⟩
  ap := fun j k e e' p hjk hj hk hp => by
    have no : ∀ {m : Nat} {e : D}, (ρ.set i .no)[m]? = some (SV.ow e) → i ≠ m := fun {m e} h q => by
      subst q
      by_cases hi : i < ρ.length
      · rw [List.getElem?_set_self hi] at h; cases h
      · rw [List.getElem?_eq_none (by rw [List.length_set]; omega)] at h; cases h
    have q := no hj
    have q' := no hk
    rw [List.getElem?_set_ne q] at hj hp
    rw [List.getElem?_set_ne q'] at hk ⊢
    exact r.ap j k e e' p hjk hj hk hp
theorem Rel.wipe (r : Rel K H0 c σ ρ) : ∀ vs : List Nat, Rel K H0 c (L2.wipe σ vs) (wipeR ρ vs)
  | [] => r
  | v :: vs => (Rel.wipe r vs).unset v none
end
theorem wipe_in {σ : L2.St} {i : Nat} : ∀ {vs : List Nat}, i ∈ vs → i < σ.length → (wipe σ vs)[i]? = some none
  | v :: vs, h, hi => by
    unfold wipe
    by_cases q : v = i
    · subst q
      exact List.getElem?_set_self (by rw [wipe_length]; exact hi)
    · rw [List.getElem?_set_ne q]
      exact wipe_in ((List.mem_cons.mp h).resolve_left fun z => q z.symm) hi
theorem wipe_ext {σ τ : L2.St} {vs : List Nat} (hl : σ.length = τ.length) (h : ∀ i, i ∉ vs → σ[i]? = τ[i]?) : wipe σ vs = wipe τ vs := by
  apply List.ext_getElem?
  intro i
  by_cases q : i ∈ vs
  · by_cases hi : i < σ.length
    · rw [wipe_in q hi, wipe_in q (by omega)]
    · rw [List.getElem?_eq_none (by rw [wipe_length]; omega), List.getElem?_eq_none (by rw [wipe_length]; omega)]
  · rw [wipe_out q, wipe_out q]
    exact h i q
theorem wipe_set {σ : L2.St} {i : Nat} {x : Option V} {vs : List Nat} (h : i ∈ vs) : wipe (σ.set i x) vs = wipe σ vs :=
  wipe_ext (by rw [List.length_set]) fun j hj => List.getElem?_set_ne (show i ≠ j from fun q => hj (q ▸ h))
theorem wipe_wipe {σ : L2.St} {vs : List Nat} : wipe (wipe σ vs) vs = wipe σ vs := wipe_ext (wipe_length _ _) fun i hi => wipe_out hi

/-! ### targets -/
def gL (K : PySem.W.Frag) : Tg → TGs
  | .nm _ => fun _ _ _ _ => False
  | .nil => gNil
  | .cons t r => gCons (match t with | .nm i => gName i | .nil => fun _ _ _ _ => False | .cons t' r' => gTup K (lenTg (.cons t' r')) (gL K (.cons t' r'))) (gL K r)
def gT (K : PySem.W.Frag) : Tg → TG
  | .nm i => gName i
  | .nil => fun _ _ _ _ => False
  | .cons t' r' => gTup K (lenTg (.cons t' r')) (gL K (.cons t' r'))
theorem asgL_len : ∀ {t : Tg} {ds : List D} {ρ ρ' : List SV}, asgL t ds ρ = some ρ' → ds.length = lenTg t
  | .nm _, _, _, _, h => by cases h
  | .nil, [], _, _, h => rfl
  | .nil, _ :: _, _, _, h => by cases h
  | .cons _ _, [], _, _, h => by cases h
  | .cons t r, d :: ds, ρ, ρ', h => by
    show ds.length + 1 = lenTg r + 1
    unfold asgL at h
    cases t with
    | nm i =>
      simp only at h
      split at h
      · rw [asgL_len h]
      · cases h
    | nil => cases h
    | cons t' r' =>
      simp only at h
      split at h
      · obtain ⟨ρ1, h1, h2⟩ := Option.bind_eq_some_iff.mp h
        rw [asgL_len h2]
      · cases h
theorem gL_use {Y : Sys} {K : PySem.W.Frag} {H0 : Hp} {c : Cf Y} (ok : Ok c) : ∀ {t : Tg} {ds : List D} {ρ ρ' : List SV} {σ : L2.St} {vs : List V} {Q : L2.St → Hp → Prop}, asgL t ds ρ = some ρ' → Rel K H0 c σ ρ → Reps K c.F vs ds →
    (∀ σ', Rel K H0 c σ' ρ' → σ'.length = σ.length → (∀ i, i ∉ slots t → σ'[i]? = σ[i]?) → Q σ' c.H) → gL K t vs σ c.H Q
  | .nm _, _, _, _, _, _, _, h, _, _, _ => by cases h
  | .nil, [], _, _, _, _, _, h, r, rv, q => by
    cases h
    cases rv
    exact ⟨rfl, q _ r rfl fun _ _ => rfl⟩
  | .nil, _ :: _, _, _, _, _, _, h, _, _, _ => by cases h
  | .cons _ _, [], _, _, _, _, _, h, _, _, _ => by cases h
  | .cons t r, d :: ds, ρ, ρ', σ, vs, Q, h, rel, rv, q => by
    cases rv with
    | cons rd rr =>
      rename_i v vr
      unfold gL
      refine ⟨v, vr, rfl, ?_⟩
      unfold asgL at h
      cases t with
      | nm i =>
        simp only at h
        split at h
        · rename_i hi
          refine gL_use ok h (rel.set rd hi) rr fun σ' r' l' s' => q σ' r' (by rw [l', List.length_set]) fun j hj => ?_
          rw [s' j fun z => hj (List.mem_append_right _ z)]
          exact List.getElem?_set_ne (show i ≠ j from fun z => hj (List.mem_append_left _ (by rw [← z]; exact List.mem_singleton_self _)))
        · cases h
      | nil =>
        cases h
      | cons t' r' =>
        simp only at h
        split at h
        · rename_i es
          obtain ⟨ρ1, h1, h2⟩ := Option.bind_eq_some_iff.mp h
          cases rd with
          | tup hq _ re =>
            refine ⟨_, _, rfl, sqT_sub ok.sub hq, by rw [re.length, asgL_len h1], ?_⟩
            refine gL_use ok h1 rel re fun σ1 rel1 l1 s1 => gL_use ok h2 rel1 rr fun σ' rel' l' s' => q σ' rel' (by rw [l', l1]) fun j hj => ?_
            rw [s' j fun z => hj (List.mem_append_right _ z)]
            exact s1 j fun z => hj (List.mem_append_left _ z)
        · cases h

/-- a tuple's target: what is in it alone counts -/
theorem gT_useW {Y : Sys} {K : PySem.W.Frag} {H0 : Hp} {c : Cf Y} (ok : Ok c) {t r : Tg} {ds : List D} {ρ ρ' : List SV} {σ : L2.St} {a : Addr} {vs : List V} {Q : L2.St → Hp → Prop} (h : asgT (.cons t r) (.tup ds) ρ = some ρ') (rel : Rel K H0 c σ ρ) (hq : SqT K c.F a vs) (rv : Reps K c.F vs ds)
    (q : ∀ σ', Rel K H0 c σ' ρ' → σ'.length = σ.length → (∀ i, i ∉ slots (.cons t r) → σ'[i]? = σ[i]?) → Q σ' c.H) : gT K (.cons t r) (.ref a) σ c.H Q := by
  unfold asgT asgL at h
  obtain ⟨ρ1, h1, h2⟩ := Option.bind_eq_some_iff.mp h
  cases h2
  exact ⟨a, vs, rfl, sqT_sub ok.sub hq, by rw [rv.length, asgL_len h1], gL_use ok h1 rel rv q⟩
theorem gT_use {Y : Sys} {K : PySem.W.Frag} {H0 : Hp} {c : Cf Y} (ok : Ok c) {t : Tg} {d : D} {ρ ρ' : List SV} {σ : L2.St} {v : V} {Q : L2.St → Hp → Prop} (h : asgT t d ρ = some ρ') (rel : Rel K H0 c σ ρ) (rv : Rep K c.F v d)
    (q : ∀ σ', Rel K H0 c σ' ρ' → σ'.length = σ.length → (∀ i, i ∉ slots t → σ'[i]? = σ[i]?) → Q σ' c.H) : gT K t v σ c.H Q := by
  have g := gL_use (Q := Q) ok h rel (Reps.cons rv .nil) fun σ' r' l' s' => q σ' r' l' fun i hi => s' i fun z => by
    rcases List.mem_append.mp z with z | z
    · exact hi z
    · cases z
  unfold gL at g
  obtain ⟨v', r', e, g⟩ := g
  cases e
  have fin : ∀ {σ : L2.St} {H : Hp}, gL K .nil [] σ H Q → Q σ H := fun g => by
    unfold gL at g
    exact g.2
  cases t with
  | nm i => exact fin g
  | nil => exact g
  | cons t' r' =>
    obtain ⟨a, xs, e1, e2, e3, g⟩ := g
    refine ⟨a, xs, e1, e2, e3, ?_⟩
    have mono : ∀ {t : Tg} {vs : List V} {σ : L2.St} {H : Hp} {Q Q' : L2.St → Hp → Prop}, (∀ σ H, Q σ H → Q' σ H) → gL K t vs σ H Q → gL K t vs σ H Q' := by
      intro t
      induction t with
      | nm i => intro vs σ H Q Q' _ h; exact h
      | nil => intro vs σ H Q Q' hq h; unfold gL at h ⊢; exact ⟨h.1, hq _ _ h.2⟩
      | cons t r iht ihr =>
        intro vs σ H Q Q' hq h
        unfold gL at h ⊢
        obtain ⟨v, rr, e, h⟩ := h
        refine ⟨v, rr, e, ?_⟩
        cases t with
        | nm i => exact ihr hq h
        | nil => exact h
        | cons t' r' =>
          obtain ⟨a, xs, f1, f2, f3, h⟩ := h
          exact ⟨a, xs, f1, f2, f3, iht (fun _ _ z => ihr hq z) h⟩
    exact mono (fun _ _ z => fin z) g
def consT : Tg → Bool
  | .cons _ _ => true
  | _ => false
theorem gT_any {Y : Sys} {K : PySem.W.Frag} {H0 : Hp} {c : Cf Y} {z : Bool} (ok : Ok c) {t : Tg} {d : D} {ρ ρ' : List SV} {σ : L2.St} {v : V} {Q : L2.St → Hp → Prop} (hz : z = true → consT t = true) (h : asgT t d ρ = some ρ') (rel : Rel K H0 c σ ρ) (rv : RepW K z c.F v d)
    (q : ∀ σ', Rel K H0 c σ' ρ' → σ'.length = σ.length → (∀ i, i ∉ slots t → σ'[i]? = σ[i]?) → Q σ' c.H) : gT K t v σ c.H Q := by
  rcases rv with rv | ⟨e, a, vs, ds, rfl, rfl, hq, rs⟩
  · exact gT_use ok h rel rv q
  · cases t with
    | cons t r => exact gT_useW ok h rel hq rs q
    | _ => cases hz e
section
variable {X : Cx} {N : List Str} {sc : Scope} {fns : Str → Bool}
theorem each_ok {env : Env} : ∀ {t : Tg} {es : List Expr}, chkTs N sc fns t es = true → (assignEach es env).length = lenTg t ∧ ∀ p ∈ assignEach es env, p.1 = false
  | .nm _, es, h => by cases es <;> cases h
  | .nil, [], _ => ⟨rfl, fun p hp => by cases hp⟩
  | .nil, _ :: _, h => by cases h
  | .cons t r, [], h => by cases t <;> cases h
  | .cons t r, e :: es, h => by
    cases t with
    | nm i =>
      cases e <;> first | cases h | skip
      unfold chkTs at h
      simp only [Bool.and_eq_true] at h
      obtain ⟨h1, h2⟩ := each_ok (env := env) h.2
      refine ⟨congrArg (· + 1) h1, fun p hp => ?_⟩
      rcases List.mem_cons.mp hp with z | z
      · rw [z]
      · exact h2 p z
    | nil => cases e <;> cases h
    | cons t' r' =>
      cases e <;> first | cases h | skip
      unfold chkTs at h
      simp only [Bool.and_eq_true] at h
      obtain ⟨h1, h2⟩ := each_ok (env := env) h.2
      refine ⟨congrArg (· + 1) h1, fun p hp => ?_⟩
      rcases List.mem_cons.mp hp with z | z
      · rw [z]
      · exact h2 p z
theorem pgs_ok (hN : X.N = N) (hs : X.env.scope = sc) (nd : N.Nodup) (hc : X.calm = true) (hf : X.fn = fns) : ∀ {t : Tg} {es : List Expr}, chkTs N sc fns t es = true → PGs X es (gL X.K t)
  | .nm _, es, h => by cases es <;> cases h
  | .nil, [], _ => by unfold gL; exact pgs_nil
  | .nil, _ :: _, h => by cases h
  | .cons t r, [], h => by cases t <;> cases h
  | .cons t r, e :: es, h => by
    cases t with
    | nm i =>
      cases e <;> first | cases h | skip
      rename_i x pos
      unfold chkTs at h
      simp only [Bool.and_eq_true] at h
      obtain ⟨⟨h1, h2⟩, h3⟩ := h
      unfold gL
      refine pgs_cons (pg_name (by rw [hN]; exact nd) (by rw [hN]; exact beq_iff_eq.mp h1) ?_ ?_) (pgs_ok hN hs nd hc hf h3) rfl
      · unfold L2.Loc
        rw [hs]
        split at h2
        · exact .inl (by assumption)
        · exact .inr (by assumption)
        · cases h2
      · rw [hf, hs]
        split at h2
        · exact .inr (by assumption)
        · exact .inl h2
        · cases h2
    | nil => cases e <;> cases h
    | cons t' r' =>
      cases e <;> first | cases h | skip
      rename_i es' kk pos
      unfold chkTs at h
      simp only [Bool.and_eq_true] at h
      unfold gL
      obtain ⟨e1, e2⟩ := each_ok (env := X.env) h.1
      refine pgs_cons (pg_tup hc (pgs_ok hN hs nd hc hf h.1) e1 ?_) (pgs_ok hN hs nd hc hf h.2) rfl
      rw [List.findIdx?_eq_none_iff]
      exact fun p hp => by simpa using e2 p hp
theorem pg_ok (hN : X.N = N) (hs : X.env.scope = sc) (nd : N.Nodup) (hc : X.calm = true) (hf : X.fn = fns) {t : Tg} {e : Expr} (h : chkT N sc fns t e = true) : PG X e (gT X.K t) := by
  unfold chkT at h
  cases t with
  | nm i =>
    cases e <;> first | cases h | skip
    rename_i x pos
    unfold chkTs at h
    simp only [Bool.and_eq_true] at h
    obtain ⟨⟨h1, h2⟩, h3⟩ := h
    refine pg_name (by rw [hN]; exact nd) (by rw [hN]; exact beq_iff_eq.mp h1) ?_ ?_
    · unfold L2.Loc
      rw [hs]
      split at h2
      · exact .inl (by assumption)
      · exact .inr (by assumption)
      · cases h2
    · rw [hf, hs]
      split at h2
      · exact .inr (by assumption)
      · exact .inl h2
      · cases h2
  | nil => cases e <;> cases h
  | cons t' r' =>
    cases e <;> first | cases h | skip
    rename_i es' kk pos
    unfold chkTs at h
    simp only [Bool.and_eq_true] at h
    obtain ⟨e1, e2⟩ := each_ok (env := X.env) h.1
    refine pg_tup hc (pgs_ok hN hs nd hc hf h.1) e1 ?_
    rw [List.findIdx?_eq_none_iff]
    exact fun p hp => by simpa using e2 p hp
end
end Mf
set_option Elab.async false
set_option linter.all false
set_option maxRecDepth 100000
set_option maxHeartbeats 1000000
namespace Mf
open PySem L2

abbrev W0 : WX := fun _ _ _ _ => False
/-- a comprehension's turn -/
def lcF {S : Type} (tg : Tg) (ifs : CA S) (elt : CE S) (ρ : List SV) : D → S → Res S (Option D) := fun d s => match asgT tg d ρ with
  | none => .er
  | some ρ' => (noEx (evT ifs ρ' s)).bind fun k s => if k then (noEx (ev elt ρ' s)).bind fun y s => (dat y s).bind fun e s => .ok (some e) s else .ok none s
theorem noEx_ok {S α : Type} {r : Res S α} {a : α} {s : S} (h : noEx r = .ok a s) : r = .ok a s := by
  cases r with
  | ok b t => exact h
  | _ => cases h
theorem bind_ok {S α β : Type} {r : Res S α} {f : α → S → Res S β} {b : β} {s : S} (h : r.bind f = .ok b s) : ∃ a t, r = .ok a t ∧ f a t = .ok b s := by
  cases r with
  | ok a t => exact ⟨a, t, rfl, h⟩
  | _ => cases h
theorem dat_ok {S : Type} {x : K3 × D} {s t : S} {d : D} (h : dat x s = .ok d t) : x.1 ≠ .o ∧ d = x.2 ∧ t = s := by
  obtain ⟨k, e⟩ := x
  cases k <;> cases h
  · exact ⟨fun z => (nomatch z), rfl, rfl⟩
  · exact ⟨fun z => (nomatch z), rfl, rfl⟩
theorem lcF_ok {S : Type} {tg : Tg} {ifs : CA S} {elt : CE S} {ρ : List SV} {d : D} {s s' : S} {o : Option D} (h : lcF tg ifs elt ρ d s = .ok o s') : ∃ ρ' k s1, asgT tg d ρ = some ρ' ∧ evT ifs ρ' s = .ok k s1 ∧
    ((k = true ∧ ∃ y, ev elt ρ' s1 = .ok y s' ∧ y.1 ≠ .o ∧ o = some y.2) ∨ (k = false ∧ o = none ∧ s' = s1)) := by
  unfold lcF at h
  split at h
  · cases h
  · rename_i ρ' e
    obtain ⟨k, s1, h1, h2⟩ := bind_ok h
    refine ⟨ρ', k, s1, e, noEx_ok h1, ?_⟩
    cases k with
    | true =>
      obtain ⟨y, s2, h3, h4⟩ := bind_ok (show (noEx (ev elt ρ' s1)).bind _ = _ from h2)
      obtain ⟨e', s3, h5, h6⟩ := bind_ok h4
      obtain ⟨h7, h8, h9⟩ := dat_ok h5
      subst h8 h9
      cases h6
      exact .inl ⟨rfl, y, noEx_ok h3, h7, rfl⟩
    | false =>
      have h2 : Res.ok none s1 = Res.ok o s' := h2
      cases h2
      exact .inr ⟨rfl, rfl, rfl⟩
theorem lcF_ex {S : Type} {tg : Tg} {ifs : CA S} {elt : CE S} {ρ : List SV} {d : D} {s s' : S} {x : Str} : lcF tg ifs elt ρ d s ≠ .ex x s' := by
  unfold lcF
  split
  · exact fun z => nomatch z
  · rename_i ρ' e
    cases evT ifs ρ' s with
    | ok k s1 =>
      cases k with
      | true =>
        show ((noEx (ev elt ρ' s1)).bind fun y s => (dat y s).bind fun e s => .ok (some e) s) ≠ _
        cases ev elt ρ' s1 with
        | ok y s2 =>
          obtain ⟨k3, dd⟩ := y
          cases k3 <;> exact fun z => nomatch z
        | _ => exact fun z => nomatch z
      | false => exact fun z => nomatch z
    | _ => exact fun z => nomatch z
theorem walkR_ex {S : Type} {f : D → S → Res S (Option D)} (hf : ∀ d s x s', f d s ≠ .ex x s') : ∀ (ds : List D) (s : S) (x : Str) (s' : S), walkR f ds s ≠ .ex x s'
  | [], _, _, _ => fun z => nomatch z
  | d :: ds, s, x, s' => by
    unfold walkR
    cases e : f d s with
    | ok o s1 =>
      show ((walkR f ds s1).bind _) ≠ _
      cases e2 : walkR f ds s1 with
      | ok r s2 => exact fun z => nomatch z
      | ex y s2 => exact absurd e2 (walkR_ex hf ds s1 y s2)
      | er => exact fun z => nomatch z
    | ex y s2 => exact absurd e (hf d s y s2)
    | er => exact fun z => nomatch z
theorem walkR_cons {S : Type} {f : D → S → Res S (Option D)} {d : D} {ds : List D} {s s' : S} {r : List D} (h : walkR f (d :: ds) s = .ok r s') : ∃ o s1 r', f d s = .ok o s1 ∧ walkR f ds s1 = .ok r' s' ∧ r = o.toList ++ r' := by
  unfold walkR at h
  obtain ⟨o, s1, h1, h2⟩ := bind_ok h
  obtain ⟨r', s2, h3, h4⟩ := bind_ok h2
  cases h4
  exact ⟨o, s1, r', h1, h3, rfl⟩
section
variable {Y : Sys} {K : PySem.W.Frag} {mg : Str → Option Value} {W : WX}
abbrev tTs (K : PySem.W.Frag) (mg : Str → Option Value) (W : WX) (ifs : CA Y.S) : TT := tR K mg W JB (evT ifs)
theorem lc_use {it : CI Y.S} {tg : Tg} {ifs : CA Y.S} {elt : CE Y.S} {vs : List Nat} (hz : zipI it = true → consT tg = true) (hsl : ∀ i ∈ slots tg, i ∈ vs) {σ : L2.St} {H : Hp} {Q : VK} (h : tE K mg W (.lc it tg ifs elt vs) σ H Q) :
    tLc (tI K mg W false it) (gT K tg) (tTs K mg W0 ifs) (tE K mg W0 elt) vs σ H Q := by
  obtain ⟨c, H0, ρ, rfl, ok, rel, p⟩ := h
  have p : Post mg W σ c (JE K c) Q ((evI false it ρ c.s).bind fun ds s => if !lenOk ds.length then .er else (walkR (lcF tg ifs elt (wipeR ρ vs)) ds s).bind fun r s => .ok (.t, .lst r) s) := p
  refine tR.bind ok rel p fun J c1 ds ea t1 ok1 rel1 j1 p1 => ?_
  obtain ⟨G, gd, hG⟩ := j1
  intro L hL
  have p1 := p1.shiftE t1 ok1
  split at p1
  · exact p1.elim
  rename_i hlen
  have hlen : lenOk ds.length = true := by simpa using hlen
  cases ew : walkR (lcF tg ifs elt (wipeR ρ vs)) ds c1.s with
  | er => rw [ew] at p1; exact p1.elim
  | ex x s' => exact absurd ew (walkR_ex (fun _ _ _ _ => lcF_ex) _ _ _ _)
  | ok r s' =>
    rw [ew] at p1
    have p1 : ∀ v (c' : Cf Y), c'.s = s' → Step c1 c' → Ok c' → Is K c1.H c' .t v (.lst r) → Q v c'.H := p1
    refine ⟨fun i m H => m = ds.length - i ∧ i ≤ ds.length ∧ ∃ (cc : Cf Y) (acc : List V) (done rest : List D), cc.H = H ∧ Ok cc ∧ Step c1 cc ∧ cc.H L = some (.lst acc) ∧ cc.F L = none ∧ ¬ Y.dm cc.s L ∧ Reps K cc.F acc done ∧ acc.length ≤ i ∧
      walkR (lcF tg ifs elt (wipeR ρ vs)) (ds.drop i) cc.s = .ok rest s' ∧ done ++ rest = r,
      ⟨ds.length, rfl, Nat.zero_le _, ⟨c1.F, upd c1.H L (.lst []), c1.s⟩, [], [], r, rfl, ok1.own hL _, Step.own ok1 hL _, upd_same, ok1.fr hL, fun z => ok1.has L z hL, .nil, Nat.le_refl _, ew, rfl⟩, fun i m H hW => ?_⟩
    obtain ⟨rfl, hi, cc, acc, done, rest, rfl, okc, tc, hacc, hF, hnd, racc, hal, hw, hr⟩ := hW
    by_cases hlt : i < ds.length
    · have hd : ds[i]? = some ds[i] := List.getElem?_eq_getElem hlt
      have edrop : ds.drop i = ds[i] :: ds.drop (i + 1) := List.drop_eq_getElem_cons hlt
      rw [edrop] at hw
      obtain ⟨o, s1, r', w1, w2, w3⟩ := walkR_cons hw
      obtain ⟨ρ', k, s2, a1, a2, a3⟩ := lcF_ok w1
      obtain ⟨go, yl⟩ := (gd cc (hG cc (by rw [if_neg Bool.false_ne_true]; exact tc)) okc i).2 _ hd
      refine .inr ⟨go, fun H' => ds.length - (i + 1) = ds.length - (i + 1) ∧ i + 1 ≤ ds.length ∧ ∃ (cc : Cf Y) (acc : List V) (done rest : List D), cc.H = H' ∧ Ok cc ∧ Step c1 cc ∧ cc.H L = some (.lst acc) ∧ cc.F L = none ∧ ¬ Y.dm cc.s L ∧ Reps K cc.F acc done ∧ acc.length ≤ i + 1 ∧
        walkR (lcF tg ifs elt (wipeR ρ vs)) (ds.drop (i + 1)) cc.s = .ok rest s' ∧ done ++ rest = r, fun H' hN => ⟨ds.length - (i + 1), by omega, hN⟩, fun x H' hy => ?_⟩
      obtain ⟨c2, rfl, es2, t2, ok2, rx⟩ := yl x H' hy
      have rel2 : Rel K H0 c2 (wipe σ vs) (wipeR ρ vs) := (rel1.step (tc.trans okc t2)).wipe vs
      refine gT_any ok2 hz a1 rel2 rx fun σ' rel' l' s' => ⟨?_, ?_⟩
      · rw [← wipe_wipe (σ := σ) (vs := vs)]
        exact wipe_ext l' fun j hj => s' j fun z => hj (hsl j z)
      · refine ⟨c2, H0, ρ', rfl, ok2, rel', ?_⟩
        rw [es2, a2]
        intro b c3 es3 t3 ok3 hb
        have hb : b = k := hb
        subst hb
        have obL : cc.H L ≠ none := by rw [hacc]; exact fun z => nomatch z
        rcases a3 with ⟨rfl, y, a4, a5, a6⟩ | ⟨rfl, a4, a5⟩
        · refine iteT ⟨c3, H0, ρ', rfl, ok3, rel'.step t3, ?_⟩
          rw [es3, a4]
          intro v c4 es4 t4 ok4 j4
          obtain ⟨c5, es5, eh5, t5, ok5, r5⟩ := Is.data j4 a5 t4 ok4
          have T : Step cc c5 := t2.trans ok2 (t3.trans ok3 t5)
          have hacc5 : c5.H L = some (.lst acc) := T.h L _ hacc hnd
          have hF5 : c5.F L = none := T.n L obL hF
          have hnd5 : ¬ Y.dm c5.s L := fun z => hnd (T.g L obL z)
          rw [← eh5]
          refine ⟨acc, hacc5, ?_, rfl, hlt, ⟨c5.F, upd c5.H L (.lst (acc ++ [v])), c5.s⟩, acc ++ [v], done ++ [y.2], r', rfl, ok5.mut hF5 hnd5 _, (tc.trans okc T).mut hL _, upd_same, hF5, hnd5, (racc.mono T.f).append (.cons r5 .nil), ?_, ?_, ?_⟩
          · have := of_decide_eq_true hlen
            have e : sizeLine = 16777216 := by decide
            omega
          · rw [List.length_append, List.length_singleton]
            omega
          · rw [es5, es4]
            exact w2
          · rw [← hr, w3, a6, List.append_assoc]
            rfl
        · refine iteF ⟨rfl, hlt, c3, acc, done, r', rfl, ok3, ?_⟩
          have T : Step cc c3 := t2.trans ok2 t3
          refine ⟨tc.trans okc T, T.h L _ hacc hnd, T.n L obL hF, fun z => hnd (T.g L obL z), racc.mono T.f, by omega, ?_, ?_⟩
          · rw [es3, ← a5]
            exact w2
          · rw [← hr, w3, a4]
            rfl
    · have ei : i = ds.length := by omega
      subst ei
      rw [List.drop_length] at hw
      cases hw
      rw [List.append_nil] at hr
      subst hr
      have st := (gd cc (hG cc (by rw [if_neg Bool.false_ne_true]; exact tc)) okc ds.length).1 (Nat.le_refl _)
      exact .inl ⟨st, p1 (.ref L) cc rfl tc okc ⟨L, rfl, ⟨⟨acc, hacc, racc⟩, hF, hnd⟩, hL⟩⟩
end
section
variable {X : Cx} {Y : Sys} {W : WX} {n : Nat} {N : List Str} {sc scope : Scope} {pos spos py : Pos} {tg' iter' elt' : Expr} {ifs' : List Expr} {it : CI Y.S} {tg : Tg} {ifs : CA Y.S} {elt : CE Y.S} {vs : List Nat}
theorem Cxt.blk (C : Cxt X W n N sc) (s : Shared) (H : Hp) (L : Addr) (cl : List (Str × Addr)) (fp : List Addr) : Cxt (X.blk s H scope (compEnvC scope cl L X.env) fp) W0 n N (relS scope sc) where
  hN := C.hN
  hs := by rw [← C.hs]; rfl
  nd := C.nd
  calm := C.calm
  room := C.room
  tk := takes0
  we := ⟨fun _ _ _ => False, rfl⟩
  blt := C.blt
theorem own_snd : (vs.map fun i => ((N.getD i "" : Str), i)).map (·.2) = vs := by
  rw [List.map_map]
  exact List.map_id _
theorem se_lc (C : Cxt X W n N sc) (hz : zipI it = true → consT tg = true) (hI : PI X tg' iter' (tI X.K X.mg W false it)) (hset : notSet iter' = true) (hblk : blkC N sc scope (vs.map fun i => (N.getD i "", i)) = true) (hsl : (slots tg).all (fun i => vs.contains i) = true)
    (hT : chkT N (relS scope sc) (fun x => scope.names.lookup x == some .cell) tg tg' = true)
    (hC : ∀ X' : Cx, X'.prog = X.prog → X'.w = X.w → X'.K = X.K → X'.mg = X.mg → X'.base = X.base → Cxt X' W0 n N (relS scope sc) → PTs X' ifs' (tTs X.K X.mg W0 ifs))
    (hE : ∀ X' : Cx, X'.prog = X.prog → X'.w = X.w → X'.K = X.K → X'.mg = X.mg → X'.base = X.base → Cxt X' W0 n N (relS scope sc) → PE X' elt' (tE X.K X.mg W0 elt)) :
    PE X (.ListComp elt' [⟨tg', iter', ifs', 0⟩] scope pos) (tE X.K X.mg W (.lc it tg ifs elt vs)) ∧
    (∀ {i : Nat} {y : Str}, N[i]? = some y → sc.names.lookup y = some .local → swapsWith (.ListComp elt' [⟨tg', iter', ifs', 0⟩] scope pos) (some (.Name y py)) spos.line X.env = pure true →
      PS X (.Assign [.Name y py] (.ListComp elt' [⟨tg', iter', ifs', 0⟩] scope pos) spos) (tAsg (tE X.K X.mg W (.lc it tg ifs elt vs)) (gName i))) := by
  have hsl' : ∀ i ∈ slots tg, i ∈ vs := fun i hi => List.contains_iff_mem.mp (List.all_eq_true.mp hsl i hi)
  have ok : BlkOk X.N X.env.scope scope (vs.map fun i => (N.getD i "", i)) := by
    rw [C.hN, C.hs]
    exact blkOk_by hblk
  have hg : ∀ (s : Shared) (H : Hp) (L : Addr) (cl : List (Str × Addr)) (fp : List Addr), PG (X.blk s H scope (compEnvC scope cl L X.env) fp) tg' (gT X.K tg) := fun s H L cl fp =>
    pg_ok (X := X.blk s H scope (compEnvC scope cl L X.env) fp) C.hN (C.blk s H L cl fp).hs C.nd C.calm rfl hT
  refine ⟨?_, fun {i y} hi hl hsw => ?_⟩
  · refine (pe_lc (own := vs.map fun i => (N.getD i "", i)) C.calm (by rw [C.hN]; exact C.nd) hI ok hg (fun s H L cl fp => hC _ rfl rfl rfl rfl rfl (C.blk s H L cl fp)) (fun s H L cl fp => hE _ rfl rfl rfl rfl rfl (C.blk s H L cl fp)) (set_ok hset)).weak fun σ H Q h => ?_
    rw [own_snd]
    exact lc_use hz hsl' h
  · have q := ps_setLc (i := i) (y := y) (py := py) (pos := pos) (spos := spos) (own := vs.map fun i => (N.getD i "", i)) C.calm (by rw [C.hN]; exact C.nd) (by rw [C.hN]; exact hi) (by rw [C.hs]; exact hl) hsw hI ok hg (fun s H L cl fp => hC _ rfl rfl rfl rfl rfl (C.blk s H L cl fp)) (fun s H L cl fp => hE _ rfl rfl rfl rfl rfl (C.blk s H L cl fp)) (set_ok hset)
    rw [own_snd] at q
    exact ⟨fun pins s σ H D I h => q.run pins s σ H D I (lc_use hz hsl' h)⟩
end

/-! ### two for in a comprehension -/
theorem Rel.hide {Y : Sys} {K : PySem.W.Frag} {H0 : Hp} {c : Cf Y} {σ : L2.St} {ρ : List SV} (r : Rel K H0 c σ ρ) : Rel K H0 c σ (hideR ρ) where
  len := by unfold hideR; rw [List.length_map]; exact r.len
  va := fun i d e => by
    unfold hideR at e
    rw [List.getElem?_map] at e
    obtain ⟨x, h1, h2⟩ := Option.map_eq_some_iff.mp e
    cases x <;> first | cases h2 | skip
    exact r.va i d h1
  ow := fun i d e => by
    unfold hideR at e
    rw [List.getElem?_map] at e
    obtain ⟨x, h1, h2⟩ := Option.map_eq_some_iff.mp e
    cases x <;> cases h2
  ap := fun i j d e p _ h => by
    unfold hideR at h
    rw [List.getElem?_map] at h
    obtain ⟨x, h1, h2⟩ := Option.map_eq_some_iff.mp h
    cases x <;> cases h2
theorem hide_no {ρ : List SV} {i : Nat} {d : D} : (hideR ρ)[i]? ≠ some (.ow d) := by
  unfold hideR
  rw [List.getElem?_map]
  intro e
  obtain ⟨x, h1, h2⟩ := Option.map_eq_some_iff.mp e
  cases x <;> cases h2
theorem Rel.free {Y : Sys} {K : PySem.W.Frag} {H0 : Hp} {c c' : Cf Y} {σ : L2.St} {ρ : List SV} (r : Rel K H0 c σ (hideR ρ)) (f : Sub c.F c'.F) : Rel K H0 c' σ (hideR ρ) where
  len := r.len
  va := fun i d e => let ⟨v, h, q⟩ := r.va i d e; ⟨v, h, q.mono f⟩
  ow := fun i d e => absurd e hide_no
  ap := fun i j d e p _ h => absurd h hide_no
def lc2F {S : Type} (tg : Tg) (it1 : CI S) (tg1 : Tg) (elt : CE S) (vs1 : List Nat) (ρ : List SV) : D → S → Res S (List D) := fun d s => match asgT tg d ρ with
  | none => .er
  | some ρ' => (noEx (evI true it1 (hideR ρ') s)).bind fun ds1 s => walkR (lcF tg1 .nil elt (wipeR (hideR ρ') vs1)) ds1 s
theorem lcF_nil {S : Type} {tg : Tg} {elt : CE S} {ρ : List SV} : lcF tg .nil elt ρ = fun d s => match asgT tg d ρ with
    | none => .er
    | some ρ2 => (noEx (ev elt ρ2 s)).bind fun y s => (dat y s).bind fun e s => .ok (some e) s := by
  funext d s
  unfold lcF
  split <;> rfl
theorem ev_lc2 {S : Type} (it : CI S) (tg : Tg) (it1 : CI S) (tg1 : Tg) (elt : CE S) (vs vs1 : List Nat) (ρ : List SV) (s : S) : ev (.lc2 it tg it1 tg1 elt vs vs1) ρ s =
    (evI false it ρ s).bind fun ds s => if !lenOk ds.length then .er else (walkL (lc2F tg it1 tg1 elt vs1 (wipeR (hideR ρ) vs)) ds s).bind fun r s => if lenOk r.length then .ok (.t, .lst r) s else .er := by
  have e : lc2F tg it1 tg1 elt vs1 (wipeR (hideR ρ) vs) = fun d s => match asgT tg d (wipeR (hideR ρ) vs) with
      | none => .er
      | some ρ' => (noEx (evI true it1 (hideR ρ') s)).bind fun ds1 s => walkR (fun d1 s => match asgT tg1 d1 (wipeR (hideR ρ') vs1) with
        | none => .er
        | some ρ2 => (noEx (ev elt ρ2 s)).bind fun y s => (dat y s).bind fun e s => .ok (some e) s) ds1 s := by
    funext d s
    unfold lc2F
    simp only [lcF_nil]
  first
    | (rw [ev, e]; done)
    | (rw [ev, e]; rfl)
theorem walkL_cons {S : Type} {f : D → S → Res S (List D)} {d : D} {ds : List D} {s s' : S} {r : List D} (h : walkL f (d :: ds) s = .ok r s') : ∃ o s1 r', f d s = .ok o s1 ∧ walkL f ds s1 = .ok r' s' ∧ r = o ++ r' := by
  unfold walkL at h
  obtain ⟨o, s1, h1, h2⟩ := bind_ok h
  obtain ⟨r', s2, h3, h4⟩ := bind_ok h2
  cases h4
  exact ⟨o, s1, r', h1, h3, rfl⟩
theorem walkL_ex {S : Type} {f : D → S → Res S (List D)} (hf : ∀ d s x s', f d s ≠ .ex x s') : ∀ (ds : List D) (s : S) (x : Str) (s' : S), walkL f ds s ≠ .ex x s'
  | [], _, _, _ => fun z => nomatch z
  | d :: ds, s, x, s' => by
    unfold walkL
    cases e : f d s with
    | ok o s1 =>
      show ((walkL f ds s1).bind _) ≠ _
      cases e2 : walkL f ds s1 with
      | ok r s2 => exact fun z => nomatch z
      | ex y s2 => exact absurd e2 (walkL_ex hf ds s1 y s2)
      | er => exact fun z => nomatch z
    | ex y s2 => exact absurd e (hf d s y s2)
    | er => exact fun z => nomatch z
theorem lc2F_ex {S : Type} {tg : Tg} {it1 : CI S} {tg1 : Tg} {elt : CE S} {vs1 : List Nat} {ρ : List SV} {d : D} {s s' : S} {x : Str} : lc2F tg it1 tg1 elt vs1 ρ d s ≠ .ex x s' := by
  unfold lc2F
  split
  · exact fun z => nomatch z
  · rename_i ρ' e
    cases evI true it1 (hideR ρ') s with
    | ok ds1 s1 => exact walkR_ex (fun _ _ _ _ => lcF_ex) _ _ _ _
    | _ => exact fun z => nomatch z
theorem lc2F_ok {S : Type} {tg : Tg} {it1 : CI S} {tg1 : Tg} {elt : CE S} {vs1 : List Nat} {ρ : List SV} {d : D} {s s' : S} {o : List D} (h : lc2F tg it1 tg1 elt vs1 ρ d s = .ok o s') :
    ∃ ρ' ds1 s1, asgT tg d ρ = some ρ' ∧ evI true it1 (hideR ρ') s = .ok ds1 s1 ∧ walkR (lcF tg1 .nil elt (wipeR (hideR ρ') vs1)) ds1 s1 = .ok o s' := by
  unfold lc2F at h
  split at h
  · cases h
  · rename_i ρ' e
    obtain ⟨ds1, s1, h1, h2⟩ := bind_ok h
    exact ⟨ρ', ds1, s1, e, noEx_ok h1, h2⟩
section
variable {Y : Sys} {K : PySem.W.Frag} {mg : Str → Option Value} {W : WX}
theorem lc2_use {it it1 : CI Y.S} {tg tg1 : Tg} {elt : CE Y.S} {vs vs1 : List Nat} (hz : zipI it = true → consT tg = true) (hz1 : zipI it1 = true → consT tg1 = true) (hsl : ∀ i ∈ slots tg, i ∈ vs) (hsl1 : ∀ i ∈ slots tg1, i ∈ vs1) {σ : L2.St} {H : Hp} {Q : VK} (h : tE K mg W (.lc2 it tg it1 tg1 elt vs vs1) σ H Q) :
    tLc2 (tI K mg W false it) (gT K tg) (tTs (Y := Y) K mg W0 .nil) (tI K mg W0 true it1) (gT K tg1) (tTs (Y := Y) K mg W0 .nil) (tE K mg W0 elt) vs vs1 σ H Q := by
  obtain ⟨c, H0, ρ, rfl, ok, rel, p⟩ := h
  rw [ev_lc2] at p
  refine tR.bind ok rel p fun J c1 ds ea t1 ok1 rel1 j1 p1 => ?_
  obtain ⟨G, gd, hG⟩ := j1
  intro L hL
  have p1 := p1.shiftE t1 ok1
  split at p1
  · exact p1.elim
  rename_i hlen
  cases ew : walkL (lc2F tg it1 tg1 elt vs1 (wipeR (hideR ρ) vs)) ds c1.s with
  | er => rw [ew] at p1; exact p1.elim
  | ex x s' => exact absurd ew (walkL_ex (fun _ _ _ _ => lc2F_ex) _ _ _ _)
  | ok r s' =>
    rw [ew] at p1
    have p1 : Post mg W σ c1 (JE K c1) Q (if lenOk r.length then .ok (.t, .lst r) s' else .er) := p1
    split at p1
    case isFalse => exact p1.elim
    rename_i hrl
    have hrl : r.length ≤ 1000000 := of_decide_eq_true hrl
    have p1 : ∀ v (c' : Cf Y), c'.s = s' → Step c1 c' → Ok c' → Is K c1.H c' .t v (.lst r) → Q v c'.H := p1
    refine ⟨fun i m H => m = ds.length - i ∧ i ≤ ds.length ∧ ∃ (cc : Cf Y) (acc : List V) (done rest : List D), cc.H = H ∧ Ok cc ∧ Step c1 cc ∧ cc.H L = some (.lst acc) ∧ cc.F L = none ∧ ¬ Y.dm cc.s L ∧ Reps K cc.F acc done ∧
      walkL (lc2F tg it1 tg1 elt vs1 (wipeR (hideR ρ) vs)) (ds.drop i) cc.s = .ok rest s' ∧ done ++ rest = r,
      ⟨ds.length, rfl, Nat.zero_le _, ⟨c1.F, upd c1.H L (.lst []), c1.s⟩, [], [], r, rfl, ok1.own hL _, Step.own ok1 hL _, upd_same, ok1.fr hL, fun z => ok1.has L z hL, .nil, ew, rfl⟩, fun i m H hW => ?_⟩
    obtain ⟨rfl, hi, cc, acc, done, rest, rfl, okc, tc, hacc, hF, hnd, racc, hw, hr⟩ := hW
    by_cases hlt : i < ds.length
    · have hd : ds[i]? = some ds[i] := List.getElem?_eq_getElem hlt
      have edrop : ds.drop i = ds[i] :: ds.drop (i + 1) := List.drop_eq_getElem_cons hlt
      rw [edrop] at hw
      obtain ⟨o, s1, r', w1, w2, w3⟩ := walkL_cons hw
      obtain ⟨ρ', ds1, s2, a1, a2, a3⟩ := lc2F_ok w1
      obtain ⟨go, yl⟩ := (gd cc (hG cc (by rw [if_neg Bool.false_ne_true]; exact tc)) okc i).2 _ hd
      refine .inr ⟨go, fun H' => ds.length - (i + 1) = ds.length - (i + 1) ∧ i + 1 ≤ ds.length ∧ ∃ (cc : Cf Y) (acc : List V) (done rest : List D), cc.H = H' ∧ Ok cc ∧ Step c1 cc ∧ cc.H L = some (.lst acc) ∧ cc.F L = none ∧ ¬ Y.dm cc.s L ∧ Reps K cc.F acc done ∧
        walkL (lc2F tg it1 tg1 elt vs1 (wipeR (hideR ρ) vs)) (ds.drop (i + 1)) cc.s = .ok rest s' ∧ done ++ rest = r, fun H' hN => ⟨ds.length - (i + 1), by omega, hN⟩, fun x H' hy => ?_⟩
      obtain ⟨c2, rfl, es2, t2, ok2, rx⟩ := yl x H' hy
      have rel2 : Rel K H0 c2 (wipe σ vs) (wipeR (hideR ρ) vs) := (rel1.step (tc.trans okc t2)).hide.wipe vs
      have obL : cc.H L ≠ none := by rw [hacc]; exact fun z => nomatch z
      refine gT_any ok2 hz a1 rel2 rx fun σ' rel' l' s' => ⟨?_, ?_⟩
      · rw [← wipe_wipe (σ := σ) (vs := vs)]
        exact wipe_ext l' fun j hj => s' j fun z => hj (hsl j z)
      · refine ⟨c2, H0, ρ', rfl, ok2, rel', ?_⟩
        show Post mg W0 σ' c2 (JB c2) _ (.ok true c2.s)
        intro b c3 es3 t3 ok3 hb
        have hb : b = true := hb
        subst hb
        refine iteT ⟨c3, H0, hideR ρ', rfl, ok3, (rel'.step t3).hide, ?_⟩
        rw [es3, es2, a2]
        intro J1 c4 es4 t4 ok4 j4
        obtain ⟨G1, gd1, hG1⟩ := j4
        have rel4 : Rel K H0 c4 σ' (hideR ρ') := ((rel'.step t3).step t4).hide
        have T4 : Step cc c4 := t2.trans ok2 (t3.trans ok3 t4)
        refine ⟨fun j k H => k = ds1.length - j ∧ j ≤ ds1.length ∧ ∃ (cd : Cf Y) (acc : List V) (done rest1 : List D), cd.H = H ∧ Ok cd ∧ Step c1 cd ∧ Sub c4.F cd.F ∧ cd.H L = some (.lst acc) ∧ cd.F L = none ∧ ¬ Y.dm cd.s L ∧ Reps K cd.F acc done ∧
          walkR (lcF tg1 .nil elt (wipeR (hideR ρ') vs1)) (ds1.drop j) cd.s = .ok rest1 s1 ∧ done ++ (rest1 ++ r') = r,
          ⟨ds1.length, rfl, Nat.zero_le _, c4, acc, done, o, rfl, ok4, tc.trans okc T4, Sub.refl _, T4.h L _ hacc hnd, T4.n L obL hF, fun z => hnd (T4.g L obL z), racc.mono T4.f, by rw [List.drop_zero, es4]; exact a3, by rw [← w3]; exact hr⟩, fun j k H hW1 => ?_⟩
        obtain ⟨rfl, hj, cd, acc, done, rest1, rfl, okd, td, fd, hacc, hF, hnd, racc, hw1, hr1⟩ := hW1
        have hGd : G1 cd := hG1 cd (by rw [if_pos rfl]; exact fd)
        by_cases hlt1 : j < ds1.length
        · have hd1 : ds1[j]? = some ds1[j] := List.getElem?_eq_getElem hlt1
          have edrop1 : ds1.drop j = ds1[j] :: ds1.drop (j + 1) := List.drop_eq_getElem_cons hlt1
          rw [edrop1] at hw1
          obtain ⟨o1, s5, r1', v1, v2, v3⟩ := walkR_cons hw1
          obtain ⟨ρ2, kk, s6, b1, b2, b3⟩ := lcF_ok v1
          obtain ⟨go1, yl1⟩ := (gd1 cd hGd okd j).2 _ hd1
          refine .inr ⟨go1, fun H' => ds1.length - (j + 1) = ds1.length - (j + 1) ∧ j + 1 ≤ ds1.length ∧ ∃ (cd : Cf Y) (acc : List V) (done rest1 : List D), cd.H = H' ∧ Ok cd ∧ Step c1 cd ∧ Sub c4.F cd.F ∧ cd.H L = some (.lst acc) ∧ cd.F L = none ∧ ¬ Y.dm cd.s L ∧ Reps K cd.F acc done ∧
            walkR (lcF tg1 .nil elt (wipeR (hideR ρ') vs1)) (ds1.drop (j + 1)) cd.s = .ok rest1 s1 ∧ done ++ (rest1 ++ r') = r, fun H' hN => ⟨ds1.length - (j + 1), by omega, hN⟩, fun x1 H1' hy1 => ?_⟩
          obtain ⟨c5, rfl, es5, t5, ok5, rx1⟩ := yl1 x1 H1' hy1
          have rel5 : Rel K H0 c5 (wipe σ' vs1) (wipeR (hideR ρ') vs1) := (rel4.free (fd.trans t5.f)).wipe vs1
          have obL1 : cd.H L ≠ none := by rw [hacc]; exact fun z => nomatch z
          refine gT_any ok5 hz1 b1 rel5 rx1 fun σ3 rel3 l3 s3 => ⟨?_, ?_⟩
          · rw [← wipe_wipe (σ := σ') (vs := vs1)]
            exact wipe_ext l3 fun q hq => s3 q fun z => hq (hsl1 q z)
          · refine ⟨c5, H0, ρ2, rfl, ok5, rel3, ?_⟩
            rw [es5, b2]
            intro b c6 es6 t6 ok6 hb
            have hb : b = kk := hb
            subst hb
            have b2' : Res.ok true cd.s = Res.ok b s6 := b2
            cases b2'
            rcases b3 with ⟨_, y, b4, b5, b6⟩ | ⟨b4, _⟩
            · refine iteT ⟨c6, H0, ρ2, rfl, ok6, rel3.step t6, ?_⟩
              rw [es6, b4]
              intro v c7 es7 t7 ok7 j7
              obtain ⟨c8, es8, eh8, t8, ok8, r8⟩ := Is.data j7 b5 t7 ok7
              have T : Step cd c8 := t5.trans ok5 (t6.trans ok6 t8)
              have hacc8 : c8.H L = some (.lst acc) := T.h L _ hacc hnd
              have hF8 : c8.F L = none := T.n L obL1 hF
              have hnd8 : ¬ Y.dm c8.s L := fun z => hnd (T.g L obL1 z)
              rw [← eh8]
              have hal : acc.length ≤ r.length := by
                rw [racc.length, ← hr1, List.length_append]
                omega
              refine ⟨acc, hacc8, ?_, rfl, hlt1, ⟨c8.F, upd c8.H L (.lst (acc ++ [v])), c8.s⟩, acc ++ [v], done ++ [y.2], r1', rfl, ok8.mut hF8 hnd8 _, (td.trans okd T).mut hL _, fd.trans T.f, upd_same, hF8, hnd8, (racc.mono T.f).append (.cons r8 .nil), ?_, ?_⟩
              · have e : sizeLine = 16777216 := by decide
                omega
              · rw [es8, es7]
                exact v2
              · rw [← hr1, v3, b6]
                simp
            · cases b4
        · have ej : j = ds1.length := by omega
          subst ej
          rw [List.drop_length] at hw1
          cases hw1
          have st1 := (gd1 cd hGd okd ds1.length).1 (Nat.le_refl _)
          exact .inl ⟨st1, rfl, by omega, cd, acc, done, r', rfl, okd, td, hacc, hF, hnd, racc, w2, hr1⟩
    · have ei : i = ds.length := by omega
      subst ei
      rw [List.drop_length] at hw
      cases hw
      rw [List.append_nil] at hr
      subst hr
      have st := (gd cc (hG cc (by rw [if_neg Bool.false_ne_true]; exact tc)) okc ds.length).1 (Nat.le_refl _)
      exact .inl ⟨st, p1 (.ref L) cc rfl tc okc ⟨L, rfl, ⟨⟨acc, hacc, racc⟩, hF, hnd⟩, hL⟩⟩
end
section
variable {X : Cx} {Y : Sys} {W : WX} {n : Nat} {N : List Str} {sc scope : Scope} {pos spos py : Pos} {tg' iter' elt' tg1' iter1' : Expr} {it it1 : CI Y.S} {tg tg1 : Tg} {elt : CE Y.S} {vs vs1 : List Nat}
theorem se_lc2 (C : Cxt X W n N sc) (hz : zipI it = true → consT tg = true) (hz1 : zipI it1 = true → consT tg1 = true) (hI : PI X tg' iter' (tI X.K X.mg W false it)) (hset : notSet iter' = true) (hset1 : notSet iter1' = true) (hblk : blkC N sc scope (vs.map fun i => (N.getD i "", i)) = true) (hsl : (slots tg).all (fun i => vs.contains i) = true) (hsl1 : (slots tg1).all (fun i => vs1.contains i) = true) (hv : vs1.all (fun i => vs.contains i) = true)
    (hT : chkT N (relS scope sc) (fun x => scope.names.lookup x == some .cell) tg tg' = true) (hT1 : chkT N (relS scope sc) (fun x => scope.names.lookup x == some .cell) tg1 tg1' = true)
    (hN1 : ∀ X' : Cx, X'.prog = X.prog → X'.w = X.w → X'.K = X.K → X'.mg = X.mg → X'.base = X.base → Cxt X' W0 n N (relS scope sc) → PTs X' [] (tTs (Y := Y) X.K X.mg W0 .nil))
    (hI1 : ∀ X' : Cx, X'.prog = X.prog → X'.w = X.w → X'.K = X.K → X'.mg = X.mg → X'.base = X.base → Cxt X' W0 n N (relS scope sc) → PI X' tg1' iter1' (tI X.K X.mg W0 true it1))
    (hE : ∀ X' : Cx, X'.prog = X.prog → X'.w = X.w → X'.K = X.K → X'.mg = X.mg → X'.base = X.base → Cxt X' W0 n N (relS scope sc) → PE X' elt' (tE X.K X.mg W0 elt)) :
    PE X (.ListComp elt' [⟨tg', iter', [], 0⟩, ⟨tg1', iter1', [], 0⟩] scope pos) (tE X.K X.mg W (.lc2 it tg it1 tg1 elt vs vs1)) ∧
    (∀ {i : Nat} {y : Str}, N[i]? = some y → sc.names.lookup y = some .local → swapsWith (.ListComp elt' [⟨tg', iter', [], 0⟩, ⟨tg1', iter1', [], 0⟩] scope pos) (some (.Name y py)) spos.line X.env = pure true →
      PS X (.Assign [.Name y py] (.ListComp elt' [⟨tg', iter', [], 0⟩, ⟨tg1', iter1', [], 0⟩] scope pos) spos) (tAsg (tE X.K X.mg W (.lc2 it tg it1 tg1 elt vs vs1)) (gName i))) := by
  have hsl' : ∀ i ∈ slots tg, i ∈ vs := fun i hi => List.contains_iff_mem.mp (List.all_eq_true.mp hsl i hi)
  have hsl1' : ∀ i ∈ slots tg1, i ∈ vs1 := fun i hi => List.contains_iff_mem.mp (List.all_eq_true.mp hsl1 i hi)
  have hv' : ∀ i ∈ vs1, i ∈ (vs.map fun i => ((N.getD i "" : Str), i)).map (·.2) := fun i hi => by
    rw [own_snd]
    exact List.contains_iff_mem.mp (List.all_eq_true.mp hv i hi)
  have ok : BlkOk X.N X.env.scope scope (vs.map fun i => (N.getD i "", i)) := by
    rw [C.hN, C.hs]
    exact blkOk_by hblk
  have hg : ∀ {t : Tg} {t' : Expr}, chkT N (relS scope sc) (fun x => scope.names.lookup x == some .cell) t t' = true → ∀ (s : Shared) (H : Hp) (L : Addr) (cl : List (Str × Addr)) (fp : List Addr), PG (X.blk s H scope (compEnvC scope cl L X.env) fp) t' (gT X.K t) := fun hT s H L cl fp =>
    pg_ok (X := X.blk s H scope (compEnvC scope cl L X.env) fp) C.hN (C.blk s H L cl fp).hs C.nd C.calm rfl hT
  refine ⟨?_, fun {i y} hi hl hsw => ?_⟩
  · refine (pe_lc2 (own := vs.map fun i => (N.getD i "", i)) (vs1 := vs1) C.calm (by rw [C.hN]; exact C.nd) hI ok hv' (hg hT) (fun s H L cl fp => hN1 _ rfl rfl rfl rfl rfl (C.blk s H L cl fp)) (fun s H L cl fp => hI1 _ rfl rfl rfl rfl rfl (C.blk s H L cl fp)) (hg hT1) (fun s H L cl fp => hN1 _ rfl rfl rfl rfl rfl (C.blk s H L cl fp)) (fun s H L cl fp => hE _ rfl rfl rfl rfl rfl (C.blk s H L cl fp)) (set_ok hset) (fun _ => set_ok hset1)).weak fun σ H Q h => ?_
    rw [own_snd]
    exact lc2_use hz hz1 hsl' hsl1' h
  · have q := ps_setLc2 (i := i) (y := y) (py := py) (pos := pos) (spos := spos) (own := vs.map fun i => (N.getD i "", i)) (vs1 := vs1) C.calm (by rw [C.hN]; exact C.nd) (by rw [C.hN]; exact hi) (by rw [C.hs]; exact hl) hsw hI ok hv' (hg hT) (fun s H L cl fp => hN1 _ rfl rfl rfl rfl rfl (C.blk s H L cl fp)) (fun s H L cl fp => hI1 _ rfl rfl rfl rfl rfl (C.blk s H L cl fp)) (hg hT1) (fun s H L cl fp => hN1 _ rfl rfl rfl rfl rfl (C.blk s H L cl fp)) (fun s H L cl fp => hE _ rfl rfl rfl rfl rfl (C.blk s H L cl fp)) (set_ok hset) (fun _ => set_ok hset1)
    rw [own_snd] at q
    exact ⟨fun pins s σ H D I h => q.run pins s σ H D I (lc2_use hz hz1 hsl' hsl1' h)⟩
end
end Mf
set_option Elab.async false
set_option linter.all false
set_option maxRecDepth 100000
set_option maxHeartbeats 1000000
namespace Mf
open PySem L2 PySem.Spec PyProof.Rows HT
/-! ### t[::-1] of a tuple -/
section
variable {prog : Program} {w : World} {A : Around} {E : Value → Shared → Prop} {s : Shared}
theorem applied_rev {sl : Addr} {vl vu vs : Value} {n : Nat} {Q : Int × Int × Nat → Shared → Prop} (hs : s.heap.IsSliceOf sl vl vu vs) (pl : IsPart vl none) (pu : IsPart vu none) (ps : IsPart vs (some (-1)))
    (h : Q ((n : Int) - 1, -1, n) s) : wpAny (model prog w) A (Builtin.Slice.sliceApplied (.ref sl) (pure (n : Int))) Q E s := by
  obtain ⟨os, hos, hcs, hds⟩ := id hs
  unfold Builtin.Slice.sliceApplied Builtin.Slice.sliceFields
  refine wpAny_bind (wpAny_bind (wpAny_field hos hds (x := vl) rfl (wpAny_bind (wpAny_field hos hds (x := vu) rfl (wpAny_bind (wpAny_field hos hds (x := vs) rfl (wpAny_pure ?_)))))))
  refine wpAny_bind (slicePart_ ps ?_)
  show wpAny _ _ (if ((-1 : Int) == 0) = true then _ else _) _ _ s
  rw [if_neg (by decide)]
  refine wpAny_bind (slicePart_ pl (wpAny_bind (slicePart_ pu (wpAny_bind (wpAny_pure ?_)))))
  have ea : Builtin.Slice.sliceAdjust none none (-1) (n : Int) = ((n : Int) - 1, -1) := by
    simp [Builtin.Slice.sliceAdjust]
  have ep : Builtin.Slice.slicePlaces ((n : Int) - 1) (-1) (-1) = n := by
    unfold Builtin.Slice.slicePlaces
    have h1 : ¬ ((-1 : Int) > 0) := by decide
    simp only [h1, if_false]
    split
    · simp
      try omega
    · omega
  show wpAny _ _ (match Builtin.Slice.sliceAdjust none none (-1) (n : Int) with | (lo, hi) => pure (lo, (-1 : Int), Builtin.Slice.slicePlaces lo hi (-1))) _ _ s
  rw [ea]
  show wpAny _ _ (pure ((n : Int) - 1, (-1 : Int), Builtin.Slice.slicePlaces ((n : Int) - 1) (-1) (-1))) _ _ s
  rw [ep]
  exact wpAny_pure h
theorem fm_congr {α β : Type} {f g : α → Option β} : ∀ {l : List α}, (∀ a ∈ l, f a = g a) → l.filterMap f = l.filterMap g
  | [], _ => rfl
  | a :: l, h => by
    rw [List.filterMap_cons, List.filterMap_cons, h a List.mem_cons_self, fm_congr fun b hb => h b (List.mem_cons_of_mem _ hb)]
theorem pick_rev (xs : Array Value) : ((List.range xs.size).filterMap fun (m : Nat) => xs[(((xs.size : Int) - 1) + (m : Int) * -1).toNat]?).toArray = xs.toList.reverse.toArray := by
  have e : (List.range xs.size).filterMap (fun (m : Nat) => xs[(((xs.size : Int) - 1) + (m : Int) * -1).toNat]?) = ((List.range xs.size).map fun k => xs.size - 1 - k).filterMap (xs[·]?) := by
    rw [List.filterMap_map]
    refine fm_congr fun m hm => ?_
    have := List.mem_range.mp hm
    show _ = xs[xs.size - 1 - m]?
    congr 1
    omega
  rw [e, PySem.W.krv_range, List.filterMap_reverse, PySem.W.krv_all]
theorem getItem_tuple_rev {t sl : Addr} {items : Array Value} {vl vu vs : Value} {Q : Value → Shared → Prop} (ht : IsTup s.heap t items) (hs : s.heap.IsSliceOf sl vl vu vs) (pl : IsPart vl none) (pu : IsPart vu none) (ps : IsPart vs (some (-1)))
    (h : Q (.ref s.heap.objs.size) { s with heap := s.heap.push { cls := .type "tuple", data := .seq items.toList.reverse.toArray } }) (hsz : items.size ≤ sizeLine) : wpAny (model prog w) A (getItem (.ref t) (.ref sl)) Q E s := by
  have htake : sizeOk (.seq items.toList.reverse.toArray) := by
    show items.toList.reverse.toArray.size ≤ sizeLine
    rw [List.size_toArray, List.length_reverse, Array.length_toList]
    exact hsz
  obtain ⟨os, hos, hcs, hds⟩ := id hs
  have hTs : s.TypeIs (.ref sl) "slice" := ⟨os, hos, hcs⟩
  unfold getItem
  try with_reducible refine wpAny_holding ?_
  first | refine wpAny_bind (wpAny_pure ?_) | skip
  refine wpAny_bind (wpAny_sequenceKey ht.typeIs (by decide) ?_)
  refine wpAny_bind (wpAny_callSpecial?_slot (name := Str.ofString "__getitem__") ht.typeIs PyProof.Rows.slot_tuple_getitem (wpAny_call_entry PyProof.Rows.slot_tuple_getitem ht.typeIs entry_tuple_getitem ?_ (args_tuple_getitem _ _)))
  show wpAny _ _ (Builtin.Tuple.tupleItemsOf (.ref t) >>= _) _ _ s
  refine wpAny_bind (tupleItemsOf_ ht (wpAny_bind (wpAny_typeOf hTs ?_)))
  rw [if_pos (by decide)]
  refine wpAny_bind (applied_rev hs pl pu ps ?_)
  have hno : ¬ ((((items.size : Int) - 1) == 0 && (-1 : Int) == 1 && items.size == items.size) = true) := by
    intro q
    rw [Bool.and_eq_true, Bool.and_eq_true] at q
    exact absurd (eq_of_beq q.1.2) (by decide)
  show wpAny _ _ (if (((items.size : Int) - 1) == 0 && (-1 : Int) == 1 && items.size == items.size) = true then _ else _) _ _ s
  rw [if_neg hno, pick_rev]
  first
    | exact wpAny_bind (m := Builtin.Tuple.tupleExact _) (wpAny_newObj_type (wpAny_pure ⟨_, rfl, wpAny_pure h⟩) htake)
    | exact wpAny_bind (m := Builtin.Tuple.tupleExact _) (wpAny_newObj_type (wpAny_bind (wpAny_pure (wpAny_pure ⟨_, rfl, wpAny_pure h⟩))) htake)
    | exact wpAny_bind (wpAny_bind (m := Builtin.Tuple.tupleExact _) (wpAny_newObj_type (wpAny_pure (wpAny_pure ⟨_, rfl, wpAny_pure h⟩)) htake))
    | exact wpAny_bind (wpAny_bind (m := Builtin.Tuple.tupleExact _) (wpAny_newObj_type (wpAny_pure ⟨_, rfl, wpAny_pure h⟩) htake))
end
section
variable {X : Cx}
def tRevT (K : PySem.W.Frag) (te : TE) : TE := fun σ H Q => te σ H fun x H1 => ∃ a xs, x = .ref a ∧ SqT K H1 a xs ∧ NewT H1 Q xs.reverse
theorem pe_revT {e : Expr} {te : TE} {k : Nat} {p1 p2 p3 pos : Pos} (he : PE X e te) : PE X (.Subscript e (.Slice none none (some (.UnaryOp .USub (.Constant (.int 1) k p1) p2)) p3) pos) (tRevT X.K te) := by
  refine ⟨fun pins s σ H Q I h => Subscript_ (thn (he.run pins s σ H _ I h) fun v s1 ⟨x, H1, I1, r1, q1⟩ => ?_)⟩
  obtain ⟨a, xs, ex, hx, q⟩ := q1
  subst ex
  cases r1
  have hst : PO X (some (.UnaryOp .USub (.Constant (.int 1) k p1) p2)) (tPart (tUn (rU fun i => .int (-i)) (tC (.int 1)))) := po_some (pe_un un_neg pe_int)
  refine wpAny_Slice (thn (po_none.run pins s1 σ H1 (fun o H2 => o = none ∧ H2 = H1) I1 ⟨rfl, rfl⟩) fun vl s2 ⟨l, H2, I2, pl, el, e2⟩ => ?_)
  subst el e2
  refine thn (po_none.run pins s2 σ H2 (fun o H3 => o = none ∧ H3 = H2) I2 ⟨rfl, rfl⟩) fun vu s3 ⟨u, H3, I3, pu, eu, e3⟩ => ?_
  subst eu e3
  refine thn (hst.run pins s3 σ H3 (fun o H4 => o = some (-1) ∧ H4 = H3) I3 ⟨1, rfl, -1, rfl, rfl, rfl⟩) fun vs s4 ⟨o, H4, I4, ps, eo, e4⟩ => ?_
  subst eo e4
  have I5 : Inv X pins σ H4 { s4 with heap := s4.heap.push { cls := .type "slice", data := .fields #[vl, vu, vs] } } := I4.kept (t' := s4.toks) fun b ob q => Heap.get?_push_of_some _ q
  obtain ⟨its, r, ht, hz⟩ := I5.tuple hx
  have hlen := r.length
  show wpAny (model X.prog X.w) X.A (subscriptTail e (.Slice none none (some (.UnaryOp .USub (.Constant (.int 1) k p1) p2)) p3) (.ref a) (.ref s4.heap.objs.size)) (EP X pins σ Q) X.xe { s4 with heap := s4.heap.push { cls := .type "slice", data := .fields #[vl, vu, vs] } }
  refine tail_any (ops := [.ref a, .ref s4.heap.objs.size]) ht.typeIs (PyProof.Rows.slot_tuple_getitem.lookup) ?_ (by with_unfolding_all rfl)
  refine getItem_tuple_rev ht (Heap.IsSliceOf.new _ vl vu vs) pl pu ps ?_ (by rw [List.size_toArray]; omega)
  have := laidT (its := its.reverse) I5 r.reverse (by rw [List.length_reverse]; exact hz) q
  simpa using this
end
end Mf
set_option Elab.async false
set_option linter.all false
set_option maxRecDepth 100000
set_option maxHeartbeats 1000000
namespace Mf
open PySem L2
/-! ### sorted(set(l)) -/
theorem keys_dK : ∀ {ds : List D} {ks : List Key}, keysD ds = some ks → ds = ks.map dK
  | [], ks, h => by cases h; rfl
  | d :: ds, ks, h => by
    unfold keysD at h
    split at h
    · rename_i k ks' h1 h2
      cases h
      rw [List.map_cons, ← keys_dK h2]
      congr 1
      cases d <;> cases h1 <;> rfl
    · cases h
theorem reps_keys {K : PySem.W.Frag} {F : Hp} : ∀ {ks : List Key} {vs : List V}, Reps K F vs (ks.map dK) → vs = ks.map kV
  | [], _, .nil => rfl
  | k :: ks, _, .cons h r => by
    rw [List.map_cons, ← reps_keys r]
    congr 1
    cases k <;> cases h <;> rfl
theorem rep_keys {K : PySem.W.Frag} {F : Hp} : ∀ ks : List Key, Reps K F (ks.map kV) (ks.map dK)
  | [] => .nil
  | k :: ks => .cons (by cases k <;> constructor) (rep_keys ks)
theorem mem_ded {k : Key} : ∀ {ks : List Key}, k ∈ dedK ks ↔ k ∈ ks
  | [] => Iff.rfl
  | x :: ks => by
    unfold dedK
    split
    · rename_i h
      rw [mem_ded, List.mem_cons]
      refine ⟨.inr, fun z => z.elim (fun e => ?_) id⟩
      obtain ⟨y, hy, e'⟩ := List.any_eq_true.mp h
      have := of_decide_eq_true e'
      subst this e
      exact hy
    · rw [List.mem_cons, mem_ded, List.mem_cons]
theorem nd_ded : ∀ ks : List Key, (dedK ks).Nodup
  | [] => .nil
  | x :: ks => by
    unfold dedK
    split
    · exact nd_ded ks
    · rename_i h
      refine List.nodup_cons.mpr ⟨fun z => h ?_, nd_ded ks⟩
      exact List.any_eq_true.mpr ⟨x, mem_ded.mp z, decide_eq_true rfl⟩
theorem py_dK (k : Key) : (dK k).py = encK k := by cases k <;> rfl
theorem leK_anti {a b : Key} (h : a.isLeft = b.isLeft) (h1 : PySem.W.dataLe false encK a b = true) (h2 : PySem.W.dataLe false encK b a = true) : a = b := by
  cases a with
  | inl i => cases b with
    | inl j =>
      have e := fun x y => congrFun (congrFun (PySem.W.dataLe_int (fun k : Int => k)) x) y
      have q1 : PySem.W.dataLe false (fun k : Int => PyData.int k) i j = true := h1
      have q2 : PySem.W.dataLe false (fun k : Int => PyData.int k) j i = true := h2
      rw [e] at q1 q2
      have := of_decide_eq_true q1
      have := of_decide_eq_true q2
      rw [show i = j by omega]
    | inr y => cases h
  | inr x => cases b with
    | inl j => cases h
    | inr y =>
      have e := fun x y => congrFun (congrFun (PySem.W.dataLe_str (fun k : Str => k)) x) y
      have q1 : PySem.W.dataLe false (fun k : Str => PyData.str k) x y = true := h1
      have q2 : PySem.W.dataLe false (fun k : Str => PyData.str k) y x = true := h2
      rw [e] at q1 q2
      have a1 := of_decide_eq_true q1
      have a2 := of_decide_eq_true q2
      have : x.cps.toList = y.cps.toList := List.le_antisymm a1 a2
      have : x.cps = y.cps := by rw [← Array.toArray_toList (xs := x.cps), this, Array.toArray_toList]
      cases x; cases y
      cases this
      rfl
/-- the answer is the only one -/
theorem sset_one {ks bs : List Key} {b : Bool} (hb : ∀ k ∈ ks, k.isLeft = b) (nd : bs.Nodup) (hm : ∀ k, k ∈ bs ↔ k ∈ ks) (hs : bs.Pairwise (fun x y => PySem.W.dataLe false encK x y = true)) : bs.map dK = sortD ((dedK ks).map dK) := by
  rw [sortD_eq]
  have e0 : leD = fun x y => PySem.W.dataLe false D.py x y := rfl
  have pm : (bs.map dK).Perm (((dedK ks).map dK).mergeSort leD) := by
    refine ((List.perm_ext_iff_of_nodup nd (nd_ded ks)).mpr fun k => ?_).map dK |>.trans (List.mergeSort_perm _ _).symm
    rw [hm, mem_ded]
  have leq : ∀ x y : Key, leD (dK x) (dK y) = PySem.W.dataLe false encK x y := fun x y => by
    show PySem.W.dataLe false D.py (dK x) (dK y) = _
    show (!PySem.W.dataLt (dK y).py (dK x).py) = !PySem.W.dataLt (encK y) (encK x)
    rw [py_dK, py_dK]
  refine List.Perm.eq_of_pairwise (le := fun x y => leD x y = true) (fun a c ha hc h1 h2 => ?_) ?_ ?_ pm
  · obtain ⟨x, hx, rfl⟩ := List.mem_map.mp ha
    have hc' := (List.mergeSort_perm _ _).mem_iff.mp hc
    obtain ⟨y, hy, rfl⟩ := List.mem_map.mp hc'
    rw [leq] at h1 h2
    rw [leK_anti (by rw [hb x ((hm x).mp hx), hb y (mem_ded.mp hy)]) h1 h2]
  · refine List.pairwise_map.mpr (hs.imp fun {x y} h => ?_)
    rw [leq]; exact h
  · exact List.pairwise_mergeSort (le := leD) (fun a b c h1 h2 => leD_total.trans a b c h1 h2) (fun a b => by
      rw [Bool.or_eq_true]; exact leD_total.total a b) _
def tSset (K : PySem.W.Frag) (ta : TE) : TE := fun σ H Q => ta σ H fun x H1 => ∃ (l : Addr) (ks : List Key) (b : Bool), x = .ref l ∧ SqL K H1 l (ks.map kV) ∧ (∀ k ∈ ks, k.isLeft = b) ∧ ks.length ≤ 1000 ∧
  ∀ (p : Addr) (bs : List Key), H1 p = none → bs.Nodup → (∀ k, k ∈ bs ↔ k ∈ ks) → bs.Pairwise (fun x y => PySem.W.dataLe false encK x y = true) → Q (.ref p) (upd H1 p (.lst (bs.map kV)))
section
variable {X : Cx}
theorem pe_sset {a : Expr} {ta : TE} {p p2 q pos : Pos} (hc : X.calm = true) (hu : X.A.units + 65 < cLine) (hg : Gl X "sorted") (hm : X.mg "sorted" = none) (hg2 : Gl X "set") (hm2 : X.mg "set" = none) (ha : PE X a ta)
    (na : starEach [a] X.env = (false, eval a X.env) :: starEach [] X.env) : PE X (.Call (.Name "sorted" p) [.Call (.Name "set" p2) [a] [] q] [] pos) (tSset X.K ta) := by
  refine ⟨fun pins s σ H Q I h => PyProof.Rows.Call_ (ld_blt I hg hm PyProof.Rows.boot_sorted ?_)⟩
  refine PyProof.Rows.callWith_builtin1 (PyProof.Rows.args_cons ?_ rfl) rfl rfl
  refine PyProof.Rows.Call_ (ld_blt I hg2 hm2 PyProof.Rows.boot_set (PyProof.Rows.callWith_type1 (PyProof.Rows.args_cons (thn (ha.run pins s σ H _ I h) fun v s1 ⟨x, H1, I1, r1, q1⟩ => PyProof.Rows.args_nil ?_) na) na rfl))
  obtain ⟨l, ks, b, rfl, hq, hb, hl, q1⟩ := q1
  cases r1
  obtain ⟨its, r, pl, hz⟩ := I1.list hq
  refine setM_call ks (I1.ok.hd hc) pl.isList (by simpa using r) (by unfold scanBound; omega) fun h' tk c hS hcl hk => PyProof.Rows.args_nil ?_
  have I2 : Inv X pins σ H1 { s1 with heap := h', toks := tk } := I1.kept fun b o e => hk b o e
  have hd2 := I1.ok.hd hc
  have hS : SetM X.w ({ s1 with heap := h', toks := tk } : Shared).heap s1.heap.objs.size (memK ks) c := hS
  generalize ({ s1 with heap := h', toks := tk } : Shared) = s2 at I2 hS ⊢
  refine setM_sorted hS hd2 (fun k hk => hb k (memK_iff.mp hk)) (by omega) hu fun s' p out c bs k1 g1 o1 hp hgt vals nd mem srt => ?_
  have hn : H1 p = none := I2.hok.fresh hp
  have hlen : (bs.map kV).length ≤ sizeLine := by
    have h2 : bs.length ≤ ks.length := by
      have sub : bs ⊆ ks := fun k hk => memK_iff.mp ((mem k).mp hk)
      exact List.Nodup.length_le_of_subset nd sub
    have e : sizeLine = 16777216 := by decide
    rw [List.length_map]
    omega
  have J : Inv X pins σ (upd H1 p (.lst (bs.map kV))) { s2 with heap := s'.heap, gens := s'.gens, drawn := s'.drawn, toks := s'.toks } :=
    I2.call (ch := []) (Un.laid k1 hp hn) (I2.hok.laid k1 hp ⟨hlen, out, c, vals, hgt⟩) (by rw [g1]; exact I2.bare) (fun _ z => nomatch z)
  have e : s' = { s2 with heap := s'.heap, gens := s'.gens, drawn := s'.drawn, toks := s'.toks } := by
    cases s'; cases s2; cases o1; rfl
  rw [e]
  exact ⟨.ref p, _, J, rfl, q1 p bs hn nd (fun k => by rw [mem k, memK_iff]) srt⟩
end
section
variable {X : Cx} {Y : Sys} {W : WX} {n : Nat} {N : List Str} {sc : Scope} {a : CE Y.S} {a' : Expr} {p p2 q pos : Pos}
theorem se_sset (C : Cxt X W n N sc) (hg : glB sc "sorted" = true) (hg2 : glB sc "set" = true) (hs : notStar a' = true) (ha : PE X a' (tE X.K X.mg W a)) : PE X (.Call (.Name "sorted" p) [.Call (.Name "set" p2) [a'] [] q] [] pos) (tE X.K X.mg W (.sset a)) := by
  refine (pe_sset C.calm (hr65 C.room) (C.gl hg) (C.blt _ (by decide +kernel)) (C.gl hg2) (C.blt _ (by decide +kernel)) ha (star_cons hs _ _)).weak fun σ H Q h => ?_
  obtain ⟨c, H0, ρ, rfl, ok, rel, p⟩ := h
  have p : Post X.mg W σ c (JE X.K c) Q ((ev a ρ c.s).bind fun x s => liftO s (ssetD x.2)) := p
  refine tR.bind ok rel p fun x c1 xa ea t1 ok1 rel1 j1 p1 => ?_
  obtain ⟨k, d, e, q⟩ := (p1.shiftE t1 ok1).lift
  obtain ⟨k1, a1⟩ := xa
  unfold ssetD at e
  split at e
  · rename_i ds heq
    have heq : a1 = .lst ds := heq
    subst heq
    split at e
    · rename_i ks hk
      split at e
      · rename_i hc
        cases e
        simp only [Bool.and_eq_true, Bool.or_eq_true, decide_eq_true_eq, List.all_eq_true, beq_iff_eq] at hc
        have hb : ∃ b, ∀ k ∈ ks, k.isLeft = b := hc.2.elim (fun z => ⟨true, z⟩) (fun z => ⟨false, z⟩)
        obtain ⟨b, hb⟩ := hb
        have hx : Is X.K c.H c1 k1 x (.lst ds) := j1
        obtain ⟨pp, vs, rfl, h1, r⟩ := hx.lst ok1
        rw [keys_dK hk] at r
        have ev := reps_keys r
        subst ev
        refine ⟨pp, ks, b, rfl, .inl (.inl h1), hb, hc.1, fun p' bs hp nd hm hs => ?_⟩
        have e2 := sset_one hb nd hm hs
        rw [← e2] at q
        exact q.lst ok1 (rep_keys bs) p' hp
      · cases e
    · cases e
  · cases e
theorem se_rev {kk : Nat} {p1 p3 : Pos} (ha : PE X a' (tE X.K X.mg W a)) : PE X (.Subscript a' (.Slice none none (some (.UnaryOp .USub (.Constant (.int 1) kk p1) p2)) p3) pos) (tE X.K X.mg W (.rev a)) := by
  refine (pe_revT ha).weak fun σ H Q h => ?_
  obtain ⟨c, H0, ρ, rfl, ok, rel, p⟩ := h
  have p : Post X.mg W σ c (JE X.K c) Q ((ev a ρ c.s).bind fun x s => kd s (revD x.2)) := p
  refine tR.bind ok rel p fun x c1 xa ea t1 ok1 rel1 j1 p1 => ?_
  obtain ⟨d, e, q⟩ := (p1.shiftE t1 ok1).kd
  obtain ⟨k1, a1⟩ := xa
  unfold revD at e
  split at e
  · rename_i ds heq
    have heq : a1 = .tup ds := heq
    subst heq
    cases e
    have hx : Is X.K c.H c1 k1 x (.tup ds) := j1
    obtain ⟨pp, vs, rfl, h1, _, r⟩ := hx.tup ok1
    exact ⟨pp, vs, rfl, h1, q.tup ok1 r.rev⟩
  · cases e
end
end Mf
set_option Elab.async false
set_option linter.all false
set_option maxRecDepth 100000
set_option maxHeartbeats 4000000
namespace Mf
open PySem L2

/-- an expression, as a value, as a test, as part of and | or -/
structure SE (X : Cx) {Y : Sys} (W : WX) (e : CE Y.S) (x : Expr) : Prop where
  pe : PE X x (tE X.K X.mg W e)
  pt : tstOk x = true → PT X x (tT X.K X.mg W e)
  pw : isBO x = true → PW X x (tT X.K X.mg W e)
section
variable {X : Cx} {Y : Sys} {W : WX} {n : Nat} {N : List Str} {sc : Scope}
theorem zip_cons {it : CI Y.S} {x tg' : Expr} {tg : Tg} {fns : Str → Bool} {sc' : Scope} (h : chkI N sc it x tg' = true) (hT : chkT N sc' fns tg tg' = true) : zipI it = true → consT tg = true := fun z => by
  cases it <;> first | cases z | skip
  unfold chkI at h
  split at h
  · simp only [Bool.and_eq_true] at h
    have ht := h.1.1.2
    cases tg' <;> first | cases ht | skip
    cases tg with
    | cons _ _ => rfl
    | _ => unfold chkT chkTs at hT; cases hT
  · cases h
theorem SE.plain {e : CE Y.S} {x : Expr} (h : PE X x (tE X.K X.mg W e)) (hb : isBO x = false) (ht : tstOk x = true → tstP x = true) : SE X W e x :=
  ⟨h, fun z => (pt_val h (test_ok (ht z))).weak fun σ H Q q => tT_tE q, fun z => by rw [hb] at z; cases z⟩
abbrev Pn (X : Cx) (Y : Sys) (n : Nat) : Str → Nat → Sem Y.S → Prop := fun x m g => Has X.prog X.w X.K X.mg X.base Y n x m g
theorem pts_noIf {Y : Sys} (X' : Cx) (K : PySem.W.Frag) (mg : Str → Option Value) : PTs X' [] (tTs (Y := Y) K mg W0 .nil) := by
  refine ⟨fun pins s σ H Q I q => pts_nil.run pins s σ H Q I ?_⟩
  obtain ⟨c, H0, ρ, rfl, ok, rel, p⟩ := q
  have p : Post mg W0 σ c (JB c) Q (.ok true c.s) := p
  exact p.fin ok rfl
mutual
theorem sound {X : Cx} {W : WX} {sc : Scope} (C : Cxt X W n N sc) : ∀ (e : CE Y.S) (x : Expr), chkE N sc e x = true → needE (Pn X Y n) (Glb X.K X.mg) e → SE X W e x
  | .var i, x, h, _ => by
    cases x <;> first | cases h | skip
    have h := Bool.and_eq_true_iff.mp h
    exact .plain (se_var C h.1 h.2) rfl fun z => z
  | .con d, x, h, _ => by
    cases x <;> first | cases h | skip
    exact .plain (se_con h) rfl fun z => z
  | .glb y d, x, h, g => by
    cases x <;> first | cases h | skip
    have h := Bool.and_eq_true_iff.mp h
    have e := beq_iff_eq.mp h.1
    subst e
    exact .plain (se_glb C h.2 g) rfl fun z => z
  | .tup es, x, h, g => by
    cases x <;> first | cases h | skip
    exact .plain (se_tup (soundA C es _ h g)) rfl fun z => z
  | .lst es, x, h, g => by
    cases x <;> first | cases h | skip
    exact .plain (se_lst (soundA C es _ h g)) rfl fun z => z
  | .bin o a b, x, h, g => by
    cases x <;> first | cases h | skip
    unfold chkE at h
    simp only [Bool.and_eq_true] at h
    rw [opEq_ok h.1.1]
    exact .plain (se_bin (sound C a _ h.1.2 g.1).pe (sound C b _ h.2 g.2).pe) rfl fun z => z
  | .neg a, x, h, g => by
    cases x <;> first | cases h | skip
    rename_i op _ _
    cases op <;> first | cases h | skip
    exact .plain (se_neg (sound C a _ h g).pe) rfl fun z => z
  | .not a, x, h, g => by
    cases x <;> first | cases h | skip
    rename_i op _ _
    cases op <;> first | cases h | skip
    unfold chkE at h
    simp only [Bool.and_eq_true] at h
    have s := sound C a _ h.1 g
    exact ⟨se_notE s.pe, fun _ => se_notT (s.pt h.2), fun z => nomatch z⟩
  | .cmp o a b, x, h, g => by
    unfold chkE at h
    split at h
    · rename_i a' o' b' pos
      simp only [Bool.and_eq_true] at h
      obtain ⟨⟨⟨h1, h2⟩, h3⟩, h4⟩ := h
      rw [cmpEq_ok h1]
      have s := se_cmpE (o := o) (pos := pos) C h2 (sound C a _ h3 g.1).pe (sound C b _ h4 g.2).pe
      exact ⟨s.1, fun _ => s.2, fun z => nomatch z⟩
    · cases h
  | .chn o p a b c, x, h, g => by
    unfold chkE at h
    split at h
    · rename_i a' o' p' b' c' pos
      simp only [Bool.and_eq_true] at h
      obtain ⟨⟨⟨⟨⟨h1, h2⟩, h3⟩, h4⟩, h5⟩, h6⟩ := h
      rw [cmpEq_ok h1, cmpEq_ok h2]
      have s := se_chn (o := o) (o2 := p) (pos := pos) C h3 (sound C a _ h4 g.1).pe (sound C b _ h5 g.2.1).pe (sound C c _ h6 g.2.2).pe
      exact ⟨s.1, fun _ => s.2, fun z => nomatch z⟩
    · cases h
  | .and a b, x, h, g => by
    unfold chkE at h
    split at h
    · rename_i a' b' r pos
      simp only [Bool.and_eq_true] at h
      obtain ⟨⟨h1, h2⟩, h3⟩ := h
      have s1 := sound C a _ h2 g.1
      have s2 := sound C b _ h3 g.2
      have w := se_andT (s1.pt h1) (s2.pw rfl)
      exact ⟨se_andE s1.pe s2.pe, fun _ => w.pt, fun _ => w⟩
    · cases h
  | .or a b, x, h, g => by
    unfold chkE at h
    split at h
    · rename_i a' b' r pos
      simp only [Bool.and_eq_true] at h
      obtain ⟨⟨h1, h2⟩, h3⟩ := h
      have s1 := sound C a _ h2 g.1
      have s2 := sound C b _ h3 g.2
      have w := se_orT (s1.pt h1) (s2.pw rfl)
      exact ⟨se_orE s1.pe s2.pe, fun _ => w.pt, fun _ => w⟩
    · cases h
  | .one a, x, h, g => by
    unfold chkE at h
    split at h
    · rename_i op a' pos
      simp only [Bool.and_eq_true] at h
      have s := sound C a _ h.2 g
      have w : PW X (.BoolOp op [a'] pos) (tT X.K X.mg W a) := by
        cases op with
        | And => exact pw_and1 (s.pt h.1)
        | Or => exact pw_or1 (s.pt h.1)
      have w2 : PW X (.BoolOp op [a'] pos) (tT X.K X.mg W (.one a)) := w.weak fun σ H Q q => q
      exact ⟨(pe_one s.pe).weak fun σ H Q q => q, fun _ => w2.pt, fun _ => w2⟩
    · cases h
  | .ife t a b, x, h, g => by
    unfold chkE at h
    split at h
    · rename_i t' a' b' pos
      simp only [Bool.and_eq_true] at h
      obtain ⟨⟨⟨h1, h2⟩, h3⟩, h4⟩ := h
      exact .plain (se_ife ((sound C t _ h2 g.1).pt h1) (sound C a _ h3 g.2.1).pe (sound C b _ h4 g.2.2).pe) rfl fun z => z
    · cases h
  | .ix a i, x, h, g => by
    unfold chkE at h
    split at h
    · rename_i a' i' pos
      simp only [Bool.and_eq_true] at h
      obtain ⟨⟨h1, h2⟩, h3⟩ := h
      exact .plain (se_ix C h1 (sound C a _ h2 g.1).pe (sound C i _ h3 g.2).pe) rfl fun z => z
    · cases h
  | .slL a lo, x, h, g => by
    unfold chkE at h
    split at h
    · simp only [Bool.and_eq_true] at h
      exact .plain (se_slL (sound C a _ h.1 g.1).pe (sound C lo _ h.2 g.2).pe) rfl fun z => z
    · cases h
  | .slH a hi, x, h, g => by
    unfold chkE at h
    split at h
    · simp only [Bool.and_eq_true] at h
      exact .plain (se_slH (sound C a _ h.1 g.1).pe (sound C hi _ h.2 g.2).pe) rfl fun z => z
    · cases h
  | .slB a lo hi, x, h, g => by
    unfold chkE at h
    split at h
    · simp only [Bool.and_eq_true] at h
      exact .plain (se_slB (sound C a _ h.1.1 g.1).pe (sound C lo _ h.1.2 g.2.1).pe (sound C hi _ h.2 g.2.2).pe) rfl fun z => z
    · cases h
  | .call y m gg es, x, h, g => by
    unfold chkE at h
    split at h
    · simp only [Bool.and_eq_true] at h
      obtain ⟨⟨h1, h2⟩, h3⟩ := h
      have e := beq_iff_eq.mp h1
      subst e
      exact .plain (se_call C h2 g.1 h3 (soundA C es _ h3 g.2)) rfl fun z => z
    · cases h
  | .b1 f e, x, h, g => by
    unfold chkE at h
    split at h
    · simp only [Bool.and_eq_true] at h
      obtain ⟨⟨⟨h1, h2⟩, h3⟩, h4⟩ := h
      have e := beq_iff_eq.mp h1
      subst e
      exact .plain (se_b1 C h2 h3 (sound C _ _ h4 g).pe) rfl fun z => z
    · cases h
  | .m1 f a b, x, h, g => by
    unfold chkE at h
    split at h
    · simp only [Bool.and_eq_true] at h
      obtain ⟨⟨⟨⟨⟨h1, h2⟩, h3⟩, h4⟩, h5⟩, h6⟩ := h
      have e1 := beq_iff_eq.mp h1
      subst e1
      exact .plain (se_m1 C h2 h3 h4 (sound C _ _ h5 g.1).pe (sound C _ _ h6 g.2).pe) rfl fun z => z
    · cases h
  | .isi e t, x, h, g => by
    unfold chkE at h
    split at h
    · simp only [Bool.and_eq_true] at h
      obtain ⟨⟨⟨⟨⟨h1, h2⟩, h3⟩, h4⟩, h5⟩, h6⟩ := h
      have e1 := beq_iff_eq.mp h1
      have e2 := beq_iff_eq.mp h3
      subst e1 e2
      exact .plain (se_isi (p3 := ⟨0, 0, 0, 0⟩) C h2 h4 h5 (sound C _ _ h6 g).pe) rfl fun z => z
    · cases h
  | .lc it tg ifs elt vs, x, h, g => by
    unfold chkE at h
    split at h
    · rename_i elt' tg' iter' ifs' scope pos
      simp only [Bool.and_eq_true] at h
      obtain ⟨⟨⟨⟨⟨⟨h1, h2⟩, h3⟩, h4⟩, h5⟩, h6⟩, h7⟩ := h
      refine .plain (se_lc (py := ⟨0, 0, 0, 0⟩) (spos := ⟨0, 0, 0, 0⟩) C (zip_cons h1 h5) (soundI C false it _ _ h1 g.1) h2 h3 h4 h5 (fun X' a1 a2 a3 a4 a5 C' => ?_) (fun X' a1 a2 a3 a4 a5 C' => ?_)).1 rfl fun z => z
      · have q := soundC C' ifs _ h6 (by unfold Pn; rw [a1, a2, a3, a4, a5]; exact g.2.1)
        rw [a3, a4] at q
        exact q
      · have q := (sound C' elt _ h7 (by unfold Pn; rw [a1, a2, a3, a4, a5]; exact g.2.2)).pe
        rw [a3, a4] at q
        exact q
    · cases h
  | .rev e, x, h, g => by
    unfold chkE at h
    split at h
    · exact .plain (se_rev (sound C _ _ h g).pe) rfl fun z => z
    · cases h
  | .sset e, x, h, g => by
    unfold chkE at h
    split at h
    · rename_i y p1 z p2 e' p3 p4
      simp only [Bool.and_eq_true] at h
      obtain ⟨⟨⟨⟨⟨h1, h2⟩, h3⟩, h4⟩, h5⟩, h6⟩ := h
      have e1 := beq_iff_eq.mp h1
      have e2 := beq_iff_eq.mp h3
      subst e1 e2
      exact .plain (se_sset C h2 h4 h5 (sound C _ _ h6 g).pe) rfl fun z => z
    · cases h
  | .lc2 it tg it1 tg1 elt vs vs1, x, h, g => by
    unfold chkE at h
    split at h
    · rename_i elt' tg' iter' tg1' iter1' scope pos
      simp only [Bool.and_eq_true] at h
      obtain ⟨⟨⟨⟨⟨h1, h2⟩, h3⟩, h4⟩, h5⟩, ⟨⟨⟨⟨⟨k1, k2⟩, k3⟩, k4⟩, k5⟩, k6⟩⟩ := h
      refine .plain (se_lc2 (py := ⟨0, 0, 0, 0⟩) (spos := ⟨0, 0, 0, 0⟩) C (zip_cons h1 h5) (zip_cons k1 k4) (soundI C false it _ _ h1 g.1) h2 k2 h3 h4 k3 k5 h5 k4 (fun X' a1 a2 a3 a4 a5 C' => ?_) (fun X' a1 a2 a3 a4 a5 C' => ?_) (fun X' a1 a2 a3 a4 a5 C' => ?_)).1 rfl fun z => z
      · exact pts_noIf X' X.K X.mg
      · have q := soundI C' true it1 _ _ k1 (by unfold Pn; rw [a1, a2, a3, a4, a5]; exact g.2.1)
        rw [a3, a4] at q
        exact q
      · have q := (sound C' elt _ k6 (by unfold Pn; rw [a1, a2, a3, a4, a5]; exact g.2.2)).pe
        rw [a3, a4] at q
        exact q
    · cases h
theorem soundA {X : Cx} {W : WX} {sc : Scope} (C : Cxt X W n N sc) : ∀ (es : CA Y.S) (xs : List Expr), chkA N sc es xs = true → needA (Pn X Y n) (Glb X.K X.mg) es → PA X xs (tA X.K X.mg W es)
  | .nil, xs, h, _ => by
    cases xs <;> first | cases h | skip
    exact sa_nil
  | .cons e es, xs, h, g => by
    cases xs <;> first | cases h | skip
    unfold chkA at h
    simp only [Bool.and_eq_true] at h
    exact sa_cons h.1.1 (sound C e _ h.1.2 g.1).pe (soundA C es _ h.2 g.2)
theorem soundC {X : Cx} {W : WX} {sc : Scope} (C : Cxt X W n N sc) : ∀ (es : CA Y.S) (xs : List Expr), chkC N sc es xs = true → needA (Pn X Y n) (Glb X.K X.mg) es → PTs X xs (tTs X.K X.mg W es)
  | .nil, xs, h, _ => by
    cases xs with
    | nil =>
      refine ⟨fun pins s σ H Q I q => pts_nil.run pins s σ H Q I ?_⟩
      obtain ⟨c, H0, ρ, rfl, ok, rel, p⟩ := q
      have p : Post X.mg W σ c (JB c) Q (.ok true c.s) := p
      exact p.fin ok rfl
    | cons _ _ => unfold chkC at h; cases h
  | .cons e es, xs, h, g => by
    unfold chkC at h
    split at h
    · cases ‹CA.cons e es = _›
    · rename_i e1 x1 he
      cases he
      simp only [Bool.and_eq_true] at h
      have s := (sound C e _ h.2 g.1).pt h.1
      exact ⟨fun pins s' σ H Q I q => (pts_one s).run pins s' σ H Q I q⟩
    · cases h
theorem soundI {X : Cx} {W : WX} {sc : Scope} (C : Cxt X W n N sc) (st : Bool) : ∀ (it : CI Y.S) (x tg : Expr), chkI N sc it x tg = true → needI (Pn X Y n) (Glb X.K X.mg) it → PI X tg x (tI X.K X.mg W st it)
  | .seq e, x, tg, h, g => si_seq (sound C e x h g).pe
  | .rng e, x, tg, h, g => by
    unfold chkI at h
    split at h
    · simp only [Bool.and_eq_true] at h
      obtain ⟨⟨⟨h1, h2⟩, h3⟩, h4⟩ := h
      have e := beq_iff_eq.mp h1
      subst e
      exact si_rng C h2 h3 (sound C _ _ h4 g).pe
    · cases h
  | .zip a b, x, tg, h, g => by
    unfold chkI at h
    split at h
    · simp only [Bool.and_eq_true] at h
      obtain ⟨⟨⟨⟨⟨⟨h1, h2⟩, h3⟩, h4⟩, h5⟩, h6⟩, h7⟩ := h
      have e := beq_iff_eq.mp h1
      subst e
      exact si_zip C h2 h3 h4 h5 (sound C _ _ h6 g.1).pe (sound C _ _ h7 g.2).pe
    · cases h
end
end
end Mf
set_option Elab.async false
set_option linter.all false
set_option maxRecDepth 100000
set_option maxHeartbeats 1000000
namespace Mf
open PySem L2

/-! ### statements -/
mutual
inductive CS (S : Type) : Type where
  | asg (own : Bool) (i : Nat) (e : CE S)
  | asgT (tg : Tg) (e : CE S) | asgU (tg : Tg) (e : CE S)
  | par (oi oj : Bool) (i j : Nat) (a b : CE S)
  | ret (e : CE S) | retN | expr (e : CE S) | never
  | ife (t : CE S) (a b : CSs S)
  | forr (tg : Tg) (it : CI S) (body : CSs S)
  | whl (t : CE S) (body : CSs S) (fuel : List SV → S → Nat)
  | app (i : Nat) (e : CE S) | ext (i : Nat) (e : CE S) | rem (i : Nat) (e : CE S) | seti (i : Nat) (k e : CE S)
  | frz (i : Nat) (c : CS S)
inductive CSs (S : Type) : Type where
  | nil | cons (c : CS S) (cs : CSs S)
end
inductive Out (S : Type) where
  | nx (ρ : List SV) (s : S) | rt (d : D) (s : S) | ex (x : Str) (s : S) | er
def Res.ob {S α : Type} : Res S α → (α → S → Out S) → Out S
  | .ok a s, f => f a s
  | .ex x s, _ => .ex x s
  | .er, _ => .er
def Out.sq {S : Type} : Out S → (List SV → S → Out S) → Out S
  | .nx ρ s, f => f ρ s
  | o, _ => o
/-- into a slot: owned or plain -/
def stow : Bool → K3 × D → Option SV
  | true, (.t, d) => some (.ow d)
  | false, (.v, d) => some (.va d)
  | false, (.t, d) => some (.va d)
  | _, _ => none
def put (ρ : List SV) (i : Nat) (x : SV) : Option (List SV) := if i < ρ.length then some (ρ.set i x) else none
def onO {S α : Type} (o : Option α) (f : α → Out S) : Out S := match o with | some a => f a | none => .er
def forR {S : Type} (f : D → List SV → S → Out S) : List D → List SV → S → Out S
  | [], ρ, s => .nx ρ s
  | d :: ds, ρ, s => (f d ρ s).sq (forR f ds)
def whlR {S : Type} (t : List SV → S → Res S Bool) (b : List SV → S → Out S) : Nat → List SV → S → Out S
  | 0, _, _ => .er
  | n + 1, ρ, s => (t ρ s).ob fun k s1 => if k then (b ρ s1).sq (whlR t b n) else .nx ρ s1
def ownL (ρ : List SV) (i : Nat) : Option (List D) := match ρ[i]? with | some (.ow (.lst ds)) => some ds | _ => none
/-- into an owned thing -/
def setD : SV → D → D → Option SV
  | .ow (.lst ds), .int k, v => (ixN ds.length k).map fun j => .ow (.lst (ds.set j v))
  | .ow (.dct es), .str k, v => if lenOk (es.length + 1) then some (.ow (.dct (putD es k v))) else none
  | _, _, _ => none
def isOw : Option SV → Bool
  | some (.ow _) => true
  | _ => false
mutual
def run {S : Type} : CS S → List SV → S → Out S
  | .asg own i e, ρ, s => (ev e ρ s).ob fun x s => onO (stow own x) fun v => onO (put ρ i v) fun ρ' => .nx ρ' s
  | .asgT tg e, ρ, s => (ev e ρ s).ob fun x s => (dat x s).ob fun d s => onO (asgT tg d ρ) fun ρ' => .nx ρ' s
  | .asgU tg e, ρ, s => (ev e ρ s).ob fun x s => match x.2 with | .lst ds => onO (asgL tg ds ρ) fun ρ' => .nx ρ' s | _ => .er
  | .par oi oj i j a b, ρ, s => (ev a ρ s).ob fun x s => onO (stow oi x) fun u => (ev b ρ s).ob fun y s => onO (stow oj y) fun v => onO (put ρ i u) fun ρ1 => onO (put ρ1 j v) fun ρ2 => .nx ρ2 s
  | .ret e, ρ, s => (ev e ρ s).ob fun x s => (dat x s).ob fun d s => .rt d s
  | .retN, _, s => .rt .non s
  | .expr e, ρ, s => (ev e ρ s).ob fun _ s => .nx ρ s
  | .never, _, _ => .er
  | .ife t a b, ρ, s => ((ev t ρ s).bind tru).ob fun k s => if k then runs a ρ s else runs b ρ s
  | .forr tg it body, ρ, s => (evI true it ρ s).ob fun ds s => forR (fun d ρ s => onO (asgT tg d ρ) fun ρ' => runs body ρ' s) ds ρ s
  | .whl t body fuel, ρ, s => whlR (fun ρ s => (ev t ρ s).bind tru) (runs body) (fuel ρ s) ρ s
  | .app i e, ρ, s => onO (ownL ρ i) fun ds => (ev e ρ s).ob fun x s => (dat x s).ob fun d s => if lenOk (ds.length + 1) then .nx (ρ.set i (.ow (.lst (ds ++ [d])))) s else .er
  | .ext i e, ρ, s => onO (ownL ρ i) fun ds => (ev e ρ s).ob fun x s => match x.2 with | .lst es => if lenOk (ds.length + es.length) then .nx (ρ.set i (.ow (.lst (ds ++ es)))) s else .er | _ => .er
  | .rem i e, ρ, s => onO (ownL ρ i) fun ds => (ev e ρ s).ob fun x s => if x.2.sh 60 && shs 59 ds then onO (ds.findIdx? fun z => deq z x.2) fun j => .nx (ρ.set i (.ow (.lst (ds.eraseIdx j)))) s else .er
  | .seti i k e, ρ, s => (ev e ρ s).ob fun x s => (dat x s).ob fun d s => if isOw ρ[i]? then (ev k ρ s).ob fun y s => onO ((ρ[i]?).bind fun o => setD o y.2 d) fun o => .nx (ρ.set i o) s else .er
  | .frz i c, ρ, s => match ρ[i]? with | some (.ow d) => run c (ρ.set i (.va d)) s | _ => run c ρ s
def runs {S : Type} : CSs S → List SV → S → Out S
  | .nil, ρ, s => .nx ρ s
  | .cons c cs, ρ, s => (run c ρ s).sq (runs cs)
end
/-- a def -/
def fnR {S : Type} (n : Nat) (body : CSs S) : Sem S := fun ds s => match runs body (ds.map SV.va ++ List.replicate (n - ds.length) .no) s with
  | .nx _ s => .ok .non s
  | .rt d s => .ok d s
  | .ex x s => .ex x s
  | .er => .er

/-! ### the checker -/
def swB (sc : Scope) (y : Str) (py : Pos) (e : Expr) : Bool := match e with
  | .ListComp _ _ scope pos => decide (sc.names.lookup y = some .local) && (py.line == pos.line) && !(scope.names.any fun (n, k) => n == y && (k == .local || k == .cell))
  | _ => false
def locB (sc : Scope) (x : Str) : Bool := match sc.names.lookup x with | some .local => true | some .cell => true | _ => false
def isLc : Expr → Bool
  | .ListComp _ _ _ _ => true
  | _ => false
def noSC : Expr → Bool
  | .SetComp _ _ _ _ => false
  | .DictComp _ _ _ _ _ => false
  | _ => true
def isTup : Expr → Bool
  | .Tuple _ _ _ => true
  | _ => false
/-- a, b = e: the pair is made and taken apart -/
def noSwap (sc : Scope) (ts : List Expr) : Expr → Bool
  | .Tuple vs _ _ => vs.all (foldedForSure 8) || ts.any fun | .Name x _ => !(decide (sc.names.lookup x = some .local)) | _ => true
  | _ => true
def swapB (sc : Scope) (x y : Str) (px py : Pos) (a b : Expr) : Bool :=
  decide (sc.names.lookup x = some .local) && decide (sc.names.lookup y = some .local) && (py.line == px.line) && !(x == y) && notStar a && notStar b && !([a, b].all (foldedForSure 8)) && !([a, b].all (constantsAlone 8))
mutual
def chkS {S : Type} (N : List Str) (sc : Scope) : CS S → Stmt → Bool
  | .asg _ i e, st => match st with
    | .Assign [.Name x px] e' _ => (N[i]? == some x) && locB sc x && noSC e' && chkE N sc e e' && (!(isLc e') || swB sc x px e' || !(decide (sc.names.lookup x = some .local)))
    | _ => false
  | .asgT tg e, st => match st with
    | .Assign [.Tuple ts k p] e' _ => chkT N sc (fun _ => true) tg (.Tuple ts k p) && noSC e' && notComp e' && noSwap sc ts e' && chkE N sc e e'
    | _ => false
  | .asgU tg e, st => match st with
    | .Assign [.Tuple ts k p] e' _ => chkT N sc (fun _ => true) tg (.Tuple ts k p) && noSC e' && notComp e' && noSwap sc ts e' && chkE N sc e e'
    | _ => false
  | .par _ _ i j a b, st => match st with
    | .Assign [.Tuple [.Name x px, .Name y py] _ _] (.Tuple [a', b'] _ _) _ => (N[i]? == some x) && (N[j]? == some y) && swapB sc x y px py a' b' && chkE N sc a a' && chkE N sc b b'
    | _ => false
  | .ret e, st => match st with
    | .Return (some e') _ => chkE N sc e e'
    | _ => false
  | .retN, st => match st with
    | .Return none _ => true
    | _ => false
  | .expr e, st => match st with
    | .Expr e' _ => notComp e' && chkE N sc e e'
    | _ => false
  | .never, _ => true
  | .ife t a b, st => match st with
    | .If t' a' b' _ => tstOk t' && chkE N sc t t' && chkSs N sc a a' && chkSs N sc b b'
    | _ => false
  | .forr tg it body, st => match st with
    | .For tg' it' body' [] _ => chkT N sc (fun _ => true) tg tg' && notSet it' && chkI N sc it it' tg' && chkSs N sc body body'
    | _ => false
  | .whl t body _, st => match st with
    | .While t' body' [] _ => tstOk t' && chkE N sc t t' && chkSs N sc body body'
    | _ => false
  | .app i e, st => match st with
    | .Expr (.Call (.Attribute (.Name x p) m apos) [e'] [] cpos) _ => (N[i]? == some x) && visB sc x && (m == ("append" : Str)) && notStar e' && (apos.endLine == cpos.line) && chkE N sc e e'
    | _ => false
  | .ext i e, st => match st with
    | .Expr (.Call (.Attribute (.Name x p) m apos) [e'] [] cpos) _ => (N[i]? == some x) && visB sc x && (m == ("extend" : Str)) && notStar e' && (apos.endLine == cpos.line) && chkE N sc e e'
    | _ => false
  | .rem i e, st => match st with
    | .Expr (.Call (.Attribute (.Name x p) m apos) [e'] [] cpos) _ => (N[i]? == some x) && visB sc x && (m == ("remove" : Str)) && notStar e' && (apos.endLine == cpos.line) && chkE N sc e e'
    | _ => false
  | .seti i k e, st => match st with
    | .Assign [.Subscript (.Name x _) k' _] e' _ => (N[i]? == some x) && visB sc x && notSlice k' && notComp e' && chkE N sc k k' && chkE N sc e e'
    | _ => false
  | .frz _ c, st => chkS N sc c st
def chkSs {S : Type} (N : List Str) (sc : Scope) : CSs S → List Stmt → Bool
  | .nil, l => match l with
    | [] => true
    | _ => false
  | .cons c cs, l => match l with
    | st :: sts => chkS N sc c st && chkSs N sc cs sts
    | _ => false
end
mutual
def needS {S : Type} (P : Str → Nat → Sem S → Prop) (G : Str → D → Prop) : CS S → Prop
  | .asg _ _ e => needE P G e
  | .asgT _ e => needE P G e
  | .asgU _ e => needE P G e
  | .par _ _ _ _ a b => needE P G a ∧ needE P G b
  | .ret e => needE P G e
  | .retN => True
  | .expr e => needE P G e
  | .never => True
  | .ife t a b => needE P G t ∧ needSs P G a ∧ needSs P G b
  | .forr _ it b => needI P G it ∧ needSs P G b
  | .whl t b _ => needE P G t ∧ needSs P G b
  | .app _ e => needE P G e
  | .ext _ e => needE P G e
  | .rem _ e => needE P G e
  | .seti _ k e => needE P G k ∧ needE P G e
  | .frz _ c => needS P G c
def needSs {S : Type} (P : Str → Nat → Sem S → Prop) (G : Str → D → Prop) : CSs S → Prop
  | .nil => True
  | .cons c cs => needS P G c ∧ needSs P G cs
end
/-! ### readings -/
section
variable {Y : Sys} (K : PySem.W.Frag) (mg : Str → Option Value) (E : XK)
abbrev WofE : WX := fun cls d _ H => E cls d H
def PostS (c0 : Cf Y) (F0 : Hp) (D : Ends) : Out Y.S → Prop
  | .nx ρ' s' => ∀ σ' (c' : Cf Y), c'.s = s' → Step c0 c' → Sub F0 c'.F → Ok c' → Rel K c0.H c' σ' ρ' → D.nx σ' c'.H
  | .rt d s' => ∀ v (c' : Cf Y), c'.s = s' → Step c0 c' → Ok c' → Rep K c'.F v d → D.rt v c'.H
  | .ex x s' => ∀ C (c' : Cf Y), mg x = some (.ref C) → c'.s = s' → Step c0 c' → Ok c' → E (.ref C) none c'.H
  | .er => False
def tS (r : List SV → Y.S → Out Y.S) : TS := fun D σ H => ∃ (c0 : Cf Y) (F0 : Hp) (c : Cf Y) (ρ : List SV), c.H = H ∧ Step c0 c ∧ Sub F0 c.F ∧ Ok c ∧ Rel K c0.H c σ ρ ∧ PostS K mg E c0 F0 D (r ρ c.s)
end
theorem _root_.L2.PS.weak {X : Cx} {e : Stmt} {t t' : TS} (h : PS X e t) (k : ∀ D σ H, t' D σ H → t D σ H) : PS X e t' := ⟨fun pins s σ H D I q => h.run pins s σ H D I (k D σ H q)⟩
theorem _root_.L2.PSs.weak {X : Cx} {e : List Stmt} {t t' : TS} (h : PSs X e t) (k : ∀ D σ H, t' D σ H → t D σ H) : PSs X e t' := ⟨fun pins s σ H D I q => h.run pins s σ H D I (k D σ H q)⟩
structure SCxt (X : Cx) (E : XK) (n : Nat) (N : List Str) (sc : Scope) : Prop extends Cxt X (WofE E) n N sc where
  po : PassesOwn (model X.prog X.w) X.A X.env X.xe
  fn : X.fn = fun _ => true
  kd : sc.kind = .function
section
variable {Y : Sys} {K : PySem.W.Frag} {mg : Str → Option Value} {E : XK} {α β : Type} {σ : L2.St} {c0 c : Cf Y} {F0 : Hp} {ρ : List SV} {D : Ends}
/-- an expression ahead of the rest of a statement -/
theorem tR.ob {J : Cf Y → β → Cf Y → α → Prop} {f : List SV → Y.S → Res Y.S α} {R : α → Y.S → Out Y.S} {Qa : β → Hp → Prop}
    (t0 : Step c0 c) (ok : Ok c) (rel : Rel K c0.H c σ ρ) (h : PostS K mg E c0 F0 D ((f ρ c.s).ob R))
    (k : ∀ b (c' : Cf Y) a, Step c c' → Ok c' → Rel K c0.H c' σ ρ → J c b c' a → PostS K mg E c0 F0 D (R a c'.s) → Qa b c'.H) : tR K mg (WofE E) J f σ c.H Qa := by
  refine ⟨c, c0.H, ρ, rfl, ok, rel, ?_⟩
  cases e : f ρ c.s with
  | ok a s' =>
    rw [e] at h
    intro b c' es t ok' j
    subst es
    exact k b c' a t ok' (rel.step t) j h
  | ex x s' =>
    rw [e] at h
    intro C c' e1 e2 t ok'
    exact h C c' e1 e2 (t0.trans ok t) ok'
  | er => rw [e] at h; exact h
theorem PostS.onO {γ : Type} {o : Option γ} {f : γ → Out Y.S} (h : PostS K mg E c0 F0 D (Mf.onO o f)) : ∃ a, o = some a ∧ PostS K mg E c0 F0 D (f a) := by
  cases o with
  | none => exact h.elim
  | some a => exact ⟨a, rfl, h⟩
theorem PostS.dat {x : K3 × Mf.D} {s : Y.S} {f : Mf.D → Y.S → Out Y.S} (h : PostS K mg E c0 F0 D ((Mf.dat x s).ob f)) : x.1 ≠ .o ∧ PostS K mg E c0 F0 D (f x.2 s) := by
  obtain ⟨k, d⟩ := x
  cases k with
  | v => exact ⟨fun z => (nomatch z), h⟩
  | t => exact ⟨fun z => (nomatch z), h⟩
  | o => exact h.elim
theorem Rel.setO {H0 : Hp} (r : Rel K H0 c σ ρ) {i : Nat} {p : Addr} {d : Mf.D} (o : Own K c p d) (h0 : H0 p = none) (hi : i < ρ.length) (hne : ∀ (m : Nat) (e : Mf.D), m ≠ i → ρ[m]? = some (SV.ow e) → σ[m]? ≠ some (some (V.ref p))) : Rel K H0 c (σ.set i (some (.ref p))) (ρ.set i (.ow d)) where
  len := by rw [List.length_set, List.length_set]; exact r.len
  va := fun j e hj => by
    by_cases q : i = j
    · subst q
      rw [List.getElem?_set_self hi] at hj
      cases hj
    · rw [List.getElem?_set_ne q] at hj
      obtain ⟨v', h1, h2⟩ := r.va j e hj
      exact ⟨v', by rw [List.getElem?_set_ne q]; exact h1, h2⟩
  ow := fun j e hj => by
    by_cases q : i = j
    · subst q
      rw [List.getElem?_set_self hi] at hj
      cases hj
      exact ⟨p, List.getElem?_set_self (by rw [← r.len]; exact hi), o, h0⟩
    · rw [List.getElem?_set_ne q] at hj
      obtain ⟨v', h1, h2⟩ := r.ow j e hj
      exact ⟨v', by rw [List.getElem?_set_ne q]; exact h1, h2⟩
  ap := fun j k e e' p' hjk hj hk hp => by
    by_cases q : i = j
    · subst q
      rw [List.getElem?_set_self (by rw [← r.len]; exact hi)] at hp
      cases hp
      have hjk' : k ≠ i := fun z => hjk z.symm
      rw [List.getElem?_set_ne hjk] at hk ⊢
      exact hne k e' hjk' hk
    · rw [List.getElem?_set_ne q] at hj hp
      by_cases q' : i = k
      · subst q'
        rw [List.getElem?_set_self (by rw [← r.len]; exact hi)]
        intro z
        cases z
        exact hne j e (fun z => q z.symm) hj hp
      · rw [List.getElem?_set_ne q'] at hk ⊢
        exact r.ap j k e e' p' hjk hj hk hp
/-- a value on its way into a slot: cs the state ahead of its making -/
def Hold (K : PySem.W.Frag) (cs c : Cf Y) : Bool → V → Mf.D → Prop
  | false, v, d => Rep K c.F v d
  | true, v, d => ∃ p, v = .ref p ∧ Own K c p d ∧ cs.H p = none
theorem Hold.step {cs c c1 : Cf Y} {own : Bool} {v : V} {d : Mf.D} (h : Hold K cs c own v d) (t : Step c c1) : Hold K cs c1 own v d := by
  cases own with
  | false => exact Rep.mono t.f h
  | true => obtain ⟨p, e, o, z⟩ := h; exact ⟨p, e, o.step t, z⟩
theorem hold_of {c1 : Cf Y} {own : Bool} {x : K3 × Mf.D} {v : V} {u : SV} (hs : stow own x = some u) (t1 : Step c c1) (ok1 : Ok c1) (j : Is K c.H c1 x.1 v x.2) :
    u = (if own = true then .ow x.2 else .va x.2) ∧ ∃ c2 : Cf Y, c2.s = c1.s ∧ c2.H = c1.H ∧ Step c c2 ∧ Ok c2 ∧ Hold K c c2 own v x.2 := by
  obtain ⟨k, d⟩ := x
  have j : Is K c.H c1 k v d := j
  cases own with
  | false =>
    have hk : k ≠ .o ∧ u = .va d := by
      cases k <;> cases hs
      · exact ⟨fun z => (nomatch z), rfl⟩
      · exact ⟨fun z => (nomatch z), rfl⟩
    obtain ⟨c2, e1, e2, t2, ok2, r⟩ := Is.data j hk.1 t1 ok1
    exact ⟨by rw [if_neg Bool.false_ne_true]; exact hk.2, c2, e1, e2, t2, ok2, r⟩
  | true =>
    have hk : k = .t ∧ u = .ow d := by
      cases k <;> cases hs
      exact ⟨rfl, rfl⟩
    obtain ⟨rfl, rfl⟩ := hk
    exact ⟨by rw [if_pos rfl], c1, rfl, rfl, t1, ok1, j⟩
theorem Rel.hold {H0 : Hp} {cs : Cf Y} {own : Bool} {i : Nat} {v : V} {d : Mf.D} {ρ' : List SV} (r : Rel K H0 c σ ρ) (h : Hold K cs c own v d) (ex : ∀ (m : Nat) (e : Mf.D) (q : Addr), ρ[m]? = some (SV.ow e) → σ[m]? = some (some (V.ref q)) → cs.H q ≠ none) (h0 : ∀ q, cs.H q = none → H0 q = none)
    (hp : put ρ i (if own = true then .ow d else .va d) = some ρ') : Rel K H0 c (σ.set i (some v)) ρ' := by
  unfold put at hp
  split at hp
  · rename_i hi
    cases hp
    cases own with
    | false => exact r.set h hi
    | true =>
      obtain ⟨p, rfl, o, z⟩ := h
      exact r.setO o (h0 p z) hi fun m e hm he hp => ex m e p he hp z
  · cases hp
theorem Rel.ex {H0 : Hp} (r : Rel K H0 c σ ρ) (m : Nat) (e : Mf.D) (q : Addr) (h : ρ[m]? = some (SV.ow e)) (hq : σ[m]? = some (some (V.ref q))) : c.H q ≠ none := by
  obtain ⟨p', e1, o', _⟩ := r.ow m e h
  rw [hq] at e1
  cases e1
  exact o'.obj
/-- an owned thing changes -/
theorem Rel.mut {H0 : Hp} (r : Rel K H0 c σ ρ) {i : Nat} {p : Addr} {d d' : Mf.D} {o : HO} (hi : ρ[i]? = some (.ow d)) (hσ : σ[i]? = some (some (.ref p))) (ho : Own K (⟨c.F, upd c.H p o, c.s⟩ : Cf Y) p d') : Rel K H0 (⟨c.F, upd c.H p o, c.s⟩ : Cf Y) σ (ρ.set i (.ow d')) where
  len := by rw [List.length_set]; exact r.len
  va := fun j e hj => by
    by_cases q : i = j
    · subst q
      rw [List.getElem?_set_self (List.getElem?_eq_some_iff.mp hi).1] at hj
      cases hj
    · rw [List.getElem?_set_ne q] at hj
      exact r.va j e hj
  ow := fun j e hj => by
    by_cases q : i = j
    · subst q
      rw [List.getElem?_set_self (List.getElem?_eq_some_iff.mp hi).1] at hj
      cases hj
      obtain ⟨p', e1, _, z⟩ := r.ow i d hi
      rw [hσ] at e1
      cases e1
      exact ⟨p, hσ, ho, z⟩
    · rw [List.getElem?_set_ne q] at hj
      obtain ⟨p', e1, o', z⟩ := r.ow j e hj
      refine ⟨p', e1, o'.other (fun z => ?_) o, z⟩
      subst z
      exact r.ap i j d e p' q hi hj hσ e1
  ap := fun j k e e' p' hjk hj hk hp => by
    have tr : ∀ {m : Nat} {e : Mf.D}, (ρ.set i (.ow d'))[m]? = some (SV.ow e) → ∃ e', ρ[m]? = some (SV.ow e') := fun {m e} h => by
      by_cases q : i = m
      · subst q
        exact ⟨d, hi⟩
      · rw [List.getElem?_set_ne q] at h
        exact ⟨e, h⟩
    obtain ⟨e1, h1⟩ := tr hj
    obtain ⟨e2, h2⟩ := tr hk
    exact r.ap j k e1 e2 p' hjk h1 h2 hp
/-- an owned thing is given up -/
theorem Rel.frz {H0 : Hp} (r : Rel K H0 c σ ρ) (ok : Ok c) (t0 : Step c0 c) (e0 : H0 = c0.H) {i : Nat} {d : Mf.D} (hi : ρ[i]? = some (.ow d)) : ∃ c2 : Cf Y, c2.s = c.s ∧ c2.H = c.H ∧ Step c0 c2 ∧ Ok c2 ∧ Sub c.F c2.F ∧ Rel K H0 c2 σ (ρ.set i (.va d)) := by
  obtain ⟨p, hσ, o, z⟩ := r.ow i d hi
  obtain ⟨ob, hp, ok2, rp, sb⟩ := o.frz ok
  have hl := (List.getElem?_eq_some_iff.mp hi).1
  refine ⟨⟨upd c.F p ob, c.H, c.s⟩, rfl, rfl, t0.frz o.2.1 (by rw [← e0]; exact z) ob, ok2, sb, ?_⟩
  exact {
    len := by rw [List.length_set]; exact r.len
    va := fun j e hj => by
      by_cases q : i = j
      · subst q
        rw [List.getElem?_set_self hl] at hj
        cases hj
        exact ⟨.ref p, hσ, rp⟩
      · rw [List.getElem?_set_ne q] at hj
        obtain ⟨v, h1, h2⟩ := r.va j e hj
        exact ⟨v, h1, h2.mono sb⟩
    ow := fun j e hj => by
      by_cases q : i = j
      · subst q
        rw [List.getElem?_set_self hl] at hj
        cases hj
      · rw [List.getElem?_set_ne q] at hj
        obtain ⟨p', h1, h2, h3⟩ := r.ow j e hj
        exact ⟨p', h1, h2.frzo (fun z => r.ap i j d e p q hi hj hσ (by rw [h1, z])) o.2.1, h3⟩
    ap := fun j k e e' p' hjk hj hk hp => by
      have tr : ∀ {m : Nat} {e : Mf.D}, (ρ.set i (.va d))[m]? = some (SV.ow e) → ρ[m]? = some (SV.ow e) := fun {m e} h => by
        by_cases q : i = m
        · subst q
          rw [List.getElem?_set_self hl] at h
          cases h
        · rw [List.getElem?_set_ne q] at h
          exact h
      exact r.ap j k e e' p' hjk (tr hj) (tr hk) hp }
end
end Mf
set_option Elab.async false
set_option linter.all false
set_option maxRecDepth 100000
set_option maxHeartbeats 2000000
namespace Mf
open PySem L2

section
variable {X : Cx} {Y : Sys} {E : XK} {n : Nat} {N : List Str} {sc : Scope} {pos : Pos} {a' b' e' t' : Expr} {a b e t : CE Y.S}
theorem ss_ret (he : PE X e' (tE X.K X.mg (WofE E) e)) : PS X (.Return (some e') pos) (tS (Y := Y) X.K X.mg E (run (.ret e))) := by
  refine (ps_ret he).weak fun D σ H h => ?_
  obtain ⟨c0, F0, c, ρ, rfl, t0, sb, ok, rel, p⟩ := h
  have p : PostS X.K X.mg E c0 F0 D ((ev e ρ c.s).ob fun x s => (dat x s).ob fun d s => .rt d s) := p
  refine tR.ob t0 ok rel p fun v c1 x t1 ok1 rel1 j1 p1 => ?_
  obtain ⟨hk, p1⟩ := p1.dat
  obtain ⟨c2, e1, e2, t2, ok2, r⟩ := Is.data j1 hk t1 ok1
  rw [← e2]
  exact p1 v c2 e1 (t0.trans ok t2) ok2 r
theorem ss_retN : PS X (.Return none pos) (tS (Y := Y) X.K X.mg E (run .retN)) := by
  refine ps_retN.weak fun D σ H h => ?_
  obtain ⟨c0, F0, c, ρ, rfl, t0, sb, ok, rel, p⟩ := h
  have p : PostS X.K X.mg E c0 F0 D (.rt .non c.s) := p
  exact p .non c rfl t0 ok .non
theorem swNone {line : Nat} {env : Env} (h : notComp e' = true) : swapsWith e' none line env = pure false := by
  cases e' <;> first | rfl | cases h
theorem ss_expr (hc : notComp e' = true) (he : PE X e' (tE X.K X.mg (WofE E) e)) : PS X (.Expr e' pos) (tS (Y := Y) X.K X.mg E (run (.expr e))) := by
  refine (ps_expr he (swNone hc)).weak fun D σ H h => ?_
  obtain ⟨c0, F0, c, ρ, rfl, t0, sb, ok, rel, p⟩ := h
  have p : PostS X.K X.mg E c0 F0 D ((ev e ρ c.s).ob fun _ s => .nx ρ s) := p
  refine tR.ob t0 ok rel p fun v c1 x t1 ok1 rel1 j1 p1 => ?_
  exact p1 σ c1 rfl (t0.trans ok t1) (sb.trans t1.f) ok1 rel1
theorem ss_never {st : Stmt} : PS X st (tS (Y := Y) X.K X.mg E (run .never)) := by
  refine ps_never.weak fun D σ H h => ?_
  obtain ⟨c0, F0, c, ρ, rfl, t0, sb, ok, rel, p⟩ := h
  exact p
theorem asg_use {own : Bool} {i : Nat} {D : Ends} {σ : L2.St} {H : Hp} (h : tS (Y := Y) X.K X.mg E (run (.asg own i e)) D σ H) : tAsg (tE X.K X.mg (WofE E) e) (gName i) D σ H := by
  obtain ⟨c0, F0, c, ρ, rfl, t0, sb, ok, rel, p⟩ := h
  have p : PostS X.K X.mg E c0 F0 D ((ev e ρ c.s).ob fun x s => onO (stow own x) fun v => onO (put ρ i v) fun ρ' => .nx ρ' s) := p
  refine tR.ob t0 ok rel p fun v c1 x t1 ok1 rel1 j1 p1 => ?_
  obtain ⟨u, hu, p1⟩ := p1.onO
  obtain ⟨ρ', hp, p1⟩ := p1.onO
  obtain ⟨eu, c2, e1, e2, t2, ok2, hd⟩ := hold_of hu t1 ok1 j1
  rw [eu] at hp
  rw [← e2]
  exact p1 _ c2 e1 (t0.trans ok t2) (sb.trans t2.f) ok2 ((rel.step t2).hold hd (fun m e q h1 h2 => rel.ex m e q h1 h2) (fun q z => t0.back ok z) hp)
theorem loc_ok {x : Str} (C : SCxt X E n N sc) (h : locB sc x = true) : L2.Loc X.env.scope x := by
  unfold locB at h
  unfold L2.Loc
  rw [C.hs]
  split at h
  · exact .inl (by assumption)
  · exact .inr (by assumption)
  · cases h
theorem sw_lc {elt : Expr} {gs : List Comprehension} {scope : Scope} {p1 py : Pos} {y : Str} {line : Nat} (C : SCxt X E n N sc) (h : swB sc y py (.ListComp elt gs scope p1) = true) : swapsWith (.ListComp elt gs scope p1) (some (.Name y py)) line X.env = pure true := by
  unfold swB at h
  simp only [Bool.and_eq_true, decide_eq_true_eq] at h
  exact sw_true (by rw [C.hs]; exact C.kd) (by rw [C.hs]; exact h.1.1) h.1.2 (by simpa using h.2)
theorem sw_no {y : Str} {py : Pos} {line : Nat} (C : SCxt X E n N sc) (h1 : noSC e' = true) (h2 : (!(isLc e') || !(decide (sc.names.lookup y = some .local))) = true) : swapsWith e' (some (.Name y py)) line X.env = pure false := by
  cases e' <;> first | rfl | cases h1 | skip
  have h2 : sc.names.lookup y ≠ some .local := by simpa [isLc] using h2
  have hk : X.env.kindOf y ≠ some .local := by
    unfold Env.kindOf
    rw [C.hs]
    exact h2
  have hk2 : (X.env.kindOf y == some .local) = false := beq_eq_false_iff_ne.mpr hk
  unfold swapsWith
  simp only [hk2, Bool.and_false, Bool.false_and]
theorem ss_asg {own : Bool} {i : Nat} {x : Str} {px : Pos} (C : SCxt X E n N sc) (hi : (N[i]? == some x) = true) (hl : locB sc x = true) (h1 : noSC e' = true) (h2 : (!(isLc e') || !(decide (sc.names.lookup x = some .local))) = true) (he : PE X e' (tE X.K X.mg (WofE E) e)) : PS X (.Assign [.Name x px] e' pos) (tS (Y := Y) X.K X.mg E (run (.asg own i e))) :=
  (ps_set (i := i) (by rw [C.hN]; exact C.nd) (by rw [C.hN]; exact beq_iff_eq.mp hi) (loc_ok C hl) he (sw_no C h1 h2) (.inl (by rw [C.fn]))).weak fun _ _ _ h => asg_use h
theorem filterMap_lt {α β : Type} {f : α → Option β} : ∀ {l : List α}, (∃ t ∈ l, f t = none) → (l.filterMap f).length < l.length
  | [], h => by obtain ⟨t, h, _⟩ := h; cases h
  | x :: l, h => by
    rw [List.filterMap_cons]
    cases e : f x with
    | none => exact Nat.lt_succ_of_le (List.length_filterMap_le f l)
    | some y =>
      obtain ⟨t, ht, hn⟩ := h
      rcases List.mem_cons.mp ht with z | z
      · rw [z, e] at hn; cases hn
      · exact Nat.succ_lt_succ (filterMap_lt ⟨t, z, hn⟩)
theorem noSwap_ok {ts : List Expr} {k : Nat} {p : Pos} (C : SCxt X E n N sc) (h : noSwap sc ts e' = true) : swappedStores [.Tuple ts k p] e' X.env = pure none := by
  cases e' <;> first | rfl | skip
  rename_i vs k2 p2
  have h := Bool.or_eq_true_iff.mp h
  unfold swappedStores
  dsimp only
  split
  · rfl
  split
  · rfl
  split
  · rfl
  rename_i h3
  rcases h with h | h
  · rw [if_pos h]
  · exfalso
    apply h3
    refine Bool.or_eq_true_iff.mpr (.inl ?_)
    rw [bne_iff_ne]
    intro hl
    obtain ⟨t, ht, hn⟩ := List.any_eq_true.mp h
    refine absurd hl (Nat.ne_of_lt (filterMap_lt ⟨t, ht, ?_⟩))
    cases t <;> first | rfl | skip
    rename_i x px
    have hk : X.env.kindOf x ≠ some .local := by
      unfold Env.kindOf
      rw [C.hs]
      simpa using hn
    have hk2 : (X.env.kindOf x == some .local) = false := beq_eq_false_iff_ne.mpr hk
    simp only [hk2, Bool.false_and, Bool.false_eq_true, if_false]
theorem ss_asgT {tg : Tg} {ts : List Expr} {k : Nat} {p : Pos} (C : SCxt X E n N sc) (hT : chkT N sc (fun _ => true) tg (.Tuple ts k p) = true) (h1 : notComp e' = true) (h2 : noSwap sc ts e' = true) (he : PE X e' (tE X.K X.mg (WofE E) e)) : PS X (.Assign [.Tuple ts k p] e' pos) (tS (Y := Y) X.K X.mg E (run (.asgT tg e))) := by
  have hs : swapsWithSole [.Tuple ts k p] e' pos.line X.env = pure false := by
    cases e' <;> first | rfl | cases h1
  have hw : swappedStores [.Tuple ts k p] e' X.env = pure none := noSwap_ok C h2
  refine (ps_asg he (pg_ok C.hN C.hs C.nd C.calm C.fn hT) hs hw rfl).weak fun D σ H h => ?_
  obtain ⟨c0, F0, c, ρ, rfl, t0, sb, ok, rel, p⟩ := h
  have p : PostS X.K X.mg E c0 F0 D ((ev e ρ c.s).ob fun x s => (dat x s).ob fun d s => onO (asgT tg d ρ) fun ρ' => .nx ρ' s) := p
  refine tR.ob t0 ok rel p fun v c1 x t1 ok1 rel1 j1 p1 => ?_
  obtain ⟨hk, p1⟩ := p1.dat
  obtain ⟨ρ', ha, p1⟩ := p1.onO
  obtain ⟨c2, e1, e2, t2, ok2, r⟩ := Is.data j1 hk t1 ok1
  rw [← e2]
  exact gT_use ok2 ha (rel.step t2) r fun σ' r' _ _ => p1 σ' c2 e1 (t0.trans ok t2) (sb.trans t2.f) ok2 r'
theorem ss_asgU {tg : Tg} {ts : List Expr} {k : Nat} {p : Pos} (C : SCxt X E n N sc) (hT : chkT N sc (fun _ => true) tg (.Tuple ts k p) = true) (h1 : notComp e' = true) (h2 : noSwap sc ts e' = true) (he : PE X e' (tE X.K X.mg (WofE E) e)) : PS X (.Assign [.Tuple ts k p] e' pos) (tS (Y := Y) X.K X.mg E (run (.asgU tg e))) := by
  have hs : swapsWithSole [.Tuple ts k p] e' pos.line X.env = pure false := by
    cases e' <;> first | rfl | cases h1
  have hw : swappedStores [.Tuple ts k p] e' X.env = pure none := noSwap_ok C h2
  unfold chkT at hT
  cases tg with
  | nm i => cases hT
  | nil => cases hT
  | cons t' r' =>
    unfold chkTs at hT
    simp only [Bool.and_eq_true] at hT
    obtain ⟨e1, e2⟩ := each_ok (env := X.env) hT.1
    have pg : PG X (.Tuple ts k p) (gUnl X.K (lenTg (.cons t' r')) (gL X.K (.cons t' r'))) := pg_unl C.calm (pgs_ok C.hN C.hs C.nd C.calm C.fn hT.1) e1 (by
      rw [List.findIdx?_eq_none_iff]
      exact fun p hp => by simpa using e2 p hp)
    refine (ps_asg he pg hs hw rfl).weak fun D σ H h => ?_
    obtain ⟨c0, F0, c, ρ, rfl, t0, sb, ok, rel, p⟩ := h
    have p : PostS X.K X.mg E c0 F0 D ((ev e ρ c.s).ob fun x s => match x.2 with | .lst ds => onO (asgL (.cons t' r') ds ρ) fun ρ' => .nx ρ' s | _ => .er) := p
    refine tR.ob t0 ok rel p fun v c1 x t1 ok1 rel1 j1 p1 => ?_
    obtain ⟨k1, d1⟩ := x
    dsimp only at p1
    split at p1
    · rename_i ds
      obtain ⟨ρ', ha, p1⟩ := p1.onO
      have j1 : Is X.K c.H c1 k1 v (.lst ds) := j1
      obtain ⟨pp, vs, rfl, hq, rs⟩ := j1.lst ok1
      exact ⟨pp, vs, rfl, .inl (.inl hq), by rw [rs.length]; exact asgL_len ha, gL_use ok1 ha rel1 rs fun σ' r' _ _ => p1 σ' c1 rfl (t0.trans ok t1) (sb.trans t1.f) ok1 r'⟩
    · exact p1.elim
theorem swap_ok {x y : Str} {px py pt p2 : Pos} {kt k2 : Nat} (C : SCxt X E n N sc) (h : swapB sc x y px py a' b' = true) : swappedStores [.Tuple [.Name x px, .Name y py] kt pt] (.Tuple [a', b'] k2 p2) X.env = pure (some [x, y]) := by
  unfold swapB at h
  simp only [Bool.and_eq_true, decide_eq_true_eq, Bool.not_eq_true'] at h
  obtain ⟨⟨⟨⟨⟨⟨⟨h1, h2⟩, h3⟩, h4⟩, h5⟩, h6⟩, h7⟩, h8⟩ := h
  have kx : X.env.kindOf x = some .local := by unfold Env.kindOf; rw [C.hs]; exact h1
  have ky : X.env.kindOf y = some .local := by unfold Env.kindOf; rw [C.hs]; exact h2
  have hb : X.env.blockKind = .function := by
    have : X.env.scope.kind = .function := by rw [C.hs]; exact C.kd
    unfold Env.blockKind
    rw [this]
    rfl
  have hst : ([a', b'].any fun | .Starred .. => true | _ => false) = false := by
    have s1 : ∀ {q : Expr}, notStar q = true → (match q with | .Starred .. => true | _ => false) = false := fun {q} hq => by cases q <;> first | rfl | cases hq
    simp only [List.any_cons, List.any_nil, s1 h5, s1 h6, Bool.or_false]
  have hne : (x == y) = false := h4
  have hxy : ([x, y] : List Str).eraseDups.length = 2 := by
    simp [List.eraseDups_cons, hne, bne, show (y == x) = false from by rw [beq_eq_false_iff_ne] at hne ⊢; exact fun z => hne z.symm]
  have hl : (py.line == px.line) = true := h3
  unfold swappedStores
  simp only [List.length_cons, List.length_nil, hb, kx, ky, hst, List.head?_cons, Option.map_some, Option.getD_some, Expr.pos, List.filterMap_cons, List.filterMap_nil, hl, h7, h8, hxy, beq_self_eq_true, Bool.and_self, Bool.and_true, if_true]
  refine Eq.trans (if_neg (by decide)) ?_
  refine Eq.trans (if_neg (by rw [Bool.not_eq_true]; exact hst)) ?_
  rfl
end
end Mf
set_option Elab.async false
set_option linter.all false
set_option maxRecDepth 100000
set_option maxHeartbeats 2000000
namespace Mf
open PySem L2

section
variable {X : Cx} {Y : Sys} {E : XK} {n : Nat} {N : List Str} {sc : Scope} {pos : Pos} {a' b' e' t' : Expr} {a b e t : CE Y.S}
theorem ss_par {oi oj : Bool} {i j : Nat} {x y : Str} {px py pt p2 : Pos} {kt k2 : Nat} (C : SCxt X E n N sc) (hi : (N[i]? == some x) = true) (hj : (N[j]? == some y) = true) (hsw : swapB sc x y px py a' b' = true)
    (ha : PE X a' (tE X.K X.mg (WofE E) a)) (hb : PE X b' (tE X.K X.mg (WofE E) b)) : PS X (.Assign [.Tuple [.Name x px, .Name y py] kt pt] (.Tuple [a', b'] k2 p2) pos) (tS (Y := Y) X.K X.mg E (run (.par oi oj i j a b))) := by
  have hi := beq_iff_eq.mp hi
  have hj := beq_iff_eq.mp hj
  have sw := hsw
  unfold swapB at hsw
  simp only [Bool.and_eq_true, decide_eq_true_eq, Bool.not_eq_true'] at hsw
  obtain ⟨⟨⟨⟨⟨⟨⟨h1, h2⟩, h3⟩, h4⟩, h5⟩, h6⟩, h7⟩, h8⟩ := hsw
  have hij : i ≠ j := fun z => by
    subst z
    rw [hi] at hj
    cases hj
    rw [beq_self_eq_true] at h4
    cases h4
  refine (ps_par (i := i) (j := j) C.calm (by rw [C.hN]; exact C.nd) (by rw [C.hN]; exact hi) (by rw [C.hN]; exact hj) hij (by rw [C.hs]; exact h1) (by rw [C.hs]; exact h2) (pa_cons ha (pa_cons hb pa_nil (star_cons h6 _ _)) (star_cons h5 _ _)) (swap_ok C sw)).weak fun D σ H h => ?_
  obtain ⟨c0, F0, c, ρ, rfl, t0, sb, ok, rel, p⟩ := h
  have p : PostS X.K X.mg E c0 F0 D ((ev a ρ c.s).ob fun x s => onO (stow oi x) fun u => (ev b ρ s).ob fun y s => onO (stow oj y) fun v => onO (put ρ i u) fun ρ1 => onO (put ρ1 j v) fun ρ2 => .nx ρ2 s) := p
  refine tR.ob t0 ok rel p fun v c1 x t1 ok1 rel1 j1 p1 => ?_
  obtain ⟨u, hu, p1⟩ := p1.onO
  obtain ⟨eu, c2, e1, e2, t2, ok2, hd⟩ := hold_of hu t1 ok1 j1
  rw [← e2]
  rw [← e1] at p1
  have rel2 := rel.step t2
  have t02 := t0.trans ok t2
  refine tR.ob t02 ok2 rel2 p1 fun w c3 y t3 ok3 rel3 j3 p3 => ?_
  obtain ⟨u', hu', p3⟩ := p3.onO
  obtain ⟨ρ1, hp1, p3⟩ := p3.onO
  obtain ⟨ρ2, hp2, p3⟩ := p3.onO
  obtain ⟨eu', c4, e3, e4, t4, ok4, hd'⟩ := hold_of hu' t3 ok3 j3
  rw [eu] at hp1
  rw [eu'] at hp2
  refine ⟨v, w, rfl, ?_⟩
  rw [← e4]
  have hd4 := hd.step t4
  have rA := (rel2.step t4).hold hd4 (fun m e q h1 h2 => rel.ex m e q h1 h2) (fun q z => t0.back ok z) hp1
  refine p3 _ c4 e3 (t02.trans ok2 t4) ((sb.trans t2.f).trans t4.f) ok4 (rA.hold hd' (fun m d q h1 h2 => ?_) (fun q z => t02.back ok2 z) hp2)
  -- every owned slot stood when the second value was made
  unfold put at hp1
  split at hp1
  · rename_i hil
    cases hp1
    by_cases hm : i = m
    · subst hm
      rw [List.getElem?_set_self hil] at h1
      rw [List.getElem?_set_self (by rw [← rel.len]; exact hil)] at h2
      cases oi with
      | false => cases h1
      | true =>
        obtain ⟨q', eq, o, _⟩ := hd
        subst eq
        cases h2
        exact o.obj
    · rw [List.getElem?_set_ne hm] at h1 h2
      exact t2.ne ok2 (rel.ex m d q h1 h2)
  · cases hp1
theorem ss_ife {A B : CSs Y.S} {as bs : List Stmt} (ht : PT X t' (tT X.K X.mg (WofE E) t)) (hA : PSs X as (tS X.K X.mg E (runs A))) (hB : PSs X bs (tS X.K X.mg E (runs B))) : PS X (.If t' as bs pos) (tS (Y := Y) X.K X.mg E (run (.ife t A B))) := by
  refine (ps_if ht hA hB).weak fun D σ H h => ?_
  obtain ⟨c0, F0, c, ρ, rfl, t0, sb, ok, rel, p⟩ := h
  have p : PostS X.K X.mg E c0 F0 D (((ev t ρ c.s).bind tru).ob fun k s => if k then runs A ρ s else runs B ρ s) := p
  refine tR.ob (f := fun ρ s => (ev t ρ s).bind tru) t0 ok rel p fun k c1 x t1 ok1 rel1 j1 p1 => ?_
  have j1 : k = x := j1
  subst j1
  cases k with
  | true => exact iteT ⟨c0, F0, c1, ρ, rfl, t0.trans ok t1, sb.trans t1.f, ok1, rel1, p1⟩
  | false => exact iteF ⟨c0, F0, c1, ρ, rfl, t0.trans ok t1, sb.trans t1.f, ok1, rel1, p1⟩
theorem ss_nil : PSs X [] (tS (Y := Y) X.K X.mg E (runs .nil)) := by
  refine pss_nil.weak fun D σ H h => ?_
  obtain ⟨c0, F0, c, ρ, rfl, t0, sb, ok, rel, p⟩ := h
  have p : PostS X.K X.mg E c0 F0 D (.nx ρ c.s) := p
  exact p σ c rfl t0 sb ok rel
theorem ss_cons {A : CS Y.S} {B : CSs Y.S} {st : Stmt} {sts : List Stmt} (hA : PS X st (tS X.K X.mg E (run A))) (hB : PSs X sts (tS X.K X.mg E (runs B))) : PSs X (st :: sts) (tS (Y := Y) X.K X.mg E (runs (.cons A B))) := by
  refine (pss_cons hA hB).weak fun D σ H h => ?_
  obtain ⟨c0, F0, c, ρ, rfl, t0, sb, ok, rel, p⟩ := h
  have p : PostS X.K X.mg E c0 F0 D ((run A ρ c.s).sq (runs B)) := p
  refine ⟨c0, F0, c, ρ, rfl, t0, sb, ok, rel, ?_⟩
  cases er : run A ρ c.s with
  | nx ρ' s' =>
    rw [er] at p
    intro σ' c' e1 t1 sb1 ok1 rel1
    subst e1
    exact ⟨c0, F0, c', ρ', rfl, t1, sb1, ok1, rel1, p⟩
  | rt d s' => rw [er] at p; exact p
  | ex x s' => rw [er] at p; exact p
  | er => rw [er] at p; exact p
theorem ss_for {tg : Tg} {it : CI Y.S} {body : CSs Y.S} {tg' it' : Expr} {body' : List Stmt} (C : SCxt X E n N sc) (hz : zipI it = true → consT tg = true) (hT : chkT N sc (fun _ => true) tg tg' = true) (hset : notSet it' = true) (hI : PI X tg' it' (tI X.K X.mg (WofE E) true it)) (hB : PSs X body' (tS X.K X.mg E (runs body))) :
    PS X (.For tg' it' body' [] pos) (tS (Y := Y) X.K X.mg E (run (.forr tg it body))) := by
  refine (ps_for C.po C.calm hI (pg_ok C.hN C.hs C.nd C.calm C.fn hT) hB (set_ok hset)).weak fun D σ H h => ?_
  obtain ⟨c0, F0, c, ρ, rfl, t0, sb, ok, rel, p⟩ := h
  have p : PostS X.K X.mg E c0 F0 D ((evI true it ρ c.s).ob fun ds s => forR (fun d ρ s => onO (asgT tg d ρ) fun ρ' => runs body ρ' s) ds ρ s) := p
  refine tR.ob t0 ok rel p fun J c1 ds t1 ok1 rel1 j1 p1 => ?_
  obtain ⟨G, gd, hG⟩ := j1
  have sb1 : Sub F0 c1.F := sb.trans t1.f
  refine ⟨fun i m σ H => m = ds.length - i ∧ i ≤ ds.length ∧ ∃ (cc : Cf Y) (ρ : List SV), cc.H = H ∧ Step c0 cc ∧ Ok cc ∧ Rel X.K c0.H cc σ ρ ∧ Sub c1.F cc.F ∧ PostS X.K X.mg E c0 F0 D (forR (fun d ρ s => onO (asgT tg d ρ) fun ρ' => runs body ρ' s) (ds.drop i) ρ cc.s),
    ⟨ds.length, rfl, Nat.zero_le _, c1, ρ, rfl, t0.trans ok t1, ok1, rel1, Sub.refl _, p1⟩, fun i m σ H hW => ?_⟩
  obtain ⟨rfl, hi, cc, ρ, rfl, tc, okc, relc, sbc, pc⟩ := hW
  have hG' := hG cc (by rw [if_pos rfl]; exact sbc)
  by_cases hlt : i < ds.length
  · have hd : ds[i]? = some ds[i] := List.getElem?_eq_getElem hlt
    have edrop : ds.drop i = ds[i] :: ds.drop (i + 1) := List.drop_eq_getElem_cons hlt
    rw [edrop] at pc
    obtain ⟨go, yl⟩ := (gd cc hG' okc i).2 _ hd
    refine .inr ⟨go, fun σ H => ds.length - (i + 1) = ds.length - (i + 1) ∧ i + 1 ≤ ds.length ∧ ∃ (cc : Cf Y) (ρ : List SV), cc.H = H ∧ Step c0 cc ∧ Ok cc ∧ Rel X.K c0.H cc σ ρ ∧ Sub c1.F cc.F ∧ PostS X.K X.mg E c0 F0 D (forR (fun d ρ s => onO (asgT tg d ρ) fun ρ' => runs body ρ' s) (ds.drop (i + 1)) ρ cc.s),
      fun σ' H' hN => ⟨ds.length - (i + 1), by omega, hN⟩, fun x H' hy => ?_⟩
    obtain ⟨c2, rfl, es2, t2, ok2, rx⟩ := yl x H' hy
    cases ea : asgT tg ds[i] ρ with
    | none =>
      have pc : PostS X.K X.mg E c0 F0 D ((onO (asgT tg ds[i] ρ) fun ρ' => runs body ρ' cc.s).sq (forR (fun d ρ s => onO (asgT tg d ρ) fun ρ' => runs body ρ' s) (ds.drop (i + 1)))) := pc
      rw [ea] at pc
      exact pc.elim
    | some ρ' =>
      have pc : PostS X.K X.mg E c0 F0 D ((onO (asgT tg ds[i] ρ) fun ρ' => runs body ρ' cc.s).sq (forR (fun d ρ s => onO (asgT tg d ρ) fun ρ' => runs body ρ' s) (ds.drop (i + 1)))) := pc
      rw [ea] at pc
      have pc : PostS X.K X.mg E c0 F0 D ((runs body ρ' cc.s).sq (forR (fun d ρ s => onO (asgT tg d ρ) fun ρ' => runs body ρ' s) (ds.drop (i + 1)))) := pc
      refine gT_any ok2 hz ea (relc.step t2) rx fun σ' rel' _ _ => ?_
      refine ⟨c0, c1.F, c2, ρ', rfl, tc.trans okc t2, sbc.trans t2.f, ok2, rel', ?_⟩
      rw [es2]
      cases er : runs body ρ' cc.s with
      | nx ρ2 s2 =>
        rw [er] at pc
        intro σ3 c3 e3 t3 sb3 ok3 rel3
        subst e3
        exact ⟨rfl, hlt, c3, ρ2, rfl, t3, ok3, rel3, sb3, pc⟩
      | rt d s2 => rw [er] at pc; exact pc
      | ex x s2 => rw [er] at pc; exact pc
      | er => rw [er] at pc; exact pc
  · have ei : i = ds.length := by omega
    subst ei
    rw [List.drop_length] at pc
    have pc : PostS X.K X.mg E c0 F0 D (.nx ρ cc.s) := pc
    exact .inl ⟨(gd cc hG' okc ds.length).1 (Nat.le_refl _), pc σ cc rfl tc (sb1.trans sbc) okc relc⟩
theorem ss_whl {body : CSs Y.S} {fuel : List SV → Y.S → Nat} {body' : List Stmt} (C : SCxt X E n N sc) (ht : PT X t' (tT X.K X.mg (WofE E) t)) (hB : PSs X body' (tS X.K X.mg E (runs body))) :
    PS X (.While t' body' [] pos) (tS (Y := Y) X.K X.mg E (run (.whl t body fuel))) := by
  refine (ps_while C.po ht hB).weak fun D σ H h => ?_
  obtain ⟨c0, F0, c, ρ, rfl, t0, sb, ok, rel, p⟩ := h
  have p : PostS X.K X.mg E c0 F0 D (whlR (fun ρ s => (ev t ρ s).bind tru) (runs body) (fuel ρ c.s) ρ c.s) := p
  refine ⟨fun m σ H => ∃ (cc : Cf Y) (ρ : List SV), cc.H = H ∧ Step c0 cc ∧ Ok cc ∧ Rel X.K c0.H cc σ ρ ∧ Sub F0 cc.F ∧ PostS X.K X.mg E c0 F0 D (whlR (fun ρ s => (ev t ρ s).bind tru) (runs body) m ρ cc.s), ⟨fuel ρ c.s, c, ρ, rfl, t0, ok, rel, sb, p⟩, fun m σ H hW => ?_⟩
  obtain ⟨cc, ρ, rfl, tc, okc, relc, sbc, pc⟩ := hW
  cases m with
  | zero => exact pc.elim
  | succ m =>
    have pc : PostS X.K X.mg E c0 F0 D (((ev t ρ cc.s).bind tru).ob fun k s1 => if k then (runs body ρ s1).sq (whlR (fun ρ s => (ev t ρ s).bind tru) (runs body) m) else .nx ρ s1) := pc
    refine tR.ob (f := fun ρ s => (ev t ρ s).bind tru) tc okc relc pc fun k c1 x t1 ok1 rel1 j1 p1 => ?_
    have j1 : k = x := j1
    subst j1
    cases k with
    | false => exact iteF (p1 σ c1 rfl (tc.trans okc t1) (sbc.trans t1.f) ok1 rel1)
    | true =>
      have p1 : PostS X.K X.mg E c0 F0 D ((runs body ρ c1.s).sq (whlR (fun ρ s => (ev t ρ s).bind tru) (runs body) m)) := p1
      refine iteT ⟨fun σ H => ∃ (cc : Cf Y) (ρ : List SV), cc.H = H ∧ Step c0 cc ∧ Ok cc ∧ Rel X.K c0.H cc σ ρ ∧ Sub F0 cc.F ∧ PostS X.K X.mg E c0 F0 D (whlR (fun ρ s => (ev t ρ s).bind tru) (runs body) m ρ cc.s), fun σ' H' hN => ⟨m, Nat.lt_succ_self m, hN⟩, ?_⟩
      refine ⟨c0, F0, c1, ρ, rfl, tc.trans okc t1, sbc.trans t1.f, ok1, rel1, ?_⟩
      cases er : runs body ρ c1.s with
      | nx ρ2 s2 =>
        rw [er] at p1
        intro σ3 c3 e3 t3 sb3 ok3 rel3
        subst e3
        exact ⟨c3, ρ2, rfl, t3, ok3, rel3, sb3, p1⟩
      | rt d s2 => rw [er] at p1; exact p1
      | ex x s2 => rw [er] at p1; exact p1
      | er => rw [er] at p1; exact p1
theorem ss_frz {i : Nat} {A : CS Y.S} {st : Stmt} (hA : PS X st (tS X.K X.mg E (run A))) : PS X st (tS (Y := Y) X.K X.mg E (run (.frz i A))) := by
  refine hA.weak fun D σ H h => ?_
  obtain ⟨c0, F0, c, ρ, rfl, t0, sb, ok, rel, p⟩ := h
  have p : PostS X.K X.mg E c0 F0 D (match ρ[i]? with | some (.ow d) => run A (ρ.set i (.va d)) c.s | _ => run A ρ c.s) := p
  split at p
  · rename_i d hd
    obtain ⟨c2, e1, e2, t2, ok2, sb2, rel2⟩ := rel.frz ok t0 rfl hd
    rw [← e1] at p
    exact ⟨c0, F0, c2, _, e2, t2, sb.trans sb2, ok2, rel2, p⟩
  · exact ⟨c0, F0, c, ρ, rfl, t0, sb, ok, rel, p⟩
theorem vis_ok {x : Str} (C : SCxt X E n N sc) (h : visB sc x = true) {i : Nat} {p : Pos} (hi : (N[i]? == some x) = true) : PE X (.Name x p) (tVar i) := by
  obtain ⟨v1, v2, v3⟩ := visB_ok h
  exact pe_var (by rw [C.hN]; exact beq_iff_eq.mp hi) (by rw [C.hs]; exact v1) v2 v3
theorem ss_app {i : Nat} {x : Str} {p apos cpos : Pos} (C : SCxt X E n N sc) (hi : (N[i]? == some x) = true) (hv : visB sc x = true) (hs : notStar e' = true) (hl : (apos.endLine == cpos.line) = true) (he : PE X e' (tE X.K X.mg (WofE E) e)) :
    PS X (.Expr (.Call (.Attribute (.Name x p) "append" apos) [e'] [] cpos) pos) (tS (Y := Y) X.K X.mg E (run (.app i e))) := by
  refine (ps_expr (pe_bm PySem.F.plainAttrs_list PySem.F.slot_list_append PySem.F.type_list_append mt_append (vis_ok C hv hi) (pa_cons he pa_nil (star_cons hs _ _)) rfl (few_ok hs) hl (star_cons hs _ _) rfl) rfl).weak fun D σ H h => ?_
  obtain ⟨c0, F0, c, ρ, rfl, t0, sb, ok, rel, p⟩ := h
  have p : PostS X.K X.mg E c0 F0 D (onO (ownL ρ i) fun ds => (ev e ρ c.s).ob fun x s => (dat x s).ob fun d s => if lenOk (ds.length + 1) then .nx (ρ.set i (.ow (.lst (ds ++ [d])))) s else .er) := p
  obtain ⟨ds, ho, p⟩ := p.onO
  have hρ : ρ[i]? = some (.ow (.lst ds)) := by
    unfold ownL at ho
    split at ho
    · cases ho; assumption
    · cases ho
  obtain ⟨q, hσ, o, z⟩ := rel.ow i _ hρ
  obtain ⟨vs, hq, rs⟩ := o.1
  refine ⟨.ref q, hσ, .inl ⟨rfl, vs, .inl (.inl hq)⟩, ?_⟩
  refine tR.ob t0 ok rel p fun v c1 x t1 ok1 rel1 j1 p1 => ?_
  obtain ⟨hk, p1⟩ := p1.dat
  obtain ⟨c2, e1, e2, t2, ok2, r⟩ := Is.data j1 hk t1 ok1
  have o2 := o.step t2
  split at p1
  · rename_i hlen
    have hq2 : c2.H q = some (.lst vs) := t2.h q _ hq o.2.2
    rw [← e2]
    refine ⟨q, vs, v, rfl, rfl, hq2, ?_, ?_⟩
    · rw [rs.length]
      have := of_decide_eq_true hlen
      have e : sizeLine = 16777216 := by decide
      omega
    · refine p1 σ ⟨c2.F, upd c2.H q (.lst (vs ++ [v])), c2.s⟩ e1 ((t0.trans ok t2).mut z _) (sb.trans t2.f) (ok2.mut o2.2.1 o2.2.2 _) ((rel.step t2).mut hρ hσ ?_)
      exact ⟨⟨_, upd_same, (rs.mono t2.f).append (.cons r .nil)⟩, o2.2.1, o2.2.2⟩
  · exact p1.elim
theorem ss_ext {i : Nat} {x : Str} {p apos cpos : Pos} (C : SCxt X E n N sc) (hi : (N[i]? == some x) = true) (hv : visB sc x = true) (hs : notStar e' = true) (hl : (apos.endLine == cpos.line) = true) (he : PE X e' (tE X.K X.mg (WofE E) e)) :
    PS X (.Expr (.Call (.Attribute (.Name x p) "extend" apos) [e'] [] cpos) pos) (tS (Y := Y) X.K X.mg E (run (.ext i e))) := by
  refine (ps_expr (pe_bm PySem.F.plainAttrs_list PySem.F.slot_list_extend PySem.F.type_list_extend mt_extend (vis_ok C hv hi) (pa_cons he pa_nil (star_cons hs _ _)) rfl (few_ok hs) hl (star_cons hs _ _) rfl) rfl).weak fun D σ H h => ?_
  obtain ⟨c0, F0, c, ρ, rfl, t0, sb, ok, rel, p⟩ := h
  have p : PostS X.K X.mg E c0 F0 D (onO (ownL ρ i) fun ds => (ev e ρ c.s).ob fun x s => match x.2 with | .lst es => if lenOk (ds.length + es.length) then .nx (ρ.set i (.ow (.lst (ds ++ es)))) s else .er | _ => .er) := p
  obtain ⟨ds, ho, p⟩ := p.onO
  have hρ : ρ[i]? = some (.ow (.lst ds)) := by
    unfold ownL at ho
    split at ho
    · cases ho; assumption
    · cases ho
  obtain ⟨q, hσ, o, z⟩ := rel.ow i _ hρ
  obtain ⟨vs, hq, rs⟩ := o.1
  refine ⟨.ref q, hσ, .inl ⟨rfl, vs, .inl (.inl hq)⟩, ?_⟩
  refine tR.ob t0 ok rel p fun v c1 x t1 ok1 rel1 j1 p1 => ?_
  obtain ⟨k, d⟩ := x
  have o2 := o.step t1
  cases d with
  | lst es =>
    have p1 : PostS X.K X.mg E c0 F0 D (if lenOk (ds.length + es.length) then .nx (ρ.set i (.ow (.lst (ds ++ es)))) c1.s else .er) := p1
    split at p1
    · rename_i hlen
      have hq2 : c1.H q = some (.lst vs) := t1.h q _ hq o.2.2
      obtain ⟨q2, vs2, rfl, hb, rb⟩ := Is.lst j1 ok1
      refine ⟨q, q2, vs, vs2, rfl, rfl, hq2, hb, ?_, ?_⟩
      · rw [rs.length, rb.length]
        exact szM hlen
      · refine p1 σ ⟨c1.F, upd c1.H q (.lst (vs ++ vs2)), c1.s⟩ rfl ((t0.trans ok t1).mut z _) (sb.trans t1.f) (ok1.mut o2.2.1 o2.2.2 _) ((rel.step t1).mut hρ hσ ?_)
        exact ⟨⟨_, upd_same, (rs.mono t1.f).append rb⟩, o2.2.1, o2.2.2⟩
    · exact p1.elim
  | _ => exact p1.elim
theorem findIdx_pys {e : D} (he : e.sh 60 = true) : ∀ (ds : List D), shs 59 ds = true → SeqAt.dataPlace (pys ds) e.py = ds.findIdx? fun y => deq y e
  | [], _ => rfl
  | d :: ds, h => by
    have h := Bool.and_eq_true_iff.mp h
    have ih := findIdx_pys he ds h.2
    unfold SeqAt.dataPlace at ih ⊢
    show (d.py :: pys ds).findIdx? _ = _
    rw [List.findIdx?_cons, List.findIdx?_cons, ih, py_eqv 59 60 d e h.1 he]
theorem ss_rem {i : Nat} {x : Str} {p apos cpos : Pos} (C : SCxt X E n N sc) (hi : (N[i]? == some x) = true) (hv : visB sc x = true) (hs : notStar e' = true) (hl : (apos.endLine == cpos.line) = true) (he : PE X e' (tE X.K X.mg (WofE E) e)) :
    PS X (.Expr (.Call (.Attribute (.Name x p) "remove" apos) [e'] [] cpos) pos) (tS (Y := Y) X.K X.mg E (run (.rem i e))) := by
  refine (ps_expr (pe_bm PySem.F.plainAttrs_list PySem.F.slot_list_remove PySem.F.type_list_remove (mt_removeD (hr65 C.room)) (vis_ok C hv hi) (pa_cons he pa_nil (star_cons hs _ _)) rfl (few_ok hs) hl (star_cons hs _ _) rfl) rfl).weak fun D σ H h => ?_
  obtain ⟨c0, F0, c, ρ, rfl, t0, sb, ok, rel, p⟩ := h
  have p : PostS X.K X.mg E c0 F0 D (onO (ownL ρ i) fun ds => (ev e ρ c.s).ob fun x s => if x.2.sh 60 && shs 59 ds then onO (ds.findIdx? fun z => deq z x.2) fun j => .nx (ρ.set i (.ow (.lst (ds.eraseIdx j)))) s else .er) := p
  obtain ⟨ds, ho, p⟩ := p.onO
  have hρ : ρ[i]? = some (.ow (.lst ds)) := by
    unfold ownL at ho
    split at ho
    · cases ho; assumption
    · cases ho
  obtain ⟨q, hσ, o, z⟩ := rel.ow i _ hρ
  obtain ⟨vs, hq, rs⟩ := o.1
  refine ⟨.ref q, hσ, .inl ⟨rfl, vs, .inl (.inl hq)⟩, ?_⟩
  refine tR.ob t0 ok rel p fun v c1 x t1 ok1 rel1 j1 p1 => ?_
  have o2 := o.step t1
  split at p1
  · rename_i hsh
    have hsh := Bool.and_eq_true_iff.mp hsh
    obtain ⟨j, hj, p1⟩ := p1.onO
    have hq2 : c1.H q = some (.lst vs) := t1.h q _ hq o.2.2
    refine ⟨q, vs, v, _, pys ds, j, rfl, rfl, hq2, pys_dp ok1.sub (rs.mono t1.f) hsh.2, Is.dp j1 ok1 hsh.1, shaped_lst hsh.2, shaped_of hsh.1, by rw [findIdx_pys hsh.1 ds hsh.2]; exact hj, ?_⟩
    refine p1 σ ⟨c1.F, upd c1.H q (.lst (vs.eraseIdx j)), c1.s⟩ rfl ((t0.trans ok t1).mut z _) (sb.trans t1.f) (ok1.mut o2.2.1 o2.2.2 _) ((rel.step t1).mut hρ hσ ?_)
    exact ⟨⟨_, upd_same, (rs.mono t1.f).erase j⟩, o2.2.1, o2.2.2⟩
  · exact p1.elim
def rSetX : TSet := fun o i v H Q => rSetL o i v H Q ∨ rSetD o i v H Q
theorem set_X (C : SCxt X E n N sc) : PSet X rSetX := by
  intro pins s σ H o i v ov iv u Q I ro ri rv h
  rcases h with h | h
  · exact set_list pins s σ H o i v ov iv u Q I ro ri rv h
  · exact set_dict (hu_of C.room) pins s σ H o i v ov iv u Q I ro ri rv h
theorem RepK.length {K : PySem.W.Frag} {F : Hp} : ∀ {kvs : List (Key × V)} {es : List (Str × Mf.D)}, RepK K F kvs es → kvs.length = es.length
  | _, _, .nil => rfl
  | _, _, .cons _ r => congrArg (· + 1) (RepK.length r)
theorem ss_seti {i : Nat} {x : Str} {p ps : Pos} {k : CE Y.S} {k' : Expr} (C : SCxt X E n N sc) (hi : (N[i]? == some x) = true) (hv : visB sc x = true) (hk' : notSlice k' = true) (hc : notComp e' = true) (hk : PE X k' (tE X.K X.mg (WofE E) k)) (he : PE X e' (tE X.K X.mg (WofE E) e)) :
    PS X (.Assign [.Subscript (.Name x p) k' ps] e' pos) (tS (Y := Y) X.K X.mg E (run (.seti i k e))) := by
  have hs : swapsWithSole [.Subscript (.Name x p) k' ps] e' pos.line X.env = pure false := by
    cases e' <;> first | rfl | cases hc
  have hw : swappedStores [.Subscript (.Name x p) k' ps] e' X.env = pure none := by
    cases e' <;> rfl
  have ha : ∀ v, assign (.Subscript (.Name x p) k' ps) X.env v = (do
      let ov ← holding [v] (eval (.Name x p) X.env)
      let iv ← holding [v, ov] (eval k' X.env)
      standAt ps
      holding [v, ov, iv] (setItem ov iv v)
      release [v, ov, iv] []) := by
    intro v
    cases k' <;> first | rfl | cases hk'
  refine (ps_asg he (pg_sub (vis_ok C hv hi) hk (set_X C) ha) hs hw rfl).weak fun D σ H h => ?_
  obtain ⟨c0, F0, c, ρ, rfl, t0, sb, ok, rel, p⟩ := h
  have p : PostS X.K X.mg E c0 F0 D ((ev e ρ c.s).ob fun x s => (dat x s).ob fun d s => if isOw ρ[i]? then (ev k ρ s).ob fun y s => onO ((ρ[i]?).bind fun o => setD o y.2 d) fun o => .nx (ρ.set i o) s else .er) := p
  refine tR.ob t0 ok rel p fun v c1 xd t1 ok1 rel1 j1 p1 => ?_
  obtain ⟨hkk, p1⟩ := p1.dat
  obtain ⟨c2, e1, e2, t2, ok2, r⟩ := Is.data j1 hkk t1 ok1
  rw [← e2]
  rw [← e1] at p1
  split at p1
  · rename_i hio
    have ho : ∃ d0, ρ[i]? = some (.ow d0) := by
      unfold isOw at hio
      split at hio
      · exact ⟨_, by assumption⟩
      · cases hio
    obtain ⟨d0, hρ⟩ := ho
    have rel2 := rel.step t2
    obtain ⟨q, hσ, o, z⟩ := rel2.ow i _ hρ
    refine ⟨.ref q, hσ, ?_⟩
    refine tR.ob (t0.trans ok t2) ok2 rel2 p1 fun y c3 xk t3 ok3 rel3 j3 p3 => ?_
    obtain ⟨o', hset, p3⟩ := p3.onO
    rw [hρ] at hset
    have hset : setD (.ow d0) xk.2 xd.2 = some o' := hset
    have o3 := o.step t3
    have t03 := (t0.trans ok t2).trans ok2 t3
    obtain ⟨kk, dk⟩ := xk
    obtain ⟨kx, dx⟩ := xd
    have hset : setD (.ow d0) dk dx = some o' := hset
    have r : Rep X.K c2.F v dx := r
    cases d0 with
    | lst ds =>
      cases dk with
      | int ki =>
        obtain ⟨j, hj, rfl⟩ := Option.map_eq_some_iff.mp hset
        obtain ⟨vs, hq, rs⟩ := o3.1
        refine .inl ⟨q, vs, ki, j, rfl, Is.int j3, hq, by rw [rs.length]; exact hj, ?_⟩
        refine p3 σ ⟨c3.F, upd c3.H q (.lst (vs.set j v)), c3.s⟩ rfl (t03.mut z _) ((sb.trans t2.f).trans t3.f) (ok3.mut o3.2.1 o3.2.2 _) (rel3.mut hρ hσ ?_)
        exact ⟨⟨_, upd_same, rs.set (r.mono t3.f) j⟩, o3.2.1, o3.2.2⟩
      | _ => cases hset
    | dct es =>
      cases dk with
      | str ks =>
        have hset : (if lenOk (es.length + 1) then some (SV.ow (.dct (putD es ks dx))) else none) = some o' := hset
        split at hset
        · rename_i hlen
          cases hset
          obtain ⟨kvs, hq, rs⟩ := o3.1
          have hL : kvs.length < sizeLine := by
            rw [RepK.length rs]
            exact szM hlen
          refine .inr ⟨q, _, rfl, by rw [Is.str j3]; exact DPut.k (k := .inr ks) hq hL, ?_⟩
          refine p3 σ ⟨c3.F, upd c3.H q (.dK (putK kvs (.inr ks) v)), c3.s⟩ rfl (t03.mut z _) ((sb.trans t2.f).trans t3.f) (ok3.mut o3.2.1 o3.2.2 _) (rel3.mut hρ hσ ?_)
          exact ⟨⟨_, upd_same, rs.put (r.mono t3.f)⟩, o3.2.1, o3.2.2⟩
        · cases hset
      | _ => cases hset
    | _ => exact o.1.elim
  · exact p1.elim
end
end Mf
set_option Elab.async false
set_option linter.all false
set_option maxRecDepth 100000
set_option maxHeartbeats 2000000
namespace Mf
open PySem L2

section
variable {Y : Sys} {n : Nat} {N : List Str} {sc : Scope} {E : XK}
mutual
theorem soundS {X : Cx} (C : SCxt X E n N sc) : ∀ (c : CS Y.S) (st : Stmt), chkS N sc c st = true → needS (Pn X Y n) (Glb X.K X.mg) c → PS X st (tS X.K X.mg E (run c))
  | .asg own i e, st, h, g => by
    unfold chkS at h
    split at h
    · rename_i x px e' pos
      simp only [Bool.and_eq_true] at h
      obtain ⟨⟨⟨⟨h1, h2⟩, h3⟩, h4⟩, h5⟩ := h
      by_cases hsw : swB sc x px e' = true
      · cases e' <;> first | cases hsw | skip
        rename_i elt' gs scope p1
        have hlx : sc.names.lookup x = some .local := by
          unfold swB at hsw
          simp only [Bool.and_eq_true, decide_eq_true_eq] at hsw
          exact hsw.1.1
        cases e with
        | lc it tg ifs elt vs =>
          unfold chkE at h4
          split at h4
          · rename_i elt2 tg2 iter2 ifs2 scope2 pos2 heq
            cases heq
            simp only [Bool.and_eq_true] at h4
            obtain ⟨⟨⟨⟨⟨⟨k1, k2⟩, k3⟩, k4⟩, k5⟩, k6⟩, k7⟩ := h4
            have q := (se_lc (py := px) (spos := pos) (pos := p1) (ifs := ifs) (elt := elt) C.toCxt (zip_cons k1 k5) (soundI C.toCxt false it _ _ k1 g.1) k2 k3 k4 k5 (fun X' a1 a2 a3 a4 a5 C' => ?_) (fun X' a1 a2 a3 a4 a5 C' => ?_)).2 (beq_iff_eq.mp h1) hlx (sw_lc C hsw)
            · exact q.weak fun _ _ _ z => asg_use z
            · have q := soundC C' ifs _ k6 (by unfold Pn; rw [a1, a2, a3, a4, a5]; exact g.2.1)
              rw [a3, a4] at q
              exact q
            · have q := (sound C' elt _ k7 (by unfold Pn; rw [a1, a2, a3, a4, a5]; exact g.2.2)).pe
              rw [a3, a4] at q
              exact q
          · cases h4
        | lc2 it tg it1 tg1 elt vs vs1 =>
          unfold chkE at h4
          split at h4
          · rename_i elt2 tg2 iter2 tg12 iter12 scope2 pos2 heq
            cases heq
            simp only [Bool.and_eq_true] at h4
            obtain ⟨⟨⟨⟨⟨k1, k2⟩, k3⟩, k4⟩, k5⟩, ⟨⟨⟨⟨⟨m1, m2⟩, m3⟩, m4⟩, m5⟩, m6⟩⟩ := h4
            have q := (se_lc2 (py := px) (spos := pos) (pos := p1) (elt := elt) C.toCxt (zip_cons k1 k5) (zip_cons m1 m4) (soundI C.toCxt false it _ _ k1 g.1) k2 m2 k3 k4 m3 m5 k5 m4 (fun X' a1 a2 a3 a4 a5 C' => ?_) (fun X' a1 a2 a3 a4 a5 C' => ?_) (fun X' a1 a2 a3 a4 a5 C' => ?_)).2 (beq_iff_eq.mp h1) hlx (sw_lc C hsw)
            · exact q.weak fun _ _ _ z => asg_use z
            · exact pts_noIf X' X.K X.mg
            · have q := soundI C' true it1 _ _ m1 (by unfold Pn; rw [a1, a2, a3, a4, a5]; exact g.2.1)
              rw [a3, a4] at q
              exact q
            · have q := (sound C' elt _ m6 (by unfold Pn; rw [a1, a2, a3, a4, a5]; exact g.2.2)).pe
              rw [a3, a4] at q
              exact q
          · cases h4
        | _ => unfold chkE at h4; cases h4
      · refine ss_asg C h1 h2 h3 ?_ (sound C.toCxt e _ h4 g).pe
        rw [Bool.not_eq_true] at hsw
        rw [hsw, Bool.or_false] at h5
        exact h5
    · cases h
  | .asgU tg e, st, h, g => by
    unfold chkS at h
    split at h
    · simp only [Bool.and_eq_true] at h
      obtain ⟨⟨⟨⟨h1, h2⟩, h3⟩, h4⟩, h5⟩ := h
      exact ss_asgU C h1 h3 h4 (sound C.toCxt e _ h5 g).pe
    · cases h
  | .asgT tg e, st, h, g => by
    unfold chkS at h
    split at h
    · simp only [Bool.and_eq_true] at h
      obtain ⟨⟨⟨⟨h1, h2⟩, h3⟩, h4⟩, h5⟩ := h
      exact ss_asgT C h1 h3 h4 (sound C.toCxt e _ h5 g).pe
    · cases h
  | .par oi oj i j a b, st, h, g => by
    unfold chkS at h
    split at h
    · simp only [Bool.and_eq_true] at h
      obtain ⟨⟨⟨⟨h1, h2⟩, h3⟩, h4⟩, h5⟩ := h
      exact ss_par C h1 h2 h3 (sound C.toCxt a _ h4 g.1).pe (sound C.toCxt b _ h5 g.2).pe
    · cases h
  | .ret e, st, h, g => by
    unfold chkS at h
    split at h
    · exact ss_ret (sound C.toCxt e _ h g).pe
    · cases h
  | .retN, st, h, g => by
    unfold chkS at h
    split at h
    · exact ss_retN
    · cases h
  | .expr e, st, h, g => by
    unfold chkS at h
    split at h
    · simp only [Bool.and_eq_true] at h
      exact ss_expr h.1 (sound C.toCxt e _ h.2 g).pe
    · cases h
  | .never, st, h, g => ss_never
  | .ife t a b, st, h, g => by
    unfold chkS at h
    split at h
    · simp only [Bool.and_eq_true] at h
      obtain ⟨⟨⟨h1, h2⟩, h3⟩, h4⟩ := h
      exact ss_ife ((sound C.toCxt t _ h2 g.1).pt h1) (soundSs C a _ h3 g.2.1) (soundSs C b _ h4 g.2.2)
    · cases h
  | .forr tg it body, st, h, g => by
    unfold chkS at h
    split at h
    · simp only [Bool.and_eq_true] at h
      obtain ⟨⟨⟨h1, h2⟩, h3⟩, h4⟩ := h
      exact ss_for C (zip_cons h3 h1) h1 h2 (soundI C.toCxt true it _ _ h3 g.1) (soundSs C body _ h4 g.2)
    · cases h
  | .whl t body fuel, st, h, g => by
    unfold chkS at h
    split at h
    · simp only [Bool.and_eq_true] at h
      obtain ⟨⟨h1, h2⟩, h3⟩ := h
      exact ss_whl C ((sound C.toCxt t _ h2 g.1).pt h1) (soundSs C body _ h3 g.2)
    · cases h
  | .app i e, st, h, g => by
    unfold chkS at h
    split at h
    · simp only [Bool.and_eq_true] at h
      obtain ⟨⟨⟨⟨⟨h1, h2⟩, h3⟩, h4⟩, h5⟩, h6⟩ := h
      have em := beq_iff_eq.mp h3
      subst em
      exact ss_app C h1 h2 h4 h5 (sound C.toCxt e _ h6 g).pe
    · cases h
  | .ext i e, st, h, g => by
    unfold chkS at h
    split at h
    · simp only [Bool.and_eq_true] at h
      obtain ⟨⟨⟨⟨⟨h1, h2⟩, h3⟩, h4⟩, h5⟩, h6⟩ := h
      have em := beq_iff_eq.mp h3
      subst em
      exact ss_ext C h1 h2 h4 h5 (sound C.toCxt e _ h6 g).pe
    · cases h
  | .rem i e, st, h, g => by
    unfold chkS at h
    split at h
    · simp only [Bool.and_eq_true] at h
      obtain ⟨⟨⟨⟨⟨h1, h2⟩, h3⟩, h4⟩, h5⟩, h6⟩ := h
      have em := beq_iff_eq.mp h3
      subst em
      exact ss_rem C h1 h2 h4 h5 (sound C.toCxt e _ h6 g).pe
    · cases h
  | .seti i k e, st, h, g => by
    unfold chkS at h
    split at h
    · simp only [Bool.and_eq_true] at h
      obtain ⟨⟨⟨⟨⟨h1, h2⟩, h3⟩, h4⟩, h5⟩, h6⟩ := h
      exact ss_seti C h1 h2 h3 h4 (sound C.toCxt k _ h5 g.1).pe (sound C.toCxt e _ h6 g.2).pe
    · cases h
  | .frz i c, st, h, g => ss_frz (soundS C c st h g)
theorem soundSs {X : Cx} (C : SCxt X E n N sc) : ∀ (c : CSs Y.S) (st : List Stmt), chkSs N sc c st = true → needSs (Pn X Y n) (Glb X.K X.mg) c → PSs X st (tS X.K X.mg E (runs c))
  | .nil, st, h, g => by
    unfold chkSs at h
    split at h
    · exact ss_nil
    · cases h
  | .cons c cs, st, h, g => by
    unfold chkSs at h
    split at h
    · simp only [Bool.and_eq_true] at h
      exact ss_cons (soundS C c _ h.1 g.1) (soundSs C cs _ h.2 g.2)
    · cases h
end
end
/-! ### a def -/
theorem Rel.start {Y : Sys} {K : PySem.W.Frag} {c : Cf Y} {N : List Str} {vs : List V} {ds : List D} (r : Reps K c.F vs ds) : Rel K c.H c (L2.start N vs) (ds.map SV.va ++ List.replicate (N.length - ds.length) .no) where
  len := by
    unfold L2.start
    simp only [List.length_append, List.length_map, List.length_replicate, r.length]
  va := fun i d h => by
    by_cases hi : i < ds.length
    · rw [List.getElem?_append_left (by rw [List.length_map]; exact hi), List.getElem?_map] at h
      obtain ⟨d', h1, h2⟩ := Option.map_eq_some_iff.mp h
      cases h2
      obtain ⟨v, h3, h4⟩ := r.get h1
      refine ⟨v, ?_, h4⟩
      unfold L2.start
      rw [List.getElem?_append_left (by rw [List.length_map, r.length]; exact hi), List.getElem?_map, h3]
      rfl
    · rw [List.getElem?_append_right (by rw [List.length_map]; omega), List.getElem?_replicate] at h
      split at h <;> cases h
  ow := fun i d h => by
    by_cases hi : i < ds.length
    · rw [List.getElem?_append_left (by rw [List.length_map]; exact hi), List.getElem?_map] at h
      obtain ⟨d', h1, h2⟩ := Option.map_eq_some_iff.mp h
      cases h2
    · rw [List.getElem?_append_right (by rw [List.length_map]; omega), List.getElem?_replicate] at h
      split at h <;> cases h
  ap := fun i j d e p _ h => by
    by_cases hi : i < ds.length
    · rw [List.getElem?_append_left (by rw [List.length_map]; exact hi), List.getElem?_map] at h
      obtain ⟨d', h1, h2⟩ := Option.map_eq_some_iff.mp h
      cases h2
    · rw [List.getElem?_append_right (by rw [List.length_map]; omega), List.getElem?_replicate] at h
      split at h <;> cases h
section
variable {P : Program} {w : World} {K : PySem.W.Frag} {mg : Str → Option Value} {base : Heap} {Y : Sys} {n : Nat}
/-- a def of the text keeps the promise of its own tree -/
theorem fn_sound {x : Str} {st : Stmt} {f : Addr} {fd : FuncData} {N ps : List Str} {body : CSs Y.S} (F : Fun K x x st f fd) (S : FnScope N ps (defScope st)) (hm : mg x = some (.ref f)) (hb : Binds K fd ps []) (blt : ∀ y ∈ bltNames, mg y = none)
    (hc : chkSs N (defScope st) body (defBody st) = true) (g : needSs (fun x m g => Has P w K mg base Y n x m g) (Glb K mg) body) : Has P w K mg base Y (n + 1) x ps.length (fnR N.length body) := by
  refine ⟨f, fd, ps, rfl, ?_, hm, F.kp, hb⟩
  refine F.okX S (fun vs H Q E h => ?_) (fun cdv A outer s H vs Q E hr h => ?_)
  · obtain ⟨c, ds, _, _, _, h, _⟩ := h
    exact h
  · obtain ⟨c, ds, rfl, ok, rs, hl, h⟩ := h
    refine ⟨tS K mg E (runs body), ?_, ?_⟩
    · have C : SCxt (cxOf (L2.CX P w) P w K mg base N x (defScope st) f cdv A outer s c.H E) E n N (defScope st) :=
        { hN := rfl, hs := rfl, nd := S.nd, calm := rfl, room := hr, tk := takes_of rfl rfl rfl rfl, we := ⟨E, rfl⟩, blt := blt, po := passes_of rfl, fn := rfl, kd := S.kind }
      exact soundSs C body _ hc g
    · refine ⟨c, c.F, c, _, rfl, Step.refl c, Sub.refl _, ok, Rel.start (N := N) rs, ?_⟩
      unfold fnR at h
      cases er : runs body (ds.map SV.va ++ List.replicate (N.length - ds.length) .no) c.s with
      | nx ρ s' =>
        rw [er] at h
        exact fun σ' c' e1 t1 _ ok1 _ => h .non c' e1 t1 ok1 .non
      | rt d s' =>
        rw [er] at h
        exact h
      | ex y s' =>
        rw [er] at h
        exact h
      | er => rw [er] at h; exact h
theorem never_sound {x : Str} {st : Stmt} {f : Addr} {fd : FuncData} {N ps : List Str} (F : Fun K x x st f fd) (S : FnScope N ps (defScope st)) (hm : mg x = some (.ref f)) (hb : Binds K fd ps []) : Has P w K mg base Y (n + 1) x ps.length (fun _ _ => .er) := by
  refine ⟨f, fd, ps, rfl, ?_, hm, F.kp, hb⟩
  have h0 : FnOk P w K mg base (L2.CX P w) (n + 1) f fd ps (spOf (Y := Y) K mg ps.length (fun _ _ => .er)) := by
    refine F.okX S (fun vs H Q E h => ?_) (fun cdv A outer s H vs Q E hr h => ?_)
    · obtain ⟨c, ds, _, _, _, h, _⟩ := h
      exact h
    · obtain ⟨c, ds, _, _, _, _, h⟩ := h
      exact h.elim
  exact h0
theorem Has.mono {x : Str} {m k : Nat} {g : Sem Y.S} (h : Has P w K mg base Y n x m g) (hk : n ≤ k) : Has P w K mg base Y k x m g := by
  obtain ⟨f, fd, ps, hl, F, hm, hkp, hb⟩ := h.has
  exact ⟨f, fd, ps, hl, F.mono hk, hm, hkp, hb⟩
end
end Mf
set_option Elab.async false
set_option linter.all false
set_option maxRecDepth 100000
set_option maxHeartbeats 2000000
namespace Mf
open PySem L2

/-! ### the law's own town -/
def townSys (p : Addr) : Sys where
  S := List Int
  ok := fun t H => H p = some (.lst (t.map V.int))
  dm := fun _ a => a = p
  keep := fun s H H' h k => by rw [k p rfl]; exact h
/-- the value of a draw, and what is left -/
def dr (ns : List Int) (k : Int) (rest : List Int) (m : Int) : Int × List Int :=
  if ns = [] then (((k + 1) * (k + 1) * 7).fdiv 3 |>.fmod m, (k + 1) :: rest) else
    let at' := ((k + 1).fmod ns.length).toNat
    let left := rest.getD at' 0
    if ns.getD at' 0 ≥ 10 ^ 18 ∧ left > 0 then (left.fmod m, (k + 1) :: rest.set at' (left.fdiv m)) else
      let n1 := (ns.getD at' 0 + 104729 * (k + 1)).fmod 4294967291
      let n2 := (n1 ^ 5).fmod 4294967279
      ((((n2.fdiv 64 * 69621 + n2).fmod 4294967231).fdiv 8).fmod m, (k + 1) :: rest)
def g_draw (p : Addr) : Sem (List Int) := fun ds t => match ds, t with
  | [.scr ns, .adr q, .int m], k :: rest => if q = p ∧ 0 < m ∧ m < 1000000 ∧ 0 ≤ k ∧ k < 1000000000 ∧ rest.length = ns.length ∧ ns.length ≤ 63 then .ok (.int (dr ns k rest m).1) (dr ns k rest m).2 else .er
  | _, _ => .er
theorem dr_range {ns : List Int} {k : Int} {rest : List Int} {m : Int} (hm : 0 < m) : 0 ≤ (dr ns k rest m).1 ∧ (dr ns k rest m).1 < m := by
  have key : ∀ x : Int, 0 ≤ x.fmod m ∧ x.fmod m < m := fun x => ⟨Int.fmod_nonneg_of_pos _ hm, Int.fmod_lt_of_pos _ hm⟩
  unfold dr
  split
  · exact key _
  · dsimp only
    split <;> exact key _
theorem dr_len {ns : List Int} {k : Int} {rest : List Int} {m : Int} : ∃ rest', (dr ns k rest m).2 = (k + 1) :: rest' ∧ rest'.length = rest.length := by
  unfold dr
  split
  · exact ⟨_, rfl, rfl⟩
  · dsimp only
    split
    · exact ⟨_, rfl, List.length_set⟩
    · exact ⟨_, rfl, rfl⟩
/-- the heap behind a change of the town -/
theorem town_new {p : Addr} {K : PySem.W.Frag} {c : Cf (townSys p)} (ok : Ok c) (t : List Int) (H' : Hp) (hH : ∀ a, a ≠ p → H' a = c.H a) (hp : H' p = some (.lst (t.map V.int))) : Ok (⟨c.F, H', t⟩ : Cf (townSys p)) ∧ Step c (⟨c.F, H', t⟩ : Cf (townSys p)) := by
  refine ⟨⟨fun a o e => ?_, hp, ok.dis, fun a z => ?_⟩, ⟨Sub.refl _, fun a o e nd => ?_, fun _ _ z => z, fun _ z => z, fun _ _ z => z⟩⟩
  · have ne : a ≠ p := fun z => by
      have := ok.dis a z
      rw [show c.F a = some o from e] at this
      cases this
    rw [show (⟨c.F, H', t⟩ : Cf (townSys p)).H a = H' a from rfl, hH a ne]
    exact ok.sub a o e
  · have z : a = p := z
    subst z
    show H' a ≠ none
    rw [hp]
    exact fun z => nomatch z
  · show H' a = some o
    rw [hH a nd]
    exact e
theorem _root_.L2.PSs.ex {X : Cx} {st : List Stmt} {α : Type} {t : α → TS} (h : ∀ p, PSs X st (t p)) : PSs X st (fun D σ H => ∃ p, t p D σ H) := ⟨fun pins s σ H D I ⟨p, q⟩ => (h p).run pins s σ H D I q⟩
/-- _law_town -/
def spTown (K : PySem.W.Frag) : Sp := fun vs H Q _ => ∃ (a : Addr) (ns : List Int), vs = [.ref a] ∧ SqL K H a (ns.map V.int) ∧ ns.length ≤ 63 ∧ ∀ p H', H p = none → Same H H' → H' p = some (.lst ((0 :: ns).map V.int)) → Q (.ref p) H'
/-- what the law promises: its tree, run upon the script, gives True -/
def spLaw (K : PySem.W.Frag) (N : Nat) (body : Addr → CSs (List Int)) : Sp := fun vs H Q _ => ∃ (a : Addr) (ns : List Int), vs = [.ref a] ∧ SqL K H a (ns.map V.int) ∧ ns.length ≤ 63 ∧
  (∀ p, ∃ s', runs (body p) (.va (.scr ns) :: .va (.adr p) :: List.replicate (N - 2) .no) (0 :: ns) = .rt (.bl true) s') ∧ ∀ H', Q (.bl true) H'
section
variable {P : Program} {w : World} {K : PySem.W.Frag} {mg : Str → Option Value} {base : Heap}
theorem law_sound {st : Stmt} {f fT : Addr} {fd fdT : FuncData} {N : List Str} {n : Nat} {body : Addr → CSs (List Int)} {px p1 p2 p3 p4 : Pos} {rest : List Stmt} (F : Fun K "law" "law" st f fd) (S : FnScope N ["script"] (defScope st)) (hN0 : N[0]? = some ("script" : Str)) (hN1 : N[1]? = some ("town" : Str))
    (hs0 : visB (defScope st) "script" = true) (hs1 : locB (defScope st) "town" = true) (hsg : glB (defScope st) "_law_town" = true)
    (hbd : defBody st = .Assign [.Name "town" px] (.Call (.Name "_law_town" p1) [.Name "script" p2] [] p3) p4 :: rest)
    (GT : FnOk P w K mg base (L2.CX P w) n fT fdT ["script"] (spTown K)) (bT : Binds K fdT ["script"] []) (kT : PySem.W.keepIn K (.ref fT) = true) (gT : mg "_law_town" = some (.ref fT)) (blt : ∀ y ∈ bltNames, mg y = none)
    (hc : ∀ p, chkSs N (defScope st) (body p) rest = true) (g : ∀ p, needSs (fun x m g => Has P w K mg base (townSys p) n x m g) (Glb K mg) (body p)) : FnOk P w K mg base (L2.CX P w) (n + 1) f fd ["script"] (spLaw K N.length body) := by
  refine F.okX S (fun vs H Q E h => ?_) (fun cdv A outer s H vs Q E hr h => ?_)
  · obtain ⟨a, ns, rfl, _⟩ := h
    rfl
  · obtain ⟨a, ns, rfl, hS, h63, hrun, q⟩ := h
    have C : SCxt (cxOf (L2.CX P w) P w K mg base N "law" (defScope st) f cdv A outer s H E) E n N (defScope st) :=
      { hN := rfl, hs := rfl, nd := S.nd, calm := rfl, room := hr, tk := takes_of rfl rfl rfl rfl, we := ⟨E, rfl⟩, blt := blt, po := passes_of rfl, fn := rfl, kd := S.kind }
    rw [hbd]
    have hv : PE (cxOf (L2.CX P w) P w K mg base N "law" (defScope st) f cdv A outer s H E) (.Name "script" p2) (tVar 0) := vis_ok (n := n) C hs0 (beq_iff_eq.mpr hN0)
    refine ⟨_, pss_cons (ps_set (i := 1) S.nd hN1 (loc_ok C hs1) (pe_call GT hr (C.gl hsg) gT kT bT .nil passL (pa_cons hv pa_nil) (glB_ok hsg).2.1 rfl rfl) rfl (.inl rfl)) (PSs.ex fun p => soundSs (Y := townSys p) C (body p) rest (hc p) (g p)), ?_⟩
    have hl2 : 2 ≤ N.length := by
      have := (List.getElem?_eq_some_iff.mp hN1).1
      omega
    refine ⟨.ref a, rfl, a, ns, rfl, hS, h63, fun p H' hp sm hH' => ?_⟩
    obtain ⟨s', hr'⟩ := hrun p
    refine ⟨p, ?_⟩
    -- the configuration behind the first statement
    have ok : Ok (⟨H, H', 0 :: ns⟩ : Cf (townSys p)) := ⟨fun b o e => sm b o e, hH', fun b z => by
      have z : b = p := z
      subst z
      exact hp, fun b z => by
      have z : b = p := z
      subst z
      show H' b ≠ none
      rw [hH']
      exact fun z => nomatch z⟩
    have eσ : (L2.start N [V.ref a]).set 1 (some (.ref p)) = some (.ref a) :: some (.ref p) :: List.replicate (N.length - 2) none := by
      unfold L2.start
      obtain ⟨m, hm⟩ : ∃ m, N.length = m + 2 := ⟨N.length - 2, by omega⟩
      rw [hm]
      rfl
    show tS (Y := townSys p) K mg E (runs (body p)) _ ((L2.start N [V.ref a]).set 1 (some (.ref p))) H'
    rw [eσ]
    have hget : ∀ {α : Type} {x y z : α} {m i : Nat} {v : α}, (x :: y :: List.replicate m z)[i]? = some v → (i = 0 ∧ v = x) ∨ (i = 1 ∧ v = y) ∨ v = z := fun {α x y z m i v} h => by
      cases i with
      | zero => cases h; exact .inl ⟨rfl, rfl⟩
      | succ i =>
        cases i with
        | zero => cases h; exact .inr (.inl ⟨rfl, rfl⟩)
        | succ i =>
          have h : (List.replicate m z)[i]? = some v := h
          rw [List.getElem?_replicate] at h
          split at h
          · cases h; exact .inr (.inr rfl)
          · cases h
    have rel : Rel K (⟨H, H', 0 :: ns⟩ : Cf (townSys p)).H (⟨H, H', 0 :: ns⟩ : Cf (townSys p)) (some (.ref a) :: some (.ref p) :: List.replicate (N.length - 2) none) (.va (.scr ns) :: .va (.adr p) :: List.replicate (N.length - 2) .no) :=
      { len := by simp only [List.length_cons, List.length_replicate]
        va := fun i d h => by
          rcases hget h with ⟨rfl, e⟩ | ⟨rfl, e⟩ | e
          · cases e; exact ⟨_, rfl, .scr hS⟩
          · cases e; exact ⟨_, rfl, .adr p⟩
          · cases e
        ow := fun i d h => by
          rcases hget h with ⟨rfl, e⟩ | ⟨rfl, e⟩ | e <;> cases e
        ap := fun i j d e p _ h => by
          rcases hget h with ⟨rfl, e⟩ | ⟨rfl, e⟩ | e <;> cases e }
    refine ⟨⟨H, H', 0 :: ns⟩, H, ⟨H, H', 0 :: ns⟩, _, rfl, Step.refl _, Sub.refl _, ok, rel, ?_⟩
    have fin : PostS (Y := townSys p) K mg E ⟨H, H', 0 :: ns⟩ H { nx := fun _ H' => Q .non H', rt := Q } (Out.rt (.bl true) s') := by
      intro v c' e1 t1 ok1 r1
      cases r1
      exact q _
    exact (show (runs (S := (townSys p).S) (body p) (.va (.scr ns) :: .va (.adr p) :: List.replicate (N.length - 2) .no) (0 :: ns)) = Out.rt (.bl true) s' from hr') ▸ fin
end
/-- a def of the text, where it stands -/
def DefAt (K : PySem.W.Frag) (mg : Str → Option Value) (x : Str) (st : Stmt) : Prop := ∃ f fd, Fun K x x st f fd ∧ mg x = some (.ref f)
theorem defAt {K : PySem.W.Frag} {h : Heap} {mg : Str → Option Value} {x : Str} {st : Stmt} {f : Addr} {od an : Option Addr} {sl : Array (Option Value)} {oc kV dc pm cd ct : Value} (X : K.In h) (G : h.Ns mainGlobals mg)
    (a : PySem.W.nsIn K mainGlobals x = some (some (.ref f))) (l : K.lookup f = some ⟨oc, od, .func (PySem.W.fnOf x x (defArgs st) (defBody st) (defScope st) .none kV dc pm an cd ct), sl⟩) (c : PySem.W.codeIn K cd x = true) (k : PySem.W.keepIn K (.ref f) = true) : DefAt K mg x st :=
  ⟨f, _, fun_mk (st := st) l c k, PySem.W.mg_of X G a⟩
/-- a while's turns, by the int in a slot -/
def fuelAt {S : Type} (i : Nat) : List SV → S → Nat := fun ρ _ => match ρ[i]? with
  | some (.va (.int k)) => k.natAbs + 1
  | _ => 0
mutual
def sizeD : D → Nat
  | .int i => i.natAbs
  | .tup ds => sizeDs ds
  | .lst ds => sizeDs ds
  | _ => 0
def sizeDs : List D → Nat
  | [] => 0
  | d :: ds => sizeD d + sizeDs ds
end
/-- .. by the ints within what a slot holds -/
def fuelIn {S : Type} (i : Nat) : List SV → S → Nat := fun ρ _ => match ρ[i]? with
  | some (.va d) => sizeD d + 2
  | some (.ow d) => sizeD d + 2
  | _ => 0
end Mf
set_option Elab.async false
set_option linter.all false
set_option maxRecDepth 100000
set_option maxHeartbeats 2000000
namespace Mf
open PySem L2
/-! ### a constant of the text, read off the part K -/
def isTy (v : Value) (s : String) : Bool := match v with
  | .type t => t == s
  | _ => false
mutual
def repB (K : PySem.W.Frag) : Nat → Value → D → Bool
  | n, u, d => match d with
    | .non => match u with | .none => true | _ => false
    | .bl b => match u with | .bool a => a == b | _ => false
    | .int j => match u with | .int i _ => decide (i = j) | _ => false
    | .str y => match u with | .str x _ => x == y | _ => false
    | .tup ds => match n with
      | 0 => false
      | n + 1 => match u with
        | .ref a => match K.lookup a with
          | some o => isTy o.cls "tuple" && o.dict.isNone && (match o.data with
            | .seq its _ => decide (its.size ≤ 1000) && repBs K n its.toList ds
            | _ => false)
          | none => false
        | _ => false
    | _ => false
def repBs (K : PySem.W.Frag) : Nat → List Value → List D → Bool
  | _, [], [] => true
  | n, u :: us, d :: ds => repB K n u d && repBs K n us ds
  | _, _, _ => false
end
mutual
theorem repB_ok {K : PySem.W.Frag} : ∀ (n : Nat) (u : Value) (d : D), repB K n u d = true → ∃ v, RelV v u ∧ ∀ F, Rep K F v d
  | n, u, .non, h => by
    unfold repB at h
    dsimp only at h
    split at h
    · exact ⟨.non, rfl, fun _ => .non⟩
    · cases h
  | n, u, .bl b, h => by
    unfold repB at h
    dsimp only at h
    split at h
    · have := beq_iff_eq.mp h; subst this; exact ⟨.bl _, rfl, fun _ => .bl _⟩
    · cases h
  | n, u, .int j, h => by
    unfold repB at h
    dsimp only at h
    split at h
    · have := of_decide_eq_true h; subst this; exact ⟨.int _, ⟨_, rfl⟩, fun _ => .int _⟩
    · cases h
  | n, u, .str j, h => by
    unfold repB at h
    dsimp only at h
    split at h
    · have := beq_iff_eq.mp h; subst this; exact ⟨.str _, ⟨_, rfl⟩, fun _ => .str _⟩
    · cases h
  | 0, u, .tup ds, h => by
    unfold repB at h
    dsimp only at h
    cases h
  | n + 1, u, .tup ds, h => by
    unfold repB at h
    dsimp only at h
    cases u with
    | ref a =>
      dsimp only at h
      cases e : K.lookup a with
      | none => rw [e] at h; cases h
      | some o =>
        rw [e] at h
        dsimp only at h
        rw [Bool.and_eq_true, Bool.and_eq_true] at h
        obtain ⟨⟨h1, h2⟩, h3⟩ := h
        have hc : o.cls = .type "tuple" := by
          unfold isTy at h1
          split at h1
          · rename_i t ht
            rw [ht, beq_iff_eq.mp h1]
          · cases h1
        have hd : o.dict = none := Option.isNone_iff_eq_none.mp h2
        cases hs : o.data with
        | seq its m =>
          rw [hs] at h3
          dsimp only at h3
          rw [Bool.and_eq_true] at h3
          obtain ⟨vs, r1, r2⟩ := repBs_ok n its.toList ds h3.2
          exact ⟨.ref a, rfl, fun F => .tup (.inr ⟨o, its, m, e, hc, hs, Nat.le_trans (of_decide_eq_true h3.1) (by decide), r1⟩) (.inr ⟨o, e, hd⟩) (r2 F)⟩
        | _ => rw [hs] at h3; cases h3
    | _ => cases h
  | n, u, .lst ds, h => by
    unfold repB at h
    dsimp only at h
    cases h
  | n, u, .dct ds, h => by
    unfold repB at h
    dsimp only at h
    cases h
  | n, u, .adr ds, h => by
    unfold repB at h
    dsimp only at h
    cases h
  | n, u, .scr ds, h => by
    unfold repB at h
    dsimp only at h
    cases h
theorem repBs_ok {K : PySem.W.Frag} : ∀ (n : Nat) (us : List Value) (ds : List D), repBs K n us ds = true → ∃ vs, Vals vs us ∧ ∀ F, Reps K F vs ds
  | _, [], [], _ => ⟨[], .nil, fun _ => .nil⟩
  | n, u :: us, d :: ds, h => by
    have h := Bool.and_eq_true_iff.mp h
    obtain ⟨v, a, b⟩ := repB_ok n u d h.1
    obtain ⟨vs, a', b'⟩ := repBs_ok n us ds h.2
    exact ⟨v :: vs, .cons a a', fun F => .cons (b F) (b' F)⟩
  | _, [], _ :: _, h => by cases h
  | _, _ :: _, [], h => by cases h
end
theorem glb_of {K : PySem.W.Frag} {h : Heap} {mg : Str → Option Value} {x : Str} {u : Value} {d : D} (X : K.In h) (G : h.Ns mainGlobals mg) (e : PySem.W.nsIn K mainGlobals x = some (some u)) (r : repB K 20 u d = true) : Glb K mg x d := by
  obtain ⟨v, a, b⟩ := repB_ok 20 u d r
  exact ⟨u, v, PySem.W.mg_of X G e, a, b⟩
theorem cx_no {P : Program} {w : World} {H : Hp} {s : Shared} {e : Value} {s' : Shared} (h : L2.CX P w [] H s (fun _ _ _ => False) e s') : False := by
  obtain ⟨_, _, _, _, _, _, _, _, _, _, _, _, h⟩ := h
  exact h
end Mf
set_option Elab.async false
set_option linter.all false
set_option maxRecDepth 100000
set_option maxHeartbeats 1000000
namespace Mf
open PySem L2
/-! ### the evaluator's steps -/
section
variable {S α β : Type} {s : S}
theorem bindq_ok (a : α) (f : α → S → Res S β) : (Res.ok a s).bind f = f a s := rfl
theorem bind_er (f : α → S → Res S β) : (Res.er : Res S α).bind f = .er := rfl
theorem ob_ok (a : α) (f : α → S → Out S) : (Res.ok a s).ob f = f a s := rfl
theorem sq_nx {ρ : List SV} (f : List SV → S → Out S) : (Out.nx ρ s).sq f = f ρ s := rfl
theorem sq_rt {d : D} (f : List SV → S → Out S) : (Out.rt d s).sq f = .rt d s := rfl
theorem onO_some (a : α) (f : α → Out S) : onO (some a) f = f a := rfl
theorem liftO_some (a : α) : liftO s (some a) = .ok a s := rfl
theorem kd_some (d : D) : kd s (some d) = .ok (.v, d) s := rfl
theorem dat_v (d : D) : dat (.v, d) s = .ok d s := rfl
theorem dat_t (d : D) : dat (.t, d) s = .ok d s := rfl
theorem tru_bl (k : K3) (b : Bool) : tru (k, .bl b) s = .ok b s := rfl
theorem intOf_int (k : K3) (i : Int) : intOf (k, .int i) s = .ok i s := rfl
theorem noExq (a : α) : noEx (Res.ok a s) = .ok a s := rfl
theorem stk_v (b : Bool) (d : D) : stk b (.v, d) s = .ok (.v, d) s := by cases b <;> rfl
theorem stk_t (b : Bool) (d : D) : stk b (.t, d) s = .ok (.t, d) s := by cases b <;> rfl
theorem stk_o (d : D) : stk false (.o, d) s = .ok (.o, d) s := rfl
theorem stow_tt (d : D) : stow true (.t, d) = some (.ow d) := rfl
theorem stow_fv (d : D) : stow false (.v, d) = some (.va d) := rfl
theorem stow_ft (d : D) : stow false (.t, d) = some (.va d) := rfl
theorem runs_cons (c : CS S) (cs : CSs S) (ρ : List SV) : runs (.cons c cs) ρ s = (run c ρ s).sq (runs cs) := by rw [runs]
theorem runs_nil (ρ : List SV) : runs (.nil : CSs S) ρ s = .nx ρ s := by rw [runs]
theorem run_whl (t : CE S) (b : CSs S) (f : List SV → S → Nat) (ρ : List SV) : run (.whl t b f) ρ s = whlR (fun ρ s => (ev t ρ s).bind tru) (runs b) (f ρ s) ρ s := by rw [run]
theorem run_for (tg : Tg) (it : CI S) (body : CSs S) (ρ : List SV) : run (.forr tg it body) ρ s = (evI true it ρ s).ob fun ds s => forR (fun d ρ s => onO (asgT tg d ρ) fun ρ' => runs body ρ' s) ds ρ s := by rw [run]
theorem run_ife (t : CE S) (a b : CSs S) (ρ : List SV) : run (.ife t a b) ρ s = ((ev t ρ s).bind tru).ob fun k s => if k then runs a ρ s else runs b ρ s := by rw [run]
theorem fnR_rt {n : Nat} {body : CSs S} {ds : List D} {d : D} {s' : S} (h : runs body (ds.map SV.va ++ List.replicate (n - ds.length) .no) s = .rt d s') : fnR n body ds s = .ok d s' := by
  unfold fnR
  rw [h]
theorem fnR_nx {n : Nat} {body : CSs S} {ds : List D} {ρ : List SV} {s' : S} (h : runs body (ds.map SV.va ++ List.replicate (n - ds.length) .no) s = .nx ρ s') : fnR n body ds s = .ok .non s' := by
  unfold fnR
  rw [h]
theorem eqD_int (i j : Int) : eqD (.int i) (.int j) = some (decide (i = j)) := by
  show some (i == j) = _
  rfl
theorem cmp_ne (x y : D) : cmpD .ne x y = (eqD x y).map (!·) := by cases x <;> cases y <;> rfl
theorem cmp_eq (x y : D) : cmpD .eq x y = eqD x y := by cases x <;> cases y <;> rfl
theorem cmp_gt (i j : Int) : cmpD .gt (.int i) (.int j) = some (decide (j < i)) := rfl
theorem cmp_ge (i j : Int) : cmpD .ge (.int i) (.int j) = some (decide (j ≤ i)) := rfl
theorem cmp_lt (i j : Int) : cmpD .lt (.int i) (.int j) = some (decide (i < j)) := rfl
theorem cmp_le (i j : Int) : cmpD .le (.int i) (.int j) = some (decide (i ≤ j)) := rfl
theorem cmp_in (x y : D) : cmpD .isin x y = inD x y := by cases x <;> cases y <;> rfl
theorem cmp_notin (x y : D) : cmpD .notin x y = (inD x y).map (!·) := by cases x <;> cases y <;> rfl
theorem cmp_is (x y : D) : cmpD .is x y = isD x y := by cases x <;> cases y <;> rfl
theorem cmp_isnot (x y : D) : cmpD .isnot x y = (isD x y).map (!·) := by cases x <;> cases y <;> rfl
theorem bin_add (i j : Int) : binD .add (.int i) (.int j) = some (.v, .int (i + j)) := rfl
theorem bin_sub (i j : Int) : binD .sub (.int i) (.int j) = some (.v, .int (i - j)) := rfl
theorem bin_mul {i j : Int} (h : mulOk i j = true) : binD .mul (.int i) (.int j) = some (.v, .int (i * j)) := if_pos h
theorem bin_fdv {i j : Int} (h : divOk j = true) : binD .fdv (.int i) (.int j) = some (.v, .int (i.fdiv j)) := if_pos h
theorem bin_mod {i j : Int} (h : j ≠ 0) : binD .mod (.int i) (.int j) = some (.v, .int (i.fmod j)) := if_pos (decide_eq_true h)
theorem b1_abs (i : Int) : b1D .abs (.int i) = some (.v, .int (i.natAbs : Int)) := by
  show some (K3.v, D.int (if i < 0 then -i else i)) = _
  congr 3
  omega
theorem ix0 (a b : D) : ixD (.tup [a, b]) (.int 0) = some a := rfl
theorem ix1 (a b : D) : ixD (.tup [a, b]) (.int 1) = some b := rfl
end
theorem log2_lt {n k : Nat} (h : n < 2 ^ k) (hk : 0 < k) : n.log2 < k := by
  by_cases z : n = 0
  · subst z
    simpa using hk
  · exact (Nat.log2_lt z).mpr h
theorem mulOk_of {i j : Int} {a b : Nat} (hi : i.natAbs < 2 ^ a) (hj : j.natAbs < 2 ^ b) (h : a + b < 1000000) : mulOk i j = true := by
  refine decide_eq_true ?_
  have h1 := log2_lt (k := a + 1) (Nat.lt_of_lt_of_le hi (Nat.pow_le_pow_right (by decide) (Nat.le_succ a))) (Nat.succ_pos a)
  have h2 := log2_lt (k := b + 1) (Nat.lt_of_lt_of_le hj (Nat.pow_le_pow_right (by decide) (Nat.le_succ b))) (Nat.succ_pos b)
  omega
theorem divOk_of {j : Int} {b : Nat} (h0 : j ≠ 0) (hj : j.natAbs < 2 ^ b) (h : b < 9000) : divOk j = true := by
  refine Bool.and_eq_true_iff.mpr ⟨decide_eq_true h0, decide_eq_true ?_⟩
  have h1 := log2_lt (k := b + 1) (Nat.lt_of_lt_of_le hj (Nat.pow_le_pow_right (by decide) (Nat.le_succ b))) (Nat.succ_pos b)
  omega
/-! ### gcd -/
theorem fmod_lt (a : Int) {b : Int} (h : b ≠ 0) : (a.fmod b).natAbs < b.natAbs := by
  rcases Int.lt_or_gt_of_ne h with h | h
  · have h1 := Int.fmod_nonneg_of_pos (-a) (show 0 < -b by omega)
    have h2 := Int.fmod_lt_of_pos (-a) (show 0 < -b by omega)
    rw [Int.neg_fmod_neg] at h1 h2
    omega
  · have h1 := Int.fmod_nonneg_of_pos a h
    have h2 := Int.fmod_lt_of_pos a h
    omega
theorem gcd_fmod (a b : Int) : Int.gcd b (a.fmod b) = Int.gcd a b := by
  rw [Int.fmod_def, Int.gcd_comm a b]
  rw [Int.mul_comm]
  exact Int.gcd_sub_mul_right_right _ _ _
end Mf
set_option Elab.async false
set_option linter.all false
set_option maxRecDepth 100000
set_option maxHeartbeats 1000000
namespace Mf
open PySem L2
/-! ### fractions as Rat -/
def F (q : Rat) : D := .tup [.int q.num, .int q.den]
theorem F_inj {x y : Rat} (h : F x = F y) : x = y := by
  unfold F at h
  injection h with h
  injection h with h1 h2
  injection h1 with h1
  injection h2 with h2 _
  injection h2 with h2
  exact Rat.ext h1 (by omega)
theorem frac_nd {a b : Int} (hb : b ≠ 0) : a.fdiv ((Int.gcd a b : Nat) * (if decide (0 < b) = true then 1 else -1)) = (Rat.divInt a b).num ∧ b.fdiv ((Int.gcd a b : Nat) * (if decide (0 < b) = true then 1 else -1)) = ((Rat.divInt a b).den : Int) := by
  have hg : 0 < Int.gcd a b := Int.gcd_pos_of_ne_zero_right a hb
  rw [Rat.num_divInt, Rat.den_divInt, if_neg hb, Int.gcd_comm b a]
  generalize hG : Int.gcd a b = g at hg
  have hdb : (g : Int) ∣ b := by rw [← hG]; exact Int.gcd_dvd_right a b
  rcases Int.lt_or_gt_of_ne hb with h | h
  · have hn : ¬ (0 < b) := by omega
    have e : ((g : Int) * (if decide (0 < b) = true then 1 else -1)) = -(g : Int) := by simp [hn]
    rw [e, Int.sign_eq_neg_one_of_neg h]
    have f1 : ∀ x : Int, x.fdiv (-(g : Int)) = (-x) / (g : Int) := fun x => by
      rw [← Int.fdiv_eq_ediv_of_nonneg (-x) (by omega : (0 : Int) ≤ g), ← Int.neg_fdiv_neg (-x) (g : Int), Int.neg_neg]
    rw [f1, f1]
    refine ⟨by rw [Int.neg_one_mul], ?_⟩
    rw [Int.natCast_ediv]
    congr 1
    omega
  · have e : ((g : Int) * (if decide (0 < b) = true then 1 else -1)) = (g : Int) := by simp [h]
    rw [e, Int.sign_eq_one_of_pos h, Int.fdiv_eq_ediv_of_nonneg _ (by omega), Int.fdiv_eq_ediv_of_nonneg _ (by omega)]
    refine ⟨by rw [Int.one_mul], ?_⟩
    rw [Int.natCast_ediv]
    congr 1
    omega
/-- within so many bits -/
def bd (B : Nat) (x : Rat) : Prop := x.num.natAbs < 2 ^ B ∧ x.den < 2 ^ B
theorem bd.mono {A B : Nat} {x : Rat} (h : bd A x) (k : A ≤ B) : bd B x := ⟨Nat.lt_of_lt_of_le h.1 (Nat.pow_le_pow_right (by decide) k), Nat.lt_of_lt_of_le h.2 (Nat.pow_le_pow_right (by decide) k)⟩
theorem bd_divInt {a b : Int} {B : Nat} (hb : b ≠ 0) (ha : a.natAbs < 2 ^ B) (hB : b.natAbs < 2 ^ B) : bd B (Rat.divInt a b) := by
  constructor
  · rw [Rat.num_divInt]
    refine Nat.lt_of_le_of_lt (Int.natAbs_ediv_le_natAbs _ _) ?_
    rw [Int.natAbs_mul]
    rcases Int.lt_or_gt_of_ne hb with h | h
    · rw [Int.sign_eq_neg_one_of_neg h]; simpa using ha
    · rw [Int.sign_eq_one_of_pos h]; simpa using ha
  · rw [Rat.den_divInt, if_neg hb]
    exact Nat.lt_of_le_of_lt (Nat.div_le_self _ _) hB
theorem mul_lt {i j : Int} {a b : Nat} (hi : i.natAbs < 2 ^ a) (hj : j.natAbs < 2 ^ b) : (i * j).natAbs < 2 ^ (a + b) := by
  rw [Int.natAbs_mul, Nat.pow_add]
  exact Nat.mul_lt_mul'' hi hj
theorem add_lt {i j : Int} {a : Nat} (hi : i.natAbs < 2 ^ a) (hj : j.natAbs < 2 ^ a) : (i + j).natAbs < 2 ^ (a + 1) := by
  have := Int.natAbs_add_le i j
  rw [Nat.pow_succ]
  omega
theorem den_ne (x : Rat) : (x.den : Int) ≠ 0 := by have := x.den_nz; omega
theorem num_ne {x : Rat} (h : x ≠ 0) : x.num ≠ 0 := fun z => h (Rat.num_eq_zero.mp z)
theorem bd.den {B : Nat} {x : Rat} (h : bd B x) : ((x.den : Int)).natAbs < 2 ^ B := by simpa using h.2
/-- sums, products and quotients as the program makes them -/
theorem plus_eq (x y : Rat) : Rat.divInt (x.num * y.den + y.num * x.den) (x.den * y.den) = x + y := by
  rw [← Rat.divInt_add_divInt _ _ (den_ne x) (den_ne y), Rat.num_divInt_den, Rat.num_divInt_den]
theorem times_eq (x y : Rat) : Rat.divInt (x.num * y.num) (x.den * y.den) = x * y := by
  rw [← Rat.divInt_mul_divInt, Rat.num_divInt_den, Rat.num_divInt_den]
theorem over_eq (x y : Rat) : Rat.divInt (x.num * y.den) (x.den * y.num) = x / y := by
  rw [← Rat.divInt_mul_divInt, Rat.num_divInt_den, Rat.div_def]
  congr 1
  rw [← Rat.inv_divInt, Rat.num_divInt_den]
theorem bd_plus {A B : Nat} {x y : Rat} (hx : bd A x) (hy : bd B y) : bd (A + B + 1) (x + y) := by
  rw [← plus_eq]
  refine bd_divInt (Int.mul_ne_zero (den_ne x) (den_ne y)) ?_ ?_
  · refine add_lt (mul_lt hx.1 hy.den) ?_
    have := mul_lt hy.1 hx.den
    rw [Nat.add_comm] at this
    exact this
  · refine Nat.lt_of_lt_of_le (mul_lt hx.den hy.den) (Nat.pow_le_pow_right (by decide) (by omega))
theorem bd_times {A B : Nat} {x y : Rat} (hx : bd A x) (hy : bd B y) : bd (A + B) (x * y) := by
  rw [← times_eq]
  exact bd_divInt (Int.mul_ne_zero (den_ne x) (den_ne y)) (mul_lt hx.1 hy.1) (mul_lt hx.den hy.den)
theorem bd_over {A B : Nat} {x y : Rat} (hx : bd A x) (hy : bd B y) (h : y ≠ 0) : bd (A + B) (x / y) := by
  rw [← over_eq]
  exact bd_divInt (Int.mul_ne_zero (den_ne x) (num_ne h)) (mul_lt hx.1 hy.den) (mul_lt hx.den hy.1)
/-! ### data of fractions compared -/
theorem sh_F (n : Nat) (x : Rat) : (F x).sh (n + 1) = true := by
  show shs n [D.int x.num, D.int x.den] = true
  cases n <;> rfl
theorem deq_F (x y : Rat) : deq (F x) (F y) = decide (x = y) := by
  show ((x.num == y.num) && (((x.den : Int) == (y.den : Int)) && true)) = _
  by_cases h : x = y
  · subst h; simp
  · rw [decide_eq_false h]
    cases h1 : (x.num == y.num) with
    | false => rfl
    | true =>
      have e1 := beq_iff_eq.mp h1
      have e2 : ¬ x.den = y.den := fun z => h (Rat.ext e1 z)
      have : ((x.den : Int) == (y.den : Int)) = false := beq_eq_false_iff_ne.mpr (by omega)
      rw [this]
      rfl
theorem eqD_F (x y : Rat) : eqD (F x) (F y) = some (decide (x = y)) := by
  unfold eqD
  rw [sh_F 59, sh_F 59, deq_F]
  rfl
/-- a row of fractions -/
def row (r : List Rat) : D := .tup (r.map F)
theorem shs_F (n : Nat) : ∀ r : List Rat, shs (n + 1) (r.map F) = true
  | [] => rfl
  | x :: r => by
    show ((F x).sh (n + 1) && shs (n + 1) (r.map F)) = true
    rw [sh_F, shs_F n r]
    rfl
theorem sh_row (n : Nat) (r : List Rat) : (row r).sh (n + 2) = true := shs_F n r
theorem deqs_F : ∀ x y : List Rat, deqs (x.map F) (y.map F) = decide (x = y)
  | [], [] => rfl
  | [], _ :: _ => rfl
  | _ :: _, [] => rfl
  | a :: x, b :: y => by
    show (deq (F a) (F b) && deqs (x.map F) (y.map F)) = _
    rw [deq_F, deqs_F x y]
    by_cases h : a = b <;> by_cases h' : x = y <;> simp [h, h']
theorem deq_row (x y : List Rat) : deq (row x) (row y) = decide (x = y) := deqs_F x y
theorem eqD_row (x y : List Rat) : eqD (row x) (row y) = some (decide (x = y)) := by
  unfold eqD
  rw [sh_row 58, sh_row 58, deq_row]
  rfl
/-! ### walks -/
section
variable {S : Type} {s : S}
theorem walkR_map {α : Type} {f : D → S → Res S (Option D)} {e g : α → D} : ∀ {l : List α}, (∀ a ∈ l, f (e a) s = .ok (some (g a)) s) → walkR f (l.map e) s = .ok (l.map g) s
  | [], _ => rfl
  | a :: l, h => by
    show (f (e a) s).bind _ = _
    rw [h a List.mem_cons_self]
    show (walkR f (l.map e) s).bind _ = _
    rw [walkR_map fun b hb => h b (List.mem_cons_of_mem _ hb)]
    rfl
theorem walkR_filter {α : Type} {f : D → S → Res S (Option D)} {e g : α → D} {t : α → Bool} : ∀ {l : List α}, (∀ a ∈ l, f (e a) s = .ok (if t a then some (g a) else none) s) → walkR f (l.map e) s = .ok ((l.filter t).map g) s
  | [], _ => rfl
  | a :: l, h => by
    show (f (e a) s).bind _ = _
    rw [h a List.mem_cons_self]
    show (walkR f (l.map e) s).bind _ = _
    rw [walkR_filter fun b hb => h b (List.mem_cons_of_mem _ hb)]
    cases ht : t a <;> simp [ht, List.filter_cons, bindq_ok]
theorem asg1 (i : Nat) (d : D) {ρ : List SV} (h : i < ρ.length) : asgT (.nm i) d ρ = some (ρ.set i (.va d)) := by
  simp [asgT, asgL, h]
theorem asg2 {i j : Nat} (a b : D) {ρ : List SV} (h : i < ρ.length) (h' : j < ρ.length) : asgT (.cons (.nm i) (.cons (.nm j) .nil)) (.tup [a, b]) ρ = some ((ρ.set i (.va a)).set j (.va b)) := by
  simp [asgT, asgL, h, h']
end
section
variable {S : Type} {s : S}
theorem ev_lc {α : Type} {it : CI S} {tg : Tg} {elt : CE S} {vs : List Nat} {ρ : List SV} {l : List α} {e g : α → D} (hi : evI false it ρ s = .ok (l.map e) s) (hl : l.length ≤ 1000000)
    (hb : ∀ a ∈ l, ∃ ρ', asgT tg (e a) (wipeR ρ vs) = some ρ' ∧ ∃ k, k ≠ K3.o ∧ ev elt ρ' s = .ok (k, g a) s) : ev (.lc it tg .nil elt vs) ρ s = .ok (.t, .lst (l.map g)) s := by
  rw [ev, hi]
  simp only [bindq_ok, List.length_map, lenOk, decide_eq_true hl, Bool.not_true, Bool.false_eq_true, if_false]
  rw [walkR_map (g := g)]
  · rfl
  · intro a ha
    obtain ⟨ρ', h1, k, h2, h3⟩ := hb a ha
    simp only [h1, evT, noExq, bindq_ok, if_true, h3]
    cases k with
    | v => rfl
    | t => rfl
    | o => exact absurd rfl h2
theorem ev_lcf {α : Type} {it : CI S} {tg : Tg} {elt tt : CE S} {vs : List Nat} {ρ : List SV} {l : List α} {e g : α → D} {t : α → Bool} (hi : evI false it ρ s = .ok (l.map e) s) (hl : l.length ≤ 1000000)
    (hb : ∀ a ∈ l, ∃ ρ', asgT tg (e a) (wipeR ρ vs) = some ρ' ∧ (∃ k, ev tt ρ' s = .ok (k, .bl (t a)) s) ∧ (t a = true → ∃ k, k ≠ K3.o ∧ ev elt ρ' s = .ok (k, g a) s)) : ev (.lc it tg (.cons tt .nil) elt vs) ρ s = .ok (.t, .lst ((l.filter t).map g)) s := by
  rw [ev, hi]
  simp only [bindq_ok, List.length_map, lenOk, decide_eq_true hl, Bool.not_true, Bool.false_eq_true, if_false]
  rw [walkR_filter (g := g) (t := t)]
  · rfl
  · intro a ha
    obtain ⟨ρ', h1, ⟨k0, h2⟩, h3⟩ := hb a ha
    simp only [h1, evT, h2, bindq_ok, tru_bl, noExq]
    cases ht : t a with
    | false => rfl
    | true =>
      obtain ⟨k, hk, h4⟩ := h3 ht
      simp only [if_true, h4, noExq, bindq_ok]
      cases k with
      | v => rfl
      | t => rfl
      | o => exact absurd rfl hk
theorem forR_ind {α : Type} {f : D → List SV → S → Out S} {e : α → D} {P : List α → List SV → S → Prop} (h : ∀ a l ρ s, P (a :: l) ρ s → ∃ ρ' s', f (e a) ρ s = .nx ρ' s' ∧ P l ρ' s') : ∀ l ρ s, P l ρ s → ∃ ρ' s', forR f (l.map e) ρ s = .nx ρ' s' ∧ P [] ρ' s'
  | [], ρ, s, p => ⟨ρ, s, rfl, p⟩
  | a :: l, ρ, s, p => by
    obtain ⟨ρ', s', h1, h2⟩ := h a l ρ s p
    obtain ⟨ρ2, s2, h3, h4⟩ := forR_ind h l ρ' s' h2
    refine ⟨ρ2, s2, ?_, h4⟩
    show (f (e a) ρ s).sq (forR f (l.map e)) = _
    rw [h1]
    exact h3
end
theorem seq_nx {S : Type} {c : CS S} {cs : CSs S} {ρ ρ' : List SV} {s s' : S} {r : Out S} (h : run c ρ s = .nx ρ' s') (h2 : runs cs ρ' s' = r) : runs (.cons c cs) ρ s = r := by
  rw [runs_cons, h]
  exact h2
theorem seq_rt {S : Type} {c : CS S} {cs : CSs S} {ρ : List SV} {s s' : S} {d : D} (h : run c ρ s = .rt d s') : runs (.cons c cs) ρ s = .rt d s' := by
  rw [runs_cons, h]
  rfl
theorem run_forq {S : Type} {tg : Tg} {it : CI S} {body : CSs S} {ρ : List SV} {s s1 : S} {ds : List D} {o : Out S} (h : evI true it ρ s = .ok ds s1) (h2 : forR (fun d ρ s => onO (asgT tg d ρ) fun ρ' => runs body ρ' s) ds ρ s1 = o) : run (.forr tg it body) ρ s = o := by
  rw [run_for, h]
  exact h2
theorem run_asgq {S : Type} {own : Bool} {i : Nat} {e : CE S} {ρ ρ' : List SV} {s s1 : S} {x : K3 × D} (h : ev e ρ s = .ok x s1) {v : SV} (hv : stow own x = some v) (hp : put ρ i v = some ρ') : run (.asg own i e) ρ s = .nx ρ' s1 := by
  rw [run, h, ob_ok, hv, onO_some, hp]
  rfl
theorem run_retq {S : Type} {e : CE S} {ρ : List SV} {s s1 : S} {k : K3} {d : D} (h : ev e ρ s = .ok (k, d) s1) (hk : k ≠ .o) : run (.ret e) ρ s = .rt d s1 := by
  rw [run, h]
  cases k with
  | v => rfl
  | t => rfl
  | o => exact absurd rfl hk
theorem run_ifq {S : Type} {t : CE S} {a b : CSs S} {ρ : List SV} {s s1 : S} {k : Bool} {k3 : K3} {o : Out S} (h : ev t ρ s = .ok (k3, .bl k) s1) (h2 : (if k then runs a ρ s1 else runs b ρ s1) = o) : run (.ife t a b) ρ s = o := by
  rw [run_ife, h]
  exact h2
theorem zipD_map {α β : Type} (e : α → D) (g : β → D) : ∀ (x : List α) (y : List β), zipD (x.map e) (y.map g) = (x.zip y).map fun p => .tup [e p.1, g p.2]
  | [], _ => by simp [zipD]
  | _ :: _, [] => by simp [zipD]
  | a :: x, b :: y => by
    show D.tup [e a, g b] :: zipD (x.map e) (y.map g) = _
    rw [zipD_map e g x y]
    rfl
def bds (B : Nat) (r : List Rat) : Prop := ∀ x ∈ r, bd B x
theorem bds.mono {A B : Nat} {r : List Rat} (h : bds A r) (k : A ≤ B) : bds B r := fun x hx => (h x hx).mono k
def radd (a b : List Rat) (m : Rat) : List Rat := (a.zip b).map fun p => p.1 + p.2 * m
theorem radd_length {a b : List Rat} (h : a.length = b.length) (m : Rat) : (radd a b m).length = a.length := by simp [radd, h]
theorem bds_radd {A B C : Nat} {a b : List Rat} {m : Rat} (ha : bds A a) (hb : bds B b) (hm : bd C m) : bds (A + (B + C) + 1) (radd a b m) := by
  intro x hx
  obtain ⟨p, hp, rfl⟩ := List.mem_map.mp hx
  have := List.of_mem_zip hp
  exact bd_plus (ha _ this.1) (bd_times (hb _ this.2) hm)
theorem lenOk_of {n : Nat} (h : n ≤ 1000000) : lenOk n = true := decide_eq_true h
end Mf
set_option Elab.async false
set_option linter.all false
set_option maxRecDepth 100000
set_option maxHeartbeats 1000000
namespace Mf
open PySem L2
/-! ### rows reduced -/
def rows (l : List (List Rat)) : D := .lst (l.map row)
def rneg (r h : List Rat) (p : Nat) : List Rat := radd r h (r.getD p 0 * -1)
def redStep (st : List (List Rat) × List (List Rat)) (p : Nat) : List (List Rat) × List (List Rat) :=
  match st.2.filter (fun r => decide (r.getD p 0 ≠ 0)) with
  | [] => st
  | h :: _ => (st.1.map (fun r => rneg r (h.map (· / h.getD p 0)) p) ++ [h.map (· / h.getD p 0)], (st.2.erase h).map fun r => rneg r (h.map (· / h.getD p 0)) p)
def redQ (l : List (List Rat)) (n : Nat) : List (List Rat) × List (List Rat) := (List.range n).foldl redStep ([], l)
def RV (B W : Nat) (l : List (List Rat)) : Prop := ∀ r ∈ l, r.length = W ∧ bds B r
theorem ix_row {r : List Rat} {p : Nat} (h : p < r.length) : ixD (row r) (.int (p : Int)) = some (F (r.getD p 0)) := by
  show atI (r.map F) (p : Int) = _
  refine atI_nat ?_
  rw [List.getElem?_map, List.getElem?_eq_getElem h, List.getD_eq_getElem?_getD, List.getElem?_eq_getElem h]
  rfl
theorem items_lst (ds : List D) : itemsD (.lst ds) = some ds := rfl
theorem items_row (r : List Rat) : itemsD (row r) = some (r.map F) := rfl
theorem shs_rows (n : Nat) : ∀ l : List (List Rat), shs (n + 2) (l.map row) = true
  | [] => rfl
  | r :: l => by
    show ((row r).sh (n + 2) && shs (n + 2) (l.map row)) = true
    rw [sh_row, shs_rows n l]
    rfl
theorem eqD_nil (l : List (List Rat)) : eqD (.lst (l.map row)) (.lst []) = some l.isEmpty := by
  unfold eqD
  have h : (D.lst (l.map row)).sh 60 = true := shs_rows 57 l
  rw [h]
  cases l <;> rfl
theorem find_row (h : List Rat) : ∀ l : List (List Rat), (l.map row).findIdx? (fun z => deq z (row h)) = l.findIdx? (fun r => decide (r = h))
  | [] => rfl
  | r :: l => by
    rw [List.map_cons, List.findIdx?_cons, List.findIdx?_cons, deq_row, find_row h l]
theorem erase_row {h : List Rat} : ∀ {l : List (List Rat)}, h ∈ l → ∃ j, l.findIdx? (fun r => decide (r = h)) = some j ∧ (l.map row).eraseIdx j = (l.erase h).map row
  | r :: l, hm => by
    rw [List.findIdx?_cons]
    by_cases e : r = h
    · subst e
      exact ⟨0, by simp, by simp⟩
    · obtain ⟨j, h1, h2⟩ := erase_row (h := h) (l := l) (by rcases List.mem_cons.mp hm with z | z; exact absurd z.symm e; exact z)
      refine ⟨j + 1, by simp [e, h1], ?_⟩
      rw [List.erase_cons, if_neg (by simpa using e)]
      simp only [List.map_cons, List.eraseIdx_cons_succ, h2]
theorem F_neg1 : D.tup [.int (-1), .int 1] = F (-1) := rfl
theorem bd_neg1 : bd 1 (-1) := ⟨by decide, by decide⟩
theorem RV.mono {A B W : Nat} {l : List (List Rat)} (h : RV A W l) (k : A ≤ B) : RV B W l := fun r hr => ⟨(h r hr).1, (h r hr).2.mono k⟩
theorem getD_mem {r : List Rat} {p : Nat} (h : p < r.length) : r.getD p 0 ∈ r := by
  rw [List.getD_eq_getElem?_getD, List.getElem?_eq_getElem h]
  exact List.getElem_mem h
theorem head_bd {B W p : Nat} {h : List Rat} (hw : h.length = W) (hb : bds B h) (hp : p < W) (h0 : h.getD p 0 ≠ 0) : bds (B + B) (h.map (· / h.getD p 0)) := fun x hx => by
  obtain ⟨y, hy, rfl⟩ := List.mem_map.mp hx
  exact bd_over (hb y hy) (hb _ (getD_mem (by omega))) h0
theorem rneg_RV {B W p : Nat} {r h : List Rat} (hr : r.length = W) (hb : bds B r) (hw : h.length = W) (hh : bds (B + B) h) (hp : p < W) : (rneg r h p).length = W ∧ bds (4 * B + 2) (rneg r h p) := by
  refine ⟨by unfold rneg; rw [radd_length (by omega)]; exact hr, ?_⟩
  unfold rneg
  exact (bds_radd hb hh (bd_times (hb _ (getD_mem (by omega))) bd_neg1)).mono (by omega)
/-- what a step keeps -/
theorem redStep_inv {B W p : Nat} {st : List (List Rat) × List (List Rat)} (h1 : RV B W st.1) (h2 : RV B W st.2) (hp : p < W) :
    (redStep st p = st) ∨ (RV (4 * B + 2) W (redStep st p).1 ∧ RV (4 * B + 2) W (redStep st p).2 ∧ (redStep st p).2.length + 1 = st.2.length ∧ (redStep st p).1.length = st.1.length + 1) := by
  unfold redStep
  split
  · exact .inl rfl
  · rename_i h t hf
    right
    have hm : h ∈ st.2.filter (fun r => decide (r.getD p 0 ≠ 0)) := by rw [hf]; exact List.mem_cons_self
    obtain ⟨hm1, hm2⟩ := List.mem_filter.mp hm
    have h0 : h.getD p 0 ≠ 0 := of_decide_eq_true hm2
    obtain ⟨hw, hb⟩ := h2 h hm1
    have hh := head_bd hw hb hp h0
    have hwl : (h.map (· / h.getD p 0)).length = W := by rw [List.length_map]; exact hw
    refine ⟨fun r hr => ?_, fun r hr => ?_, ?_, by simp⟩
    · rcases List.mem_append.mp hr with hr | hr
      · obtain ⟨r', hr', rfl⟩ := List.mem_map.mp hr
        exact rneg_RV (h1 r' hr').1 (h1 r' hr').2 hwl hh hp
      · rw [List.mem_singleton.mp hr]
        exact ⟨hwl, hh.mono (by omega)⟩
    · obtain ⟨r', hr', rfl⟩ := List.mem_map.mp hr
      have := List.mem_of_mem_erase hr'
      exact rneg_RV (h2 r' this).1 (h2 r' this).2 hwl hh hp
    · rw [List.length_map, List.length_erase_of_mem hm1]
      have : 0 < st.2.length := List.length_pos_of_mem hm1
      omega
def bt (B : Nat) : Nat → Nat
  | 0 => B
  | j + 1 => 4 * bt B j + 2
end Mf
set_option Elab.async false
set_option linter.all false
set_option maxRecDepth 100000
set_option maxHeartbeats 1000000
namespace Mf
open PySem L2
/-! ### draws -/
def Tw (ns : List Int) (n : Nat) (s : List Int) : Prop := ∃ k rest, s = k :: rest ∧ 0 ≤ k ∧ k ≤ n ∧ rest.length = ns.length ∧ ns.length ≤ 63
theorem Tw.mono {ns s : List Int} {n m : Nat} (h : Tw ns n s) (k : n ≤ m) : Tw ns m s := by
  obtain ⟨a, b, c, d, e, f⟩ := h
  exact ⟨a, b, c, d, by omega, f⟩
theorem Tw.zero {ns : List Int} (h : ns.length ≤ 63) : Tw ns 0 (0 :: ns) := ⟨0, ns, rfl, Int.le_refl _, Int.le_refl _, rfl, h⟩
theorem draw_ok {p : Addr} {ns s : List Int} {n : Nat} {m : Int} (h : Tw ns n s) (hn : n < 100000000) (h0 : 0 < m) (h1 : m < 1000000) : ∃ d s', g_draw p [.scr ns, .adr p, .int m] s = .ok (.int d) s' ∧ 0 ≤ d ∧ d < m ∧ Tw ns (n + 1) s' := by
  obtain ⟨k, rest, rfl, hk0, hk1, hl, h63⟩ := h
  obtain ⟨rest', e, hl'⟩ := dr_len (ns := ns) (k := k) (rest := rest) (m := m)
  obtain ⟨d0, d1⟩ := dr_range (ns := ns) (k := k) (rest := rest) h0
  refine ⟨(dr ns k rest m).1, (dr ns k rest m).2, ?_, d0, d1, k + 1, rest', e, by omega, by omega, by omega, h63⟩
  show (if p = p ∧ 0 < m ∧ m < 1000000 ∧ 0 ≤ k ∧ k < 1000000000 ∧ rest.length = ns.length ∧ ns.length ≤ 63 then _ else _) = _
  rw [if_pos ⟨rfl, h0, h1, hk0, by omega, hl, h63⟩]
section
variable {S : Type}
theorem walkR_st {α : Type} {f : D → S → Res S (Option D)} {e : α → D} {P : List α → S → Prop} {G : D → Prop} (h : ∀ a l s, P (a :: l) s → ∃ d s', f (e a) s = .ok (some d) s' ∧ G d ∧ P l s') : ∀ l s, P l s → ∃ ds s', walkR f (l.map e) s = .ok ds s' ∧ ds.length = l.length ∧ (∀ d ∈ ds, G d) ∧ P [] s'
  | [], s, p => ⟨[], s, rfl, rfl, fun _ h => (nomatch h), p⟩
  | a :: l, s, p => by
    obtain ⟨d, s1, h1, h2, h3⟩ := h a l s p
    obtain ⟨ds, s2, h4, h5, h6, h7⟩ := walkR_st h l s1 h3
    refine ⟨d :: ds, s2, ?_, by simp [h5], fun x hx => ?_, h7⟩
    · show (f (e a) s).bind _ = _
      rw [h1]
      show (walkR f (l.map e) s1).bind _ = _
      rw [h4]
      rfl
    · rcases List.mem_cons.mp hx with z | z
      · rw [z]; exact h2
      · exact h6 x z
theorem ev_lc_st {α : Type} {it : CI S} {tg : Tg} {elt : CE S} {vs : List Nat} {ρ : List SV} {s : S} {l : List α} {e : α → D} {P : List α → S → Prop} {G : D → Prop} (hi : evI false it ρ s = .ok (l.map e) s) (hl : l.length ≤ 1000000) (hp : P l s)
    (hb : ∀ a l s, P (a :: l) s → ∃ ρ', asgT tg (e a) (wipeR ρ vs) = some ρ' ∧ ∃ d s', ev elt ρ' s = .ok (.v, d) s' ∧ G d ∧ P l s') : ∃ ds s', ev (.lc it tg .nil elt vs) ρ s = .ok (.t, .lst ds) s' ∧ ds.length = l.length ∧ (∀ d ∈ ds, G d) ∧ P [] s' := by
  obtain ⟨ds, s', h1, h2, h3, h4⟩ := walkR_st (f := fun d s => match asgT tg d (wipeR ρ vs) with
      | none => .er
      | some ρ' => (noEx (evT .nil ρ' s)).bind fun k s => if k then (noEx (ev elt ρ' s)).bind fun y s => (dat y s).bind fun e s => .ok (some e) s else .ok none s) (e := e) (P := P) (G := G) (fun a l s p => by
    obtain ⟨ρ', h1, d, s', h2, h3, h4⟩ := hb a l s p
    refine ⟨d, s', ?_, h3, h4⟩
    simp only [h1, evT, noExq, bindq_ok, if_true, h2, dat_v]) l s hp
  refine ⟨ds, s', ?_, h2, h3, h4⟩
  rw [ev, hi]
  simp only [bindq_ok, List.length_map, lenOk, decide_eq_true hl, Bool.not_true, Bool.false_eq_true, if_false]
  exact congrArg (fun r : Res S (List D) => r.bind fun r s => Res.ok (K3.t, D.lst r) s) h1
end
/-! ### names, tables -/
def nm (i : Nat) : Str := ⟨#[97 + i]⟩
theorem items_names : itemsD (.str "abcdef") = some ((List.range 6).map fun i => .str (nm i)) := by rfl
def ent (i : Nat) (m : List Rat) : D := .tup [.str (nm i), row m]
def ents (ms : List (List Rat)) : List D := (List.range ms.length).map fun i => ent i (ms.getD i [])
def tab (ms : List (List Rat)) : D := .tup (ents ms)
theorem ents_snoc (ms : List (List Rat)) (m : List Rat) : ents (ms ++ [m]) = ents ms ++ [ent ms.length m] := by
  unfold ents
  rw [List.length_append, List.length_singleton, List.range_succ, List.map_append]
  congr 1
  · refine List.map_congr_left fun i hi => ?_
    have := List.mem_range.mp hi
    simp [List.getElem?_append_left this]
  · simp
theorem any_F {ds : List D} {Q : Rat → Prop} (h : ∀ d ∈ ds, ∃ x, Q x ∧ d = F x) : ∃ xs : List Rat, ds = xs.map F ∧ ∀ x ∈ xs, Q x := by
  induction ds with
  | nil => exact ⟨[], rfl, fun _ h => (nomatch h)⟩
  | cons d ds ih =>
    obtain ⟨x, hx, rfl⟩ := h d List.mem_cons_self
    obtain ⟨xs, rfl, h2⟩ := ih fun z hz => h z (List.mem_cons_of_mem _ hz)
    exact ⟨x :: xs, rfl, fun z hz => by
      rcases List.mem_cons.mp hz with e | e
      · rw [e]; exact hx
      · exact h2 z e⟩
/-- small exponents -/
def sm (x : Rat) : Prop := x.num.natAbs ≤ 2 ∧ (x.den = 1 ∨ x.den = 2)
theorem sm.bd {x : Rat} (h : sm x) : bd 2 x := ⟨by have := h.1; omega, by rcases h.2 with e | e <;> rw [e] <;> decide⟩
structure Tab (ms : List (List Rat)) : Prop where
  six : ms.length = 6
  three : ∀ m ∈ ms, m.length = 3
  sm : ∀ m ∈ ms, ∀ x ∈ m, sm x
end Mf
namespace Mf
open PySem L2
/-! ### tables of any names -/
def tabl (l : List (Nat × List Rat)) : D := .tup (l.map fun q => ent q.1 q.2)
theorem tab_tabl (ms : List (List Rat)) : tab ms = tabl ((List.range ms.length).map fun i => (i, ms.getD i [])) := by
  unfold tab tabl ents
  rw [List.map_map]
  rfl
theorem isi_F (x : Rat) : isiD .tuple (F x) = some true := rfl
theorem isi_row (r : List Rat) : isiD .tuple (row r) = some true := rfl
theorem isi_ent (i : Nat) (r : List Rat) : isiD .tuple (ent i r) = some true := rfl
theorem isi_tabl (l : List (Nat × List Rat)) : isiD .tuple (tabl l) = some true := rfl
theorem isi_int (i : Int) : isiD .int (.int i) = some true := rfl
theorem isi_bool (i : Int) : isiD .bool (.int i) = some false := rfl
theorem isi_str (x : Str) : isiD .str (.str x) = some true := rfl
theorem len_F (x : Rat) : b1D .len (F x) = some (.v, .int 2) := rfl
theorem len_row (r : List Rat) : b1D .len (row r) = some (.v, .int r.length) := by
  show some (K3.v, D.int ((r.map F).length : Nat)) = _
  rw [List.length_map]
theorem len_ent (i : Nat) (r : List Rat) : b1D .len (ent i r) = some (.v, .int 2) := rfl
theorem len_tabl (l : List (Nat × List Rat)) : b1D .len (tabl l) = some (.v, .int l.length) := by
  show some (K3.v, D.int ((l.map fun q => ent q.1 q.2).length : Nat)) = _
  rw [List.length_map]
theorem len_nm (i : Nat) : b1D .len (.str (nm i)) = some (.v, .int 1) := rfl
theorem ix_ent0 (i : Nat) (r : List Rat) : ixD (ent i r) (.int 0) = some (.str (nm i)) := rfl
theorem ix_ent1 (i : Nat) (r : List Rat) : ixD (ent i r) (.int 1) = some (row r) := rfl
theorem in_names {i : Nat} (h : i < 6) : inD (.str (nm i)) (.str "abcdef") = some true := by
  have key : ∀ i ∈ List.range 6, (!(Builtin.Str.occurrences "abcdef" (nm i) 0 ("abcdef" : Str).length 1).isEmpty) = true := by decide +kernel
  exact congrArg some (key i (List.mem_range.mpr h))
theorem lt_nm (i j : Nat) : cmpD .lt (.str (nm i)) (.str (nm j)) = some (decide (i < j)) := by
  show some (decide ([97 + i] < [97 + j])) = _
  have : ([97 + i] < [97 + j]) ↔ i < j := by
    rw [List.cons_lt_cons_iff]
    constructor
    · rintro (h | ⟨_, h⟩)
      · omega
      · cases h
    · intro h; left; omega
  simp only [this]
theorem nm_inj {i j : Nat} (h : nm i = nm j) : i = j := by
  unfold nm at h
  injection h with h
  have := congrArg Array.toList h
  simp at this
  exact this
theorem eq_nm {i j : Nat} (hi : i < 6) (hj : j < 6) : eqD (.str (nm i)) (.str (nm j)) = some (decide (i = j)) := by
  have key : ∀ i ∈ List.range 6, okS (nm i) = true := by decide +kernel
  unfold eqD
  have a : (D.str (nm i)).sh 60 = true := key i (List.mem_range.mpr hi)
  have b : (D.str (nm j)).sh 60 = true := key j (List.mem_range.mpr hj)
  rw [a, b]
  show some (nm i == nm j) = _
  congr 1
  by_cases e : i = j
  · subst e; simp
  · rw [decide_eq_false e]
    exact beq_eq_false_iff_ne.mpr fun z => e (nm_inj z)
theorem ix_tabl {l : List (Nat × List Rat)} {k : Nat} (h : k < l.length) : ixD (tabl l) (.int (k : Int)) = some (ent l[k].1 l[k].2) := by
  show atI (l.map fun q => ent q.1 q.2) (k : Int) = _
  refine atI_nat ?_
  rw [List.getElem?_map, List.getElem?_eq_getElem h]
  rfl
/-- a table as in arguments -/
structure TabL (l : List (Nat × List Rat)) : Prop where
  nm : ∀ q ∈ l, q.1 < 6
  three : ∀ q ∈ l, q.2.length = 3
  fit : ∀ q ∈ l, ∀ x ∈ q.2, x.num.natAbs ≤ 1000000000000 ∧ x.den ≤ 1000000000000
  up : ∀ (k : Nat) (h : k + 1 < l.length), (l[k]'(by omega)).1 < l[k + 1].1
theorem TabL.len {l : List (Nat × List Rat)} (T : TabL l) : l.length ≤ 6 := by
  have key : ∀ (k : Nat) (h : k < l.length), k ≤ (l[k]).1 := by
    intro k
    induction k with
    | zero => intro h; exact Nat.zero_le _
    | succ k ih => intro h; have := ih (by omega); have := T.up k h; omega
  by_cases z : l.length = 0
  · omega
  · have h1 := key (l.length - 1) (by omega)
    have h2 := T.nm l[l.length - 1] (List.getElem_mem (by omega))
    omega
theorem Tab.tabL {ms : List (List Rat)} (T : Tab ms) : TabL ((List.range ms.length).map fun i => (i, ms.getD i [])) := by
  have hm : ∀ q ∈ (List.range ms.length).map (fun i => (i, ms.getD i [])), q.1 < 6 ∧ q.2 ∈ ms := by
    intro q hq
    obtain ⟨i, hi, rfl⟩ := List.mem_map.mp hq
    have hi := List.mem_range.mp hi
    refine ⟨by have := T.six; dsimp only; omega, ?_⟩
    dsimp only
    rw [List.getD_eq_getElem?_getD, List.getElem?_eq_getElem hi]
    exact List.getElem_mem hi
  refine ⟨fun q hq => (hm q hq).1, fun q hq => T.three _ (hm q hq).2, fun q hq x hx => ?_, fun k h => by simp⟩
  have := T.sm _ (hm q hq).2 x hx
  exact ⟨by have := this.1; omega, by rcases this.2 with e | e <;> omega⟩
end Mf
set_option Elab.async false
set_option linter.all false
set_option maxRecDepth 100000
set_option maxHeartbeats 1000000
namespace Mf
/-! ### sums, products of rows -/
def sumTo : Nat → (Nat → Rat) → Rat
  | 0, _ => 0
  | n + 1, f => sumTo n f + f n
theorem sumTo_add (n : Nat) (f g : Nat → Rat) : sumTo n (fun q => f q + g q) = sumTo n f + sumTo n g := by
  induction n with
  | zero => simp only [sumTo]; grind
  | succ n ih => simp only [sumTo, ih]; grind
theorem sumTo_mul (n : Nat) (f : Nat → Rat) (c : Rat) : sumTo n (fun q => f q * c) = sumTo n f * c := by
  induction n with
  | zero => simp [sumTo]
  | succ n ih => simp only [sumTo, ih]; grind
theorem sumTo_congr {n : Nat} {f g : Nat → Rat} (h : ∀ q < n, f q = g q) : sumTo n f = sumTo n g := by
  induction n with
  | zero => rfl
  | succ n ih => simp only [sumTo]; rw [ih fun q hq => h q (by omega), h n (by omega)]
theorem sumTo_zero {n : Nat} {f : Nat → Rat} (h : ∀ q < n, f q = 0) : sumTo n f = 0 := by
  rw [sumTo_congr (g := fun _ => 0) h]
  induction n with
  | zero => rfl
  | succ n ih => simp only [sumTo]; rw [ih fun q hq => h q (by omega)]; grind
theorem sumTo_one {n k : Nat} {f : Nat → Rat} (hk : k < n) (h : ∀ q < n, q ≠ k → f q = 0) : sumTo n f = f k := by
  induction n with
  | zero => omega
  | succ n ih =>
    simp only [sumTo]
    by_cases e : k = n
    · subst e
      rw [sumTo_zero fun q hq => h q (by omega) (by omega)]
      grind
    · rw [ih (by omega) fun q hq hne => h q (by omega) hne, h n (by omega) (fun z => e z.symm)]
      grind
theorem sumTo_two {n k j : Nat} {f : Nat → Rat} (hk : k < n) (hj : j < n) (hkj : k ≠ j) (h : ∀ q < n, q ≠ k → q ≠ j → f q = 0) : sumTo n f = f k + f j := by
  have e : sumTo n f = sumTo n (fun q => (if q = k then f k else 0) + (if q = j then f j else 0)) := sumTo_congr fun q hq => by
    by_cases e1 : q = k
    · subst e1; simp [hkj]; grind
    · by_cases e2 : q = j
      · subst e2; simp [e1]; grind
      · simp [e1, e2, h q hq e1 e2]; grind
  rw [e, sumTo_add, sumTo_one (k := k) hk (fun q _ z => by simp [z]), sumTo_one (k := j) hj (fun q _ z => by simp [z])]
  simp
def dot (n : Nat) (r : List Rat) (v : Nat → Rat) : Rat := sumTo n fun q => r.getD q 0 * v q
theorem radd_get {a b : List Rat} {m : Rat} {q : Nat} (h : a.length = b.length) : (radd a b m).getD q 0 = a.getD q 0 + b.getD q 0 * m := by
  unfold radd
  simp only [List.getD_eq_getElem?_getD, List.getElem?_map, List.getElem?_zip_eq_some, List.zip]
  by_cases hq : q < a.length
  · rw [List.getElem?_zipWith, List.getElem?_eq_getElem hq, List.getElem?_eq_getElem (show q < b.length by omega)]
    rfl
  · rw [List.getElem?_zipWith, List.getElem?_eq_none (by omega), List.getElem?_eq_none (by omega)]
    simp
    grind
theorem rneg_get {r h : List Rat} {p q : Nat} (hl : r.length = h.length) : (rneg r h p).getD q 0 = r.getD q 0 - h.getD q 0 * r.getD p 0 := by
  unfold rneg
  rw [radd_get hl]
  grind
theorem over_get {h : List Rat} {c : Rat} {q : Nat} : (h.map (· / c)).getD q 0 = h.getD q 0 / c := by
  simp only [List.getD_eq_getElem?_getD, List.getElem?_map]
  cases h[q]? with
  | none => simp; grind
  | some x => rfl
theorem dot_rneg {n : Nat} {r h : List Rat} {p : Nat} {v : Nat → Rat} (hl : r.length = h.length) : dot n (rneg r h p) v = dot n r v - dot n h v * r.getD p 0 := by
  unfold dot
  have e : sumTo n (fun q => (rneg r h p).getD q 0 * v q) = sumTo n (fun q => (r.getD q 0 * v q) + (h.getD q 0 * v q) * (- r.getD p 0)) := sumTo_congr fun q _ => by rw [rneg_get hl]; grind
  rw [e, sumTo_add, sumTo_mul]
  grind
theorem dot_over {n : Nat} {h : List Rat} {c : Rat} {v : Nat → Rat} (hc : c ≠ 0) : dot n (h.map (· / c)) v = dot n h v / c := by
  unfold dot
  have e : sumTo n (fun q => (h.map (· / c)).getD q 0 * v q) = sumTo n (fun q => (h.getD q 0 * v q) * (1 / c)) := sumTo_congr fun q _ => by rw [over_get]; grind
  rw [e, sumTo_mul]
  grind
/-! ### what reduced keeps -/
structure Hd (p : Nat) (ps : List (List Rat × Nat)) : Prop where
  lt : ∀ x ∈ ps, x.2 < p
  one : ∀ x ∈ ps, x.1.getD x.2 0 = 1
  ahead : ∀ x ∈ ps, ∀ q < x.2, x.1.getD q 0 = 0
  alone : ∀ x ∈ ps, ∀ y ∈ ps, y.2 ≠ x.2 → x.1.getD y.2 0 = 0
  up : ps.Pairwise fun x y => x.2 < y.2
structure RI (W : Nat) (l : List (List Rat)) (p : Nat) (st : List (List Rat) × List (List Rat)) : Prop where
  hd : ∃ ps : List (List Rat × Nat), st.1 = ps.map Prod.fst ∧ Hd p ps
  len : ∀ r ∈ st.1 ++ st.2, r.length = W
  left : ∀ r ∈ st.2, ∀ q < p, r.getD q 0 = 0
  same : ∀ v, (∀ r ∈ l, dot W r v = 0) ↔ ∀ r ∈ st.1 ++ st.2, dot W r v = 0
  cnt : st.1.length + st.2.length = l.length
theorem RI.step {W : Nat} {l : List (List Rat)} {p : Nat} {st : List (List Rat) × List (List Rat)} (I : RI W l p st) (hp : p < W) : RI W l (p + 1) (redStep st p) := by
  obtain ⟨⟨ps, hps, H⟩, hlen, hleft, hsame, hcnt⟩ := I
  unfold redStep
  split
  · rename_i hf
    refine ⟨⟨ps, hps, ⟨fun x hx => Nat.lt_succ_of_lt (H.lt x hx), H.one, H.ahead, H.alone, H.up⟩⟩, hlen, fun r hr q hq => ?_, hsame, hcnt⟩
    by_cases e : q = p
    · subst e
      have := List.filter_eq_nil_iff.mp hf r hr
      simpa using this
    · exact hleft r hr q (by omega)
  · rename_i h t hf
    have hm : h ∈ st.2.filter (fun r => decide (r.getD p 0 ≠ 0)) := by rw [hf]; exact List.mem_cons_self
    obtain ⟨hm1, hm2⟩ := List.mem_filter.mp hm
    have h0 : h.getD p 0 ≠ 0 := of_decide_eq_true hm2
    have hw : h.length = W := hlen h (List.mem_append_right _ hm1)
    have hwl : (h.map (· / h.getD p 0)).length = W := by rw [List.length_map]; exact hw
    have hh1 : (h.map (· / h.getD p 0)).getD p 0 = 1 := by rw [over_get]; grind
    have hh0 : ∀ q < p, (h.map (· / h.getD p 0)).getD q 0 = 0 := fun q hq => by rw [over_get, hleft h hm1 q hq]; grind
    have hl1 : ∀ r ∈ st.1, r.length = (h.map (· / h.getD p 0)).length := fun r hr => by rw [hwl]; exact hlen r (List.mem_append_left _ hr)
    have hl2 : ∀ r ∈ st.2.erase h, r.length = (h.map (· / h.getD p 0)).length := fun r hr => by rw [hwl]; exact hlen r (List.mem_append_right _ (List.mem_of_mem_erase hr))
    refine ⟨⟨ps.map (fun x => (rneg x.1 (h.map (· / h.getD p 0)) p, x.2)) ++ [(h.map (· / h.getD p 0), p)], ?_, ?_⟩, ?_, ?_, ?_, ?_⟩
    · dsimp only
      rw [hps, List.map_append, List.map_map, List.map_map]
      rfl
    · have mem1 : ∀ x ∈ ps, x.1.length = (h.map (· / h.getD p 0)).length := fun x hx => hl1 x.1 (by rw [hps]; exact List.mem_map.mpr ⟨x, hx, rfl⟩)
      have cases_ : ∀ z ∈ ps.map (fun x => (rneg x.1 (h.map (· / h.getD p 0)) p, x.2)) ++ [(h.map (· / h.getD p 0), p)], (∃ x ∈ ps, z = (rneg x.1 (h.map (· / h.getD p 0)) p, x.2)) ∨ z = (h.map (· / h.getD p 0), p) := fun z hz => by
        rcases List.mem_append.mp hz with hz | hz
        · obtain ⟨x, hx, rfl⟩ := List.mem_map.mp hz
          exact .inl ⟨x, hx, rfl⟩
        · exact .inr (List.mem_singleton.mp hz)
      refine ⟨fun z hz => ?_, fun z hz => ?_, fun z hz q hq => ?_, fun z hz y hy hne => ?_, ?_⟩
      · rcases cases_ z hz with ⟨x, hx, rfl⟩ | rfl
        · exact Nat.lt_succ_of_lt (H.lt x hx)
        · exact Nat.lt_succ_self p
      · rcases cases_ z hz with ⟨x, hx, rfl⟩ | rfl
        · dsimp only
          rw [rneg_get (mem1 x hx), hh0 _ (H.lt x hx), H.one x hx]
          grind
        · exact hh1
      · rcases cases_ z hz with ⟨x, hx, rfl⟩ | rfl
        · dsimp only at hq ⊢
          have := H.lt x hx
          rw [rneg_get (mem1 x hx), hh0 _ (by omega), H.ahead x hx q hq]
          grind
        · exact hh0 q hq
      · rcases cases_ z hz with ⟨x, hx, rfl⟩ | rfl
        · rcases cases_ y hy with ⟨w, hw', rfl⟩ | rfl
          · dsimp only at hne ⊢
            rw [rneg_get (mem1 x hx), hh0 _ (H.lt w hw'), H.alone x hx w hw' hne]
            grind
          · dsimp only at hne ⊢
            rw [rneg_get (mem1 x hx), hh1]
            grind
        · rcases cases_ y hy with ⟨w, hw', rfl⟩ | rfl
          · exact hh0 _ (H.lt w hw')
          · exact absurd rfl hne
      · refine List.pairwise_append.mpr ⟨?_, List.pairwise_singleton _ _, fun a ha b hb => ?_⟩
        · exact List.pairwise_map.mpr H.up
        · obtain ⟨x, hx, rfl⟩ := List.mem_map.mp ha
          rw [List.mem_singleton.mp hb]
          exact H.lt x hx
    · intro r hr
      dsimp only at hr
      rcases List.mem_append.mp hr with hr | hr
      · rcases List.mem_append.mp hr with hr | hr
        · obtain ⟨x, hx, rfl⟩ := List.mem_map.mp hr
          unfold rneg
          rw [radd_length (hl1 x hx)]
          exact hlen x (List.mem_append_left _ hx)
        · rw [List.mem_singleton.mp hr]; exact hwl
      · obtain ⟨x, hx, rfl⟩ := List.mem_map.mp hr
        unfold rneg
        rw [radd_length (hl2 x hx)]
        exact hlen x (List.mem_append_right _ (List.mem_of_mem_erase hx))
    · intro r hr q hq
      dsimp only at hr
      obtain ⟨x, hx, rfl⟩ := List.mem_map.mp hr
      rw [rneg_get (hl2 x hx)]
      by_cases e : q = p
      · subst e; rw [hh1]; grind
      · rw [hh0 q (by omega), hleft x (List.mem_of_mem_erase hx) q (by omega)]; grind
    · intro v
      rw [hsame v]
      have dh : dot W (h.map (· / h.getD p 0)) v = dot W h v / h.getD p 0 := dot_over h0
      constructor
      · intro hv r hr
        dsimp only at hr
        have hz : dot W (h.map (· / h.getD p 0)) v = 0 := by rw [dh, hv h (List.mem_append_right _ hm1)]; grind
        rcases List.mem_append.mp hr with hr | hr
        · rcases List.mem_append.mp hr with hr | hr
          · obtain ⟨x, hx, rfl⟩ := List.mem_map.mp hr
            rw [dot_rneg (hl1 x hx), hz, hv x (List.mem_append_left _ hx)]; grind
          · rw [List.mem_singleton.mp hr]; exact hz
        · obtain ⟨x, hx, rfl⟩ := List.mem_map.mp hr
          rw [dot_rneg (hl2 x hx), hz, hv x (List.mem_append_right _ (List.mem_of_mem_erase hx))]; grind
      · intro hv r hr
        dsimp only at hv
        have hz : dot W (h.map (· / h.getD p 0)) v = 0 := hv _ (List.mem_append_left _ (List.mem_append_right _ (List.mem_singleton.mpr rfl)))
        have hh : dot W h v = 0 := by rw [dh] at hz; grind
        rcases List.mem_append.mp hr with hr | hr
        · have := hv _ (List.mem_append_left _ (List.mem_append_left _ (List.mem_map.mpr ⟨r, hr, rfl⟩)))
          rw [dot_rneg (hl1 r hr), hz] at this
          grind
        · by_cases e : r = h
          · rw [e]; exact hh
          · have hr' : r ∈ st.2.erase h := (List.mem_erase_of_ne e).mpr hr
            have := hv _ (List.mem_append_right _ (List.mem_map.mpr ⟨r, hr', rfl⟩))
            rw [dot_rneg (hl2 r hr'), hz] at this
            grind
    · dsimp only
      rw [List.length_append, List.length_map, List.length_map, List.length_singleton, List.length_erase_of_mem hm1]
      have : 0 < st.2.length := List.length_pos_of_mem hm1
      omega
theorem redQ_inv {W n : Nat} {l : List (List Rat)} (hl : ∀ r ∈ l, r.length = W) (hn : n ≤ W) : RI W l n (redQ l n) := by
  unfold redQ
  induction n with
  | zero => exact ⟨⟨[], rfl, ⟨fun _ h => (nomatch h), fun _ h => (nomatch h), fun _ h => (nomatch h), fun _ h => (nomatch h), .nil⟩⟩, hl, fun _ _ q hq => by omega, fun v => Iff.rfl, by simp⟩
  | succ n ih =>
    rw [List.range_succ, List.foldl_append]
    exact (ih (by omega)).step (by omega)
end Mf
set_option Elab.async false
set_option linter.all false
set_option maxRecDepth 100000
set_option maxHeartbeats 1000000
namespace Mf
open PySem L2
/-! ### dicts by names -/
def kv (g : Nat → D) (L : List Nat) : List (Str × D) := L.map fun j => (nm j, g j)
theorem look_kv (g : Nat → D) {j : Nat} : ∀ {L : List Nat}, j ∈ L → lookD (nm j) (kv g L) = some (g j)
  | k :: L, h => by
    show (if nm k = nm j then some (g k) else lookD (nm j) (kv g L)) = _
    by_cases e : k = j
    · subst e; rw [if_pos rfl]
    · rw [if_neg fun z => e (nm_inj z)]
      exact look_kv g (by rcases List.mem_cons.mp h with z | z; exact absurd z.symm e; exact z)
theorem put_new {es : List (Str × D)} {k : Str} {v : D} (h : ∀ x ∈ es, x.1 ≠ k) : putD es k v = es ++ [(k, v)] := by
  unfold putD
  rw [if_neg]
  intro z
  obtain ⟨x, hx, e⟩ := List.any_eq_true.mp z
  exact h x hx (of_decide_eq_true e)
theorem dict_fold (g : Nat → D) : ∀ (L A : List Nat), (A ++ L).Nodup → (kv g L).foldl (fun acc x => putD acc x.1 x.2) (kv g A) = kv g (A ++ L)
  | [], A, _ => by rw [List.append_nil]; rfl
  | k :: L, A, h => by
    show (kv g L).foldl _ (putD (kv g A) (nm k) (g k)) = _
    have hk : k ∉ A := fun z => by
      rw [List.nodup_append] at h
      exact h.2.2 k z k List.mem_cons_self rfl
    rw [put_new (fun x hx => by
      obtain ⟨j, hj, rfl⟩ := List.mem_map.mp hx
      exact fun z => hk (by rw [← nm_inj z]; exact hj))]
    have e : kv g A ++ [(nm k, g k)] = kv g (A ++ [k]) := by simp [kv]
    rw [e, dict_fold g L (A ++ [k]) (by simpa using h)]
    simp
theorem dict_kv (g : Nat → D) {L : List Nat} (h : L.Nodup) : dictD (kv g L) = kv g L := by
  have := dict_fold g L [] (by simpa using h)
  simpa [dictD, kv] using this
theorem pairs_kv (g : Nat → D) : ∀ L : List Nat, pairsD (L.map fun j => .tup [.str (nm j), g j]) = some (kv g L)
  | [] => rfl
  | j :: L => by
    show (pairsD (L.map fun j => .tup [.str (nm j), g j])).map _ = _
    rw [pairs_kv g L]
    rfl
theorem put_kv (g : Nat → D) {j0 : Nat} {L : List Nat} (h : j0 ∈ L) (v : D) : putD (kv g L) (nm j0) v = kv (fun j => if j = j0 then v else g j) L := by
  have ha : ((kv g L).any fun kv => decide (kv.1 = nm j0)) = true := List.any_eq_true.mpr ⟨(nm j0, g j0), List.mem_map.mpr ⟨j0, h, rfl⟩, by simp⟩
  unfold putD
  rw [if_pos ha]
  unfold kv
  rw [List.map_map]
  refine List.map_congr_left fun j _ => ?_
  by_cases e : j = j0
  · subst e; simp
  · have : ¬ nm j = nm j0 := fun z => e (nm_inj z)
    simp [this, e]
theorem b1_dict_tab (ms : List (List Rat)) : b1D .dict (tab ms) = some (.t, .dct (kv (fun j => row (ms.getD j [])) (List.range ms.length))) := by
  show (pairsD ((List.range ms.length).map fun j => .tup [.str (nm j), row (ms.getD j [])])).map _ = _
  rw [pairs_kv (fun j => row (ms.getD j []))]
  show some (K3.t, D.dct (dictD (kv (fun j => row (ms.getD j [])) (List.range ms.length)))) = _
  rw [dict_kv _ List.nodup_range]
theorem b1_dict_lst (g : Nat → D) {L : List Nat} (h : L.Nodup) : b1D .dict (.lst (L.map fun j => .tup [.str (nm j), g j])) = some (.t, .dct (kv g L)) := by
  show (pairsD (L.map fun j => .tup [.str (nm j), g j])).map _ = _
  rw [pairs_kv]
  show some (K3.t, D.dct (dictD (kv g L))) = _
  rw [dict_kv _ h]
theorem ix_dctq (es : List (Str × D)) (k : Str) : ixD (.dct es) (.str k) = lookD k es := rfl
theorem bools_map {α : Type} (t : α → Bool) : ∀ l : List α, boolsD (l.map fun a => .bl (t a)) = some (l.map t)
  | [] => rfl
  | a :: l => by
    show (boolsD (l.map fun a => .bl (t a))).map _ = _
    rw [bools_map t l]
    rfl
theorem any_map {α : Type} (t : α → Bool) (l : List α) : b1D .any (.lst (l.map fun a => .bl (t a))) = some (.v, .bl (l.any t)) := by
  show (boolsD (l.map fun a => .bl (t a))).map _ = _
  rw [bools_map]
  simp
theorem all_map {α : Type} (t : α → Bool) (l : List α) : b1D .all (.lst (l.map fun a => .bl (t a))) = some (.v, .bl (l.all t)) := by
  show (boolsD (l.map fun a => .bl (t a))).map _ = _
  rw [bools_map]
  simp
/-! ### the matrix of a name -/
def oth (i : Nat) : List Nat := (List.range 6).filter fun j => !decide (j = i)
theorem oth_len : ∀ {i : Nat}, i < 6 → (oth i).length = 5 := by
  have key : ∀ i ∈ List.range 6, (oth i).length = 5 := by decide +kernel
  intro i h
  exact key i (List.mem_range.mpr h)
theorem oth_lt {i j : Nat} (h : j ∈ oth i) : j < 6 ∧ j ≠ i := by
  have := List.mem_filter.mp h
  exact ⟨List.mem_range.mp this.1, by simpa using this.2⟩
theorem oth_nd (i : Nat) : (oth i).Nodup := List.nodup_range.filter _
def mget (ms : List (List Rat)) (j pl : Nat) : Rat := (ms.getD j []).getD pl 0
def mrow (ms : List (List Rat)) (i pl : Nat) : List Rat := (oth i).map (fun j => mget ms j pl) ++ [mget ms i pl]
def mat (ms : List (List Rat)) (i : Nat) : List (List Rat) := (List.range 3).map (mrow ms i)
theorem Tab.get {ms : List (List Rat)} (T : Tab ms) {j : Nat} (h : j < 6) : ms.getD j [] ∈ ms := by
  rw [List.getD_eq_getElem?_getD, List.getElem?_eq_getElem (by rw [T.six]; exact h)]
  exact List.getElem_mem _
theorem Tab.mget {ms : List (List Rat)} (T : Tab ms) {j pl : Nat} (h : j < 6) (hp : pl < 3) : Mf.sm (Mf.mget ms j pl) := by
  have := T.get h
  exact T.sm _ this _ (getD_mem (by rw [T.three _ this]; exact hp))
theorem mrow_RV {ms : List (List Rat)} (T : Tab ms) {i : Nat} (hi : i < 6) : RV 2 6 (mat ms i) := by
  intro r hr
  obtain ⟨pl, hpl, rfl⟩ := List.mem_map.mp hr
  have hpl := List.mem_range.mp hpl
  refine ⟨by unfold mrow; rw [List.length_append, List.length_map, oth_len hi]; rfl, fun x hx => ?_⟩
  rcases List.mem_append.mp hx with hx | hx
  · obtain ⟨j, hj, rfl⟩ := List.mem_map.mp hx
    exact (T.mget (oth_lt hj).1 hpl).bd
  · rw [List.mem_singleton.mp hx]
    exact (T.mget hi hpl).bd
def cupd (i : Nat) (c : Nat → Rat) (x : List Rat × Nat) : Nat → Rat := fun j => if j = (oth i).getD x.2 0 then x.1.getD 5 0 else c j
def cfin (i : Nat) (ps : List (List Rat × Nat)) : Nat → Rat := ps.foldl (cupd i) fun _ => 0
theorem first_head {x : List Rat × Nat} {n : Nat} (h1 : x.1.getD x.2 0 = 1) (h2 : ∀ q < x.2, x.1.getD q 0 = 0) (h3 : x.2 < n) : ∃ t, (List.range n).filter (fun p => decide (x.1.getD p 0 ≠ 0)) = x.2 :: t := by
  have e : List.range n = List.range x.2 ++ (x.2 :: (List.range' (x.2 + 1) (n - x.2 - 1))) := by
    have : n = x.2 + (n - x.2 - 1 + 1) := by omega
    rw [List.range_eq_range', List.range_eq_range', ← List.range'_succ]
    have h := List.range'_append_1 (s := 0) (m := x.2) (n := n - x.2 - 1 + 1)
    rw [Nat.zero_add] at h
    rw [h, ← this]
  rw [e, List.filter_append, List.filter_cons, if_pos (by rw [h1]; decide)]
  have : (List.range x.2).filter (fun p => decide (x.1.getD p 0 ≠ 0)) = [] := List.filter_eq_nil_iff.mpr fun p hp => by
    have := h2 p (List.mem_range.mp hp)
    simpa using this
  rw [this]
  exact ⟨_, rfl⟩
end Mf
set_option Elab.async false
set_option linter.all false
set_option maxRecDepth 100000
set_option maxHeartbeats 1000000
namespace Mf
/-! ### the law's rank -/
def elim (h : List Int) (p : Nat) (r : List Int) : List Int := (r.zip h).map fun z => z.1 * h.getD p 0 - z.2 * r.getD p 0
def rk : Nat → Nat → List (List Int) → Nat
  | 0, _, _ => 0
  | n + 1, p, l => match l.filter (fun r => decide (r.getD p 0 ≠ 0)) with
    | [] => rk n (p + 1) l
    | h :: _ => rk n (p + 1) ((l.erase h).map (elim h p)) + 1
theorem elim_get {h r : List Int} {p q : Nat} (hl : r.length = h.length) : (elim h p r).getD q 0 = r.getD q 0 * h.getD p 0 - h.getD q 0 * r.getD p 0 := by
  unfold elim
  simp only [List.getD_eq_getElem?_getD, List.getElem?_map, List.zip]
  by_cases hq : q < r.length
  · rw [List.getElem?_zipWith, List.getElem?_eq_getElem hq, List.getElem?_eq_getElem (show q < h.length by omega)]
    rfl
  · rw [List.getElem?_zipWith, List.getElem?_eq_none (l := r) (i := q) (by omega), List.getElem?_eq_none (l := h) (i := q) (by omega)]
    simp
theorem elim_len {h r : List Int} {p : Nat} (hl : r.length = h.length) : (elim h p r).length = r.length := by simp [elim, hl]
/-- v is a sum of multiples of the rows -/
def InS (W : Nat) : List (List Int) → (Nat → Rat) → Prop
  | [], v => ∀ q < W, v q = 0
  | x :: L, v => ∃ c : Rat, InS W L fun q => v q - c * (x.getD q 0 : Int)
theorem InS.zero {W : Nat} : ∀ {L : List (List Int)} {v : Nat → Rat}, (∀ q < W, v q = 0) → InS W L v
  | [], _, h => h
  | x :: L, v, h => ⟨0, InS.zero fun q hq => by rw [h q hq]; grind⟩
theorem InS.congr {W : Nat} : ∀ {L : List (List Int)} {v w : Nat → Rat}, (∀ q, v q = w q) → InS W L v → InS W L w := by
  intro L v w h z
  have : v = w := funext h
  exact this ▸ z
theorem InS.at {W p : Nat} (hp : p < W) : ∀ {L : List (List Int)} {v : Nat → Rat}, (∀ x ∈ L, x.getD p 0 = 0) → InS W L v → v p = 0
  | [], v, _, h => h p hp
  | x :: L, v, hz, ⟨c, h⟩ => by
    have := InS.at hp (fun y hy => hz y (List.mem_cons_of_mem _ hy)) h
    rw [hz x List.mem_cons_self] at this
    grind
theorem InS.erase {W : Nat} {h : List Int} : ∀ {L : List (List Int)} {v : Nat → Rat}, h ∈ L → (InS W L v ↔ ∃ c : Rat, InS W (L.erase h) fun q => v q - c * (h.getD q 0 : Int))
  | x :: L, v, hm => by
    by_cases e : x = h
    · subst e
      rw [List.erase_cons_head]
      exact Iff.rfl
    · have hm' : h ∈ L := by rcases List.mem_cons.mp hm with z | z; exact absurd z.symm e; exact z
      rw [List.erase_cons_tail (by simpa using e)]
      constructor
      · rintro ⟨c, z⟩
        obtain ⟨d, z⟩ := (InS.erase hm').mp z
        exact ⟨d, c, z.congr fun q => by grind⟩
      · rintro ⟨d, c, z⟩
        exact ⟨c, (InS.erase hm').mpr ⟨d, z.congr fun q => by grind⟩⟩
theorem InS.elim {W p : Nat} {h : List Int} (hp : p < W) (h0 : h.getD p 0 ≠ 0) : ∀ {M : List (List Int)} {v : Nat → Rat}, (∀ x ∈ M, x.length = h.length) →
    (InS W (M.map (elim h p)) (fun q => v q * (h.getD p 0 : Int) - (h.getD q 0 : Int) * v p) ↔ ∃ c : Rat, InS W M fun q => v q - c * (h.getD q 0 : Int))
  | [], v, _ => by
    have ha : ((h.getD p 0 : Int) : Rat) ≠ 0 := by exact_mod_cast h0
    constructor
    · intro z
      refine ⟨v p / (h.getD p 0 : Int), fun q hq => ?_⟩
      have := z q hq
      grind
    · rintro ⟨c, z⟩ q hq
      have z1 := z q hq
      have z2 := z p hp
      grind
  | x :: M, v, hl => by
    have hl' := fun y hy => hl y (List.mem_cons_of_mem _ hy)
    have hx := hl x List.mem_cons_self
    have key : ∀ d : Rat, (InS W (M.map (Mf.elim h p)) (fun q => (v q * (h.getD p 0 : Int) - (h.getD q 0 : Int) * v p) - d * ((Mf.elim h p x).getD q 0 : Int)) ↔ ∃ c : Rat, InS W M fun q => (v q - d * (x.getD q 0 : Int)) - c * (h.getD q 0 : Int)) := fun d => by
      have ih := InS.elim (W := W) hp h0 (M := M) (v := fun q => v q - d * (x.getD q 0 : Int)) hl'
      have e : (fun q => (v q * (h.getD p 0 : Int) - (h.getD q 0 : Int) * v p) - d * ((Mf.elim h p x).getD q 0 : Int)) = (fun q => (v q - d * (x.getD q 0 : Int)) * (h.getD p 0 : Int) - (h.getD q 0 : Int) * (v p - d * (x.getD p 0 : Int))) := by
        funext q
        rw [elim_get hx]
        push_cast
        grind
      rw [e]
      exact ih
    constructor
    · rintro ⟨d, z⟩
      obtain ⟨c, z⟩ := (key d).mp z
      exact ⟨c, d, z.congr fun q => by grind⟩
    · rintro ⟨c, d, z⟩
      exact ⟨d, (key d).mpr ⟨c, z.congr fun q => by grind⟩⟩
/-- rows by rows, nonzero multiples -/
inductive Sc : List (List Int) → List (List Int) → Prop
  | nil : Sc [] []
  | cons {x y : List Int} {l m : List (List Int)} {c : Int} : c ≠ 0 → x.length = y.length → (∀ q, y.getD q 0 = c * x.getD q 0) → Sc l m → Sc (x :: l) (y :: m)
theorem split_at (p : Nat) : ∀ l : List (List Int), (∀ x ∈ l, x.getD p 0 = 0) ∨ ∃ A h B, l = A ++ h :: B ∧ (∀ x ∈ A, x.getD p 0 = 0) ∧ h.getD p 0 ≠ 0
  | [] => .inl fun _ h => (nomatch h)
  | x :: l => by
    by_cases e : x.getD p 0 = 0
    · rcases split_at p l with h | ⟨A, h, B, rfl, h1, h2⟩
      · refine .inl fun y hy => ?_
        rcases List.mem_cons.mp hy with z | z
        · rw [z]; exact e
        · exact h y z
      · refine .inr ⟨x :: A, h, B, rfl, fun y hy => ?_, h2⟩
        rcases List.mem_cons.mp hy with z | z
        · rw [z]; exact e
        · exact h1 y z
    · exact .inr ⟨[], x, l, rfl, fun _ h => (nomatch h), e⟩
theorem rk_none {n p : Nat} {l : List (List Int)} (h : ∀ x ∈ l, x.getD p 0 = 0) : rk (n + 1) p l = rk n (p + 1) l := by
  have : l.filter (fun r => decide (r.getD p 0 ≠ 0)) = [] := List.filter_eq_nil_iff.mpr fun x hx => by have := h x hx; simpa using this
  rw [rk, this]
theorem rk_some {n p : Nat} {A B : List (List Int)} {h : List Int} (hA : ∀ x ∈ A, x.getD p 0 = 0) (h0 : h.getD p 0 ≠ 0) : rk (n + 1) p (A ++ h :: B) = rk n (p + 1) ((A ++ B).map (elim h p)) + 1 := by
  have e1 : (A ++ h :: B).filter (fun r => decide (r.getD p 0 ≠ 0)) = h :: B.filter (fun r => decide (r.getD p 0 ≠ 0)) := by
    rw [List.filter_append, List.filter_eq_nil_iff.mpr (fun x hx => by have := hA x hx; simpa using this), List.filter_cons, if_pos (decide_eq_true h0), List.nil_append]
  have e2 : (A ++ h :: B).erase h = A ++ B := by
    rw [List.erase_append_right _ fun z => h0 (hA h z), List.erase_cons_head]
  rw [rk, e1]
  dsimp only
  rw [e2]
theorem Sc.split {h : List Int} : ∀ {A B m : List (List Int)}, Sc (A ++ h :: B) m → ∃ A' h' B' c, m = A' ++ h' :: B' ∧ Sc A A' ∧ Sc B B' ∧ c ≠ 0 ∧ h.length = h'.length ∧ ∀ q, h'.getD q 0 = c * h.getD q 0
  | [], B, _, .cons (c := c) h1 h2 h3 h4 => ⟨[], _, _, c, rfl, .nil, h4, h1, h2, h3⟩
  | x :: A, B, _, .cons (y := y) h1 h2 h3 h4 => by
    obtain ⟨A', h', B', c, rfl, a, b, d, e, f⟩ := Sc.split h4
    exact ⟨y :: A', h', B', c, rfl, .cons h1 h2 h3 a, b, d, e, f⟩
theorem Sc.append : ∀ {A A' B B' : List (List Int)}, Sc A A' → Sc B B' → Sc (A ++ B) (A' ++ B')
  | _, _, _, _, .nil, h => h
  | _, _, _, _, .cons a b c d, h => .cons a b c (Sc.append d h)
theorem Sc.zero {p : Nat} : ∀ {A A' : List (List Int)}, Sc A A' → (∀ x ∈ A, x.getD p 0 = 0) → ∀ x ∈ A', x.getD p 0 = 0
  | _, _, .nil, _, x, hx => (nomatch hx)
  | _, _, .cons (c := c) h1 h2 h3 h4, hz, x, hx => by
    rcases List.mem_cons.mp hx with e | e
    · rw [e, h3, hz _ List.mem_cons_self]; simp
    · exact Sc.zero h4 (fun y hy => hz y (List.mem_cons_of_mem _ hy)) x e
theorem Sc.elim {h h' : List Int} {p : Nat} {c : Int} (hc : c ≠ 0) (hl : h.length = h'.length) (hh : ∀ q, h'.getD q 0 = c * h.getD q 0) : ∀ {A A' : List (List Int)}, Sc A A' → (∀ x ∈ A, x.length = h.length) → Sc (A.map (Mf.elim h p)) (A'.map (Mf.elim h' p))
  | _, _, .nil, _ => .nil
  | _, _, .cons (x := x) (y := y) (c := d) h1 h2 h3 h4, hx => by
    have hx0 := hx x List.mem_cons_self
    refine .cons (c := c * d) (Int.mul_ne_zero hc h1) ?_ (fun q => ?_) (Sc.elim hc hl hh h4 fun z hz => hx z (List.mem_cons_of_mem _ hz))
    · rw [elim_len hx0, elim_len (by omega)]; exact h2
    · rw [elim_get hx0, elim_get (by omega), hh, hh, h3, h3]
      grind
theorem Sc.len {W : Nat} : ∀ {A A' : List (List Int)}, Sc A A' → (∀ x ∈ A, x.length = W) → ∀ x ∈ A', x.length = W
  | _, _, .nil, _, x, hx => (nomatch hx)
  | _, _, .cons h1 h2 h3 h4, hz, x, hx => by
    rcases List.mem_cons.mp hx with e | e
    · rw [e, ← h2]; exact hz _ List.mem_cons_self
    · exact Sc.len h4 (fun y hy => hz y (List.mem_cons_of_mem _ hy)) x e
theorem Sc.rk {W : Nat} : ∀ (n p : Nat) {l m : List (List Int)}, Sc l m → (∀ x ∈ l, x.length = W) → Mf.rk n p l = Mf.rk n p m
  | 0, _, _, _, _, _ => rfl
  | n + 1, p, l, m, s, hl => by
    rcases split_at p l with h | ⟨A, h, B, rfl, h1, h2⟩
    · rw [rk_none h, rk_none (s.zero h)]
      exact Sc.rk n (p + 1) s hl
    · obtain ⟨A', h', B', c, rfl, a, b, d, e, f⟩ := s.split
      have hh : h.length = W := hl h (by simp)
      have hAB : ∀ x ∈ A ++ B, x.length = W := fun x hx => hl x (by rcases List.mem_append.mp hx with z | z <;> simp [z])
      rw [rk_some h1 h2, rk_some (a.zero h1) (by rw [f]; exact Int.mul_ne_zero d h2)]
      congr 1
      refine Sc.rk (W := W) n (p + 1) ((a.append b).elim d e f fun x hx => by rw [hAB x hx, hh]) fun x hx => ?_
      obtain ⟨y, hy, rfl⟩ := List.mem_map.mp hx
      rw [elim_len (by rw [hAB y hy, hh]), hAB y hy]
/-- the rank stays exactly if the row is a sum of multiples -/
theorem rk_iff {W : Nat} : ∀ (n p : Nat) {L : List (List Int)} {r : List Int}, n + p = W → (∀ x ∈ L, x.length = W) → r.length = W → (∀ x ∈ L, ∀ q < p, x.getD q 0 = 0) → (∀ q < p, r.getD q 0 = 0) → (rk n p (L ++ [r]) = rk n p L ↔ InS W L fun q => (r.getD q 0 : Int))
  | 0, p, L, r, hn, hL, hr, zL, zr => by
    refine ⟨fun _ => InS.zero fun q hq => ?_, fun _ => rfl⟩
    rw [zr q (by omega)]
    rfl
  | n + 1, p, L, r, hn, hL, hr, zL, zr => by
    have hp : p < W := by omega
    rcases split_at p L with h | ⟨A, h, B, rfl, h1, h2⟩
    · by_cases e : r.getD p 0 = 0
      · rw [rk_none h, rk_none (l := L ++ [r]) (fun x hx => by
          rcases List.mem_append.mp hx with z | z
          · exact h x z
          · rw [List.mem_singleton.mp z]; exact e)]
        refine rk_iff n (p + 1) (by omega) hL hr (fun x hx q hq => ?_) (fun q hq => ?_)
        · by_cases z : q = p
          · rw [z]; exact h x hx
          · exact zL x hx q (by omega)
        · by_cases z : q = p
          · rw [z]; exact e
          · exact zr q (by omega)
      · have sc : ∀ (M : List (List Int)), (∀ x ∈ M, x.length = W) → (∀ x ∈ M, x.getD p 0 = 0) → Sc M (M.map (elim r p)) := fun M => by
          induction M with
          | nil => intro _ _; exact .nil
          | cons x M ih =>
            intro a b
            have hx := a x List.mem_cons_self
            refine .cons (c := r.getD p 0) e (by rw [elim_len (by omega)]) (fun q => ?_) (ih (fun y hy => a y (List.mem_cons_of_mem _ hy)) fun y hy => b y (List.mem_cons_of_mem _ hy))
            rw [elim_get (by omega), b x List.mem_cons_self]
            grind
        have e1 : rk (n + 1) p (L ++ [r]) = rk n (p + 1) L + 1 := by
          rw [rk_some h e, List.append_nil, ← Sc.rk n (p + 1) (sc L hL h) hL]
        rw [e1, rk_none h]
        refine ⟨fun z => by omega, fun z => ?_⟩
        have := InS.at hp h z
        exact absurd (by exact_mod_cast this) e
    · have hh : h.length = W := hL h (by simp)
      have hAB : ∀ x ∈ A ++ B, x ∈ A ++ h :: B := fun x hx => by rcases List.mem_append.mp hx with z | z <;> simp [z]
      have hABl : ∀ x ∈ A ++ B, x.length = W := fun x hx => hL x (hAB x hx)
      have e1 : A ++ h :: B ++ [r] = A ++ h :: (B ++ [r]) := by simp
      rw [e1, rk_some h1 h2, rk_some h1 h2, ← List.append_assoc, List.map_append, List.map_cons, List.map_nil]
      have hz : ∀ (x : List Int), x.length = W → (∀ q < p, x.getD q 0 = 0) → ∀ q < p + 1, (elim h p x).getD q 0 = 0 := fun x hx z q hq => by
        rw [elim_get (by omega)]
        by_cases e : q = p
        · subst e; grind
        · have hq' : q < p := by omega
          rw [z q hq', zL h (by simp) q hq']; simp
      have ih := rk_iff (W := W) n (p + 1) (L := (A ++ B).map (elim h p)) (r := elim h p r) (by omega) (fun x hx => by
        obtain ⟨y, hy, rfl⟩ := List.mem_map.mp hx
        rw [elim_len (by rw [hABl y hy, hh]), hABl y hy]) (by rw [elim_len (by omega)]; exact hr) (fun x hx q hq => by
        obtain ⟨y, hy, rfl⟩ := List.mem_map.mp hx
        exact hz y (hABl y hy) (zL y (hAB y hy)) q hq) (hz r hr zr)
      have ie := InS.erase (W := W) (h := h) (L := A ++ h :: B) (v := fun q => (r.getD q 0 : Int)) (by simp)
      have e2 : (A ++ h :: B).erase h = A ++ B := by rw [List.erase_append_right _ fun z => h2 (h1 h z), List.erase_cons_head]
      rw [e2] at ie
      have el := InS.elim (W := W) hp h2 (M := A ++ B) (v := fun q => (r.getD q 0 : Int)) (fun x hx => by rw [hABl x hx, hh])
      have e3 : (fun q => ((elim h p r).getD q 0 : Rat)) = fun q => ((r.getD q 0 : Int) : Rat) * (h.getD p 0 : Int) - (h.getD q 0 : Int) * ((r.getD p 0 : Int) : Rat) := by
        funext q
        rw [elim_get (by omega)]
        push_cast
        rfl
      rw [e3] at ih
      rw [ie, ← el, ← ih]
      omega
end Mf
set_option Elab.async false
set_option linter.all false
set_option maxRecDepth 100000
set_option maxHeartbeats 1000000
namespace Mf
theorem sumTo_front (n : Nat) (f : Nat → Rat) : sumTo (n + 1) f = f 0 + sumTo n fun k => f (k + 1) := by
  induction n with
  | zero => simp only [sumTo]; grind
  | succ n ih => rw [sumTo, ih]; simp only [sumTo]; grind
theorem InS.coef {W : Nat} : ∀ {L : List (List Int)} {v : Nat → Rat}, InS W L v ↔ ∃ a : Nat → Rat, ∀ q < W, v q = sumTo L.length fun k => a k * ((L.getD k []).getD q 0 : Int)
  | [], v => ⟨fun h => ⟨fun _ => 0, h⟩, fun ⟨a, h⟩ => h⟩
  | x :: L, v => by
    constructor
    · rintro ⟨c, z⟩
      obtain ⟨a, ha⟩ := InS.coef.mp z
      refine ⟨fun k => match k with | 0 => c | k + 1 => a k, fun q hq => ?_⟩
      rw [List.length_cons, sumTo_front]
      have := ha q hq
      simp only [List.getD_cons_zero, List.getD_cons_succ]
      grind
    · rintro ⟨a, ha⟩
      refine ⟨a 0, InS.coef.mpr ⟨fun k => a (k + 1), fun q hq => ?_⟩⟩
      have := ha q hq
      rw [List.length_cons, sumTo_front] at this
      simp only [List.getD_cons_zero, List.getD_cons_succ] at this
      grind
/-! ### the names' numbers -/
theorem oth_inj {i a b : Nat} (hi : i < 6) (ha : a < 5) (hb : b < 5) (h : (oth i).getD a 0 = (oth i).getD b 0) : a = b := by
  have key : ∀ i ∈ List.range 6, ∀ a ∈ List.range 5, ∀ b ∈ List.range 5, (oth i).getD a 0 = (oth i).getD b 0 → a = b := by decide +kernel
  exact key i (List.mem_range.mpr hi) a (List.mem_range.mpr ha) b (List.mem_range.mpr hb) h
theorem oth_mem {i a : Nat} (hi : i < 6) (ha : a < 5) : (oth i).getD a 0 ∈ oth i := by
  rw [List.getD_eq_getElem?_getD, List.getElem?_eq_getElem (by rw [oth_len hi]; exact ha)]
  exact List.getElem_mem _
theorem cupd_none {i j : Nat} : ∀ {ps : List (List Rat × Nat)} {c : Nat → Rat}, (∀ x ∈ ps, (oth i).getD x.2 0 ≠ j) → ps.foldl (cupd i) c j = c j
  | [], c, _ => rfl
  | x :: ps, c, h => by
    rw [List.foldl_cons, cupd_none fun y hy => h y (List.mem_cons_of_mem _ hy)]
    unfold cupd
    rw [if_neg fun z => h x List.mem_cons_self z.symm]
theorem cfin_none {i j : Nat} {ps : List (List Rat × Nat)} (h : ∀ x ∈ ps, (oth i).getD x.2 0 ≠ j) : cfin i ps j = 0 := cupd_none h
theorem cfin_head {i : Nat} (hi : i < 6) {ps : List (List Rat × Nat)} (H : Hd 5 ps) {x : List Rat × Nat} (hx : x ∈ ps) : cfin i ps ((oth i).getD x.2 0) = x.1.getD 5 0 := by
  obtain ⟨A, B, e⟩ := List.append_of_mem hx
  unfold cfin
  rw [e, List.foldl_append, List.foldl_cons, cupd_none]
  · unfold cupd
    rw [if_pos rfl]
  · intro y hy z
    have hy' : y ∈ ps := by rw [e]; simp [hy]
    have := oth_inj hi (H.lt y hy') (H.lt x hx) z
    have up := H.up
    rw [e] at up
    have := (List.pairwise_cons.mp (List.pairwise_append.mp up).2.1).1 y hy
    omega
theorem cfin_self {i : Nat} (hi : i < 6) {ps : List (List Rat × Nat)} (H : Hd 5 ps) : cfin i ps i = 0 := cfin_none fun x hx => (oth_lt (oth_mem hi (H.lt x hx))).2
theorem mrow_get {ms : List (List Rat)} {i pl q : Nat} (hi : i < 6) (hq : q < 5) : (mrow ms i pl).getD q 0 = mget ms ((oth i).getD q 0) pl := by
  have hl := oth_len hi
  unfold mrow
  rw [List.getD_eq_getElem?_getD, List.getElem?_append_left (by rw [List.length_map]; omega), List.getElem?_map, List.getElem?_eq_getElem (by omega), List.getD_eq_getElem?_getD, List.getElem?_eq_getElem (by omega)]
  rfl
theorem mrow_get5 {ms : List (List Rat)} {i pl : Nat} (hi : i < 6) : (mrow ms i pl).getD 5 0 = mget ms i pl := by
  have hl := oth_len hi
  unfold mrow
  rw [List.getD_eq_getElem?_getD, List.getElem?_append_right (by rw [List.length_map]; omega), List.length_map, hl]
  rfl
/-- c for the others, -1 for the name -/
def vec (c : Nat → Rat) : Nat → Rat := fun q => if q < 5 then c q else -1
theorem dot_vec (r : List Rat) (c : Nat → Rat) : dot 6 r (vec c) = sumTo 5 (fun q => r.getD q 0 * c q) - r.getD 5 0 := by
  show sumTo 5 (fun q => r.getD q 0 * vec c q) + r.getD 5 0 * vec c 5 = _
  rw [sumTo_congr (g := fun q => r.getD q 0 * c q) fun q hq => by unfold vec; rw [if_pos hq]]
  have : vec c 5 = -1 := by unfold vec; rw [if_neg (by decide)]
  rw [this]
  grind
def vec2 (a : Nat → Rat) (pp : Nat) : Nat → Rat := fun q => if q < pp then a q else if q = pp then -1 else 0
theorem vec2_lt {a : Nat → Rat} {pp q : Nat} (h : q < pp) : vec2 a pp q = a q := if_pos h
theorem vec2_eq {a : Nat → Rat} {pp : Nat} : vec2 a pp pp = -1 := by unfold vec2; rw [if_neg (by omega), if_pos rfl]
theorem vec2_gt {a : Nat → Rat} {pp q : Nat} (h : pp < q) : vec2 a pp q = 0 := by unfold vec2; rw [if_neg (by omega), if_neg (by omega)]
section
variable {ms : List (List Rat)} {i : Nat} (T : Tab ms) (hi : i < 6)
include T hi
theorem mat_RI : RI 6 (mat ms i) 5 (redQ (mat ms i) 5) := redQ_inv (fun r hr => (mrow_RV T hi r hr).1) (by decide)
omit T in
/-- c solves the demands of the name -/
theorem solves_iff (c : Nat → Rat) : (∀ r ∈ mat ms i, dot 6 r (vec c) = 0) ↔ ∀ pl < 3, mget ms i pl = sumTo 5 fun q => mget ms ((oth i).getD q 0) pl * c q := by
  have key : ∀ pl, dot 6 (mrow ms i pl) (vec c) = (sumTo 5 fun q => mget ms ((oth i).getD q 0) pl * c q) - mget ms i pl := fun pl => by
    rw [dot_vec, mrow_get5 hi, sumTo_congr fun q hq => by rw [mrow_get hi hq]]
  constructor
  · intro h pl hp
    have := h (mrow ms i pl) (List.mem_map.mpr ⟨pl, List.mem_range.mpr hp, rfl⟩)
    rw [key] at this
    grind
  · intro h r hr
    obtain ⟨pl, hp, rfl⟩ := List.mem_map.mp hr
    rw [key, h pl (List.mem_range.mp hp)]
    grind
theorem no_of_solves {c : Nat → Rat} (h : ∀ r ∈ mat ms i, dot 6 r (vec c) = 0) : (redQ (mat ms i) 5).2.any (fun r => !decide (r.getD 5 0 = 0)) = false := by
  have R := mat_RI T hi
  rw [List.any_eq_false]
  intro r hr
  have h1 := (R.same (vec c)).mp h r (List.mem_append_right _ hr)
  rw [dot_vec, sumTo_zero fun q hq => by rw [R.left r hr q hq]; grind] at h1
  have : r.getD 5 0 = 0 := by grind
  simp only [this, decide_true, Bool.not_true, Bool.false_eq_true, not_false_eq_true]
theorem cfin_solves {ps : List (List Rat × Nat)} (ha : (redQ (mat ms i) 5).2.any (fun r => !decide (r.getD 5 0 = 0)) = false) (hps : (redQ (mat ms i) 5).1 = ps.map Prod.fst) (H : Hd 5 ps) : ∀ r ∈ mat ms i, dot 6 r (vec fun q => cfin i ps ((oth i).getD q 0)) = 0 := by
  have R := mat_RI T hi
  refine (R.same _).mpr fun r hr => ?_
  rcases List.mem_append.mp hr with hr | hr
  · rw [hps] at hr
    obtain ⟨x, hx, rfl⟩ := List.mem_map.mp hr
    rw [dot_vec, sumTo_one (k := x.2) (H.lt x hx) fun q hq hne => ?_]
    · rw [H.one x hx, cfin_head hi H hx]
      grind
    · by_cases hy : ∃ y ∈ ps, y.2 = q
      · obtain ⟨y, hy, rfl⟩ := hy
        rw [H.alone x hx y hy hne]
        grind
      · rw [cfin_none (ps := ps) (j := (oth i).getD q 0) fun y hy' z => hy ⟨y, hy', oth_inj hi (H.lt y hy') hq z⟩]
        grind
  · have h0 := List.any_eq_false.mp ha r hr
    have h5 : r.getD 5 0 = 0 := by simpa using h0
    rw [dot_vec, sumTo_zero fun q hq => by rw [R.left r hr q hq]; grind, h5]
    grind
/-- no head where a column is a sum of earlier ones -/
theorem told_zero {ps : List (List Rat × Nat)} (hps : (redQ (mat ms i) 5).1 = ps.map Prod.fst) (H : Hd 5 ps) {pp : Nat} (hpp : pp < 5) {a : Nat → Rat} (h : ∀ pl < 3, mget ms ((oth i).getD pp 0) pl = sumTo pp fun k => a k * mget ms ((oth i).getD k 0) pl) : cfin i ps ((oth i).getD pp 0) = 0 := by
  have R := mat_RI T hi
  refine cfin_none fun x hx z => ?_
  have e : x.2 = pp := oth_inj hi (H.lt x hx) hpp z
  have hz : ∀ (n : Nat) (f : Nat → Rat), pp < n → (∀ q < n, pp < q → f q = 0) → sumTo n f = sumTo pp f + f pp := fun n f => by
    induction n with
    | zero => intro hn; omega
    | succ n ih =>
      intro hn hf
      simp only [sumTo]
      by_cases en : pp = n
      · subst en; rfl
      · rw [ih (by omega) fun q hq => hf q (by omega), hf n (by omega) (by omega)]
        grind
  have hv : ∀ r ∈ mat ms i, dot 6 r (vec2 a pp) = 0 := fun r hr => by
    obtain ⟨pl, hp, rfl⟩ := List.mem_map.mp hr
    unfold dot
    rw [hz 6 _ (by omega) fun q hq hlt => by rw [vec2_gt hlt]; grind]
    rw [sumTo_congr (g := fun k => a k * mget ms ((oth i).getD k 0) pl) fun q hq => by rw [vec2_lt hq, mrow_get hi (by omega)]; grind, ← h pl (List.mem_range.mp hp), vec2_eq, mrow_get hi hpp]
    grind
  have := (R.same _).mp hv x.1 (List.mem_append_left _ (by rw [hps]; exact List.mem_map.mpr ⟨x, hx, rfl⟩))
  unfold dot at this
  rw [hz 6 _ (by omega) fun q hq hlt => by rw [vec2_gt hlt]; grind, sumTo_zero fun q hq => by rw [H.ahead x hx q (by omega)]; grind, vec2_eq, ← e, H.one x hx] at this
  grind
end
end Mf
set_option Elab.async false
set_option linter.all false
set_option maxRecDepth 100000
set_option maxHeartbeats 1000000
namespace Mf
open PySem L2
/-! ### rows of integers -/
def irow (r : List Int) : D := .lst (r.map D.int)
def irows (L : List (List Int)) : D := .lst (L.map irow)
theorem ix_irow {r : List Int} {p : Nat} (h : p < r.length) : ixD (irow r) (.int (p : Int)) = some (.int (r.getD p 0)) := by
  show atI (r.map D.int) (p : Int) = _
  refine atI_nat ?_
  rw [List.getElem?_map, List.getElem?_eq_getElem h, List.getD_eq_getElem?_getD, List.getElem?_eq_getElem h]
  rfl
theorem items_irow (r : List Int) : itemsD (irow r) = some (r.map D.int) := rfl
theorem shs_int (n : Nat) : ∀ r : List Int, shs n (r.map D.int) = true
  | [] => by cases n <;> rfl
  | x :: r => by
    show ((D.int x).sh n && shs n (r.map D.int)) = true
    rw [shs_int n r]
    cases n <;> rfl
theorem sh_irow (n : Nat) (r : List Int) : (irow r).sh (n + 1) = true := shs_int n r
theorem shs_irows (n : Nat) : ∀ l : List (List Int), shs (n + 1) (l.map irow) = true
  | [] => rfl
  | r :: l => by
    show ((irow r).sh (n + 1) && shs (n + 1) (l.map irow)) = true
    rw [sh_irow, shs_irows n l]
    rfl
theorem deqs_int : ∀ x y : List Int, deqs (x.map D.int) (y.map D.int) = decide (x = y)
  | [], [] => rfl
  | [], _ :: _ => rfl
  | _ :: _, [] => rfl
  | a :: x, b :: y => by
    show ((a == b) && deqs (x.map D.int) (y.map D.int)) = _
    rw [deqs_int x y]
    by_cases h : a = b <;> by_cases h' : x = y <;> simp [h, h']
theorem deq_irow (x y : List Int) : deq (irow x) (irow y) = decide (x = y) := deqs_int x y
theorem eqD_inil (l : List (List Int)) : eqD (.lst (l.map irow)) (.lst []) = some l.isEmpty := by
  unfold eqD
  have h : (D.lst (l.map irow)).sh 60 = true := shs_irows 58 l
  rw [h]
  cases l <;> rfl
theorem find_irow (h : List Int) : ∀ l : List (List Int), (l.map irow).findIdx? (fun z => deq z (irow h)) = l.findIdx? (fun r => decide (r = h))
  | [] => rfl
  | r :: l => by
    rw [List.map_cons, List.findIdx?_cons, List.findIdx?_cons, deq_irow, find_irow h l]
theorem erase_irow {h : List Int} : ∀ {l : List (List Int)}, h ∈ l → ∃ j, l.findIdx? (fun r => decide (r = h)) = some j ∧ (l.map irow).eraseIdx j = (l.erase h).map irow
  | r :: l, hm => by
    rw [List.findIdx?_cons]
    by_cases e : r = h
    · subst e
      exact ⟨0, by simp, by simp⟩
    · obtain ⟨j, h1, h2⟩ := erase_irow (h := h) (l := l) (by rcases List.mem_cons.mp hm with z | z; exact absurd z.symm e; exact z)
      refine ⟨j + 1, by simp [e, h1], ?_⟩
      rw [List.erase_cons, if_neg (by simpa using e)]
      simp only [List.map_cons, List.eraseIdx_cons_succ, h2]
theorem igetD_mem {r : List Int} {p : Nat} (h : p < r.length) : r.getD p 0 ∈ r := by
  rw [List.getD_eq_getElem?_getD, List.getElem?_eq_getElem h]
  exact List.getElem_mem h
def IV (B W : Nat) (L : List (List Int)) : Prop := ∀ r ∈ L, r.length = W ∧ ∀ x ∈ r, x.natAbs < 2 ^ B
def rkStep (st : List (List Int) × Nat) (p : Nat) : List (List Int) × Nat :=
  match st.1.filter (fun r => decide (r.getD p 0 ≠ 0)) with
  | [] => st
  | h :: _ => ((st.1.erase h).map (elim h p), st.2 + 1)
theorem rkStep_fold : ∀ (n p : Nat) (st : List (List Int) × Nat), ((List.range' p n).foldl rkStep st).2 = st.2 + rk n p st.1
  | 0, p, st => rfl
  | n + 1, p, st => by
    rw [List.range'_succ, List.foldl_cons, rkStep_fold n (p + 1)]
    unfold rkStep
    rw [rk]
    split
    · rename_i e
      first
        | rfl
        | rw [e]
    · rename_i h t e
      first
        | (rw [e]; dsimp only; omega)
        | (dsimp only; omega)
theorem rk_nil : ∀ n p, rk n p [] = 0
  | 0, _ => rfl
  | n + 1, p => by rw [rk_none (l := []) (fun x hx => by cases hx)]; exact rk_nil n (p + 1)
theorem sub_lt {i j : Int} {a : Nat} (hi : i.natAbs < 2 ^ a) (hj : j.natAbs < 2 ^ a) : (i - j).natAbs < 2 ^ (a + 1) := by
  rw [Int.sub_eq_add_neg]
  exact add_lt hi (by rwa [Int.natAbs_neg])
theorem rkStep_inv {B W p : Nat} {st : List (List Int) × Nat} (h : IV B W st.1) (hp : p < W) : IV (2 * B + 1) W (rkStep st p).1 ∧ (rkStep st p).1.length ≤ st.1.length := by
  unfold rkStep
  split
  · exact ⟨fun r hr => ⟨(h r hr).1, fun x hx => Nat.lt_of_lt_of_le ((h r hr).2 x hx) (Nat.pow_le_pow_right (by decide) (by omega))⟩, Nat.le_refl _⟩
  · rename_i hd t hf
    have hm : hd ∈ st.1.filter (fun r => decide (r.getD p 0 ≠ 0)) := by rw [hf]; exact List.mem_cons_self
    obtain ⟨hm1, hm2⟩ := List.mem_filter.mp hm
    refine ⟨fun r hr => ?_, by rw [List.length_map]; exact List.length_erase_le⟩
    obtain ⟨y, hy, rfl⟩ := List.mem_map.mp hr
    have hy' := List.mem_of_mem_erase hy
    refine ⟨by rw [elim_len (by rw [(h y hy').1, (h hd hm1).1]), (h y hy').1], fun x hx => ?_⟩
    unfold elim at hx
    obtain ⟨z, hz, rfl⟩ := List.mem_map.mp hx
    have hz' := List.of_mem_zip hz
    have e : 2 * B + 1 = (B + B) + 1 := by omega
    rw [e]
    exact sub_lt (mul_lt ((h y hy').2 _ hz'.1) ((h hd hm1).2 _ (igetD_mem (by rw [(h hd hm1).1]; exact hp)))) (mul_lt ((h hd hm1).2 _ hz'.2) ((h y hy').2 _ (igetD_mem (by rw [(h y hy').1]; exact hp))))
def bi (B : Nat) : Nat → Nat
  | 0 => B
  | j + 1 => 2 * bi B j + 1
theorem bi_mono {B j k : Nat} (h : j ≤ k) : bi B j ≤ bi B k := by
  induction h with
  | refl => exact Nat.le_refl _
  | step _ ih => exact Nat.le_trans ih (by show _ ≤ 2 * bi B _ + 1; omega)
theorem seq_asg {S : Type} {own : Bool} {i : Nat} {e : CE S} {cs : CSs S} {ρ ρ' : List SV} {s : S} {x : K3 × D} {r : Out S} (h : ev e ρ s = .ok x s) {v : SV} (hv : stow own x = some v) (hp : put ρ i v = some ρ') (h2 : runs cs ρ' s = r) : runs (.cons (.asg own i e) cs) ρ s = r := seq_nx (run_asgq h hv hp) h2
theorem seq_ret {S : Type} {e : CE S} {cs : CSs S} {ρ : List SV} {s : S} {k : K3} {d : D} (h : ev e ρ s = .ok (k, d) s) (hk : k ≠ .o) : runs (.cons (.ret e) cs) ρ s = .rt d s := seq_rt (run_retq h hk)
theorem seq_if {S : Type} {t : CE S} {a b cs : CSs S} {ρ : List SV} {s : S} {k : Bool} {k3 : K3} {r : Out S} (h : ev t ρ s = .ok (k3, .bl k) s) (h2 : (if k then runs a ρ s else runs b ρ s).sq (runs cs) = r) : runs (.cons (.ife t a b) cs) ρ s = r := by
  rw [runs_cons, run_ifq h rfl]
  exact h2
end Mf
set_option Elab.async false
set_option linter.all false
set_option maxRecDepth 100000
set_option maxHeartbeats 1000000
namespace Mf
open PySem L2
/-! ### bounds of what reduced gives -/
theorem bt_mono {B j k : Nat} (h : j ≤ k) : bt B j ≤ bt B k := by
  induction h with
  | refl => exact Nat.le_refl _
  | step _ ih => exact Nat.le_trans ih (by show _ ≤ 4 * bt B _ + 2; omega)
theorem redQ_RV {B W n : Nat} {l : List (List Rat)} (hl : RV B W l) (hn : n ≤ W) : RV (bt B l.length) W (redQ l n).1 ∧ RV (bt B l.length) W (redQ l n).2 := by
  have key : ∀ n ≤ W, ∃ j, RV (bt B j) W (redQ l n).1 ∧ RV (bt B j) W (redQ l n).2 ∧ (redQ l n).2.length + j = l.length := by
    intro n
    induction n with
    | zero => intro _; exact ⟨0, fun _ h => (nomatch h), hl, rfl⟩
    | succ n ih =>
      intro hn
      obtain ⟨j, a, b, c⟩ := ih (by omega)
      unfold redQ at *
      rw [List.range_succ, List.foldl_append]
      rcases redStep_inv (p := n) a b (by omega) with e | ⟨q1, q2, q3, q4⟩
      · rw [List.foldl_cons, List.foldl_nil, e]; exact ⟨j, a, b, c⟩
      · exact ⟨j + 1, q1, q2, by rw [List.foldl_cons, List.foldl_nil]; omega⟩
  obtain ⟨j, a, b, c⟩ := key n hn
  exact ⟨a.mono (bt_mono (by omega)), b.mono (bt_mono (by omega))⟩
/-! ### twice a measure -/
def dbl1 (x : Rat) : Int := x.num * (2 : Int).fdiv x.den
def dbl (m : List Rat) : List Int := m.map dbl1
theorem dbl1_eq {x : Rat} (h : sm x) : ((dbl1 x : Int) : Rat) = 2 * x := by
  have hx : ((x.num : Int) : Rat) / (((x.den : Nat) : Int) : Rat) = x := by rw [← Rat.divInt_eq_div]; exact Rat.num_divInt_den x
  unfold dbl1
  have h2 := h.2
  generalize x.num = u at hx
  generalize x.den = v at hx h2
  rcases h2 with d | d <;> rw [d] at hx ⊢
  · have : (2 : Int).fdiv ((1 : Nat) : Int) = 2 := by decide
    rw [this]
    push_cast
    push_cast at hx
    grind
  · have : (2 : Int).fdiv ((2 : Nat) : Int) = 1 := by decide
    rw [this]
    push_cast
    push_cast at hx
    grind
theorem dbl1_bd {x : Rat} (h : sm x) : (dbl1 x).natAbs < 2 ^ 3 := by
  unfold dbl1
  rw [Int.natAbs_mul]
  have h1 := h.1
  rcases h.2 with d | d <;> rw [d]
  · have : ((2 : Int).fdiv ((1 : Nat) : Int)).natAbs = 2 := by decide
    rw [this]; omega
  · have : ((2 : Int).fdiv ((2 : Nat) : Int)).natAbs = 1 := by decide
    rw [this]; omega
theorem dbl_get {m : List Rat} (h : ∀ x ∈ m, sm x) (q : Nat) : (((dbl m).getD q 0 : Int) : Rat) = 2 * m.getD q 0 := by
  unfold dbl
  simp only [List.getD_eq_getElem?_getD, List.getElem?_map]
  by_cases hq : q < m.length
  · rw [List.getElem?_eq_getElem hq]
    exact dbl1_eq (h _ (List.getElem_mem hq))
  · rw [List.getElem?_eq_none (by omega)]
    simp
def drows (ms : List (List Rat)) (i : Nat) : List (List Int) := (oth i).map fun j => dbl (ms.getD j [])
section
variable {ms : List (List Rat)} {i : Nat} (T : Tab ms) (hi : i < 6)
include T hi
omit hi in
theorem dbl_IV {j : Nat} (hj : j < 6) : (dbl (ms.getD j [])).length = 3 ∧ ∀ x ∈ dbl (ms.getD j []), x.natAbs < 2 ^ 3 := by
  refine ⟨by unfold dbl; rw [List.length_map, T.three _ (T.get hj)], fun x hx => ?_⟩
  obtain ⟨y, hy, rfl⟩ := List.mem_map.mp hx
  exact dbl1_bd (T.sm _ (T.get hj) y hy)
omit hi in
theorem drows_IV : IV 3 3 (drows ms i) := fun r hr => by
  obtain ⟨j, hj, rfl⟩ := List.mem_map.mp hr
  exact dbl_IV T (oth_lt hj).1
omit T in
theorem drows_len : (drows ms i).length = 5 := by unfold drows; rw [List.length_map, oth_len hi]
omit T in
theorem drows_get {k : Nat} (hk : k < 5) : (drows ms i).getD k [] = dbl (ms.getD ((oth i).getD k 0) []) := by
  have hl := oth_len hi
  unfold drows
  rw [List.getD_eq_getElem?_getD, List.getElem?_map, List.getElem?_eq_getElem (by omega), List.getD_eq_getElem?_getD (l := oth i), List.getElem?_eq_getElem (by omega)]
  rfl
omit T in
theorem take_get {pp k : Nat} (h : k < pp) (hp : pp ≤ 5) : ((drows ms i).take pp).getD k [] = dbl (ms.getD ((oth i).getD k 0) []) := by
  rw [← drows_get hi (show k < 5 by omega), List.getD_eq_getElem?_getD, List.getElem?_take_of_lt h, List.getD_eq_getElem?_getD]
theorem ins_iff {pp j : Nat} (hp : pp ≤ 5) (hj : j < 6) : InS 3 ((drows ms i).take pp) (fun q => ((dbl (ms.getD j [])).getD q 0 : Int)) ↔ ∃ a : Nat → Rat, ∀ q < 3, mget ms j q = sumTo pp fun k => a k * mget ms ((oth i).getD k 0) q := by
  rw [InS.coef]
  have hl : ((drows ms i).take pp).length = pp := by rw [List.length_take, drows_len hi]; omega
  rw [hl]
  have key : ∀ (a : Nat → Rat) q, (((dbl (ms.getD j [])).getD q 0 : Int) : Rat) = sumTo pp (fun k => a k * ((((drows ms i).take pp).getD k []).getD q 0 : Int)) ↔ mget ms j q = sumTo pp fun k => a k * mget ms ((oth i).getD k 0) q := fun a q => by
    rw [dbl_get (T.sm _ (T.get hj)), sumTo_congr (g := fun k => (a k * mget ms ((oth i).getD k 0) q) * 2) fun k hk => by
      rw [take_get hi hk hp, dbl_get (T.sm _ (T.get (oth_lt (oth_mem hi (show k < 5 by omega))).1))]
      unfold mget
      grind, sumTo_mul]
    unfold mget
    constructor <;> intro h <;> grind
  constructor
  · rintro ⟨a, h⟩
    exact ⟨a, fun q hq => (key a q).mp (h q hq)⟩
  · rintro ⟨a, h⟩
    exact ⟨a, fun q hq => (key a q).mpr (h q hq)⟩
theorem rk_ins {pp j : Nat} (hp : pp ≤ 5) (hj : j < 6) : rk 3 0 ((drows ms i).take pp ++ [dbl (ms.getD j [])]) = rk 3 0 ((drows ms i).take pp) ↔ ∃ a : Nat → Rat, ∀ q < 3, mget ms j q = sumTo pp fun k => a k * mget ms ((oth i).getD k 0) q := by
  rw [← ins_iff T hi hp hj]
  exact rk_iff 3 0 rfl (fun x hx => (drows_IV T x (List.mem_of_mem_take hx)).1) (dbl_IV T hj).1 (fun _ _ q hq => by omega) (fun q hq => by omega)
/-- can -/
theorem can_iff : rk 3 0 (drows ms i ++ [dbl (ms.getD i [])]) = rk 3 0 (drows ms i) ↔ (redQ (mat ms i) 5).2.any (fun r => !decide (r.getD 5 0 = 0)) = false := by
  have h := rk_ins T hi (pp := 5) (j := i) (Nat.le_refl _) hi
  rw [List.take_of_length_le (by rw [drows_len hi]; exact Nat.le_refl _)] at h
  rw [h]
  constructor
  · rintro ⟨a, ha⟩
    refine no_of_solves T hi (c := a) ((solves_iff hi a).mpr fun pl hp => ?_)
    rw [ha pl hp]
    exact sumTo_congr fun k _ => by grind
  · intro ha
    obtain ⟨ps, hps, H⟩ := (mat_RI T hi).hd
    have := (solves_iff hi _).mp (cfin_solves T hi ha hps H)
    refine ⟨fun q => cfin i ps ((oth i).getD q 0), fun q hq => ?_⟩
    rw [this q hq]
    exact sumTo_congr fun k _ => by grind
/-- results -/
theorem results_zero {ps : List (List Rat × Nat)} (hps : (redQ (mat ms i) 5).1 = ps.map Prod.fst) (H : Hd 5 ps) {pp : Nat} (hpp : pp < 5) (h : rk 3 0 ((drows ms i).take (pp + 1)) = rk 3 0 ((drows ms i).take pp)) : cfin i ps ((oth i).getD pp 0) = 0 := by
  have e : (drows ms i).take (pp + 1) = (drows ms i).take pp ++ [dbl (ms.getD ((oth i).getD pp 0) [])] := by
    rw [List.take_add_one, List.getElem?_eq_getElem (by rw [drows_len hi]; omega)]
    congr 1
    have := drows_get (ms := ms) hi hpp
    rw [List.getD_eq_getElem?_getD, List.getElem?_eq_getElem (by rw [drows_len hi]; omega)] at this
    simpa using this
  rw [e, rk_ins T hi (by omega) (oth_lt (oth_mem hi hpp)).1] at h
  obtain ⟨a, ha⟩ := h
  exact told_zero T hi hps H hpp ha
/-- what the law adds up -/
theorem found_eq {ps : List (List Rat × Nat)} (ha : (redQ (mat ms i) 5).2.any (fun r => !decide (r.getD 5 0 = 0)) = false) (hps : (redQ (mat ms i) 5).1 = ps.map Prod.fst) (H : Hd 5 ps) {pl : Nat} (hpl : pl < 3) : sumTo 6 (fun j => mget ms j pl * cfin i ps j) = mget ms i pl := by
  have h1 := (solves_iff hi _).mp (cfin_solves T hi ha hps H) pl hpl
  have key : ∀ i < 6, ∀ f : Nat → Rat, f i = 0 → sumTo 6 f = sumTo 5 fun q => f ((oth i).getD q 0) := by
    intro i hi f h0
    have o : ∀ i ∈ List.range 6, oth i = [[1, 2, 3, 4, 5], [0, 2, 3, 4, 5], [0, 1, 3, 4, 5], [0, 1, 2, 4, 5], [0, 1, 2, 3, 5], [0, 1, 2, 3, 4]].getD i [] := by decide +kernel
    rw [o i (List.mem_range.mpr hi)]
    match i, hi with
    | 0, _ => simp [sumTo]; grind
    | 1, _ => simp [sumTo]; grind
    | 2, _ => simp [sumTo]; grind
    | 3, _ => simp [sumTo]; grind
    | 4, _ => simp [sumTo]; grind
    | 5, _ => simp [sumTo]; grind
  rw [key i hi _ (by rw [cfin_self hi H]; grind)]
  exact h1.symm
theorem cfin_bd {ps : List (List Rat × Nat)} (hps : (redQ (mat ms i) 5).1 = ps.map Prod.fst) (H : Hd 5 ps) (j : Nat) : bd 170 (cfin i ps j) := by
  have hR := (redQ_RV (n := 5) (mrow_RV T hi) (by decide)).1
  have e3 : (mat ms i).length = 3 := by unfold mat; rw [List.length_map, List.length_range]
  rw [e3] at hR
  by_cases h : ∃ x ∈ ps, (oth i).getD x.2 0 = j
  · obtain ⟨x, hx, rfl⟩ := h
    rw [cfin_head hi H hx]
    have := hR x.1 (by rw [hps]; exact List.mem_map.mpr ⟨x, hx, rfl⟩)
    exact this.2 _ (getD_mem (by rw [this.1]; decide))
  · rw [cfin_none fun x hx z => h ⟨x, hx, z⟩]
    exact ⟨by decide, by decide⟩
end

/-! ### walks over numbers -/
theorem forR_range {S : Type} {f : D → List SV → S → Out S} {e : Nat → D} {P : Nat → List SV → S → Prop} {n : Nat} (h : ∀ k < n, ∀ ρ s, P k ρ s → ∃ ρ' s', f (e k) ρ s = .nx ρ' s' ∧ P (k + 1) ρ' s') (ρ : List SV) (s : S) (h0 : P 0 ρ s) : ∃ ρ' s', forR f ((List.range n).map e) ρ s = .nx ρ' s' ∧ P n ρ' s' := by
  obtain ⟨ρ', s', h1, k, h2, h3, h4⟩ := forR_ind (f := f) (e := e) (P := fun l ρ s => ∃ k, k + l.length = n ∧ l = List.range' k (n - k) ∧ P k ρ s) (fun a l ρ s hP => by
    obtain ⟨k, hk, hl, hp⟩ := hP
    simp only [List.length_cons] at hk
    have e1 : n - k = (n - (k + 1)) + 1 := by omega
    rw [e1, List.range'_succ] at hl
    injection hl with hl1 hl2
    subst hl1
    obtain ⟨ρ', s', q1, q2⟩ := h a (by omega) ρ s hp
    exact ⟨ρ', s', q1, a + 1, by omega, hl2, q2⟩) (List.range n) ρ s ⟨0, by simp, by simp [List.range_eq_range'], h0⟩
  have : k = n := by simpa using h2
  subst this
  exact ⟨ρ', s', h1, h4⟩
theorem zipD_same {α : Type} (e g : α → D) : ∀ x : List α, zipD (x.map e) (x.map g) = x.map fun a => .tup [e a, g a]
  | [] => rfl
  | a :: x => by
    show D.tup [e a, g a] :: zipD (x.map e) (x.map g) = _
    rw [zipD_same e g x]
    rfl
theorem slH_lst {ds : List D} {k : Nat} (h : k ≤ ds.length) : slD (.lst ds) none (some (k : Int)) = some (.t, .lst (ds.take k)) := by
  show some (K3.t, D.lst ((ds.drop 0).take (HT.sIx ds.length ds.length (some (k : Int)) - 0))) = _
  rw [HT.sIx_nat, Nat.min_eq_left h]
  rfl
theorem index_nm {j : Nat} (h : j < 6) : m1D .sindex (.str "abcdef") (.str (nm j)) = some (.v, .int (j : Int)) := by
  have key : ∀ j ∈ List.range 6, Builtin.Str.occurrences "abcdef" (nm j) 0 ("abcdef" : Str).length 1 = [j] := by decide +kernel
  show (match Builtin.Str.occurrences "abcdef" (nm j) 0 ("abcdef" : Str).length 1 with | i :: _ => some (K3.v, D.int (i : Nat)) | [] => none) = _
  rw [key j (List.mem_range.mpr h)]
theorem shs_ents (ms : List (List Rat)) (h : ms.length ≤ 6) : shs 59 (ents ms) = true := by
  have key : ∀ i ∈ List.range 6, okS (nm i) = true := by decide +kernel
  have : ∀ L : List Nat, (∀ i ∈ L, i < 6) → shs 59 (L.map fun i => ent i (ms.getD i [])) = true := by
    intro L
    induction L with
    | nil => intro _; rfl
    | cons i L ih =>
      intro hL
      show ((ent i (ms.getD i [])).sh 59 && shs 59 (L.map fun i => ent i (ms.getD i []))) = true
      rw [ih fun j hj => hL j (List.mem_cons_of_mem _ hj)]
      show ((okS (nm i) && ((row (ms.getD i [])).sh 58 && true)) && true) = true
      rw [key i (List.mem_range.mpr (hL i List.mem_cons_self)), sh_row 56]
      rfl
  exact this _ fun i hi => by have := List.mem_range.mp hi; omega
theorem deq_ent (i j : Nat) (m m' : List Rat) : deq (ent i m) (ent j m') = (decide (i = j) && decide (m = m')) := by
  show ((nm i == nm j) && (deq (row m) (row m') && true)) = _
  rw [deq_row, Bool.and_true]
  congr 1
  by_cases e : i = j
  · subst e; simp
  · rw [decide_eq_false e]
    exact beq_eq_false_iff_ne.mpr fun z => e (nm_inj z)
theorem in_tab {ms : List (List Rat)} (T : Tab ms) {i : Nat} (hi : i < 6) : inD (ent i (ms.getD i [])) (tab ms) = some true := by
  have key : ∀ i ∈ List.range 6, okS (nm i) = true := by decide +kernel
  have h1 : (ent i (ms.getD i [])).sh 60 = true := by
    show (okS (nm i) && ((row (ms.getD i [])).sh 59 && true)) = true
    rw [key i (List.mem_range.mpr hi), sh_row 57]
    rfl
  have h2 := shs_ents ms (by rw [T.six]; exact Nat.le_refl _)
  show (if ((flatD (ent i (ms.getD i [])) && (ents ms).all flatD) || ((ent i (ms.getD i [])).sh 60 && shs 59 (ents ms))) = true then some ((ents ms).any fun y => deq y (ent i (ms.getD i []))) else none) = _
  rw [h1, h2]
  simp only [Bool.and_self, Bool.or_true, if_true]
  congr 1
  refine List.any_eq_true.mpr ⟨ent i (ms.getD i []), List.mem_map.mpr ⟨i, List.mem_range.mpr (by rw [T.six]; exact hi), rfl⟩, ?_⟩
  rw [deq_ent]
  simp
theorem three_eq {m : List Rat} (h : m.length = 3) : m = (List.range 3).map fun q => m.getD q 0 := by
  match m, h with
  | [a, b, c], _ => rfl
def acc (ms : List (List Rat)) (c : Nat → Rat) (k : Nat) : List Rat := (List.range 3).map fun pl => sumTo k fun j => mget ms j pl * c j
theorem acc_succ {ms : List (List Rat)} (T : Tab ms) (c : Nat → Rat) {k : Nat} (hk : k < 6) : radd (acc ms c k) (ms.getD k []) (c k) = acc ms c (k + 1) := by
  rw [three_eq (T.three _ (T.get hk))]
  rfl
theorem acc_fin {ms : List (List Rat)} (T : Tab ms) {i : Nat} (hi : i < 6) {ps : List (List Rat × Nat)} (ha : (redQ (mat ms i) 5).2.any (fun r => !decide (r.getD 5 0 = 0)) = false) (hps : (redQ (mat ms i) 5).1 = ps.map Prod.fst) (H : Hd 5 ps) : acc ms (cfin i ps) 6 = ms.getD i [] := by
  rw [three_eq (T.three _ (T.get hi))]
  unfold acc
  refine List.map_congr_left fun pl hp => ?_
  rw [found_eq T hi ha hps H (List.mem_range.mp hp)]
  rfl
end Mf
set_option Elab.async false
set_option linter.all false
set_option maxRecDepth 100000
set_option maxHeartbeats 1000000
namespace Mf
open PySem L2
/-! ### rows over one bottom: the bits double in a step of reduced -/
def RW (B E W : Nat) (r : List Rat) : Prop := ∃ (R : List Int) (d : Nat), 0 < d ∧ d < 2 ^ E ∧ R.length = W ∧ (∀ x ∈ R, x.natAbs < 2 ^ B) ∧ r = R.map fun (x : Int) => (x : Rat) / (d : Rat)
theorem rat_divInt (a : Int) (d : Nat) : (a : Rat) / (d : Rat) = Rat.divInt a d := by
  rw [Rat.divInt_eq_div]
  rfl
theorem RW.bds {B E W C : Nat} {r : List Rat} (h : RW B E W r) (hB : B ≤ C) (hE : E ≤ C) : bds C r := by
  obtain ⟨R, d, h0, h1, h2, h3, rfl⟩ := h
  intro x hx
  obtain ⟨y, hy, rfl⟩ := List.mem_map.mp hx
  rw [rat_divInt]
  exact bd_divInt (by omega) (Nat.lt_of_lt_of_le (h3 y hy) (Nat.pow_le_pow_right (by decide) hB)) (by rw [Int.natAbs_natCast]; exact Nat.lt_of_lt_of_le h1 (Nat.pow_le_pow_right (by decide) hE))
theorem RW.len {B E W : Nat} {r : List Rat} (h : RW B E W r) : r.length = W := by
  obtain ⟨R, d, h0, h1, h2, h3, rfl⟩ := h
  rw [List.length_map, h2]
theorem RW.mono {B E W B' E' : Nat} {r : List Rat} (h : RW B E W r) (hB : B ≤ B') (hE : E ≤ E') : RW B' E' W r := by
  obtain ⟨R, d, h0, h1, h2, h3, rfl⟩ := h
  exact ⟨R, d, h0, Nat.lt_of_lt_of_le h1 (Nat.pow_le_pow_right (by decide) hE), h2, fun x hx => Nat.lt_of_lt_of_le (h3 x hx) (Nat.pow_le_pow_right (by decide) hB), rfl⟩
theorem getD_map_div {R : List Int} {d : Nat} {p : Nat} : (R.map fun (x : Int) => (x : Rat) / (d : Rat)).getD p 0 = (R.getD p 0 : Rat) / (d : Rat) := by
  simp only [List.getD_eq_getElem?_getD, List.getElem?_map]
  cases R[p]? with
  | none => simp; grind
  | some x => rfl
theorem RW.head {B E W p : Nat} {h : List Rat} (H : RW B E W h) (hp : p < W) (h0 : h.getD p 0 ≠ 0) : RW B B W (h.map (· / h.getD p 0)) := by
  obtain ⟨R, d, d0, d1, d2, d3, rfl⟩ := H
  rw [getD_map_div] at h0 ⊢
  have hd : (d : Rat) ≠ 0 := by
    intro z
    have : d = 0 := by exact_mod_cast z
    omega
  have ha : R.getD p 0 ≠ 0 := fun z => h0 (by rw [z]; simp; grind)
  have har : ((R.getD p 0 : Int) : Rat) ≠ 0 := by exact_mod_cast ha
  have hb := d3 _ (igetD_mem (show p < R.length by omega))
  generalize R.getD p 0 = a at h0 ha har hb
  by_cases hs : 0 < a
  · refine ⟨R, a.natAbs, by omega, hb, d2, d3, ?_⟩
    rw [List.map_map]
    refine List.map_congr_left fun x hx => ?_
    show (x : Rat) / (d : Rat) / ((a : Rat) / (d : Rat)) = (x : Rat) / ((a.natAbs : Nat) : Rat)
    have : ((a.natAbs : Nat) : Rat) = (a : Rat) := by
      have : ((a.natAbs : Nat) : Int) = a := by omega
      exact_mod_cast this
    rw [this]
    grind
  · refine ⟨R.map (- ·), a.natAbs, by omega, hb, by rw [List.length_map]; exact d2, fun x hx => ?_, ?_⟩
    · obtain ⟨y, hy, rfl⟩ := List.mem_map.mp hx
      rw [Int.natAbs_neg]
      exact d3 y hy
    · rw [List.map_map, List.map_map]
      refine List.map_congr_left fun x hx => ?_
      show (x : Rat) / (d : Rat) / ((a : Rat) / (d : Rat)) = ((-x : Int) : Rat) / ((a.natAbs : Nat) : Rat)
      have : ((a.natAbs : Nat) : Rat) = -(a : Rat) := by
        have : ((a.natAbs : Nat) : Int) = -a := by omega
        exact_mod_cast this
      rw [this]
      push_cast
      grind
theorem RW.neg {B E W p : Nat} {r h : List Rat} (H : RW B B W h) (Hr : RW B E W r) (hp : p < W) : RW (2 * B + 1) (E + B) W (rneg r h p) := by
  obtain ⟨R, d, d0, d1, d2, d3, rfl⟩ := Hr
  obtain ⟨S, e, e0, e1, e2, e3, rfl⟩ := H
  have hd : (d : Rat) ≠ 0 := by
    intro z
    have : d = 0 := by exact_mod_cast z
    omega
  have he : (e : Rat) ≠ 0 := by
    intro z
    have : e = 0 := by exact_mod_cast z
    omega
  refine ⟨(R.zip S).map fun z => z.1 * (e : Int) - z.2 * R.getD p 0, d * e, Nat.mul_pos d0 e0, by rw [Nat.pow_add]; exact Nat.mul_lt_mul'' d1 e1, by simp; omega, fun x hx => ?_, ?_⟩
  · obtain ⟨z, hz, rfl⟩ := List.mem_map.mp hx
    have hz' := List.of_mem_zip hz
    have e4 : 2 * B + 1 = (B + B) + 1 := by omega
    rw [e4]
    exact sub_lt (mul_lt (d3 _ hz'.1) (by rw [Int.natAbs_natCast]; exact e1)) (mul_lt (e3 _ hz'.2) (d3 _ (igetD_mem (by omega))))
  · unfold rneg radd
    rw [getD_map_div, List.zip_map, List.map_map, List.map_map]
    refine List.map_congr_left fun z hz => ?_
    show (z.1 : Rat) / (d : Rat) + (z.2 : Rat) / (e : Rat) * ((R.getD p 0 : Rat) / (d : Rat) * -1) = ((z.1 * (e : Int) - z.2 * R.getD p 0 : Int) : Rat) / ((d * e : Nat) : Rat)
    push_cast
    grind
def bB (B : Nat) : Nat → Nat
  | 0 => B
  | j + 1 => 2 * bB B j + 1
def bE (B E : Nat) : Nat → Nat
  | 0 => E
  | j + 1 => max (bE B E j + bB B j) (bB B j)
theorem redStep_RW {B E W p : Nat} {st : List (List Rat) × List (List Rat)} (h1 : ∀ r ∈ st.1, RW B E W r) (h2 : ∀ r ∈ st.2, RW B E W r) (hp : p < W) :
    (redStep st p = st) ∨ ((∀ r ∈ (redStep st p).1, RW (2 * B + 1) (max (E + B) B) W r) ∧ (∀ r ∈ (redStep st p).2, RW (2 * B + 1) (max (E + B) B) W r)) := by
  unfold redStep
  split
  · exact .inl rfl
  · rename_i h t hf
    right
    have hm : h ∈ st.2.filter (fun r => decide (r.getD p 0 ≠ 0)) := by rw [hf]; exact List.mem_cons_self
    obtain ⟨hm1, hm2⟩ := List.mem_filter.mp hm
    have hh := (h2 h hm1).head hp (of_decide_eq_true hm2)
    refine ⟨fun r hr => ?_, fun r hr => ?_⟩
    · rcases List.mem_append.mp hr with hr | hr
      · obtain ⟨x, hx, rfl⟩ := List.mem_map.mp hr
        exact (hh.neg (h1 x hx) hp).mono (Nat.le_refl _) (Nat.le_max_left _ _)
      · rw [List.mem_singleton.mp hr]
        exact hh.mono (by omega) (Nat.le_max_right _ _)
    · obtain ⟨x, hx, rfl⟩ := List.mem_map.mp hr
      exact (hh.neg (h2 x (List.mem_of_mem_erase hx)) hp).mono (Nat.le_refl _) (Nat.le_max_left _ _)
end Mf
set_option Elab.async false
set_option linter.all false
set_option maxRecDepth 100000
set_option maxHeartbeats 1000000
namespace Mf
/-! ### the rank depends on the span alone -/
theorem InS.smul {W : Nat} {c : Rat} : ∀ {L : List (List Int)} {v : Nat → Rat}, InS W L v → InS W L fun q => c * v q
  | [], v, h => fun q hq => by show c * v q = 0; rw [h q hq]; grind
  | x :: L, v, ⟨d, h⟩ => ⟨c * d, (InS.smul (c := c) h).congr fun q => by grind⟩
theorem InS.add {W : Nat} : ∀ {L : List (List Int)} {v w : Nat → Rat}, InS W L v → InS W L w → InS W L fun q => v q + w q
  | [], v, w, h, h' => fun q hq => by show v q + w q = 0; rw [h q hq, h' q hq]; grind
  | x :: L, v, w, ⟨c, h⟩, ⟨d, h'⟩ => ⟨c + d, (InS.add h h').congr fun q => by grind⟩
theorem InS.mem {W : Nat} {x : List Int} : ∀ {L : List (List Int)}, x ∈ L → InS W L fun q => (x.getD q 0 : Int)
  | y :: L, h => by
    by_cases e : x = y
    · subst e
      exact ⟨1, InS.zero fun q _ => by grind⟩
    · rcases List.mem_cons.mp h with z | z
      · exact absurd z e
      · exact ⟨0, (InS.mem z).congr fun q => by grind⟩
theorem InS.trans {W : Nat} : ∀ {L M : List (List Int)} {v : Nat → Rat}, InS W L v → (∀ x ∈ L, InS W M fun q => (x.getD q 0 : Int)) → InS W M v
  | [], M, v, h, _ => InS.zero h
  | x :: L, M, v, ⟨c, h⟩, k => by
    have h1 := InS.trans h fun y hy => k y (List.mem_cons_of_mem _ hy)
    exact (InS.add h1 (InS.smul (c := c) (k x List.mem_cons_self))).congr fun q => by grind
theorem InS.zero_at {W p : Nat} : ∀ {L : List (List Int)} {v : Nat → Rat}, (∀ x ∈ L, x.getD p 0 = 0) → InS W L v → p < W → v p = 0 := fun {L v} h k hp => InS.at hp h k
theorem InS.elim_iff {W p : Nat} {h : List Int} {L : List (List Int)} (hp : p < W) (hm : h ∈ L) (h0 : h.getD p 0 ≠ 0) (hl : ∀ x ∈ L, x.length = W) {v : Nat → Rat} (hv : v p = 0) : InS W ((L.erase h).map (Mf.elim h p)) v ↔ InS W L v := by
  have e1 := InS.erase (W := W) (h := h) (L := L) (v := v) hm
  have e2 := InS.elim (W := W) hp h0 (M := L.erase h) (v := v) (fun x hx => by rw [hl x (List.mem_of_mem_erase hx), hl h hm])
  rw [e1, ← e2]
  have ha : ((h.getD p 0 : Int) : Rat) ≠ 0 := by exact_mod_cast h0
  have eq : (fun q => v q * (h.getD p 0 : Int) - (h.getD q 0 : Int) * v p) = fun q => ((h.getD p 0 : Int) : Rat) * v q := by
    funext q
    rw [hv]
    grind
  rw [eq]
  constructor
  · exact fun z => z.smul
  · intro z
    exact (z.smul (c := 1 / ((h.getD p 0 : Int) : Rat))).congr fun q => by grind
def SpanEq (W : Nat) (L M : List (List Int)) : Prop := (∀ x ∈ L, InS W M fun q => (x.getD q 0 : Int)) ∧ ∀ x ∈ M, InS W L fun q => (x.getD q 0 : Int)
theorem rk_none' {n p : Nat} {l : List (List Int)} (h : l.filter (fun r => decide (r.getD p 0 ≠ 0)) = []) : rk (n + 1) p l = rk n (p + 1) l := by rw [rk, h]
theorem rk_some' {n p : Nat} {l t : List (List Int)} {h : List Int} (e : l.filter (fun r => decide (r.getD p 0 ≠ 0)) = h :: t) : rk (n + 1) p l = rk n (p + 1) ((l.erase h).map (Mf.elim h p)) + 1 := by rw [rk, e]
theorem rk_span {W : Nat} : ∀ (n p : Nat) {L M : List (List Int)}, n + p = W → (∀ x ∈ L, x.length = W) → (∀ x ∈ M, x.length = W) → SpanEq W L M → rk n p L = rk n p M
  | 0, _, _, _, _, _, _, _ => rfl
  | n + 1, p, L, M, hn, hL, hM, ⟨s1, s2⟩ => by
    have hp : p < W := by omega
    have none_of : ∀ {A B : List (List Int)}, A.filter (fun r => decide (r.getD p 0 ≠ 0)) = [] → (∀ x ∈ B, InS W A fun q => (x.getD q 0 : Int)) → B.filter (fun r => decide (r.getD p 0 ≠ 0)) = [] := fun {A B} hA hB => by
      refine List.filter_eq_nil_iff.mpr fun x hx => ?_
      have hz : ∀ y ∈ A, y.getD p 0 = 0 := fun y hy => by
        have := List.filter_eq_nil_iff.mp hA y hy
        simpa using this
      have := InS.at hp hz (hB x hx)
      have h0 : x.getD p 0 = 0 := by exact_mod_cast this
      simpa using h0
    cases eL : L.filter (fun r => decide (r.getD p 0 ≠ 0)) with
    | nil =>
      have eM := none_of eL s2
      rw [rk_none' eL, rk_none' eM]
      exact rk_span n (p + 1) (by omega) hL hM ⟨s1, s2⟩
    | cons h t =>
      cases eM : M.filter (fun r => decide (r.getD p 0 ≠ 0)) with
      | nil => rw [none_of eM s1] at eL; cases eL
      | cons g u =>
        have hh : h ∈ L.filter (fun r => decide (r.getD p 0 ≠ 0)) := by rw [eL]; exact List.mem_cons_self
        have hg : g ∈ M.filter (fun r => decide (r.getD p 0 ≠ 0)) := by rw [eM]; exact List.mem_cons_self
        obtain ⟨h1, h2⟩ := List.mem_filter.mp hh
        obtain ⟨g1, g2⟩ := List.mem_filter.mp hg
        have h2 : h.getD p 0 ≠ 0 := of_decide_eq_true h2
        have g2 : g.getD p 0 ≠ 0 := of_decide_eq_true g2
        rw [rk_some' eL, rk_some' eM]
        congr 1
        have len : ∀ {A : List (List Int)} {a : List Int}, (∀ x ∈ A, x.length = W) → a ∈ A → ∀ x ∈ (A.erase a).map (Mf.elim a p), x.length = W := fun {A a} hA ha x hx => by
          obtain ⟨y, hy, rfl⟩ := List.mem_map.mp hx
          have hy' := List.mem_of_mem_erase hy
          rw [elim_len (by rw [hA y hy', hA a ha]), hA y hy']
        have zat : ∀ {A : List (List Int)} {a : List Int}, (∀ x ∈ A, x.length = W) → a ∈ A → ∀ x ∈ (A.erase a).map (Mf.elim a p), ((x.getD p 0 : Int) : Rat) = 0 := fun {A a} hA ha x hx => by
          obtain ⟨y, hy, rfl⟩ := List.mem_map.mp hx
          have hy' := List.mem_of_mem_erase hy
          rw [elim_get (by rw [hA y hy', hA a ha])]
          have : y.getD p 0 * a.getD p 0 - a.getD p 0 * y.getD p 0 = 0 := by grind
          rw [this]
          rfl
        refine rk_span n (p + 1) (by omega) (len hL h1) (len hM g1) ⟨fun x hx => ?_, fun x hx => ?_⟩
        · rw [InS.elim_iff hp g1 g2 hM (zat hL h1 x hx)]
          exact InS.trans ((InS.elim_iff hp h1 h2 hL (zat hL h1 x hx)).mp (InS.mem hx)) s1
        · rw [InS.elim_iff hp h1 h2 hL (zat hM g1 x hx)]
          exact InS.trans ((InS.elim_iff hp g1 g2 hM (zat hM g1 x hx)).mp (InS.mem hx)) s2
end Mf
set_option Elab.async false
set_option linter.all false
set_option maxRecDepth 100000
set_option maxHeartbeats 1000000
namespace Mf
/-! ### reduced rows are told by what they bring to 0 -/
def fv (ps : List (List Rat × Nat)) (p : Nat) : Nat → Rat := fun q => if q = p then 1 else match ps.find? (fun x => decide (x.2 = q)) with | some x => - x.1.getD p 0 | none => 0
def KerEq (W : Nat) (ps qs : List (List Rat × Nat)) : Prop := ∀ v, (∀ x ∈ ps, dot W x.1 v = 0) ↔ ∀ y ∈ qs, dot W y.1 v = 0
section
variable {W : Nat} {ps qs : List (List Rat × Nat)}
theorem Hd.inj (H : Hd W ps) {x y : List Rat × Nat} (hx : x ∈ ps) (hy : y ∈ ps) (e : x.2 = y.2) : x = y := by
  have key : ∀ {l : List (List Rat × Nat)}, l.Pairwise (fun a b => a.2 < b.2) → ∀ x ∈ l, ∀ y ∈ l, x.2 = y.2 → x = y := by
    intro l h
    induction h with
    | nil => intro x hx; cases hx
    | cons h1 _ ih =>
      intro x hx y hy e
      rcases List.mem_cons.mp hx with a | a
      · rcases List.mem_cons.mp hy with b | b
        · rw [a, b]
        · have := h1 y b
          rw [← a] at this
          omega
      · rcases List.mem_cons.mp hy with b | b
        · have := h1 x a
          rw [← b] at this
          omega
        · exact ih x a y b e
  exact key H.up x hx y hy e
theorem fv_self {p : Nat} : fv ps p p = 1 := by unfold fv; rw [if_pos rfl]
theorem fv_head (H : Hd W ps) {p : Nat} {x : List Rat × Nat} (hx : x ∈ ps) (hp : x.2 ≠ p) : fv ps p x.2 = - x.1.getD p 0 := by
  unfold fv
  rw [if_neg hp]
  cases e : ps.find? (fun y => decide (y.2 = x.2)) with
  | none =>
    have := List.find?_eq_none.mp e x hx
    simp at this
  | some y =>
    have h1 := List.mem_of_find?_eq_some e
    have h2 := List.find?_some e
    have h2 : y.2 = x.2 := by simpa using h2
    rw [H.inj h1 hx h2]
theorem fv_free {p q : Nat} (hq : q ≠ p) (h : ∀ x ∈ ps, x.2 ≠ q) : fv ps p q = 0 := by
  unfold fv
  rw [if_neg hq]
  have : ps.find? (fun y => decide (y.2 = q)) = none := List.find?_eq_none.mpr fun x hx => by simpa using h x hx
  rw [this]
theorem fv_ker (H : Hd W ps) {p : Nat} (hp : p < W) (hn : ∀ x ∈ ps, x.2 ≠ p) : ∀ x ∈ ps, dot W x.1 (fv ps p) = 0 := by
  intro x hx
  unfold dot
  rw [sumTo_two (k := x.2) (j := p) (H.lt x hx) hp (hn x hx) fun q hq h1 h2 => ?_]
  · rw [H.one x hx, fv_head H hx (hn x hx), fv_self]
    grind
  · by_cases e : ∃ y ∈ ps, y.2 = q
    · obtain ⟨y, hy, rfl⟩ := e
      rw [H.alone x hx y hy h1]
      grind
    · rw [fv_free h2 fun y hy z => e ⟨y, hy, z⟩]
      grind
theorem sumTo_upto {p n : Nat} {f : Nat → Rat} (h : p < n) (hf : ∀ q < n, p < q → f q = 0) : sumTo n f = sumTo p f + f p := by
  induction n with
  | zero => omega
  | succ n ih =>
    simp only [sumTo]
    by_cases en : p = n
    · subst en; rfl
    · rw [ih (by omega) fun q hq => hf q (by omega), hf n (by omega) (by omega)]
      grind
theorem head_of_ker (K : KerEq W ps qs) (H : Hd W ps) (G : Hd W qs) {x : List Rat × Nat} (hx : x ∈ ps) : ∃ y ∈ qs, y.2 = x.2 := by
  by_cases e : ∃ y ∈ qs, y.2 = x.2
  · exact e
  · exfalso
    have hn : ∀ y ∈ qs, y.2 ≠ x.2 := fun y hy z => e ⟨y, hy, z⟩
    have hp := H.lt x hx
    have h1 := (K _).mpr (fv_ker G hp hn) x hx
    unfold dot at h1
    rw [sumTo_upto hp fun q hq hlt => ?_] at h1
    · rw [sumTo_zero fun q hq => by rw [H.ahead x hx q hq]; grind, H.one x hx, fv_self] at h1
      grind
    · by_cases e2 : ∃ y ∈ qs, y.2 = q
      · obtain ⟨y, hy, rfl⟩ := e2
        rw [fv_head G hy (hn y hy), G.ahead y hy x.2 hlt]
        grind
      · rw [fv_free (by omega) fun y hy z => e2 ⟨y, hy, z⟩]
        grind
theorem KerEq.symm (K : KerEq W ps qs) : KerEq W qs ps := fun v => (K v).symm
theorem row_of_ker (K : KerEq W ps qs) (H : Hd W ps) (G : Hd W qs) (lp : ∀ x ∈ ps, x.1.length = W) (lq : ∀ x ∈ qs, x.1.length = W) {x y : List Rat × Nat} (hx : x ∈ ps) (hy : y ∈ qs) (e : x.2 = y.2) : x.1 = y.1 := by
  have get : ∀ q < W, x.1.getD q 0 = y.1.getD q 0 := by
    intro q hq
    by_cases hd : ∃ z ∈ ps, z.2 = q
    · obtain ⟨z, hz, rfl⟩ := hd
      obtain ⟨w, hw, ew⟩ := head_of_ker K H G hz
      by_cases ez : z.2 = x.2
      · rw [ez, H.one x hx, e, G.one y hy]
      · rw [H.alone x hx z hz ez, ← ew, G.alone y hy w hw (by omega)]
    · have hn : ∀ z ∈ ps, z.2 ≠ q := fun z hz t => hd ⟨z, hz, t⟩
      have h1 := (K _).mp (fv_ker H hq hn) y hy
      unfold dot at h1
      have hyq : y.2 ≠ q := by rw [← e]; exact hn x hx
      rw [sumTo_two (k := y.2) (j := q) (G.lt y hy) hq hyq fun p hp h1 h2 => ?_] at h1
      · rw [G.one y hy, fv_self, ← e, fv_head H hx (hn x hx)] at h1
        grind
      · by_cases e2 : ∃ z ∈ ps, z.2 = p
        · obtain ⟨z, hz, rfl⟩ := e2
          obtain ⟨w, hw, ew⟩ := head_of_ker K H G hz
          rw [← ew, G.alone y hy w hw (by omega)]
          grind
        · rw [fv_free h2 fun z hz t => e2 ⟨z, hz, t⟩]
          grind
  refine List.ext_getElem (by rw [lp x hx, lq y hy]) fun i h1 h2 => ?_
  have := get i (by rw [← lp x hx]; exact h1)
  rw [List.getD_eq_getElem?_getD, List.getElem?_eq_getElem h1, List.getD_eq_getElem?_getD, List.getElem?_eq_getElem h2] at this
  exact this
theorem rows_unique (K : KerEq W ps qs) (H : Hd W ps) (G : Hd W qs) (lp : ∀ x ∈ ps, x.1.length = W) (lq : ∀ x ∈ qs, x.1.length = W) : ps = qs := by
  have sub : ∀ {as bs : List (List Rat × Nat)}, KerEq W as bs → Hd W as → Hd W bs → (∀ x ∈ as, x.1.length = W) → (∀ x ∈ bs, x.1.length = W) → ∀ x ∈ as, x ∈ bs := fun {as bs} K H G la lb x hx => by
    obtain ⟨y, hy, e⟩ := head_of_ker K H G hx
    have := row_of_ker K H G la lb hx hy e.symm
    have e2 : x = y := Prod.ext this e.symm
    rw [e2]; exact hy
  have nd : ∀ {as : List (List Rat × Nat)}, Hd W as → as.Nodup := fun {as} H => H.up.imp fun {a b} h z => by rw [z] at h; omega
  have pm : ps.Perm qs := (List.perm_ext_iff_of_nodup (nd H) (nd G)).mpr fun x => ⟨sub K H G lp lq x, sub K.symm G H lq lp x⟩
  exact List.Perm.eq_of_pairwise (le := fun a b => a.2 < b.2) (fun a b _ _ h1 h2 => by omega) H.up G.up pm
end
end Mf
set_option Elab.async false
set_option linter.all false
set_option maxRecDepth 100000
set_option maxHeartbeats 1000000
namespace Mf
open PySem L2
/-! ### formulas -/
inductive B4 where | plus | minus | times | over
inductive Fm where
  | nm (i : Nat) | nu (k : Int) | bi (o : B4) (p q : Fm) | pw (p : Fm) (k : Int) | rt (p : Fm) | wv (p : Fm)
def B4.w : B4 → Str
  | .plus => "plus" | .minus => "minus" | .times => "times" | .over => "over"
def Fm.D : Fm → D
  | .nm i => .tup [.str "name", .str (Mf.nm i)]
  | .nu k => .tup [.str "number", .int k]
  | .bi o p q => .tup [.str o.w, p.D, q.D]
  | .pw p k => .tup [.str "power", p.D, .int k]
  | .rt p => .tup [.str "root", p.D]
  | .wv p => .tup [.str "wave", p.D]
def Fm.dep : Fm → Nat
  | .nm _ => 1 | .nu _ => 1
  | .bi _ p q => max p.dep q.dep + 1
  | .pw p _ => p.dep + 1 | .rt p => p.dep + 1 | .wv p => p.dep + 1
def Fm.ok : Fm → Prop
  | .nm i => i < 6 | .nu k => 1 ≤ k ∧ k ≤ 9
  | .bi _ p q => p.ok ∧ q.ok
  | .pw p k => p.ok ∧ -3 ≤ k ∧ k ≤ 3 | .rt p => p.ok | .wv p => p.ok
theorem Fm.dep_pos : ∀ f : Fm, 1 ≤ f.dep
  | .nm _ => Nat.le_refl _ | .nu _ => Nat.le_refl _
  | .bi _ _ _ => Nat.succ_le_succ (Nat.zero_le _) | .pw _ _ => Nat.succ_le_succ (Nat.zero_le _) | .rt _ => Nat.succ_le_succ (Nat.zero_le _) | .wv _ => Nat.succ_le_succ (Nat.zero_le _)
def zero6 : List Rat := [0, 0, 0, 0, 0, 0]
def ex : Fm → List Rat
  | .nm i => (List.range 6).map fun j => if j = i then 1 else 0
  | .nu _ => zero6
  | .bi o p q => match o with
    | .times => radd (ex p) (ex q) 1
    | .over => radd (ex p) (ex q) (-1)
    | _ => ex p
  | .pw p k => (ex p).map (· * (k : Rat))
  | .rt p => (ex p).map (· * Rat.divInt 1 2)
  | .wv _ => zero6
def dm : Fm → List (List Rat)
  | .nm _ => [] | .nu _ => []
  | .bi o p q => match o with
    | .times => dm p ++ dm q
    | .over => dm p ++ dm q
    | _ => dm p ++ dm q ++ [radd (ex p) (ex q) (-1)]
  | .pw p _ => dm p | .rt p => dm p
  | .wv p => dm p ++ [ex p]
/-! the law's own: sixteen times the exponents -/
def ladd (a b : List Int) (s : Int) : List Int := (a.zip b).map fun z => z.1 + s * z.2
def lex : Fm → List Int
  | .nm i => (List.range 6).map fun j => 16 * (if j = i then 1 else 0)
  | .nu _ => [0, 0, 0, 0, 0, 0]
  | .bi o p q => match o with
    | .times => ladd (lex p) (lex q) 1
    | .over => ladd (lex p) (lex q) (-1)
    | _ => lex p
  | .pw p k => (lex p).map (· * k)
  | .rt p => (lex p).map fun x => x.fdiv 2
  | .wv _ => [0, 0, 0, 0, 0, 0]
def ldm : Fm → List (List Int)
  | .nm _ => [] | .nu _ => []
  | .bi o p q => match o with
    | .times => ldm p ++ ldm q
    | .over => ldm p ++ ldm q
    | _ => ldm p ++ ldm q ++ [ladd (lex p) (lex q) (-1)]
  | .pw p _ => ldm p | .rt p => ldm p
  | .wv p => ldm p ++ [lex p]
def d16 (r : List Int) : List Rat := r.map fun (x : Int) => (x : Rat) / 16
theorem ladd_len {a b : List Int} {s : Int} (h : a.length = b.length) : (ladd a b s).length = a.length := by simp [ladd, h]
theorem d16_ladd {a b : List Int} {s : Int} : d16 (ladd a b s) = radd (d16 a) (d16 b) (s : Rat) := by
  unfold d16 ladd radd
  rw [List.zip_map, List.map_map, List.map_map]
  refine List.map_congr_left fun z _ => ?_
  show ((z.1 + s * z.2 : Int) : Rat) / 16 = (z.1 : Rat) / 16 + (z.2 : Rat) / 16 * (s : Rat)
  push_cast
  grind
structure LexOk (f : Fm) : Prop where
  len : (lex f).length = 6
  dvd : ∀ x ∈ lex f, (2 : Int) ^ (5 - f.dep) ∣ x
  bd : ∀ x ∈ lex f, x.natAbs ≤ 16 * 3 ^ (f.dep - 1)
  eq : ex f = d16 (lex f)
theorem pow_dvd' {a b : Nat} (h : a ≤ b) : (2 : Int) ^ a ∣ (2 : Int) ^ b := ⟨2 ^ (b - a), by rw [← Int.pow_add]; congr 1; omega⟩
theorem three_le {a b : Nat} (h : a ≤ b) : 16 * 3 ^ a ≤ 16 * 3 ^ b := Nat.mul_le_mul_left _ (Nat.pow_le_pow_right (by decide) h)
theorem lex_zero : LexOk (.nu 1) ∧ ∀ k, LexOk (.nu k) := by
  have : ∀ k, LexOk (.nu k) := fun k => ⟨rfl, fun x hx => by
    have : x = 0 := by simpa [lex] using hx
    rw [this]; exact Int.dvd_zero _, fun x hx => by
    have : x = 0 := by simpa [lex] using hx
    rw [this]; exact Nat.zero_le _, by
    show zero6 = d16 [0, 0, 0, 0, 0, 0]
    simp [zero6, d16]
    grind⟩
  exact ⟨this 1, this⟩
theorem ladd_ok {p q : Fm} (hp : LexOk p) (hq : LexOk q) {s : Int} (hs : s = 1 ∨ s = -1) {d : Nat} (hd : d = max p.dep q.dep + 1) :
    (ladd (lex p) (lex q) s).length = 6 ∧ (∀ x ∈ ladd (lex p) (lex q) s, (2 : Int) ^ (5 - d) ∣ x) ∧ (∀ x ∈ ladd (lex p) (lex q) s, x.natAbs ≤ 2 * (16 * 3 ^ (d - 2))) := by
  refine ⟨by rw [ladd_len (by rw [hp.len, hq.len]), hp.len], fun x hx => ?_, fun x hx => ?_⟩
  · obtain ⟨z, hz, rfl⟩ := List.mem_map.mp hx
    have hz' := List.of_mem_zip hz
    exact Int.dvd_add (Int.dvd_trans (pow_dvd' (by omega)) (hp.dvd _ hz'.1)) (Int.dvd_mul_of_dvd_right (Int.dvd_trans (pow_dvd' (by omega)) (hq.dvd _ hz'.2)))
  · obtain ⟨z, hz, rfl⟩ := List.mem_map.mp hx
    have hz' := List.of_mem_zip hz
    have pp := p.dep_pos
    have pq := q.dep_pos
    have h1 := Nat.le_trans (hp.bd _ hz'.1) (three_le (show p.dep - 1 ≤ d - 2 by omega))
    have h2 := Nat.le_trans (hq.bd _ hz'.2) (three_le (show q.dep - 1 ≤ d - 2 by omega))
    generalize 16 * 3 ^ (d - 2) = M at h1 h2
    rcases hs with rfl | rfl <;> omega
theorem lex_ok : ∀ f : Fm, f.ok → f.dep ≤ 4 → LexOk f
  | .nm i, h, _ => by
    have h : i < 6 := h
    refine ⟨by simp [lex], fun x hx => ?_, fun x hx => ?_, ?_⟩
    · obtain ⟨j, _, rfl⟩ := List.mem_map.mp hx
      exact Int.dvd_mul_right _ _
    · obtain ⟨j, _, rfl⟩ := List.mem_map.mp hx
      show _ ≤ 16 * 3 ^ 0
      split <;> simp
    · show (List.range 6).map _ = d16 ((List.range 6).map _)
      unfold d16
      rw [List.map_map]
      refine List.map_congr_left fun j _ => ?_
      show (if j = i then (1 : Rat) else 0) = ((16 * (if j = i then 1 else 0) : Int) : Rat) / 16
      split <;> (push_cast; grind)
  | .nu k, _, _ => lex_zero.2 k
  | .bi o p q, h, hd => by
    have hd : max p.dep q.dep + 1 ≤ 4 := hd
    have hp := lex_ok p h.1 (by omega)
    have hq := lex_ok q h.2 (by omega)
    have pp := p.dep_pos
    have fst : LexOk (.bi .plus p q) := ⟨hp.len, fun x hx => Int.dvd_trans (pow_dvd' (show 5 - (max p.dep q.dep + 1) ≤ 5 - p.dep by omega)) (hp.dvd x hx), fun x hx => Nat.le_trans (hp.bd x hx) (three_le (show p.dep - 1 ≤ max p.dep q.dep + 1 - 1 by omega)), hp.eq⟩
    have snd : ∀ (s : Int), s = 1 ∨ s = -1 → (∀ x ∈ ladd (lex p) (lex q) s, x.natAbs ≤ 16 * 3 ^ (max p.dep q.dep + 1 - 1)) := fun s hs x hx => by
      have := (ladd_ok hp hq hs rfl).2.2 x hx
      have e : max p.dep q.dep + 1 - 1 = (max p.dep q.dep + 1 - 2) + 1 := by omega
      rw [e, Nat.pow_succ]
      generalize 3 ^ (max p.dep q.dep + 1 - 2) = M at this
      omega
    cases o with
    | plus => exact fst
    | minus => exact ⟨fst.len, fst.dvd, fst.bd, fst.eq⟩
    | times =>
      obtain ⟨a, b, _⟩ := ladd_ok hp hq (s := 1) (.inl rfl) rfl
      refine ⟨a, b, snd 1 (.inl rfl), ?_⟩
      show radd (ex p) (ex q) 1 = d16 (ladd (lex p) (lex q) 1)
      rw [d16_ladd, hp.eq, hq.eq]
      rfl
    | over =>
      obtain ⟨a, b, _⟩ := ladd_ok hp hq (s := -1) (.inr rfl) rfl
      refine ⟨a, b, snd (-1) (.inr rfl), ?_⟩
      show radd (ex p) (ex q) (-1) = d16 (ladd (lex p) (lex q) (-1))
      rw [d16_ladd, hp.eq, hq.eq]
      rfl
  | .pw p k, h, hd => by
    have hd : p.dep + 1 ≤ 4 := hd
    have hp := lex_ok p h.1 (by omega)
    have pp := p.dep_pos
    refine ⟨by show ((lex p).map _).length = 6; rw [List.length_map, hp.len], fun x hx => ?_, fun x hx => ?_, ?_⟩
    · obtain ⟨y, hy, rfl⟩ := List.mem_map.mp hx
      exact Int.dvd_mul_of_dvd_left (Int.dvd_trans (pow_dvd' (show 5 - (p.dep + 1) ≤ 5 - p.dep by omega)) (hp.dvd y hy))
    · obtain ⟨y, hy, rfl⟩ := List.mem_map.mp hx
      have h1 := hp.bd y hy
      have e : (Fm.pw p k).dep - 1 = (p.dep - 1) + 1 := by show p.dep + 1 - 1 = _; omega
      rw [e, Nat.pow_succ, Int.natAbs_mul]
      have h3 : k.natAbs ≤ 3 := by have := h.2; omega
      calc y.natAbs * k.natAbs ≤ (16 * 3 ^ (p.dep - 1)) * 3 := Nat.mul_le_mul h1 h3
        _ = 16 * (3 ^ (p.dep - 1) * 3) := by rw [Nat.mul_assoc]
    · show (ex p).map _ = d16 ((lex p).map _)
      rw [hp.eq]
      unfold d16
      rw [List.map_map, List.map_map]
      refine List.map_congr_left fun x _ => ?_
      show (x : Rat) / 16 * (k : Rat) = ((x * k : Int) : Rat) / 16
      push_cast
      grind
  | .rt p, h, hd => by
    have hd : p.dep + 1 ≤ 4 := hd
    have hp := lex_ok p h (by omega)
    have pp := p.dep_pos
    have half : ∀ y ∈ lex p, ∃ z, y = 2 * z ∧ y.fdiv 2 = z ∧ (2 : Int) ^ (5 - (p.dep + 1)) ∣ z := fun y hy => by
      obtain ⟨c, hc⟩ := hp.dvd y hy
      have e : 5 - p.dep = (5 - (p.dep + 1)) + 1 := by omega
      rw [e, Int.pow_succ] at hc
      refine ⟨2 ^ (5 - (p.dep + 1)) * c, by rw [hc]; grind, ?_, Int.dvd_mul_right _ _⟩
      rw [hc, Int.fdiv_eq_ediv_of_nonneg _ (by decide)]
      have : (2 : Int) ^ (5 - (p.dep + 1)) * 2 * c = 2 * (2 ^ (5 - (p.dep + 1)) * c) := by grind
      rw [this, Int.mul_ediv_cancel_left _ (by decide)]
    refine ⟨by show ((lex p).map _).length = 6; rw [List.length_map, hp.len], fun x hx => ?_, fun x hx => ?_, ?_⟩
    · obtain ⟨y, hy, rfl⟩ := List.mem_map.mp hx
      obtain ⟨z, _, e2, e3⟩ := half y hy
      rw [e2]; exact e3
    · obtain ⟨y, hy, rfl⟩ := List.mem_map.mp hx
      obtain ⟨z, e1, e2, e3⟩ := half y hy
      rw [e2]
      have h1 := Nat.le_trans (hp.bd y hy) (three_le (show p.dep - 1 ≤ (Fm.rt p).dep - 1 by show _ ≤ p.dep + 1 - 1; omega))
      omega
    · show (ex p).map _ = d16 ((lex p).map _)
      rw [hp.eq]
      unfold d16
      rw [List.map_map, List.map_map]
      refine List.map_congr_left fun x hx => ?_
      obtain ⟨z, e1, e2, e3⟩ := half x hx
      show (x : Rat) / 16 * Rat.divInt 1 2 = ((x.fdiv 2 : Int) : Rat) / 16
      rw [e2, e1, Rat.divInt_eq_div]
      push_cast
      grind
  | .wv p, _, hd => by
    have z := lex_zero.1
    have hd : p.dep + 1 ≤ 4 := hd
    exact ⟨z.len, fun x hx => by
      have : x = 0 := by simpa [lex] using hx
      rw [this]; exact Int.dvd_zero _, fun x hx => by
      have : x = 0 := by simpa [lex] using hx
      rw [this]; exact Nat.zero_le _, z.eq⟩
end Mf
set_option Elab.async false
set_option linter.all false
set_option maxRecDepth 100000
set_option maxHeartbeats 1000000
namespace Mf
open PySem L2
section
variable {S : Type} {s : S}
theorem walkL_flat {α β : Type} {f : D → S → Res S (List D)} {e : α → D} {m : α → List β} {g : β → D} : ∀ {l : List α}, (∀ a ∈ l, f (e a) s = .ok ((m a).map g) s) → walkL f (l.map e) s = .ok ((l.flatMap m).map g) s
  | [], _ => rfl
  | a :: l, h => by
    show (f (e a) s).bind _ = _
    rw [h a List.mem_cons_self]
    show (walkL f (l.map e) s).bind _ = _
    rw [walkL_flat fun b hb => h b (List.mem_cons_of_mem _ hb)]
    show Res.ok _ s = _
    rw [List.flatMap_cons, List.map_append]
theorem ev_lc2q {α β : Type} {it it1 : CI S} {tg tg1 : Tg} {elt : CE S} {vs vs1 : List Nat} {ρ : List SV} {l : List α} {e : α → D} {m : α → List β} {e1 g : β → D} (hi : evI false it ρ s = .ok (l.map e) s) (hl : l.length ≤ 1000000) (hlen : (l.flatMap m).length ≤ 1000000)
    (hb : ∀ a ∈ l, ∃ ρ', asgT tg (e a) (wipeR (hideR ρ) vs) = some ρ' ∧ evI true it1 (hideR ρ') s = .ok ((m a).map e1) s ∧ ∀ b ∈ m a, ∃ ρ2, asgT tg1 (e1 b) (wipeR (hideR ρ') vs1) = some ρ2 ∧ ∃ k, k ≠ K3.o ∧ ev elt ρ2 s = .ok (k, g b) s) :
    ev (.lc2 it tg it1 tg1 elt vs vs1) ρ s = .ok (.t, .lst ((l.flatMap m).map g)) s := by
  rw [ev_lc2, hi]
  simp only [bindq_ok, List.length_map, lenOk, decide_eq_true hl, Bool.not_true, Bool.false_eq_true, if_false]
  rw [walkL_flat (m := m) (g := g)]
  · simp only [bindq_ok, List.length_map, decide_eq_true hlen, if_true]
  · intro a ha
    obtain ⟨ρ', h1, h2, h3⟩ := hb a ha
    unfold lc2F
    rw [h1]
    show (noEx (evI true it1 (hideR ρ') s)).bind _ = _
    rw [h2, noExq, bindq_ok]
    refine walkR_map fun b hb => ?_
    obtain ⟨ρ2, h4, k, h5, h6⟩ := h3 b hb
    rw [lcF_nil]
    simp only [h4, h6, noExq, bindq_ok]
    cases k with
    | v => rfl
    | t => rfl
    | o => exact absurd rfl h5
end
/-- what asked_by's rows are bounded by -/
def bx : Nat → Nat
  | 0 => 2
  | d + 1 => 2 * bx d + 4
theorem bx_mono {a b : Nat} (h : a ≤ b) : bx a ≤ bx b := by
  induction h with
  | refl => exact Nat.le_refl _
  | step _ ih => exact Nat.le_trans ih (by show _ ≤ 2 * bx _ + 4; omega)
theorem ex_len : ∀ f : Fm, (ex f).length = 6
  | .nm _ => by simp [ex]
  | .nu _ => rfl
  | .bi o p q => by
    cases o
    · exact ex_len p
    · exact ex_len p
    · show (radd _ _ _).length = 6; rw [radd_length (by rw [ex_len p, ex_len q]), ex_len p]
    · show (radd _ _ _).length = 6; rw [radd_length (by rw [ex_len p, ex_len q]), ex_len p]
  | .pw p _ => by show ((ex p).map _).length = 6; rw [List.length_map, ex_len p]
  | .rt p => by show ((ex p).map _).length = 6; rw [List.length_map, ex_len p]
  | .wv _ => rfl
theorem bd_int {k : Int} (h : -3 ≤ k ∧ k ≤ 3) : bd 2 (k : Rat) := by
  have : k = -3 ∨ k = -2 ∨ k = -1 ∨ k = 0 ∨ k = 1 ∨ k = 2 ∨ k = 3 := by omega
  rcases this with rfl | rfl | rfl | rfl | rfl | rfl | rfl <;> exact ⟨by decide, by decide⟩
theorem bd_half : bd 2 (Rat.divInt 1 2) := ⟨by decide +kernel, by decide +kernel⟩
theorem bds_zero {B : Nat} (h : 1 ≤ B) : bds B zero6 := fun x hx => by
  have : x = 0 := by simpa [zero6] using hx
  rw [this]
  exact (show bd 1 0 from ⟨by decide, by decide⟩).mono h
theorem bx_pos (d : Nat) : 2 ≤ bx d := bx_mono (Nat.zero_le d)
theorem ex_bds : ∀ f : Fm, f.ok → bds (bx f.dep) (ex f)
  | .nm i, _ => fun x hx => by
    obtain ⟨j, _, rfl⟩ := List.mem_map.mp hx
    have : bd 1 (if j = i then (1 : Rat) else 0) := by split <;> exact ⟨by decide, by decide⟩
    exact this.mono (by have := bx_pos 1; show 1 ≤ bx 1; omega)
  | .nu _, _ => bds_zero (by have := bx_pos 1; show 1 ≤ bx 1; omega)
  | .bi o p q, h => by
    have hp := (ex_bds p h.1).mono (bx_mono (show p.dep ≤ max p.dep q.dep by omega))
    have hq := (ex_bds q h.2).mono (bx_mono (show q.dep ≤ max p.dep q.dep by omega))
    have e : bx (Fm.bi o p q).dep = 2 * bx (max p.dep q.dep) + 4 := rfl
    rw [e]
    cases o
    · exact hp.mono (by omega)
    · exact hp.mono (by omega)
    · exact (bds_radd hp hq (show bd 1 1 from ⟨by decide, by decide⟩)).mono (by omega)
    · exact (bds_radd hp hq bd_neg1).mono (by omega)
  | .pw p k, h => fun x hx => by
    obtain ⟨y, hy, rfl⟩ := List.mem_map.mp hx
    exact (bd_times (ex_bds p h.1 y hy) (bd_int h.2)).mono (by show _ ≤ 2 * bx p.dep + 4; omega)
  | .rt p, h => fun x hx => by
    obtain ⟨y, hy, rfl⟩ := List.mem_map.mp hx
    exact (bd_times (ex_bds p h y hy) bd_half).mono (by show _ ≤ 2 * bx p.dep + 4; omega)
  | .wv p, _ => bds_zero (by have := bx_pos (Fm.wv p).dep; omega)
theorem seq_iff {S : Type} {t : CE S} {a cs : CSs S} {ρ : List SV} {s : S} {k3 : K3} {r : Out S} (h : ev t ρ s = .ok (k3, .bl false) s) (h2 : runs cs ρ s = r) : runs (.cons (.ife t a .nil) cs) ρ s = r := by
  rw [runs_cons, run_ifq h rfl]
  show (runs .nil ρ s).sq _ = _
  rw [runs_nil]
  exact h2
theorem seq_ift {S : Type} {t : CE S} {a b cs : CSs S} {ρ : List SV} {s s' : S} {k3 : K3} {d : D} (h : ev t ρ s = .ok (k3, .bl true) s) (h2 : runs a ρ s = .rt d s') : runs (.cons (.ife t a b) cs) ρ s = .rt d s' := by
  rw [runs_cons, run_ifq h rfl]
  show (runs a ρ s).sq _ = _
  rw [h2]
  rfl
end Mf
set_option Elab.async false
set_option linter.all false
set_option maxRecDepth 100000
set_option maxHeartbeats 1000000
namespace Mf
open PySem L2
/-! ### statements -/
def stD (p : Fm × Fm) : D := .tup [p.1.D, p.2.D]
def stsD (l : List (Fm × Fm)) : D := .tup (l.map stD)
def stOk (p : Fm × Fm) : Prop := p.1.ok ∧ p.2.ok ∧ p.1.dep ≤ 4 ∧ p.2.dep ≤ 4
def stRows (p : Fm × Fm) : List (List Rat) := dm p.1 ++ dm p.2 ++ [radd (ex p.1) (ex p.2) (-1)]
def stsRows (l : List (Fm × Fm)) : List (List Rat) := l.flatMap stRows
def stL (p : Fm × Fm) : List (List Int) := ldm p.1 ++ ldm p.2 ++ [ladd (lex p.1) (lex p.2) (-1)]
theorem ldm_ok : ∀ f : Fm, f.ok → f.dep ≤ 4 → (∀ r ∈ ldm f, r.length = 6 ∧ ∀ x ∈ r, x.natAbs < 2 ^ 10) ∧ dm f = (ldm f).map d16
  | .nm _, _, _ => ⟨fun _ h => (nomatch h), rfl⟩
  | .nu _, _, _ => ⟨fun _ h => (nomatch h), rfl⟩
  | .bi o p q, h, hd => by
    have hd : max p.dep q.dep + 1 ≤ 4 := hd
    obtain ⟨p1, p2⟩ := ldm_ok p h.1 (by omega)
    obtain ⟨q1, q2⟩ := ldm_ok q h.2 (by omega)
    have lp := lex_ok p h.1 (by omega)
    have lq := lex_ok q h.2 (by omega)
    obtain ⟨a1, _, a3⟩ := ladd_ok lp lq (s := -1) (.inr rfl) rfl
    have both : ∀ r ∈ ldm p ++ ldm q, r.length = 6 ∧ ∀ x ∈ r, x.natAbs < 2 ^ 10 := fun r hr => by
      rcases List.mem_append.mp hr with z | z
      · exact p1 r z
      · exact q1 r z
    have e2 : dm p ++ dm q = (ldm p ++ ldm q).map d16 := by rw [List.map_append, p2, q2]
    have h3 : 3 ^ (max p.dep q.dep + 1 - 2) ≤ 9 := Nat.le_trans (Nat.pow_le_pow_right (by decide) (show max p.dep q.dep + 1 - 2 ≤ 2 by omega)) (by decide)
    have all3 : (∀ r ∈ ldm p ++ ldm q ++ [ladd (lex p) (lex q) (-1)], r.length = 6 ∧ ∀ x ∈ r, x.natAbs < 2 ^ 10) ∧ dm p ++ dm q ++ [radd (ex p) (ex q) (-1)] = (ldm p ++ ldm q ++ [ladd (lex p) (lex q) (-1)]).map d16 := by
      refine ⟨fun r hr => ?_, ?_⟩
      · rcases List.mem_append.mp hr with z | z
        · exact both r z
        · rw [List.mem_singleton.mp z]
          refine ⟨a1, fun x hx => ?_⟩
          have := a3 x hx
          generalize 3 ^ (max p.dep q.dep + 1 - 2) = M at this h3
          show _ < 1024
          omega
      · rw [List.map_append, List.map_cons, List.map_nil, ← e2, d16_ladd, lp.eq, lq.eq]
        rfl
    cases o
    · exact all3
    · exact all3
    · exact ⟨both, e2⟩
    · exact ⟨both, e2⟩
  | .pw p _, h, hd => by
    have hd : p.dep + 1 ≤ 4 := hd
    exact ldm_ok p h.1 (by omega)
  | .rt p, h, hd => by
    have hd : p.dep + 1 ≤ 4 := hd
    exact ldm_ok p h (by omega)
  | .wv p, h, hd => by
    have hd : p.dep + 1 ≤ 4 := hd
    obtain ⟨p1, p2⟩ := ldm_ok p h (by omega)
    have lp := lex_ok p h (by omega)
    refine ⟨fun r hr => ?_, ?_⟩
    · rcases List.mem_append.mp hr with z | z
      · exact p1 r z
      · rw [List.mem_singleton.mp z]
        refine ⟨lp.len, fun x hx => ?_⟩
        have := lp.bd x hx
        have h3 : 3 ^ (p.dep - 1) ≤ 27 := Nat.le_trans (Nat.pow_le_pow_right (by decide) (show p.dep - 1 ≤ 3 by omega)) (by decide)
        generalize 3 ^ (p.dep - 1) = M at this h3
        show _ < 1024
        omega
    · show dm p ++ [ex p] = (ldm p ++ [lex p]).map d16
      rw [List.map_append, p2, lp.eq]
      rfl
theorem stL_ok {p : Fm × Fm} (h : stOk p) : (∀ r ∈ stL p, r.length = 6 ∧ ∀ x ∈ r, x.natAbs < 2 ^ 10) ∧ stRows p = (stL p).map d16 := by
  obtain ⟨h1, h2, h3, h4⟩ := h
  obtain ⟨p1, p2⟩ := ldm_ok p.1 h1 h3
  obtain ⟨q1, q2⟩ := ldm_ok p.2 h2 h4
  have lp := lex_ok p.1 h1 h3
  have lq := lex_ok p.2 h2 h4
  obtain ⟨a1, _, a3⟩ := ladd_ok lp lq (s := -1) (.inr rfl) rfl
  have pp := p.1.dep_pos
  have h5 : 3 ^ (max p.1.dep p.2.dep + 1 - 2) ≤ 27 := Nat.le_trans (Nat.pow_le_pow_right (by decide) (show max p.1.dep p.2.dep + 1 - 2 ≤ 3 by omega)) (by decide)
  refine ⟨fun r hr => ?_, ?_⟩
  · rcases List.mem_append.mp hr with z | z
    · rcases List.mem_append.mp z with z | z
      · exact p1 r z
      · exact q1 r z
    · rw [List.mem_singleton.mp z]
      refine ⟨a1, fun x hx => ?_⟩
      have := a3 x hx
      generalize 3 ^ (max p.1.dep p.2.dep + 1 - 2) = M at this h5
      show _ < 1024
      omega
  · unfold stRows stL
    rw [List.map_append, List.map_append, List.map_cons, List.map_nil, p2, q2, d16_ladd, lp.eq, lq.eq]
    rfl
theorem d16_RW {r : List Int} (h1 : r.length = 6) (h2 : ∀ x ∈ r, x.natAbs < 2 ^ 10) : RW 10 5 6 (d16 r) := ⟨r, 16, by decide, by decide, h1, h2, rfl⟩
theorem stRows_RW {p : Fm × Fm} (h : stOk p) : ∀ r ∈ stRows p, RW 10 5 6 r := fun r hr => by
  obtain ⟨h1, h2⟩ := stL_ok h
  rw [h2] at hr
  obtain ⟨x, hx, rfl⟩ := List.mem_map.mp hr
  exact d16_RW (h1 x hx).1 (h1 x hx).2
end Mf
set_option Elab.async false
set_option linter.all false
set_option maxRecDepth 100000
set_option maxHeartbeats 1000000
namespace Mf
/-! ### a row of fractions as integers without a common divisor -/
def lcmF (a : Nat) (r : List Rat) : Nat := r.foldl (fun a x => Nat.lcm a x.den) a
def numsD (r : List Rat) (m : Nat) : List Int := r.map fun x => (x.num * (m : Int)).fdiv (x.den : Int)
def gcdF (a : Nat) (l : List Int) : Nat := l.foldl (fun a y => Int.gcd (a : Int) y) a
def wholeQ (r : List Rat) : List Int := (numsD r (lcmF 1 r)).map fun y => y.fdiv (gcdF 0 (numsD r (lcmF 1 r)) : Nat)
theorem lcmF_dvd : ∀ (r : List Rat) (a : Nat), a ∣ lcmF a r ∧ ∀ x ∈ r, x.den ∣ lcmF a r
  | [], a => ⟨Nat.dvd_refl _, fun _ h => (nomatch h)⟩
  | y :: r, a => by
    obtain ⟨h1, h2⟩ := lcmF_dvd r (Nat.lcm a y.den)
    refine ⟨Nat.dvd_trans (Nat.dvd_lcm_left _ _) h1, fun x hx => ?_⟩
    rcases List.mem_cons.mp hx with z | z
    · rw [z]; exact Nat.dvd_trans (Nat.dvd_lcm_right _ _) h1
    · exact h2 x z
theorem lcmF_of {d : Nat} : ∀ (r : List Rat) (a : Nat), a ∣ d → (∀ x ∈ r, x.den ∣ d) → lcmF a r ∣ d
  | [], a, h, _ => h
  | y :: r, a, h, k => lcmF_of r _ (Nat.lcm_dvd h (k y List.mem_cons_self)) fun x hx => k x (List.mem_cons_of_mem _ hx)
theorem gcdF_iff {d : Nat} : ∀ (l : List Int) (a : Nat), d ∣ gcdF a l ↔ d ∣ a ∧ ∀ y ∈ l, (d : Int) ∣ y
  | [], a => ⟨fun h => ⟨h, fun _ z => (nomatch z)⟩, fun h => h.1⟩
  | y :: l, a => by
    show d ∣ gcdF (Int.gcd (a : Int) y) l ↔ _
    rw [gcdF_iff l]
    constructor
    · rintro ⟨h1, h2⟩
      have h3 : d ∣ a := Nat.dvd_trans h1 (by have := Int.gcd_dvd_left (a : Int) y; exact_mod_cast this)
      have h4 : (d : Int) ∣ y := Int.dvd_trans (by exact_mod_cast h1) (Int.gcd_dvd_right (a : Int) y)
      refine ⟨h3, fun z hz => ?_⟩
      rcases List.mem_cons.mp hz with e | e
      · rw [e]; exact h4
      · exact h2 z e
    · rintro ⟨h1, h2⟩
      exact ⟨by
        have : (d : Int) ∣ ((Int.gcd (a : Int) y : Nat) : Int) := Int.dvd_coe_gcd (by exact_mod_cast h1) (h2 y List.mem_cons_self)
        exact_mod_cast this, fun z hz => h2 z (List.mem_cons_of_mem _ hz)⟩
theorem lcmF_pos : ∀ (r : List Rat) (a : Nat), 0 < a → 0 < lcmF a r
  | [], a, h => h
  | y :: r, a, h => lcmF_pos r _ (Nat.lcm_pos h (Nat.pos_of_ne_zero y.den_nz))
theorem num_mul {x : Rat} {m : Nat} (h : x.den ∣ m) : (((x.num * (m : Int)).fdiv (x.den : Int) : Int) : Rat) = x * (m : Rat) := by
  obtain ⟨k, rfl⟩ := h
  have hd : (x.den : Int) ≠ 0 := den_ne x
  have e : x.num * ((x.den * k : Nat) : Int) = (x.den : Int) * (x.num * (k : Int)) := by push_cast; grind
  rw [e, Int.fdiv_eq_ediv_of_nonneg _ (by omega), Int.mul_ediv_cancel_left _ hd]
  have hx : ((x.num : Int) : Rat) / (((x.den : Nat) : Int) : Rat) = x := by rw [← Rat.divInt_eq_div]; exact Rat.num_divInt_den x
  have hdr : (((x.den : Nat) : Int) : Rat) ≠ 0 := by exact_mod_cast hd
  have hc : (((x.den * k : Nat)) : Rat) = (((x.den : Nat) : Int) : Rat) * (k : Rat) := by push_cast; rfl
  rw [hc]
  push_cast
  generalize hA : ((x.num : Int) : Rat) = A at hx
  generalize hB : (((x.den : Nat) : Int) : Rat) = B at hx hdr
  grind
theorem numsD_get {r : List Rat} {q : Nat} : (((numsD r (lcmF 1 r)).getD q 0 : Int) : Rat) = r.getD q 0 * (lcmF 1 r : Rat) := by
  unfold numsD
  simp only [List.getD_eq_getElem?_getD, List.getElem?_map]
  by_cases hq : q < r.length
  · rw [List.getElem?_eq_getElem hq]
    exact num_mul ((lcmF_dvd r 1).2 _ (List.getElem_mem hq))
  · rw [List.getElem?_eq_none (by omega)]
    simp
theorem wholeQ_len (r : List Rat) : (wholeQ r).length = r.length := by unfold wholeQ numsD; simp
theorem gcd_pos {r : List Rat} {q : Nat} (h : r.getD q 0 ≠ 0) : 0 < gcdF 0 (numsD r (lcmF 1 r)) := by
  refine Nat.pos_of_ne_zero fun z => h ?_
  have h1 := (gcdF_iff (d := 0) (numsD r (lcmF 1 r)) 0).mp (by rw [z]; exact Nat.dvd_refl _)
  have hm : (lcmF 1 r : Rat) ≠ 0 := by
    have := lcmF_pos r 1 (by decide)
    intro z
    have : lcmF 1 r = 0 := by exact_mod_cast z
    omega
  by_cases hq : q < (numsD r (lcmF 1 r)).length
  · have h2 := h1.2 _ (igetD_mem hq)
    have h3 : (numsD r (lcmF 1 r)).getD q 0 = 0 := by simpa using h2
    have h4 := numsD_get (r := r) (q := q)
    rw [h3] at h4
    have : r.getD q 0 * (lcmF 1 r : Rat) = 0 := by rw [← h4]; rfl
    grind
  · have : r.length ≤ q := by unfold numsD at hq; simp at hq; exact hq
    rw [List.getD_eq_getElem?_getD, List.getElem?_eq_none this]
    rfl
theorem wholeQ_get {r : List Rat} {q0 : Nat} (h : r.getD q0 0 ≠ 0) : ∃ c : Rat, 0 < c ∧ ∀ q, (((wholeQ r).getD q 0 : Int) : Rat) = c * r.getD q 0 := by
  have hg := gcd_pos h
  have hm := lcmF_pos r 1 (by decide)
  have hd := (gcdF_iff (d := gcdF 0 (numsD r (lcmF 1 r))) (numsD r (lcmF 1 r)) 0).mp (Nat.dvd_refl _)
  refine ⟨(lcmF 1 r : Rat) / (gcdF 0 (numsD r (lcmF 1 r)) : Rat), ?_, fun q => ?_⟩
  · rw [Rat.div_def]
    exact Rat.mul_pos (by exact_mod_cast hm) (Rat.inv_pos.mpr (by exact_mod_cast hg))
  · have e := numsD_get (r := r) (q := q)
    have hgr : (gcdF 0 (numsD r (lcmF 1 r)) : Rat) ≠ 0 := by
      intro z
      have : gcdF 0 (numsD r (lcmF 1 r)) = 0 := by exact_mod_cast z
      omega
    unfold wholeQ
    generalize hN : numsD r (lcmF 1 r) = N at e hd hgr hg
    generalize gcdF 0 N = g at hd hgr hg
    have : (((N.map fun y => y.fdiv (g : Int)).getD q 0 : Int) : Rat) * (g : Rat) = ((N.getD q 0 : Int) : Rat) := by
      simp only [List.getD_eq_getElem?_getD, List.getElem?_map]
      by_cases hq : q < N.length
      · rw [List.getElem?_eq_getElem hq]
        obtain ⟨k, hk⟩ := hd.2 _ (List.getElem_mem hq)
        show ((N[q].fdiv (g : Int) : Int) : Rat) * (g : Rat) = ((N[q] : Int) : Rat)
        rw [hk, Int.fdiv_eq_ediv_of_nonneg _ (by omega), Int.mul_ediv_cancel_left _ (by omega)]
        push_cast
        grind
      · rw [List.getElem?_eq_none (by omega)]
        simp
    rw [e] at this
    grind
theorem wholeQ_gcd {r : List Rat} {q0 : Nat} (h : r.getD q0 0 ≠ 0) : gcdF 0 (wholeQ r) = 1 := by
  have hg := gcd_pos h
  have hd := (gcdF_iff (d := gcdF 0 (numsD r (lcmF 1 r))) (numsD r (lcmF 1 r)) 0).mp (Nat.dvd_refl _)
  unfold wholeQ
  generalize hN : numsD r (lcmF 1 r) = N at hd hg
  have key : ∀ e : Nat, e ∣ gcdF 0 (N.map fun y => y.fdiv ((gcdF 0 N : Nat) : Int)) → e * gcdF 0 N ∣ gcdF 0 N := fun e he => by
    have he := (gcdF_iff _ 0).mp he
    refine (gcdF_iff _ 0).mpr ⟨Nat.dvd_zero _, fun y hy => ?_⟩
    obtain ⟨k, hk⟩ := hd.2 y hy
    have h2 := he.2 _ (List.mem_map.mpr ⟨y, hy, rfl⟩)
    rw [hk, Int.fdiv_eq_ediv_of_nonneg _ (by omega), Int.mul_ediv_cancel_left _ (by omega)] at h2
    obtain ⟨j, hj⟩ := h2
    exact ⟨j, by rw [hk, hj]; push_cast; grind⟩
  have h1 := key _ (Nat.dvd_refl _)
  have h2 := Nat.le_of_dvd hg h1
  generalize gcdF 0 (N.map fun y => y.fdiv ((gcdF 0 N : Nat) : Int)) = e at h1 h2
  generalize gcdF 0 N = g at h1 h2 hg
  match e with
  | 0 => rw [Nat.zero_mul] at h1; have := Nat.eq_zero_of_zero_dvd h1; omega
  | 1 => rfl
  | e + 2 =>
    have : 2 * g ≤ (e + 2) * g := Nat.mul_le_mul_right _ (by omega)
    omega
end Mf
set_option Elab.async false
set_option linter.all false
set_option maxRecDepth 100000
set_option maxHeartbeats 1000000
namespace Mf
/-! ### spans of rows of fractions -/
inductive Sp (l : List (List Rat)) : (Nat → Rat) → Prop
  | mem {r : List Rat} : r ∈ l → Sp l fun q => r.getD q 0
  | zero : Sp l fun _ => 0
  | comb {v w : Nat → Rat} (c : Rat) : Sp l v → Sp l w → Sp l fun q => v q + c * w q
theorem Sp.congr {l : List (List Rat)} {v w : Nat → Rat} (h : Sp l v) (e : ∀ q, v q = w q) : Sp l w := by
  have : v = w := funext e
  rw [← this]; exact h
theorem Sp.smul {l : List (List Rat)} {v : Nat → Rat} (c : Rat) (h : Sp l v) : Sp l fun q => c * v q := (Sp.comb c .zero h).congr fun q => by grind
theorem Sp.trans {l m : List (List Rat)} {v : Nat → Rat} (h : Sp l v) (k : ∀ r ∈ l, Sp m fun q => r.getD q 0) : Sp m v := by
  induction h with
  | mem hr => exact k _ hr
  | zero => exact .zero
  | comb c _ _ a b => exact .comb c a b
theorem Sp.ker {l : List (List Rat)} {v : Nat → Rat} (h : Sp l v) {W : Nat} {u : Nat → Rat} (k : ∀ r ∈ l, dot W r u = 0) : sumTo W (fun q => v q * u q) = 0 := by
  induction h with
  | mem hr => exact k _ hr
  | zero => exact sumTo_zero fun q _ => by grind
  | @comb v w c _ _ a b =>
    have : (fun q => (v q + c * w q) * u q) = fun q => v q * u q + (w q * u q) * c := by funext q; grind
    rw [this, sumTo_add, sumTo_mul, a, b]; grind
theorem Sp.ins {l : List (List Rat)} {v : Nat → Rat} (h : Sp l v) {W : Nat} {L : List (List Int)} (k : ∀ r ∈ l, InS W L fun q => r.getD q 0) : InS W L v := by
  induction h with
  | mem hr => exact k _ hr
  | zero => exact InS.zero fun _ _ => rfl
  | comb c _ _ a b => exact InS.add a (InS.smul b)
/-- what reduced keeps: the span -/
theorem redStep_sp {W p : Nat} {st : List (List Rat) × List (List Rat)} (hl : ∀ r ∈ st.1 ++ st.2, r.length = W) :
    (∀ r ∈ st.1 ++ st.2, Sp ((redStep st p).1 ++ (redStep st p).2) fun q => r.getD q 0) ∧ (∀ r ∈ (redStep st p).1 ++ (redStep st p).2, Sp (st.1 ++ st.2) fun q => r.getD q 0) ∧ ∀ r ∈ (redStep st p).1 ++ (redStep st p).2, r.length = W := by
  unfold redStep
  split
  · exact ⟨fun r hr => .mem hr, fun r hr => .mem hr, hl⟩
  · rename_i h t hf
    have hm : h ∈ st.2.filter (fun r => decide (r.getD p 0 ≠ 0)) := by rw [hf]; exact List.mem_cons_self
    obtain ⟨hm1, hm2⟩ := List.mem_filter.mp hm
    have h0 : h.getD p 0 ≠ 0 := of_decide_eq_true hm2
    have hw : h.length = W := hl h (List.mem_append_right _ hm1)
    generalize hd : h.map (· / h.getD p 0) = hh
    have hhl : hh.length = W := by rw [← hd, List.length_map]; exact hw
    have hg : ∀ q, hh.getD q 0 = h.getD q 0 / h.getD p 0 := fun q => by rw [← hd]; exact over_get
    have hn : ∀ r ∈ st.1 ++ st.2, ∀ q, (rneg r hh p).getD q 0 = r.getD q 0 - hh.getD q 0 * r.getD p 0 := fun r hr q => rneg_get (by rw [hl r hr, hhl])
    have nl : ∀ r ∈ st.1 ++ st.2, (rneg r hh p).length = W := fun r hr => by
      unfold rneg
      rw [radd_length (by rw [hl r hr, hhl])]
      exact hl r hr
    dsimp only
    refine ⟨fun r hr => ?_, fun r hr => ?_, fun r hr => ?_⟩
    · have hin : Sp (st.1.map (fun r => rneg r hh p) ++ [hh] ++ (st.2.erase h).map fun r => rneg r hh p) fun q => hh.getD q 0 := .mem (List.mem_append_left _ (List.mem_append_right _ List.mem_cons_self))
      by_cases e : r = h
      · subst e
        exact (hin.smul (r.getD p 0)).congr fun q => by rw [hg]; grind
      · have : rneg r hh p ∈ st.1.map (fun r => rneg r hh p) ++ [hh] ++ (st.2.erase h).map fun r => rneg r hh p := by
          rcases List.mem_append.mp hr with z | z
          · exact List.mem_append_left _ (List.mem_append_left _ (List.mem_map.mpr ⟨r, z, rfl⟩))
          · exact List.mem_append_right _ (List.mem_map.mpr ⟨r, (List.mem_erase_of_ne e).mpr z, rfl⟩)
        exact (Sp.comb (r.getD p 0) (.mem this) hin).congr fun q => by rw [hn r hr]; grind
    · have hin : Sp (st.1 ++ st.2) fun q => hh.getD q 0 := ((Sp.mem (List.mem_append_right st.1 hm1)).smul (1 / h.getD p 0)).congr fun q => by rw [hg]; grind
      have key : ∀ r ∈ st.1 ++ st.2, Sp (st.1 ++ st.2) fun q => (rneg r hh p).getD q 0 := fun r hr => (Sp.comb (- r.getD p 0) (.mem hr) hin).congr fun q => by rw [hn r hr]; grind
      rcases List.mem_append.mp hr with z | z
      · rcases List.mem_append.mp z with z | z
        · obtain ⟨r', hr', rfl⟩ := List.mem_map.mp z
          exact key r' (List.mem_append_left _ hr')
        · rw [List.mem_singleton.mp z]; exact hin
      · obtain ⟨r', hr', rfl⟩ := List.mem_map.mp z
        exact key r' (List.mem_append_right _ (List.mem_of_mem_erase hr'))
    · rcases List.mem_append.mp hr with z | z
      · rcases List.mem_append.mp z with z | z
        · obtain ⟨r', hr', rfl⟩ := List.mem_map.mp z
          exact nl r' (List.mem_append_left _ hr')
        · rw [List.mem_singleton.mp z]; exact hhl
      · obtain ⟨r', hr', rfl⟩ := List.mem_map.mp z
        exact nl r' (List.mem_append_right _ (List.mem_of_mem_erase hr'))
theorem redQ_sp {W : Nat} {l : List (List Rat)} (hl : ∀ r ∈ l, r.length = W) (n : Nat) :
    (∀ r ∈ l, Sp ((redQ l n).1 ++ (redQ l n).2) fun q => r.getD q 0) ∧ (∀ r ∈ (redQ l n).1 ++ (redQ l n).2, Sp l fun q => r.getD q 0) ∧ ∀ r ∈ (redQ l n).1 ++ (redQ l n).2, r.length = W := by
  induction n with
  | zero => exact ⟨fun r hr => .mem hr, fun r hr => .mem hr, hl⟩
  | succ n ih =>
    have e : redQ l (n + 1) = redStep (redQ l n) n := by unfold redQ; rw [List.range_succ, List.foldl_append]; rfl
    rw [e]
    obtain ⟨a, b, c⟩ := ih
    obtain ⟨a', b', c'⟩ := redStep_sp (p := n) c
    exact ⟨fun r hr => (a r hr).trans a', fun r hr => (b' r hr).trans b, c'⟩
theorem redQ_full {W : Nat} {l : List (List Rat)} (hl : ∀ r ∈ l, r.length = W) : ∀ r ∈ l, Sp (redQ l W).1 fun q => r.getD q 0 := fun r hr => by
  have I := redQ_inv (n := W) hl (Nat.le_refl _)
  refine ((redQ_sp hl W).1 r hr).trans fun x hx => ?_
  rcases List.mem_append.mp hx with z | z
  · exact .mem z
  · refine Sp.zero.congr fun q => ?_
    by_cases hq : q < W
    · rw [I.left x z q hq]
    · rw [List.getD_eq_getElem?_getD, List.getElem?_eq_none (by rw [I.len x hx]; omega)]; rfl
/-- rows with heads: the rank is their number -/
structure HdI (W : Nat) (ps : List (List Int × Nat)) : Prop where
  len : ∀ x ∈ ps, x.1.length = W
  lt : ∀ x ∈ ps, x.2 < W
  pos : ∀ x ∈ ps, x.1.getD x.2 0 ≠ 0
  ahead : ∀ x ∈ ps, ∀ q < x.2, x.1.getD q 0 = 0
  alone : ∀ x ∈ ps, ∀ y ∈ ps, y.2 ≠ x.2 → x.1.getD y.2 0 = 0
  up : ps.Pairwise fun x y => x.2 < y.2
theorem rk_heads {W : Nat} : ∀ (n p : Nat) (ps : List (List Int × Nat)), n + p = W → HdI W ps → (∀ x ∈ ps, p ≤ x.2) → rk n p (ps.map Prod.fst) = ps.length
  | n, p, [], _, _, _ => rk_nil n p
  | 0, p, x :: ps, hn, H, hp => by
    have := H.lt x List.mem_cons_self
    have := hp x List.mem_cons_self
    omega
  | n + 1, p, x :: ps, hn, H, hp => by
    have hx := hp x List.mem_cons_self
    have hup := List.pairwise_cons.mp H.up
    by_cases e : x.2 = p
    · have hz : ∀ y ∈ ps, y.1.getD p 0 = 0 := fun y hy => by
        have := hup.1 y hy
        exact H.ahead y (List.mem_cons_of_mem _ hy) p (by omega)
      have h0 : x.1.getD p 0 ≠ 0 := by rw [← e]; exact H.pos x List.mem_cons_self
      have e1 := rk_some (n := n) (p := p) (A := []) (B := ps.map Prod.fst) (h := x.1) (fun _ h => (nomatch h)) h0
      rw [List.map_cons]
      rw [List.nil_append, List.nil_append] at e1
      rw [e1]
      have H' : HdI W ps := ⟨fun y hy => H.len y (List.mem_cons_of_mem _ hy), fun y hy => H.lt y (List.mem_cons_of_mem _ hy), fun y hy => H.pos y (List.mem_cons_of_mem _ hy), fun y hy => H.ahead y (List.mem_cons_of_mem _ hy), fun y hy z hz => H.alone y (List.mem_cons_of_mem _ hy) z (List.mem_cons_of_mem _ hz), hup.2⟩
      have sc : ∀ qs : List (List Int × Nat), (∀ y ∈ qs, y.1.getD p 0 = 0 ∧ y.1.length = W) → Sc (qs.map Prod.fst) ((qs.map Prod.fst).map (Mf.elim x.1 p)) := fun qs => by
        induction qs with
        | nil => exact fun _ => .nil
        | cons y qs ih =>
          intro hq
          have hy := hq y List.mem_cons_self
          have hl : y.1.length = x.1.length := by rw [hy.2, H.len x List.mem_cons_self]
          refine .cons h0 (elim_len hl).symm (fun q => ?_) (ih fun z hz => hq z (List.mem_cons_of_mem _ hz))
          rw [elim_get hl, hy.1]
          grind
      rw [← Sc.rk (W := W) n (p + 1) (sc ps fun y hy => ⟨hz y hy, H'.len y hy⟩) (fun y hy => by obtain ⟨z, hz, rfl⟩ := List.mem_map.mp hy; exact H'.len z hz)]
      rw [rk_heads n (p + 1) ps (by omega) H' fun y hy => by have := hup.1 y hy; omega]
      rfl
    · have hz : ∀ y ∈ (x :: ps).map Prod.fst, y.getD p 0 = 0 := fun y hy => by
        obtain ⟨z, hz, rfl⟩ := List.mem_map.mp hy
        rcases List.mem_cons.mp hz with t | t
        · subst t; exact H.ahead z List.mem_cons_self p (by omega)
        · have := hup.1 z t; exact H.ahead z hz p (by omega)
      rw [rk_none hz]
      exact rk_heads n (p + 1) (x :: ps) (by omega) H fun y hy => by
        rcases List.mem_cons.mp hy with t | t
        · subst t; omega
        · have := hup.1 y t; omega
/-! ### the form of rows -/
structure Ld (l : List (List Rat)) (L : List (List Int)) : Prop where
  len : ∀ r ∈ L, r.length = 6
  eq : l = L.map d16
theorem d16_get {r : List Int} {q : Nat} : (d16 r).getD q 0 = ((r.getD q 0 : Int) : Rat) * (1 / 16) := by
  unfold d16
  simp only [List.getD_eq_getElem?_getD, List.getElem?_map]
  by_cases hq : q < r.length
  · rw [List.getElem?_eq_getElem hq]
    show ((r[q] : Int) : Rat) / 16 = ((r[q] : Int) : Rat) * (1 / 16)
    grind
  · rw [List.getElem?_eq_none (by omega)]
    show (0 : Rat) = ((0 : Int) : Rat) * (1 / 16)
    grind
def wq (l : List (List Rat)) : List (List Int) := (redQ l 6).1.map wholeQ
theorem wq_heads {l : List (List Rat)} (hl : ∀ r ∈ l, r.length = 6) : ∃ ps : List (List Int × Nat), wq l = ps.map Prod.fst ∧ HdI 6 ps ∧ (∀ x ∈ ps, 0 < x.1.getD x.2 0) ∧ ∀ x ∈ ps, gcdF 0 x.1 = 1 := by
  have I := redQ_inv (n := 6) hl (Nat.le_refl _)
  obtain ⟨ps, hps, H⟩ := I.hd
  have h0 : ∀ x ∈ ps, x.1.getD x.2 0 ≠ 0 := fun x hx => by rw [H.one x hx]; decide
  have g : ∀ x ∈ ps, ∃ c : Rat, 0 < c ∧ ∀ q, (((wholeQ x.1).getD q 0 : Int) : Rat) = c * x.1.getD q 0 := fun x hx => wholeQ_get (h0 x hx)
  have z : ∀ x ∈ ps, ∀ q, x.1.getD q 0 = 0 → (wholeQ x.1).getD q 0 = 0 := fun x hx q hq => by
    obtain ⟨c, hc, e⟩ := g x hx
    have e := e q
    rw [hq] at e
    have : (((wholeQ x.1).getD q 0 : Int) : Rat) = 0 := by rw [e]; grind
    exact_mod_cast this
  have pos : ∀ x ∈ ps, 0 < (wholeQ x.1).getD x.2 0 := fun x hx => by
    obtain ⟨c, hc, e⟩ := g x hx
    have e := e x.2
    rw [H.one x hx] at e
    have : (0 : Rat) < (((wholeQ x.1).getD x.2 0 : Int) : Rat) := by rw [e]; grind
    exact_mod_cast this
  refine ⟨ps.map fun x => (wholeQ x.1, x.2), ?_, ⟨?_, ?_, ?_, ?_, ?_, ?_⟩, ?_, ?_⟩
  · unfold wq
    rw [hps, List.map_map, List.map_map]
    rfl
  all_goals first
    | (intro x hx; obtain ⟨y, hy, rfl⟩ := List.mem_map.mp hx; dsimp only)
    | skip
  · rw [wholeQ_len]; exact I.len _ (List.mem_append_left _ (by rw [hps]; exact List.mem_map.mpr ⟨y, hy, rfl⟩))
  · exact H.lt y hy
  · have := pos y hy; omega
  · exact fun q hq => z y hy q (H.ahead y hy q hq)
  · intro w hw
    obtain ⟨u, hu, rfl⟩ := List.mem_map.mp hw
    exact fun ne => z y hy _ (H.alone y hy u hu ne)
  · exact List.pairwise_map.mpr H.up
  · exact pos y hy
  · exact wholeQ_gcd (h0 y hy)
theorem wq_span {l : List (List Rat)} {L : List (List Int)} (h : Ld l L) : SpanEq 6 L (wq l) := by
  have hl : ∀ r ∈ l, r.length = 6 := fun r hr => by
    rw [h.eq] at hr
    obtain ⟨x, hx, rfl⟩ := List.mem_map.mp hr
    unfold d16
    rw [List.length_map]
    exact h.len x hx
  have I := redQ_inv (n := 6) hl (Nat.le_refl _)
  obtain ⟨ps, hps, H⟩ := I.hd
  have g : ∀ x ∈ (redQ l 6).1, ∃ c : Rat, 0 < c ∧ ∀ q, (((wholeQ x).getD q 0 : Int) : Rat) = c * x.getD q 0 := fun x hx => by
    rw [hps] at hx
    obtain ⟨y, hy, rfl⟩ := List.mem_map.mp hx
    exact wholeQ_get (q0 := y.2) (by rw [H.one y hy]; decide)
  constructor
  · intro x hx
    have hm : d16 x ∈ l := by rw [h.eq]; exact List.mem_map.mpr ⟨x, hx, rfl⟩
    have s1 := (redQ_full hl _ hm).ins (W := 6) (L := wq l) fun r hr => by
      obtain ⟨c, hc, e⟩ := g r hr
      have := InS.mem (W := 6) (x := wholeQ r) (L := wq l) (List.mem_map.mpr ⟨r, hr, rfl⟩)
      exact (this.smul (c := 1 / c)).congr fun q => by rw [e q]; grind
    exact (s1.smul (c := 16)).congr fun q => by rw [d16_get]; grind
  · intro x hx
    obtain ⟨r, hr, rfl⟩ := List.mem_map.mp hx
    obtain ⟨c, hc, e⟩ := g r hr
    have s1 := ((redQ_sp hl 6).2.1 r (List.mem_append_left _ hr)).ins (W := 6) (L := L) fun y hy => by
      rw [h.eq] at hy
      obtain ⟨z, hz, rfl⟩ := List.mem_map.mp hy
      exact ((InS.mem (W := 6) hz).smul (c := 1 / 16)).congr fun q => by rw [d16_get]; grind
    exact (s1.smul (c := c)).congr fun q => (e q).symm
theorem wq_unique {l m : List (List Rat)} (hl : ∀ r ∈ l, r.length = 6) (hm : ∀ r ∈ m, r.length = 6) (h : ∀ v, (∀ r ∈ l, dot 6 r v = 0) ↔ ∀ r ∈ m, dot 6 r v = 0) : wq l = wq m := by
  have I := redQ_inv (n := 6) hl (Nat.le_refl _)
  have J := redQ_inv (n := 6) hm (Nat.le_refl _)
  obtain ⟨ps, hps, H⟩ := I.hd
  obtain ⟨qs, hqs, G⟩ := J.hd
  have ker : ∀ {l : List (List Rat)} {ps : List (List Rat × Nat)}, RI 6 l 6 (redQ l 6) → (redQ l 6).1 = ps.map Prod.fst → ∀ v, (∀ r ∈ l, dot 6 r v = 0) ↔ ∀ x ∈ ps, dot 6 x.1 v = 0 := fun {l ps} I hps v => by
    rw [I.same v, hps]
    constructor
    · exact fun k x hx => k _ (List.mem_append_left _ (List.mem_map.mpr ⟨x, hx, rfl⟩))
    · intro k r hr
      rcases List.mem_append.mp hr with z | z
      · obtain ⟨x, hx, rfl⟩ := List.mem_map.mp z; exact k x hx
      · exact sumTo_zero fun q hq => by rw [I.left r z q hq]; grind
  have K : KerEq 6 ps qs := fun v => by rw [← ker I hps v, ← ker J hqs v]; exact h v
  have e := rows_unique K H G (fun x hx => I.len _ (List.mem_append_left _ (by rw [hps]; exact List.mem_map.mpr ⟨x, hx, rfl⟩))) (fun x hx => J.len _ (List.mem_append_left _ (by rw [hqs]; exact List.mem_map.mpr ⟨x, hx, rfl⟩)))
  unfold wq
  rw [hps, hqs, e]
end Mf
set_option Elab.async false
set_option linter.all false
set_option maxRecDepth 100000
set_option maxHeartbeats 4000000
namespace Mf
open PySem L2
abbrev g__law_draw := g_draw
def top (i : Nat) : Stmt := PySem.Challenge.pw_measureforms_k10_whole_forms.main.body.getD i (.Pass ⟨0, 0, 0, 0⟩)
def d_NAMES : D := .str "abcdef"
def d_ZERO : D := .tup [.int 0, .int 1]
def d_EMPTY : D := .tup [.tup [.int 0, .int 1], .tup [.int 0, .int 1], .tup [.int 0, .int 1], .tup [.int 0, .int 1], .tup [.int 0, .int 1], .tup [.int 0, .int 1]]
abbrev s__law_town : Stmt := top 31
abbrev s__law_draw : Stmt := top 32
abbrev s__law_pick : Stmt := top 33
abbrev s__law_formula : Stmt := top 34
abbrev s__law_statements : Stmt := top 35
abbrev s__law_rank : Stmt := top 38
abbrev s_is_between : Stmt := top 6
abbrev s_is_name : Stmt := top 13
abbrev s_is_at_most : Stmt := top 15
abbrev s_is_formula : Stmt := top 16
abbrev s_is_statement : Stmt := top 17
abbrev s_is_statements : Stmt := top 18
abbrev s_check_statements : Stmt := top 19
abbrev s_divisor : Stmt := top 7
abbrev s_whole : Stmt := top 25
abbrev s_fraction : Stmt := top 8
abbrev s_plus : Stmt := top 9
abbrev s_times : Stmt := top 10
abbrev s_added : Stmt := top 12
abbrev s_over : Stmt := top 11
abbrev s_reduced : Stmt := top 24
abbrev s_parts_of : Stmt := top 14
abbrev s_asked_by : Stmt := top 22
abbrev s_rows_of : Stmt := top 23
abbrev s_form_of : Stmt := top 26
abbrev s_form : Stmt := top 28
abbrev s__law_exponents : Stmt := top 36
abbrev s__law_rows : Stmt := top 37
abbrev s_count_free : Stmt := top 29
abbrev s__law_divisor : Stmt := top 39
abbrev s_law : Stmt := top 40
def c__law_pick (p : Addr) : CSs (List Int) :=
  (.cons (.ret (.ix (.var 2) (.call "_law_draw" 3 (g__law_draw p) (.cons (.var 0) (.cons (.var 1) (.cons (.b1 .len (.var 2)) .nil))))))
  .nil)
def g__law_pick (p : Addr) : Sem (List Int) := fnR 3 (c__law_pick p)
def c__law_formula (p : Addr) (self : Sem (List Int)) : CSs (List Int) :=
  (.cons (.asg false 3 (.call "_law_draw" 3 (g__law_draw p) (.cons (.var 0) (.cons (.var 1) (.cons (.con (.int 10)) .nil)))))
  (.cons (.ife (.or (.cmp .eq (.var 2) (.con (.int 1))) (.one (.cmp .lt (.var 3) (.con (.int 2))))) (.cons (.ife (.cmp .eq (.call "_law_draw" 3 (g__law_draw p) (.cons (.var 0) (.cons (.var 1) (.cons (.con (.int 6)) .nil)))) (.con (.int 0))) (.cons (.ret (.tup (.cons (.con (.str "number")) (.cons (.bin .add (.con (.int 1)) (.call "_law_draw" 3 (g__law_draw p) (.cons (.var 0) (.cons (.var 1) (.cons (.con (.int 9)) .nil))))) .nil))))
    .nil) .nil)
   (.cons (.ret (.tup (.cons (.con (.str "name")) (.cons (.ix (.con (.str "abcdef")) (.call "_law_draw" 3 (g__law_draw p) (.cons (.var 0) (.cons (.var 1) (.cons (.call "_law_pick" 3 (g__law_pick p) (.cons (.var 0) (.cons (.var 1) (.cons (.lst (.cons (.con (.int 3)) (.cons (.con (.int 4)) (.cons (.con (.int 6)) .nil)))) .nil)))) .nil))))) .nil))))
   .nil)) .nil)
  (.cons (.asg false 4 (.call "_law_formula" 3 self (.cons (.var 0) (.cons (.var 1) (.cons (.bin .sub (.var 2) (.con (.int 1))) .nil)))))
  (.cons (.ife (.cmp .eq (.var 3) (.con (.int 2))) (.cons (.ret (.tup (.cons (.con (.str "power")) (.cons (.var 4) (.cons (.bin .sub (.call "_law_draw" 3 (g__law_draw p) (.cons (.var 0) (.cons (.var 1) (.cons (.con (.int 7)) .nil)))) (.con (.int 3))) .nil)))))
   .nil) .nil)
  (.cons (.ife (.cmp .eq (.var 3) (.con (.int 3))) (.cons (.ret (.tup (.cons (.call "_law_pick" 3 (g__law_pick p) (.cons (.var 0) (.cons (.var 1) (.cons (.lst (.cons (.con (.str "root")) (.cons (.con (.str "root")) (.cons (.con (.str "wave")) .nil)))) .nil)))) (.cons (.var 4) .nil))))
   .nil) .nil)
  (.cons (.asg false 5 (.ix (.tup (.cons (.con (.str "plus")) (.cons (.con (.str "minus")) (.cons (.con (.str "times")) (.cons (.con (.str "over")) (.cons (.con (.str "times")) (.cons (.con (.str "over")) .nil))))))) (.bin .sub (.var 3) (.con (.int 4)))))
  (.cons (.ret (.tup (.cons (.var 5) (.cons (.var 4) (.cons (.call "_law_formula" 3 self (.cons (.var 0) (.cons (.var 1) (.cons (.bin .sub (.var 2) (.con (.int 1))) .nil)))) .nil)))))
  .nil)))))))
def g__law_formula (p : Addr) : Nat → Sem (List Int)
  | 0 => fun _ _ => .er
  | k + 1 => fnR 6 (c__law_formula p (g__law_formula p k))
def b__law_statements_0 (p : Addr) : CSs (List Int) :=
  (.cons (.asg false 3 (.bin .add (.var 3) (.tup (.cons (.tup (.cons (.call "_law_formula" 3 (g__law_formula p 6) (.cons (.var 0) (.cons (.var 1) (.cons (.con (.int 3)) .nil)))) (.cons (.call "_law_formula" 3 (g__law_formula p 6) (.cons (.var 0) (.cons (.var 1) (.cons (.con (.int 2)) .nil)))) .nil))) .nil))))
  .nil)
def c__law_statements (p : Addr) : CSs (List Int) :=
  (.cons (.asg false 3 (.tup .nil))
  (.cons (.forr (.nm 4) (.rng (.call "_law_draw" 3 (g__law_draw p) (.cons (.var 0) (.cons (.var 1) (.cons (.bin .add (.var 2) (.con (.int 1))) .nil))))) (b__law_statements_0 p))
  (.cons (.ret (.var 3))
  .nil)))
def g__law_statements (p : Addr) : Sem (List Int) := fnR 5 (c__law_statements p)
def b__law_rank_0 : CSs (List Int) :=
  (.cons (.asg false 5 (.lc (.seq (.var 1)) (.nm 7) (.cons (.cmp .ne (.ix (.var 7) (.var 4)) (.con (.int 0))) .nil) (.var 7) [7]))
  (.cons (.ife (.cmp .ne (.var 5) (.lst .nil)) (.cons (.asg false 6 (.ix (.var 5) (.con (.int 0))))
   (.cons (.rem 1 (.var 6))
   (.cons (.asg true 1 (.lc (.seq (.var 1)) (.nm 7) .nil (.lc (.zip (.var 7) (.var 6)) (.cons (.nm 8) (.cons (.nm 9) .nil)) .nil (.bin .sub (.bin .mul (.var 8) (.ix (.var 6) (.var 4))) (.bin .mul (.var 9) (.ix (.var 7) (.var 4)))) [8, 9]) [7]))
   (.cons (.asg false 2 (.bin .add (.var 2) (.con (.int 1))))
   .nil)))) .nil)
  .nil))
def c__law_rank : CSs (List Int) :=
  (.cons (.par true false 1 2 (.lc (.seq (.var 0)) (.nm 7) .nil (.b1 .list (.var 7)) [7]) (.con (.int 0)))
  (.cons (.asg false 3 (.ife (.cmp .ne (.var 1) (.lst .nil)) (.b1 .len (.ix (.var 1) (.con (.int 0)))) (.con (.int 0))))
  (.cons (.forr (.nm 4) (.rng (.var 3)) (b__law_rank_0))
  (.cons (.ret (.var 2))
  .nil))))
def g__law_rank : Sem (List Int) := fnR 10 (c__law_rank)
def c_is_between : CSs (List Int) :=
  (.cons (.ret (.and (.isi (.var 0) .int) (.and (.not (.isi (.var 0) .bool)) (.one (.chn .le .le (.var 1) (.var 0) (.var 2))))))
  .nil)
def g_is_between : Sem (List Int) := fnR 3 (c_is_between)
def c_is_name : CSs (List Int) :=
  (.cons (.ret (.and (.isi (.var 0) .str) (.and (.cmp .eq (.b1 .len (.var 0)) (.con (.int 1))) (.one (.cmp .isin (.var 0) (.glb "NAMES" d_NAMES))))))
  .nil)
def g_is_name : Sem (List Int) := fnR 1 (c_is_name)
def c_is_at_most (self : Sem (List Int)) : CSs (List Int) :=
  (.cons (.ife (.or (.cmp .lt (.var 1) (.con (.int 1))) (.or (.not (.isi (.var 0) .tuple)) (.or (.not (.chn .le .le (.con (.int 2)) (.b1 .len (.var 0)) (.con (.int 3)))) (.one (.not (.isi (.ix (.var 0) (.con (.int 0))) .str)))))) (.cons (.ret (.con (.bl false)))
   .nil) .nil)
  (.cons (.asg false 2 (.ix (.var 0) (.con (.int 0))))
  (.cons (.ife (.cmp .eq (.var 2) (.con (.str "name"))) (.cons (.ret (.and (.cmp .eq (.b1 .len (.var 0)) (.con (.int 2))) (.one (.call "is_name" 1 g_is_name (.cons (.ix (.var 0) (.con (.int 1))) .nil)))))
   .nil) .nil)
  (.cons (.ife (.cmp .eq (.var 2) (.con (.str "number"))) (.cons (.ret (.and (.cmp .eq (.b1 .len (.var 0)) (.con (.int 2))) (.one (.call "is_between" 3 g_is_between (.cons (.ix (.var 0) (.con (.int 1))) (.cons (.con (.int 1)) (.cons (.con (.int 9)) .nil)))))))
   .nil) .nil)
  (.cons (.ife (.cmp .isin (.var 2) (.tup (.cons (.con (.str "root")) (.cons (.con (.str "wave")) .nil)))) (.cons (.ret (.and (.cmp .eq (.b1 .len (.var 0)) (.con (.int 2))) (.one (.call "is_at_most" 2 self (.cons (.ix (.var 0) (.con (.int 1))) (.cons (.bin .sub (.var 1) (.con (.int 1))) .nil))))))
   .nil) .nil)
  (.cons (.ife (.or (.cmp .ne (.b1 .len (.var 0)) (.con (.int 3))) (.one (.not (.call "is_at_most" 2 self (.cons (.ix (.var 0) (.con (.int 1))) (.cons (.bin .sub (.var 1) (.con (.int 1))) .nil)))))) (.cons (.ret (.con (.bl false)))
   .nil) .nil)
  (.cons (.ife (.cmp .eq (.var 2) (.con (.str "power"))) (.cons (.ret (.call "is_between" 3 g_is_between (.cons (.ix (.var 0) (.con (.int 2))) (.cons (.neg (.con (.int 3))) (.cons (.con (.int 3)) .nil)))))
   .nil) .nil)
  (.cons (.ret (.and (.cmp .isin (.var 2) (.tup (.cons (.con (.str "plus")) (.cons (.con (.str "minus")) (.cons (.con (.str "times")) (.cons (.con (.str "over")) .nil)))))) (.one (.call "is_at_most" 2 self (.cons (.ix (.var 0) (.con (.int 2))) (.cons (.bin .sub (.var 1) (.con (.int 1))) .nil))))))
  .nil))))))))
def g_is_at_most : Nat → Sem (List Int)
  | 0 => fun _ _ => .er
  | k + 1 => fnR 3 (c_is_at_most (g_is_at_most k))
def c_is_formula : CSs (List Int) :=
  (.cons (.ret (.call "is_at_most" 2 (g_is_at_most 6) (.cons (.var 0) (.cons (.con (.int 4)) .nil))))
  .nil)
def g_is_formula : Sem (List Int) := fnR 1 (c_is_formula)
def c_is_statement : CSs (List Int) :=
  (.cons (.ret (.and (.isi (.var 0) .tuple) (.and (.cmp .eq (.b1 .len (.var 0)) (.con (.int 2))) (.one (.b1 .all (.lc (.seq (.var 0)) (.nm 1) .nil (.call "is_formula" 1 g_is_formula (.cons (.var 1) .nil)) [1]))))))
  .nil)
def g_is_statement : Sem (List Int) := fnR 2 (c_is_statement)
def c_is_statements : CSs (List Int) :=
  (.cons (.ret (.and (.isi (.var 0) .tuple) (.and (.cmp .le (.b1 .len (.var 0)) (.con (.int 4))) (.one (.b1 .all (.lc (.seq (.var 0)) (.nm 1) .nil (.call "is_statement" 1 g_is_statement (.cons (.var 1) .nil)) [1]))))))
  .nil)
def g_is_statements : Sem (List Int) := fnR 2 (c_is_statements)
def c_check_statements : CSs (List Int) :=
  (.cons (.ife (.not (.call "is_statements" 1 g_is_statements (.cons (.var 0) .nil))) (.cons .never
   .nil) .nil)
  .nil)
def g_check_statements : Sem (List Int) := fnR 1 (c_check_statements)
def b_divisor_0 : CSs (List Int) :=
  (.cons (.par false false 0 1 (.var 1) (.bin .mod (.var 0) (.var 1)))
  .nil)
def c_divisor : CSs (List Int) :=
  (.cons (.whl (.cmp .ne (.var 1) (.con (.int 0))) (b_divisor_0) (fuelAt 1))
  (.cons (.ret (.b1 .abs (.var 0)))
  .nil))
def g_divisor : Sem (List Int) := fnR 2 (c_divisor)
def b_whole_0 : CSs (List Int) :=
  (.cons (.asg false 1 (.bin .fdv (.bin .mul (.var 1) (.ix (.var 2) (.con (.int 1)))) (.call "divisor" 2 g_divisor (.cons (.var 1) (.cons (.ix (.var 2) (.con (.int 1))) .nil)))))
  .nil)
def b_whole_1 : CSs (List Int) :=
  (.cons (.asg false 4 (.call "divisor" 2 g_divisor (.cons (.var 4) (.cons (.var 5) .nil))))
  .nil)
def c_whole : CSs (List Int) :=
  (.cons (.asg false 1 (.con (.int 1)))
  (.cons (.forr (.nm 2) (.seq (.var 0)) (b_whole_0))
  (.cons (.asg false 3 (.lc (.seq (.var 0)) (.nm 2) .nil (.bin .fdv (.bin .mul (.ix (.var 2) (.con (.int 0))) (.var 1)) (.ix (.var 2) (.con (.int 1)))) [2]))
  (.cons (.asg false 4 (.con (.int 0)))
  (.cons (.forr (.nm 5) (.seq (.var 3)) (b_whole_1))
  (.cons (.ret (.b1 .tuple (.lc (.seq (.var 3)) (.nm 5) .nil (.bin .fdv (.var 5) (.var 4)) [5])))
  .nil))))))
def g_whole : Sem (List Int) := fnR 6 (c_whole)
def c_fraction : CSs (List Int) :=
  (.cons (.asg false 2 (.bin .mul (.call "divisor" 2 g_divisor (.cons (.var 0) (.cons (.var 1) .nil))) (.ife (.cmp .gt (.var 1) (.con (.int 0))) (.con (.int 1)) (.neg (.con (.int 1))))))
  (.cons (.ret (.tup (.cons (.bin .fdv (.var 0) (.var 2)) (.cons (.bin .fdv (.var 1) (.var 2)) .nil))))
  .nil))
def g_fraction : Sem (List Int) := fnR 3 (c_fraction)
def c_plus : CSs (List Int) :=
  (.cons (.ret (.call "fraction" 2 g_fraction (.cons (.bin .add (.bin .mul (.ix (.var 0) (.con (.int 0))) (.ix (.var 1) (.con (.int 1)))) (.bin .mul (.ix (.var 1) (.con (.int 0))) (.ix (.var 0) (.con (.int 1))))) (.cons (.bin .mul (.ix (.var 0) (.con (.int 1))) (.ix (.var 1) (.con (.int 1)))) .nil))))
  .nil)
def g_plus : Sem (List Int) := fnR 2 (c_plus)
def c_times : CSs (List Int) :=
  (.cons (.ret (.call "fraction" 2 g_fraction (.cons (.bin .mul (.ix (.var 0) (.con (.int 0))) (.ix (.var 1) (.con (.int 0)))) (.cons (.bin .mul (.ix (.var 0) (.con (.int 1))) (.ix (.var 1) (.con (.int 1)))) .nil))))
  .nil)
def g_times : Sem (List Int) := fnR 2 (c_times)
def c_added : CSs (List Int) :=
  (.cons (.ret (.b1 .tuple (.lc (.zip (.var 0) (.var 1)) (.cons (.nm 3) (.cons (.nm 4) .nil)) .nil (.call "plus" 2 g_plus (.cons (.var 3) (.cons (.call "times" 2 g_times (.cons (.var 4) (.cons (.var 2) .nil))) .nil))) [3, 4])))
  .nil)
def g_added : Sem (List Int) := fnR 5 (c_added)
def c_over : CSs (List Int) :=
  (.cons (.ret (.call "fraction" 2 g_fraction (.cons (.bin .mul (.ix (.var 0) (.con (.int 0))) (.ix (.var 1) (.con (.int 1)))) (.cons (.bin .mul (.ix (.var 0) (.con (.int 1))) (.ix (.var 1) (.con (.int 0)))) .nil))))
  .nil)
def g_over : Sem (List Int) := fnR 2 (c_over)
def b_reduced_0 : CSs (List Int) :=
  (.cons (.asg false 5 (.lc (.seq (.var 3)) (.nm 7) (.cons (.cmp .ne (.ix (.var 7) (.var 4)) (.glb "ZERO" d_ZERO)) .nil) (.var 7) [7]))
  (.cons (.ife (.cmp .ne (.var 5) (.lst .nil)) (.cons (.asg false 6 (.b1 .tuple (.lc (.seq (.ix (.var 5) (.con (.int 0)))) (.nm 8) .nil (.call "over" 2 g_over (.cons (.var 8) (.cons (.ix (.ix (.var 5) (.con (.int 0))) (.var 4)) .nil))) [8])))
   (.cons (.rem 3 (.ix (.var 5) (.con (.int 0))))
   (.cons (.asg true 3 (.lc (.seq (.var 3)) (.nm 7) .nil (.call "added" 3 g_added (.cons (.var 7) (.cons (.var 6) (.cons (.call "times" 2 g_times (.cons (.ix (.var 7) (.var 4)) (.cons (.tup (.cons (.neg (.con (.int 1))) (.cons (.con (.int 1)) .nil))) .nil))) .nil)))) [7]))
   (.cons (.asg false 2 (.bin .add (.lc (.seq (.var 2)) (.nm 7) .nil (.call "added" 3 g_added (.cons (.var 7) (.cons (.var 6) (.cons (.call "times" 2 g_times (.cons (.ix (.var 7) (.var 4)) (.cons (.tup (.cons (.neg (.con (.int 1))) (.cons (.con (.int 1)) .nil))) .nil))) .nil)))) [7]) (.lst (.cons (.var 6) .nil))))
   .nil)))) .nil)
  .nil))
def c_reduced : CSs (List Int) :=
  (.cons (.par false true 2 3 (.lst .nil) (.b1 .list (.var 0)))
  (.cons (.forr (.nm 4) (.rng (.var 1)) (b_reduced_0))
  (.cons (.frz 3 (.ret (.tup (.cons (.var 2) (.cons (.var 3) .nil)))))
  .nil)))
def g_reduced : Sem (List Int) := fnR 9 (c_reduced)
def c_parts_of : CSs (List Int) :=
  (.cons (.ife (.cmp .isin (.ix (.var 0) (.con (.int 0))) (.tup (.cons (.con (.str "name")) (.cons (.con (.str "number")) .nil)))) (.cons (.ret (.tup .nil))
   .nil) .nil)
  (.cons (.ret (.ife (.cmp .isin (.ix (.var 0) (.con (.int 0))) (.tup (.cons (.con (.str "plus")) (.cons (.con (.str "minus")) (.cons (.con (.str "times")) (.cons (.con (.str "over")) .nil)))))) (.tup (.cons (.con (.int 1)) (.cons (.con (.int 2)) .nil))) (.tup (.cons (.con (.int 1)) .nil))))
  .nil))
def g_parts_of : Sem (List Int) := fnR 1 (c_parts_of)
def c_asked_by (self : Sem (List Int)) : CSs (List Int) :=
  (.cons (.asg false 1 (.ix (.var 0) (.con (.int 0))))
  (.cons (.ife (.cmp .eq (.var 1) (.con (.str "name"))) (.cons (.ret (.tup (.cons (.b1 .tuple (.lc (.seq (.glb "NAMES" d_NAMES)) (.nm 10) .nil (.tup (.cons (.b1 .int (.cmp .eq (.var 10) (.ix (.var 0) (.con (.int 1))))) (.cons (.con (.int 1)) .nil))) [10])) (.cons (.lst .nil) .nil))))
   .nil) .nil)
  (.cons (.ife (.cmp .eq (.var 1) (.con (.str "number"))) (.cons (.ret (.tup (.cons (.glb "EMPTY" d_EMPTY) (.cons (.lst .nil) .nil))))
   .nil) .nil)
  (.cons (.asg false 2 (.lc (.seq (.call "parts_of" 1 g_parts_of (.cons (.var 0) .nil))) (.nm 6) .nil (.call "asked_by" 1 self (.cons (.ix (.var 0) (.var 6)) .nil)) [6]))
  (.cons (.asg false 3 (.lc2 (.seq (.var 2)) (.cons (.nm 7) (.cons (.nm 8) .nil)) (.seq (.var 8)) (.nm 9) (.var 9) [7, 8, 9] [9]))
  (.cons (.asg false 4 (.ix (.ix (.var 2) (.con (.int 0))) (.con (.int 0))))
  (.cons (.ife (.cmp .eq (.var 1) (.con (.str "times"))) (.cons (.ret (.tup (.cons (.call "added" 3 g_added (.cons (.var 4) (.cons (.ix (.ix (.var 2) (.con (.int 1))) (.con (.int 0))) (.cons (.tup (.cons (.con (.int 1)) (.cons (.con (.int 1)) .nil))) .nil)))) (.cons (.var 3) .nil))))
   .nil) .nil)
  (.cons (.ife (.cmp .eq (.var 1) (.con (.str "over"))) (.cons (.ret (.tup (.cons (.call "added" 3 g_added (.cons (.var 4) (.cons (.ix (.ix (.var 2) (.con (.int 1))) (.con (.int 0))) (.cons (.tup (.cons (.neg (.con (.int 1))) (.cons (.con (.int 1)) .nil))) .nil)))) (.cons (.var 3) .nil))))
   .nil) .nil)
  (.cons (.ife (.cmp .isin (.var 1) (.tup (.cons (.con (.str "plus")) (.cons (.con (.str "minus")) .nil)))) (.cons (.ret (.tup (.cons (.var 4) (.cons (.bin .add (.var 3) (.lst (.cons (.call "added" 3 g_added (.cons (.var 4) (.cons (.ix (.ix (.var 2) (.con (.int 1))) (.con (.int 0))) (.cons (.tup (.cons (.neg (.con (.int 1))) (.cons (.con (.int 1)) .nil))) .nil)))) .nil))) .nil))))
   .nil) .nil)
  (.cons (.ife (.cmp .eq (.var 1) (.con (.str "wave"))) (.cons (.ret (.tup (.cons (.glb "EMPTY" d_EMPTY) (.cons (.bin .add (.var 3) (.lst (.cons (.var 4) .nil))) .nil))))
   .nil) .nil)
  (.cons (.asg false 5 (.ife (.cmp .eq (.var 1) (.con (.str "root"))) (.tup (.cons (.con (.int 1)) (.cons (.con (.int 2)) .nil))) (.tup (.cons (.ix (.var 0) (.con (.int 2))) (.cons (.con (.int 1)) .nil)))))
  (.cons (.ret (.tup (.cons (.b1 .tuple (.lc (.seq (.var 4)) (.nm 6) .nil (.call "times" 2 g_times (.cons (.var 6) (.cons (.var 5) .nil))) [6])) (.cons (.var 3) .nil))))
  .nil))))))))))))
def g_asked_by : Nat → Sem (List Int)
  | 0 => fun _ _ => .er
  | k + 1 => fnR 11 (c_asked_by (g_asked_by k))
def b_rows_of_0 : CSs (List Int) :=
  (.cons (.par false false 4 5 (.call "asked_by" 1 (g_asked_by 6) (.cons (.var 2) .nil)) (.call "asked_by" 1 (g_asked_by 6) (.cons (.var 3) .nil)))
  (.cons (.ext 1 (.bin .add (.bin .add (.ix (.var 4) (.con (.int 1))) (.ix (.var 5) (.con (.int 1)))) (.lst (.cons (.call "added" 3 g_added (.cons (.ix (.var 4) (.con (.int 0))) (.cons (.ix (.var 5) (.con (.int 0))) (.cons (.tup (.cons (.neg (.con (.int 1))) (.cons (.con (.int 1)) .nil))) .nil)))) .nil))))
  .nil))
def c_rows_of : CSs (List Int) :=
  (.cons (.asg true 1 (.lst .nil))
  (.cons (.forr (.cons (.nm 2) (.cons (.nm 3) .nil)) (.seq (.var 0)) (b_rows_of_0))
  (.cons (.frz 1 (.ret (.var 1)))
  .nil)))
def g_rows_of : Sem (List Int) := fnR 6 (c_rows_of)
def c_form_of : CSs (List Int) :=
  (.cons (.ret (.b1 .tuple (.lc (.seq (.ix (.call "reduced" 2 g_reduced (.cons (.call "rows_of" 1 g_rows_of (.cons (.var 0) .nil)) (.cons (.con (.int 6)) .nil))) (.con (.int 0)))) (.nm 1) .nil (.call "whole" 1 g_whole (.cons (.var 1) .nil)) [1])))
  .nil)
def g_form_of : Sem (List Int) := fnR 2 (c_form_of)
def c_form : CSs (List Int) :=
  (.cons (.expr (.call "check_statements" 1 g_check_statements (.cons (.var 0) .nil)))
  (.cons (.ret (.call "form_of" 1 g_form_of (.cons (.var 0) .nil)))
  .nil))
def g_form : Sem (List Int) := fnR 1 (c_form)
def c__law_exponents (self : Sem (List Int)) : CSs (List Int) :=
  (.cons (.asg false 1 (.ix (.var 0) (.con (.int 0))))
  (.cons (.ife (.cmp .eq (.var 1) (.con (.str "name"))) (.cons (.ret (.tup (.cons (.lc (.seq (.con (.str "abcdef"))) (.nm 10) .nil (.bin .mul (.con (.int 16)) (.b1 .int (.cmp .eq (.var 10) (.ix (.var 0) (.con (.int 1)))))) [10]) (.cons (.lst .nil) .nil))))
   .nil) .nil)
  (.cons (.ife (.cmp .eq (.var 1) (.con (.str "number"))) (.cons (.ret (.tup (.cons (.bin .mul (.lst (.cons (.con (.int 0)) .nil)) (.con (.int 6))) (.cons (.lst .nil) .nil))))
   .nil) .nil)
  (.cons (.asgT (.cons (.nm 2) (.cons (.nm 3) .nil)) (.call "_law_exponents" 1 self (.cons (.ix (.var 0) (.con (.int 1))) .nil)))
  (.cons (.ife (.cmp .eq (.var 1) (.con (.str "root"))) (.cons (.ret (.tup (.cons (.lc (.seq (.var 2)) (.nm 10) .nil (.bin .fdv (.var 10) (.con (.int 2))) [10]) (.cons (.var 3) .nil))))
   .nil) .nil)
  (.cons (.ife (.cmp .eq (.var 1) (.con (.str "power"))) (.cons (.ret (.tup (.cons (.lc (.seq (.var 2)) (.nm 10) .nil (.bin .mul (.var 10) (.ix (.var 0) (.con (.int 2)))) [10]) (.cons (.var 3) .nil))))
   .nil) .nil)
  (.cons (.ife (.cmp .eq (.var 1) (.con (.str "wave"))) (.cons (.ret (.tup (.cons (.bin .mul (.lst (.cons (.con (.int 0)) .nil)) (.con (.int 6))) (.cons (.bin .add (.var 3) (.lst (.cons (.var 2) .nil))) .nil))))
   .nil) .nil)
  (.cons (.asgT (.cons (.nm 4) (.cons (.nm 5) .nil)) (.call "_law_exponents" 1 self (.cons (.ix (.var 0) (.con (.int 2))) .nil)))
  (.cons (.asg false 6 (.ife (.cmp .isin (.var 1) (.tup (.cons (.con (.str "over")) (.cons (.con (.str "minus")) (.cons (.con (.str "plus")) .nil))))) (.neg (.con (.int 1))) (.con (.int 1))))
  (.cons (.asg false 7 (.lc (.zip (.var 2) (.var 4)) (.cons (.nm 8) (.cons (.nm 9) .nil)) .nil (.bin .add (.var 8) (.bin .mul (.var 6) (.var 9))) [8, 9]))
  (.cons (.ife (.cmp .isin (.var 1) (.tup (.cons (.con (.str "plus")) (.cons (.con (.str "minus")) .nil)))) (.cons (.ret (.tup (.cons (.var 2) (.cons (.bin .add (.bin .add (.var 3) (.var 5)) (.lst (.cons (.var 7) .nil))) .nil))))
   .nil) .nil)
  (.cons (.ret (.tup (.cons (.var 7) (.cons (.bin .add (.var 3) (.var 5)) .nil))))
  .nil))))))))))))
def g__law_exponents : Nat → Sem (List Int)
  | 0 => fun _ _ => .er
  | k + 1 => fnR 11 (c__law_exponents (g__law_exponents k))
def b__law_rows_0 : CSs (List Int) :=
  (.cons (.asgT (.cons (.nm 4) (.cons (.nm 5) .nil)) (.call "_law_exponents" 1 (g__law_exponents 6) (.cons (.var 2) .nil)))
  (.cons (.asgT (.cons (.nm 6) (.cons (.nm 7) .nil)) (.call "_law_exponents" 1 (g__law_exponents 6) (.cons (.var 3) .nil)))
  (.cons (.asg false 1 (.bin .add (.bin .add (.bin .add (.var 1) (.var 5)) (.var 7)) (.lst (.cons (.lc (.zip (.var 4) (.var 6)) (.cons (.nm 8) (.cons (.nm 9) .nil)) .nil (.bin .sub (.var 8) (.var 9)) [8, 9]) .nil))))
  .nil)))
def c__law_rows : CSs (List Int) :=
  (.cons (.asg false 1 (.lst .nil))
  (.cons (.forr (.cons (.nm 2) (.cons (.nm 3) .nil)) (.seq (.var 0)) (b__law_rows_0))
  (.cons (.ret (.var 1))
  .nil)))
def g__law_rows : Sem (List Int) := fnR 10 (c__law_rows)
def c_count_free : CSs (List Int) :=
  (.cons (.expr (.call "check_statements" 1 g_check_statements (.cons (.var 0) .nil)))
  (.cons (.ret (.bin .sub (.con (.int 6)) (.b1 .len (.call "form_of" 1 g_form_of (.cons (.var 0) .nil)))))
  .nil))
def g_count_free : Sem (List Int) := fnR 1 (c_count_free)
def b__law_divisor_0 : CSs (List Int) :=
  (.cons (.par false false 1 3 (.var 3) (.bin .mod (.var 1) (.var 3)))
  .nil)
def b__law_divisor_1 : CSs (List Int) :=
  (.cons (.asg false 3 (.b1 .abs (.var 2)))
  (.cons (.whl (.cmp .gt (.var 3) (.con (.int 0))) (b__law_divisor_0) (fuelAt 3))
  .nil))
def c__law_divisor : CSs (List Int) :=
  (.cons (.asg false 1 (.con (.int 0)))
  (.cons (.forr (.nm 2) (.seq (.var 0)) (b__law_divisor_1))
  (.cons (.ret (.var 1))
  .nil)))
def g__law_divisor : Sem (List Int) := fnR 4 (c__law_divisor)
def b_law_0 (p : Addr) : CSs (List Int) :=
  (.cons (.asg false 11 (.lc (.rng (.con (.int 6))) (.nm 12) (.cons (.cmp .ne (.ix (.var 7) (.var 12)) (.con (.int 0))) .nil) (.var 12) [12]))
  (.cons (.ife (.or (.cmp .ne (.b1 .len (.var 7)) (.con (.int 6))) (.or (.cmp .eq (.var 11) (.lst .nil)) (.or (.cmp .le (.ix (.var 7) (.ix (.var 11) (.con (.int 0)))) (.con (.int 0))) (.one (.cmp .ne (.call "_law_divisor" 1 g__law_divisor (.cons (.var 7) .nil)) (.con (.int 1))))))) (.cons (.ret (.con (.bl false)))
   .nil) .nil)
  (.cons (.app 6 (.ix (.var 11) (.con (.int 0))))
  .nil)))
def b_law_1 (p : Addr) : CSs (List Int) :=
  (.cons (.ife (.cmp .ne (.b1 .len (.lc (.seq (.var 3)) (.nm 7) (.cons (.cmp .ne (.ix (.var 7) (.var 8)) (.con (.int 0))) .nil) (.var 7) [7])) (.con (.int 1))) (.cons (.ret (.con (.bl false)))
   .nil) .nil)
  .nil)
def c_law (p : Addr) : CSs (List Int) :=
  (.cons (.asg false 2 (.call "_law_statements" 3 (g__law_statements p) (.cons (.var 0) (.cons (.var 1) (.cons (.con (.int 4)) .nil)))))
  (.cons (.par false false 3 4 (.call "form" 1 g_form (.cons (.var 2) .nil)) (.call "_law_rows" 1 g__law_rows (.cons (.var 2) .nil)))
  (.cons (.asg false 5 (.call "_law_rank" 1 g__law_rank (.cons (.var 4) .nil)))
  (.cons (.ife (.or (.cmp .ne (.b1 .len (.var 3)) (.var 5)) (.or (.cmp .ne (.call "_law_rank" 1 g__law_rank (.cons (.bin .add (.var 4) (.b1 .list (.var 3))) .nil)) (.var 5)) (.one (.cmp .ne (.call "_law_rank" 1 g__law_rank (.cons (.var 3) .nil)) (.var 5))))) (.cons (.ret (.con (.bl false)))
   .nil) .nil)
  (.cons (.ife (.or (.cmp .ne (.call "count_free" 1 g_count_free (.cons (.var 2) .nil)) (.bin .sub (.con (.int 6)) (.var 5))) (.one (.not (.isi (.var 3) .tuple)))) (.cons (.ret (.con (.bl false)))
   .nil) .nil)
  (.cons (.asg true 6 (.lst .nil))
  (.cons (.forr (.nm 7) (.seq (.var 3)) (b_law_0 p))
  (.cons (.ife (.cmp .ne (.var 6) (.sset (.var 6))) (.cons (.ret (.con (.bl false)))
   .nil) .nil)
  (.cons (.frz 6 (.forr (.nm 8) (.seq (.var 6)) (b_law_1 p)))
  (.cons (.ife (.or (.cmp .ne (.call "form" 1 g_form (.cons (.rev (.var 2)) .nil)) (.var 3)) (.one (.cmp .ne (.call "form" 1 g_form (.cons (.bin .add (.slH (.var 2) (.con (.int 1))) (.slH (.var 2) (.con (.int 1)))) .nil)) (.call "form" 1 g_form (.cons (.slH (.var 2) (.con (.int 1))) .nil))))) (.cons (.ret (.con (.bl false)))
   .nil) .nil)
  (.cons (.asg false 9 (.b1 .tuple (.lc (.seq (.var 2)) (.cons (.nm 13) (.cons (.nm 14) .nil)) .nil (.tup (.cons (.var 14) (.cons (.var 13) .nil))) [13, 14])))
  (.cons (.ife (.or (.cmp .ne (.call "form" 1 g_form (.cons (.var 9) .nil)) (.var 3)) (.one (.cmp .ne (.call "form" 1 g_form (.cons (.tup .nil) .nil)) (.tup .nil)))) (.cons (.ret (.con (.bl false)))
   .nil) .nil)
  (.cons (.asg false 10 (.tup (.cons (.tup (.cons (.con (.str "wave")) (.cons (.tup (.cons (.con (.str "name")) (.cons (.con (.str "a")) .nil))) .nil))) (.cons (.tup (.cons (.con (.str "number")) (.cons (.con (.int 1)) .nil))) .nil))))
  (.cons (.ret (.and (.cmp .eq (.call "form" 1 g_form (.cons (.tup (.cons (.var 10) .nil)) .nil)) (.tup (.cons (.tup (.cons (.con (.int 1)) (.cons (.con (.int 0)) (.cons (.con (.int 0)) (.cons (.con (.int 0)) (.cons (.con (.int 0)) (.cons (.con (.int 0)) .nil))))))) .nil))) (.one (.cmp .eq (.call "form" 1 g_form (.cons (.tup (.cons (.tup (.cons (.tup (.cons (.con (.str "power")) (.cons (.tup (.cons (.con (.str "name")) (.cons (.con (.str "b")) .nil))) (.cons (.con (.int 0)) .nil)))) (.cons (.tup (.cons (.con (.str "number")) (.cons (.con (.int 2)) .nil))) .nil))) .nil)) .nil)) (.tup .nil)))))
  .nil))))))))))))))

theorem sc__law_pick : FnScope ["script", "town", "choices"] ["script", "town", "choices"] (defScope s__law_pick) := ⟨rfl, rfl, rfl, by decide +kernel, rfl, by decide +kernel, by decide +kernel⟩
theorem k__law_pick (p : Addr) : chkSs ["script", "town", "choices"] (defScope s__law_pick) (c__law_pick p) (defBody s__law_pick) = true := by kernel_rfl
theorem sc__law_formula : FnScope ["script", "town", "deep", "way", "first", "name"] ["script", "town", "deep"] (defScope s__law_formula) := ⟨rfl, rfl, rfl, by decide +kernel, rfl, by decide +kernel, by decide +kernel⟩
theorem k__law_formula (p : Addr) (self : Sem (List Int)) : chkSs ["script", "town", "deep", "way", "first", "name"] (defScope s__law_formula) (c__law_formula p self) (defBody s__law_formula) = true := by kernel_rfl
theorem sc__law_statements : FnScope ["script", "town", "most", "found", "k"] ["script", "town", "most"] (defScope s__law_statements) := ⟨rfl, rfl, rfl, by decide +kernel, rfl, by decide +kernel, by decide +kernel⟩
theorem k__law_statements (p : Addr) : chkSs ["script", "town", "most", "found", "k"] (defScope s__law_statements) (c__law_statements p) (defBody s__law_statements) = true := by kernel_rfl
theorem sc__law_rank : FnScope ["rows", "left", "rank", "wide", "place", "some", "head", "row", "x", "y"] ["rows"] (defScope s__law_rank) := ⟨rfl, rfl, rfl, by decide +kernel, rfl, by decide +kernel, by decide +kernel⟩
theorem k__law_rank : chkSs ["rows", "left", "rank", "wide", "place", "some", "head", "row", "x", "y"] (defScope s__law_rank) (c__law_rank) (defBody s__law_rank) = true := by kernel_rfl
theorem sc_is_between : FnScope ["value", "low", "high"] ["value", "low", "high"] (defScope s_is_between) := ⟨rfl, rfl, rfl, by decide +kernel, rfl, by decide +kernel, by decide +kernel⟩
theorem k_is_between : chkSs ["value", "low", "high"] (defScope s_is_between) (c_is_between) (defBody s_is_between) = true := by kernel_rfl
theorem sc_is_name : FnScope ["value"] ["value"] (defScope s_is_name) := ⟨rfl, rfl, rfl, by decide +kernel, rfl, by decide +kernel, by decide +kernel⟩
theorem k_is_name : chkSs ["value"] (defScope s_is_name) (c_is_name) (defBody s_is_name) = true := by kernel_rfl
theorem sc_is_at_most : FnScope ["value", "deep", "name"] ["value", "deep"] (defScope s_is_at_most) := ⟨rfl, rfl, rfl, by decide +kernel, rfl, by decide +kernel, by decide +kernel⟩
theorem k_is_at_most (self : Sem (List Int)) : chkSs ["value", "deep", "name"] (defScope s_is_at_most) (c_is_at_most self) (defBody s_is_at_most) = true := by kernel_rfl
theorem sc_is_formula : FnScope ["value"] ["value"] (defScope s_is_formula) := ⟨rfl, rfl, rfl, by decide +kernel, rfl, by decide +kernel, by decide +kernel⟩
theorem k_is_formula : chkSs ["value"] (defScope s_is_formula) (c_is_formula) (defBody s_is_formula) = true := by kernel_rfl
theorem sc_is_statement : FnScope ["value", "part"] ["value"] (defScope s_is_statement) := ⟨rfl, rfl, rfl, by decide +kernel, rfl, by decide +kernel, by decide +kernel⟩
theorem k_is_statement : chkSs ["value", "part"] (defScope s_is_statement) (c_is_statement) (defBody s_is_statement) = true := by kernel_rfl
theorem sc_is_statements : FnScope ["value", "one"] ["value"] (defScope s_is_statements) := ⟨rfl, rfl, rfl, by decide +kernel, rfl, by decide +kernel, by decide +kernel⟩
theorem k_is_statements : chkSs ["value", "one"] (defScope s_is_statements) (c_is_statements) (defBody s_is_statements) = true := by kernel_rfl
theorem sc_check_statements : FnScope ["value"] ["value"] (defScope s_check_statements) := ⟨rfl, rfl, rfl, by decide +kernel, rfl, by decide +kernel, by decide +kernel⟩
theorem k_check_statements : chkSs ["value"] (defScope s_check_statements) (c_check_statements) (defBody s_check_statements) = true := by kernel_rfl
theorem sc_divisor : FnScope ["one", "other"] ["one", "other"] (defScope s_divisor) := ⟨rfl, rfl, rfl, by decide +kernel, rfl, by decide +kernel, by decide +kernel⟩
theorem k_divisor : chkSs ["one", "other"] (defScope s_divisor) (c_divisor) (defBody s_divisor) = true := by kernel_rfl
theorem sc_whole : FnScope ["row", "many", "part", "some", "shared", "one"] ["row"] (defScope s_whole) := ⟨rfl, rfl, rfl, by decide +kernel, rfl, by decide +kernel, by decide +kernel⟩
theorem k_whole : chkSs ["row", "many", "part", "some", "shared", "one"] (defScope s_whole) (c_whole) (defBody s_whole) = true := by kernel_rfl
theorem sc_fraction : FnScope ["top", "bottom", "shared"] ["top", "bottom"] (defScope s_fraction) := ⟨rfl, rfl, rfl, by decide +kernel, rfl, by decide +kernel, by decide +kernel⟩
theorem k_fraction : chkSs ["top", "bottom", "shared"] (defScope s_fraction) (c_fraction) (defBody s_fraction) = true := by kernel_rfl
theorem sc_plus : FnScope ["one", "other"] ["one", "other"] (defScope s_plus) := ⟨rfl, rfl, rfl, by decide +kernel, rfl, by decide +kernel, by decide +kernel⟩
theorem k_plus : chkSs ["one", "other"] (defScope s_plus) (c_plus) (defBody s_plus) = true := by kernel_rfl
theorem sc_times : FnScope ["one", "other"] ["one", "other"] (defScope s_times) := ⟨rfl, rfl, rfl, by decide +kernel, rfl, by decide +kernel, by decide +kernel⟩
theorem k_times : chkSs ["one", "other"] (defScope s_times) (c_times) (defBody s_times) = true := by kernel_rfl
theorem sc_added : FnScope ["one", "other", "many", "x", "y"] ["one", "other", "many"] (defScope s_added) := ⟨rfl, rfl, rfl, by decide +kernel, rfl, by decide +kernel, by decide +kernel⟩
theorem k_added : chkSs ["one", "other", "many", "x", "y"] (defScope s_added) (c_added) (defBody s_added) = true := by kernel_rfl
theorem sc_over : FnScope ["one", "other"] ["one", "other"] (defScope s_over) := ⟨rfl, rfl, rfl, by decide +kernel, rfl, by decide +kernel, by decide +kernel⟩
theorem k_over : chkSs ["one", "other"] (defScope s_over) (c_over) (defBody s_over) = true := by kernel_rfl
theorem sc_reduced : FnScope ["rows", "wide", "found", "left", "place", "some", "head", "row", "part"] ["rows", "wide"] (defScope s_reduced) := ⟨rfl, rfl, rfl, by decide +kernel, rfl, by decide +kernel, by decide +kernel⟩
theorem k_reduced : chkSs ["rows", "wide", "found", "left", "place", "some", "head", "row", "part"] (defScope s_reduced) (c_reduced) (defBody s_reduced) = true := by kernel_rfl
theorem sc_parts_of : FnScope ["formula"] ["formula"] (defScope s_parts_of) := ⟨rfl, rfl, rfl, by decide +kernel, rfl, by decide +kernel, by decide +kernel⟩
theorem k_parts_of : chkSs ["formula"] (defScope s_parts_of) (c_parts_of) (defBody s_parts_of) = true := by kernel_rfl
theorem sc_asked_by : FnScope ["formula", "name", "some", "rows", "first", "factor", "part", "exponents", "more", "row", "one"] ["formula"] (defScope s_asked_by) := ⟨rfl, rfl, rfl, by decide +kernel, rfl, by decide +kernel, by decide +kernel⟩
theorem k_asked_by (self : Sem (List Int)) : chkSs ["formula", "name", "some", "rows", "first", "factor", "part", "exponents", "more", "row", "one"] (defScope s_asked_by) (c_asked_by self) (defBody s_asked_by) = true := by kernel_rfl
theorem sc_rows_of : FnScope ["statements", "found", "one", "other", "first", "second"] ["statements"] (defScope s_rows_of) := ⟨rfl, rfl, rfl, by decide +kernel, rfl, by decide +kernel, by decide +kernel⟩
theorem k_rows_of : chkSs ["statements", "found", "one", "other", "first", "second"] (defScope s_rows_of) (c_rows_of) (defBody s_rows_of) = true := by kernel_rfl
theorem sc_form_of : FnScope ["statements", "row"] ["statements"] (defScope s_form_of) := ⟨rfl, rfl, rfl, by decide +kernel, rfl, by decide +kernel, by decide +kernel⟩
theorem k_form_of : chkSs ["statements", "row"] (defScope s_form_of) (c_form_of) (defBody s_form_of) = true := by kernel_rfl
theorem sc_form : FnScope ["statements"] ["statements"] (defScope s_form) := ⟨rfl, rfl, rfl, by decide +kernel, rfl, by decide +kernel, by decide +kernel⟩
theorem k_form : chkSs ["statements"] (defScope s_form) (c_form) (defBody s_form) = true := by kernel_rfl
theorem sc__law_exponents : FnScope ["formula", "name", "first", "rows", "second", "more", "sign", "both", "x", "y", "one"] ["formula"] (defScope s__law_exponents) := ⟨rfl, rfl, rfl, by decide +kernel, rfl, by decide +kernel, by decide +kernel⟩
theorem k__law_exponents (self : Sem (List Int)) : chkSs ["formula", "name", "first", "rows", "second", "more", "sign", "both", "x", "y", "one"] (defScope s__law_exponents) (c__law_exponents self) (defBody s__law_exponents) = true := by kernel_rfl
theorem sc__law_rows : FnScope ["statements", "found", "one", "other", "first", "rows", "second", "more", "x", "y"] ["statements"] (defScope s__law_rows) := ⟨rfl, rfl, rfl, by decide +kernel, rfl, by decide +kernel, by decide +kernel⟩
theorem k__law_rows : chkSs ["statements", "found", "one", "other", "first", "rows", "second", "more", "x", "y"] (defScope s__law_rows) (c__law_rows) (defBody s__law_rows) = true := by kernel_rfl
theorem sc_count_free : FnScope ["statements"] ["statements"] (defScope s_count_free) := ⟨rfl, rfl, rfl, by decide +kernel, rfl, by decide +kernel, by decide +kernel⟩
theorem k_count_free : chkSs ["statements"] (defScope s_count_free) (c_count_free) (defBody s_count_free) = true := by kernel_rfl
theorem sc__law_divisor : FnScope ["row", "found", "one", "other"] ["row"] (defScope s__law_divisor) := ⟨rfl, rfl, rfl, by decide +kernel, rfl, by decide +kernel, by decide +kernel⟩
theorem k__law_divisor : chkSs ["row", "found", "one", "other"] (defScope s__law_divisor) (c__law_divisor) (defBody s__law_divisor) = true := by kernel_rfl
theorem sc_law : FnScope ["script", "town", "statements", "rows", "due", "rank", "heads", "row", "head", "turned", "plain", "some", "place", "one", "other"] ["script"] (defScope s_law) := ⟨rfl, rfl, rfl, by decide +kernel, rfl, by decide +kernel, by decide +kernel⟩
theorem k_law (p : Addr) : chkSs ["script", "town", "statements", "rows", "due", "rank", "heads", "row", "head", "turned", "plain", "some", "place", "one", "other"] (defScope s_law) (c_law p) (defBody s_law).tail = true := by kernel_rfl
section
variable {P : Program} {w : World} {K : PySem.W.Frag} {mg : Str → Option Value} {base : Heap} {n : Nat} {p : Addr}
theorem H__law_pick (D : DefAt K mg "_law_pick" s__law_pick) (blt : ∀ y ∈ bltNames, mg y = none) (h__law_draw : Has P w K mg base (townSys p) n "_law_draw" 3 (g__law_draw p))  : Has P w K mg base (townSys p) (n + 1) "_law_pick" 3 (g__law_pick p) := by
  obtain ⟨f, fd, F, hm⟩ := D
  exact fn_sound F sc__law_pick hm (F.binds (ps := ["script", "town", "choices"]) fun _ _ _ _ _ _ us hl => match us, hl with | [_, _, _], _ => rfl) blt (k__law_pick p) (by unfold c__law_pick; repeat' (first | exact True.intro | assumption | apply And.intro))
theorem H__law_formula (D : DefAt K mg "_law_formula" s__law_formula) (blt : ∀ y ∈ bltNames, mg y = none) (h__law_draw : Has P w K mg base (townSys p) n "_law_draw" 3 (g__law_draw p)) (h__law_pick : Has P w K mg base (townSys p) n "_law_pick" 3 (g__law_pick p))  : ∀ k, Has P w K mg base (townSys p) (n + 1 + k) "_law_formula" 3 (g__law_formula p k) := by
  obtain ⟨f, fd, F, hm⟩ := D
  have hb := F.binds (ps := ["script", "town", "deep"]) fun _ _ _ _ _ _ us hl => match us, hl with | [_, _, _], _ => rfl
  intro k
  induction k with
  | zero => exact never_sound F sc__law_formula hm hb
  | succ k ih =>
    have h__law_draw := h__law_draw.mono (show n ≤ n + 1 + k by omega); have h__law_pick := h__law_pick.mono (show n ≤ n + 1 + k by omega);
    exact fn_sound F sc__law_formula hm hb blt (k__law_formula p (g__law_formula p k)) (by unfold c__law_formula; repeat' (first | exact True.intro | assumption | apply And.intro))
theorem H__law_statements (D : DefAt K mg "_law_statements" s__law_statements) (blt : ∀ y ∈ bltNames, mg y = none) (h__law_draw : Has P w K mg base (townSys p) n "_law_draw" 3 (g__law_draw p)) (h__law_formula : Has P w K mg base (townSys p) n "_law_formula" 3 (g__law_formula p 6))  : Has P w K mg base (townSys p) (n + 1) "_law_statements" 3 (g__law_statements p) := by
  obtain ⟨f, fd, F, hm⟩ := D
  exact fn_sound F sc__law_statements hm (F.binds (ps := ["script", "town", "most"]) fun _ _ _ _ _ _ us hl => match us, hl with | [_, _, _], _ => rfl) blt (k__law_statements p) (by unfold c__law_statements; repeat' (first | exact True.intro | assumption | apply And.intro))
theorem H__law_rank (D : DefAt K mg "_law_rank" s__law_rank) (blt : ∀ y ∈ bltNames, mg y = none)   : Has P w K mg base (townSys p) (n + 1) "_law_rank" 1 g__law_rank := by
  obtain ⟨f, fd, F, hm⟩ := D
  exact fn_sound F sc__law_rank hm (F.binds (ps := ["rows"]) fun _ _ _ _ _ _ us hl => match us, hl with | [_], _ => rfl) blt (k__law_rank) (by unfold c__law_rank; repeat' (first | exact True.intro | assumption | apply And.intro))
theorem H_is_between (D : DefAt K mg "is_between" s_is_between) (blt : ∀ y ∈ bltNames, mg y = none)   : Has P w K mg base (townSys p) (n + 1) "is_between" 3 g_is_between := by
  obtain ⟨f, fd, F, hm⟩ := D
  exact fn_sound F sc_is_between hm (F.binds (ps := ["value", "low", "high"]) fun _ _ _ _ _ _ us hl => match us, hl with | [_, _, _], _ => rfl) blt (k_is_between) (by unfold c_is_between; repeat' (first | exact True.intro | assumption | apply And.intro))
theorem H_is_name (D : DefAt K mg "is_name" s_is_name) (blt : ∀ y ∈ bltNames, mg y = none)  (gl_NAMES : Glb K mg "NAMES" d_NAMES) : Has P w K mg base (townSys p) (n + 1) "is_name" 1 g_is_name := by
  obtain ⟨f, fd, F, hm⟩ := D
  exact fn_sound F sc_is_name hm (F.binds (ps := ["value"]) fun _ _ _ _ _ _ us hl => match us, hl with | [_], _ => rfl) blt (k_is_name) (by unfold c_is_name; repeat' (first | exact True.intro | assumption | apply And.intro))
theorem H_is_at_most (D : DefAt K mg "is_at_most" s_is_at_most) (blt : ∀ y ∈ bltNames, mg y = none) (h_is_between : Has P w K mg base (townSys p) n "is_between" 3 g_is_between) (h_is_name : Has P w K mg base (townSys p) n "is_name" 1 g_is_name)  : ∀ k, Has P w K mg base (townSys p) (n + 1 + k) "is_at_most" 2 (g_is_at_most k) := by
  obtain ⟨f, fd, F, hm⟩ := D
  have hb := F.binds (ps := ["value", "deep"]) fun _ _ _ _ _ _ us hl => match us, hl with | [_, _], _ => rfl
  intro k
  induction k with
  | zero => exact never_sound F sc_is_at_most hm hb
  | succ k ih =>
    have h_is_between := h_is_between.mono (show n ≤ n + 1 + k by omega); have h_is_name := h_is_name.mono (show n ≤ n + 1 + k by omega);
    exact fn_sound F sc_is_at_most hm hb blt (k_is_at_most (g_is_at_most k)) (by unfold c_is_at_most; repeat' (first | exact True.intro | assumption | apply And.intro))
theorem H_is_formula (D : DefAt K mg "is_formula" s_is_formula) (blt : ∀ y ∈ bltNames, mg y = none) (h_is_at_most : Has P w K mg base (townSys p) n "is_at_most" 2 (g_is_at_most 6))  : Has P w K mg base (townSys p) (n + 1) "is_formula" 1 g_is_formula := by
  obtain ⟨f, fd, F, hm⟩ := D
  exact fn_sound F sc_is_formula hm (F.binds (ps := ["value"]) fun _ _ _ _ _ _ us hl => match us, hl with | [_], _ => rfl) blt (k_is_formula) (by unfold c_is_formula; repeat' (first | exact True.intro | assumption | apply And.intro))
theorem H_is_statement (D : DefAt K mg "is_statement" s_is_statement) (blt : ∀ y ∈ bltNames, mg y = none) (h_is_formula : Has P w K mg base (townSys p) n "is_formula" 1 g_is_formula)  : Has P w K mg base (townSys p) (n + 1) "is_statement" 1 g_is_statement := by
  obtain ⟨f, fd, F, hm⟩ := D
  exact fn_sound F sc_is_statement hm (F.binds (ps := ["value"]) fun _ _ _ _ _ _ us hl => match us, hl with | [_], _ => rfl) blt (k_is_statement) (by unfold c_is_statement; repeat' (first | exact True.intro | assumption | apply And.intro))
theorem H_is_statements (D : DefAt K mg "is_statements" s_is_statements) (blt : ∀ y ∈ bltNames, mg y = none) (h_is_statement : Has P w K mg base (townSys p) n "is_statement" 1 g_is_statement)  : Has P w K mg base (townSys p) (n + 1) "is_statements" 1 g_is_statements := by
  obtain ⟨f, fd, F, hm⟩ := D
  exact fn_sound F sc_is_statements hm (F.binds (ps := ["value"]) fun _ _ _ _ _ _ us hl => match us, hl with | [_], _ => rfl) blt (k_is_statements) (by unfold c_is_statements; repeat' (first | exact True.intro | assumption | apply And.intro))
theorem H_check_statements (D : DefAt K mg "check_statements" s_check_statements) (blt : ∀ y ∈ bltNames, mg y = none) (h_is_statements : Has P w K mg base (townSys p) n "is_statements" 1 g_is_statements)  : Has P w K mg base (townSys p) (n + 1) "check_statements" 1 g_check_statements := by
  obtain ⟨f, fd, F, hm⟩ := D
  exact fn_sound F sc_check_statements hm (F.binds (ps := ["value"]) fun _ _ _ _ _ _ us hl => match us, hl with | [_], _ => rfl) blt (k_check_statements) (by unfold c_check_statements; repeat' (first | exact True.intro | assumption | apply And.intro))
theorem H_divisor (D : DefAt K mg "divisor" s_divisor) (blt : ∀ y ∈ bltNames, mg y = none)   : Has P w K mg base (townSys p) (n + 1) "divisor" 2 g_divisor := by
  obtain ⟨f, fd, F, hm⟩ := D
  exact fn_sound F sc_divisor hm (F.binds (ps := ["one", "other"]) fun _ _ _ _ _ _ us hl => match us, hl with | [_, _], _ => rfl) blt (k_divisor) (by unfold c_divisor; repeat' (first | exact True.intro | assumption | apply And.intro))
theorem H_whole (D : DefAt K mg "whole" s_whole) (blt : ∀ y ∈ bltNames, mg y = none) (h_divisor : Has P w K mg base (townSys p) n "divisor" 2 g_divisor)  : Has P w K mg base (townSys p) (n + 1) "whole" 1 g_whole := by
  obtain ⟨f, fd, F, hm⟩ := D
  exact fn_sound F sc_whole hm (F.binds (ps := ["row"]) fun _ _ _ _ _ _ us hl => match us, hl with | [_], _ => rfl) blt (k_whole) (by unfold c_whole; repeat' (first | exact True.intro | assumption | apply And.intro))
theorem H_fraction (D : DefAt K mg "fraction" s_fraction) (blt : ∀ y ∈ bltNames, mg y = none) (h_divisor : Has P w K mg base (townSys p) n "divisor" 2 g_divisor)  : Has P w K mg base (townSys p) (n + 1) "fraction" 2 g_fraction := by
  obtain ⟨f, fd, F, hm⟩ := D
  exact fn_sound F sc_fraction hm (F.binds (ps := ["top", "bottom"]) fun _ _ _ _ _ _ us hl => match us, hl with | [_, _], _ => rfl) blt (k_fraction) (by unfold c_fraction; repeat' (first | exact True.intro | assumption | apply And.intro))
theorem H_plus (D : DefAt K mg "plus" s_plus) (blt : ∀ y ∈ bltNames, mg y = none) (h_fraction : Has P w K mg base (townSys p) n "fraction" 2 g_fraction)  : Has P w K mg base (townSys p) (n + 1) "plus" 2 g_plus := by
  obtain ⟨f, fd, F, hm⟩ := D
  exact fn_sound F sc_plus hm (F.binds (ps := ["one", "other"]) fun _ _ _ _ _ _ us hl => match us, hl with | [_, _], _ => rfl) blt (k_plus) (by unfold c_plus; repeat' (first | exact True.intro | assumption | apply And.intro))
theorem H_times (D : DefAt K mg "times" s_times) (blt : ∀ y ∈ bltNames, mg y = none) (h_fraction : Has P w K mg base (townSys p) n "fraction" 2 g_fraction)  : Has P w K mg base (townSys p) (n + 1) "times" 2 g_times := by
  obtain ⟨f, fd, F, hm⟩ := D
  exact fn_sound F sc_times hm (F.binds (ps := ["one", "other"]) fun _ _ _ _ _ _ us hl => match us, hl with | [_, _], _ => rfl) blt (k_times) (by unfold c_times; repeat' (first | exact True.intro | assumption | apply And.intro))
theorem H_added (D : DefAt K mg "added" s_added) (blt : ∀ y ∈ bltNames, mg y = none) (h_plus : Has P w K mg base (townSys p) n "plus" 2 g_plus) (h_times : Has P w K mg base (townSys p) n "times" 2 g_times)  : Has P w K mg base (townSys p) (n + 1) "added" 3 g_added := by
  obtain ⟨f, fd, F, hm⟩ := D
  exact fn_sound F sc_added hm (F.binds (ps := ["one", "other", "many"]) fun _ _ _ _ _ _ us hl => match us, hl with | [_, _, _], _ => rfl) blt (k_added) (by unfold c_added; repeat' (first | exact True.intro | assumption | apply And.intro))
theorem H_over (D : DefAt K mg "over" s_over) (blt : ∀ y ∈ bltNames, mg y = none) (h_fraction : Has P w K mg base (townSys p) n "fraction" 2 g_fraction)  : Has P w K mg base (townSys p) (n + 1) "over" 2 g_over := by
  obtain ⟨f, fd, F, hm⟩ := D
  exact fn_sound F sc_over hm (F.binds (ps := ["one", "other"]) fun _ _ _ _ _ _ us hl => match us, hl with | [_, _], _ => rfl) blt (k_over) (by unfold c_over; repeat' (first | exact True.intro | assumption | apply And.intro))
theorem H_reduced (D : DefAt K mg "reduced" s_reduced) (blt : ∀ y ∈ bltNames, mg y = none) (h_added : Has P w K mg base (townSys p) n "added" 3 g_added) (h_over : Has P w K mg base (townSys p) n "over" 2 g_over) (h_times : Has P w K mg base (townSys p) n "times" 2 g_times) (gl_ZERO : Glb K mg "ZERO" d_ZERO) : Has P w K mg base (townSys p) (n + 1) "reduced" 2 g_reduced := by
  obtain ⟨f, fd, F, hm⟩ := D
  exact fn_sound F sc_reduced hm (F.binds (ps := ["rows", "wide"]) fun _ _ _ _ _ _ us hl => match us, hl with | [_, _], _ => rfl) blt (k_reduced) (by unfold c_reduced; repeat' (first | exact True.intro | assumption | apply And.intro))
theorem H_parts_of (D : DefAt K mg "parts_of" s_parts_of) (blt : ∀ y ∈ bltNames, mg y = none)   : Has P w K mg base (townSys p) (n + 1) "parts_of" 1 g_parts_of := by
  obtain ⟨f, fd, F, hm⟩ := D
  exact fn_sound F sc_parts_of hm (F.binds (ps := ["formula"]) fun _ _ _ _ _ _ us hl => match us, hl with | [_], _ => rfl) blt (k_parts_of) (by unfold c_parts_of; repeat' (first | exact True.intro | assumption | apply And.intro))
theorem H_asked_by (D : DefAt K mg "asked_by" s_asked_by) (blt : ∀ y ∈ bltNames, mg y = none) (h_parts_of : Has P w K mg base (townSys p) n "parts_of" 1 g_parts_of) (h_added : Has P w K mg base (townSys p) n "added" 3 g_added) (h_times : Has P w K mg base (townSys p) n "times" 2 g_times) (gl_EMPTY : Glb K mg "EMPTY" d_EMPTY) (gl_NAMES : Glb K mg "NAMES" d_NAMES) : ∀ k, Has P w K mg base (townSys p) (n + 1 + k) "asked_by" 1 (g_asked_by k) := by
  obtain ⟨f, fd, F, hm⟩ := D
  have hb := F.binds (ps := ["formula"]) fun _ _ _ _ _ _ us hl => match us, hl with | [_], _ => rfl
  intro k
  induction k with
  | zero => exact never_sound F sc_asked_by hm hb
  | succ k ih =>
    have h_parts_of := h_parts_of.mono (show n ≤ n + 1 + k by omega); have h_added := h_added.mono (show n ≤ n + 1 + k by omega); have h_times := h_times.mono (show n ≤ n + 1 + k by omega);
    exact fn_sound F sc_asked_by hm hb blt (k_asked_by (g_asked_by k)) (by unfold c_asked_by; repeat' (first | exact True.intro | assumption | apply And.intro))
theorem H_rows_of (D : DefAt K mg "rows_of" s_rows_of) (blt : ∀ y ∈ bltNames, mg y = none) (h_asked_by : Has P w K mg base (townSys p) n "asked_by" 1 (g_asked_by 6)) (h_added : Has P w K mg base (townSys p) n "added" 3 g_added)  : Has P w K mg base (townSys p) (n + 1) "rows_of" 1 g_rows_of := by
  obtain ⟨f, fd, F, hm⟩ := D
  exact fn_sound F sc_rows_of hm (F.binds (ps := ["statements"]) fun _ _ _ _ _ _ us hl => match us, hl with | [_], _ => rfl) blt (k_rows_of) (by unfold c_rows_of; repeat' (first | exact True.intro | assumption | apply And.intro))
theorem H_form_of (D : DefAt K mg "form_of" s_form_of) (blt : ∀ y ∈ bltNames, mg y = none) (h_whole : Has P w K mg base (townSys p) n "whole" 1 g_whole) (h_reduced : Has P w K mg base (townSys p) n "reduced" 2 g_reduced) (h_rows_of : Has P w K mg base (townSys p) n "rows_of" 1 g_rows_of)  : Has P w K mg base (townSys p) (n + 1) "form_of" 1 g_form_of := by
  obtain ⟨f, fd, F, hm⟩ := D
  exact fn_sound F sc_form_of hm (F.binds (ps := ["statements"]) fun _ _ _ _ _ _ us hl => match us, hl with | [_], _ => rfl) blt (k_form_of) (by unfold c_form_of; repeat' (first | exact True.intro | assumption | apply And.intro))
theorem H_form (D : DefAt K mg "form" s_form) (blt : ∀ y ∈ bltNames, mg y = none) (h_check_statements : Has P w K mg base (townSys p) n "check_statements" 1 g_check_statements) (h_form_of : Has P w K mg base (townSys p) n "form_of" 1 g_form_of)  : Has P w K mg base (townSys p) (n + 1) "form" 1 g_form := by
  obtain ⟨f, fd, F, hm⟩ := D
  exact fn_sound F sc_form hm (F.binds (ps := ["statements"]) fun _ _ _ _ _ _ us hl => match us, hl with | [_], _ => rfl) blt (k_form) (by unfold c_form; repeat' (first | exact True.intro | assumption | apply And.intro))
theorem H__law_exponents (D : DefAt K mg "_law_exponents" s__law_exponents) (blt : ∀ y ∈ bltNames, mg y = none)   : ∀ k, Has P w K mg base (townSys p) (n + 1 + k) "_law_exponents" 1 (g__law_exponents k) := by
  obtain ⟨f, fd, F, hm⟩ := D
  have hb := F.binds (ps := ["formula"]) fun _ _ _ _ _ _ us hl => match us, hl with | [_], _ => rfl
  intro k
  induction k with
  | zero => exact never_sound F sc__law_exponents hm hb
  | succ k ih =>
    
    exact fn_sound F sc__law_exponents hm hb blt (k__law_exponents (g__law_exponents k)) (by unfold c__law_exponents; repeat' (first | exact True.intro | assumption | apply And.intro))
theorem H__law_rows (D : DefAt K mg "_law_rows" s__law_rows) (blt : ∀ y ∈ bltNames, mg y = none) (h__law_exponents : Has P w K mg base (townSys p) n "_law_exponents" 1 (g__law_exponents 6))  : Has P w K mg base (townSys p) (n + 1) "_law_rows" 1 g__law_rows := by
  obtain ⟨f, fd, F, hm⟩ := D
  exact fn_sound F sc__law_rows hm (F.binds (ps := ["statements"]) fun _ _ _ _ _ _ us hl => match us, hl with | [_], _ => rfl) blt (k__law_rows) (by unfold c__law_rows; repeat' (first | exact True.intro | assumption | apply And.intro))
theorem H_count_free (D : DefAt K mg "count_free" s_count_free) (blt : ∀ y ∈ bltNames, mg y = none) (h_check_statements : Has P w K mg base (townSys p) n "check_statements" 1 g_check_statements) (h_form_of : Has P w K mg base (townSys p) n "form_of" 1 g_form_of)  : Has P w K mg base (townSys p) (n + 1) "count_free" 1 g_count_free := by
  obtain ⟨f, fd, F, hm⟩ := D
  exact fn_sound F sc_count_free hm (F.binds (ps := ["statements"]) fun _ _ _ _ _ _ us hl => match us, hl with | [_], _ => rfl) blt (k_count_free) (by unfold c_count_free; repeat' (first | exact True.intro | assumption | apply And.intro))
theorem H__law_divisor (D : DefAt K mg "_law_divisor" s__law_divisor) (blt : ∀ y ∈ bltNames, mg y = none)   : Has P w K mg base (townSys p) (n + 1) "_law_divisor" 1 g__law_divisor := by
  obtain ⟨f, fd, F, hm⟩ := D
  exact fn_sound F sc__law_divisor hm (F.binds (ps := ["row"]) fun _ _ _ _ _ _ us hl => match us, hl with | [_], _ => rfl) blt (k__law_divisor) (by unfold c__law_divisor; repeat' (first | exact True.intro | assumption | apply And.intro))
end

/-! ### _law_draw, _law_town -/
theorem sc__law_draw : FnScope ["script", "town", "limit", "at", "left", "number"] ["script", "town", "limit"] (defScope s__law_draw) := ⟨rfl, rfl, rfl, by decide +kernel, rfl, by decide +kernel, by decide +kernel⟩
theorem sc__law_town : FnScope ["script"] ["script"] (defScope s__law_town) := ⟨rfl, rfl, rfl, by decide +kernel, rfl, by decide +kernel, by decide +kernel⟩
section
variable {P : Program} {w : World} {K : PySem.W.Frag} {mg : Str → Option Value} {base : Heap} {f : Addr} {fd : FuncData} {p : Addr}
theorem ixN_nat {n j : Nat} (h : j < n) : ixN n (j : Int) = some j := by
  have e := atI_nat (xs := List.range n) (j := j) (v := j) (by rw [List.getElem?_range h])
  unfold atI at e
  rw [List.length_range] at e
  cases hj : ixN n (j : Int) with
  | none => rw [hj] at e; cases e
  | some i =>
    rw [hj] at e
    have e : (List.range n)[i]? = some j := e
    obtain ⟨h1, h2⟩ := List.getElem?_eq_some_iff.mp e
    rw [List.getElem_range] at h2
    rw [h2]
theorem g_draw_cases (p : Addr) (ds : List D) (t : List Int) : (∃ ns m k rest, ds = [.scr ns, .adr p, .int m] ∧ t = k :: rest ∧ 0 < m ∧ m < 1000000 ∧ 0 ≤ k ∧ k < 1000000000 ∧ rest.length = ns.length ∧ ns.length ≤ 63 ∧ g_draw p ds t = .ok (.int (dr ns k rest m).1) (dr ns k rest m).2) ∨ g_draw p ds t = .er := by
  unfold g_draw
  split
  · split
    · rename_i hc
      obtain ⟨rfl, h⟩ := hc
      exact .inl ⟨_, _, _, _, rfl, rfl, h.1, h.2.1, h.2.2.1, h.2.2.2.1, h.2.2.2.2.1, h.2.2.2.2.2, rfl⟩
    · exact .inr rfl
  · exact .inr rfl
theorem ok_draw (F : Fun K "_law_draw" "_law_draw" s__law_draw f fd) (ml : mg "len" = none) : FnOk P w K mg base (L2.CX P w) 1 f fd ["script", "town", "limit"] (spOf (Y := townSys p) K mg 3 (g_draw p)) := by
  refine F.okX sc__law_draw (fun vs H Q E h => ?_) (fun cdv A outer s H vs Q E hr h => ?_)
  · obtain ⟨c, ds, _, _, _, h, _⟩ := h
    exact h
  · refine ⟨_, pss_cons (ps_asg (pe_op op_add (pe_ix ix_list (pv 1) pe_int (fun _ _ => rfl)) pe_int) (pg_sub (pv 1) pe_int set_list))
      (pss_cons (ps_if (pt_cmpR (op_eqD hr.units) (pv 0) (pe_lst pa_nil) (nomark _)) (pss_one (ps_ret (pe_op op_modN (pe_op op_fdivV (pe_op op_mul (pe_op op_mul (pe_ix ix_list (pv 1) pe_int (fun _ _ => rfl)) (pe_ix ix_list (pv 1) pe_int (fun _ _ => rfl))) pe_int) pe_int) (pv 2)))) pss_nil)
      (pss_cons (ps_set (i := 3) sc__law_draw.nd rfl (Or.inl rfl) (pe_op op_modN (pe_ix ix_list (pv 1) pe_int (fun _ _ => rfl)) (pe_callB call_len_seq rfl ml PySem.boot_len (pa_cons (pv 0) pa_nil))))
      (pss_cons (ps_set (i := 4) sc__law_draw.nd rfl (Or.inl rfl) (pe_ix ix_list (pv 1) (pe_op op_add pe_int (pv 3)) (fun _ _ => rfl)))
      (pss_cons (ps_if (PW.pt (pw_and (pt_cmpR op_ge (pe_ix ix_list (pv 0) (pv 3) (fun _ _ => rfl)) (pe_op op_pow pe_int pe_int) (nomark _)) (pw_and1 (pt_cmpR op_gt (pv 4) pe_int (nomark _)))))
        (pss_cons (ps_asg (pe_op op_fdivV (pv 4) (pv 2)) (pg_sub (pv 1) (pe_op op_add pe_int (pv 3)) set_list)) (pss_one (ps_ret (pe_op op_modN (pv 4) (pv 2))))) pss_nil)
      (pss_cons (ps_set (i := 5) sc__law_draw.nd rfl (Or.inl rfl) (pe_op op_modN (pe_op op_add (pe_ix ix_list (pv 0) (pv 3) (fun _ _ => rfl)) (pe_op op_mul pe_int (pe_ix ix_list (pv 1) pe_int (fun _ _ => rfl)))) pe_int))
      (pss_cons (ps_set (i := 5) sc__law_draw.nd rfl (Or.inl rfl) (pe_op op_modN (pe_op op_pow (pv 5) pe_int) pe_int))
      (pss_one (ps_ret (pe_op op_modN (pe_op op_fdivV (pe_op op_modN (pe_op op_add (pe_op op_mul (pe_op op_fdivV (pv 5) pe_int) pe_int) (pv 5)) pe_int) pe_int) (pv 2)))))))))), ?_⟩
    obtain ⟨c, ds, rfl, ok, rs, hl, h⟩ := h
    have cel0 : c.H p = some (.lst (c.s.map V.int)) := ok.cel
    rcases g_draw_cases p ds c.s with ⟨ns, m, k, rest, rfl, ht, hm0, hm1, hk0, hk1, hlen, h63, er⟩ | er
    rotate_left
    · rw [er] at h
      exact h.elim
    rw [er] at h
    rw [ht] at cel0
    have h : ∀ v (c' : Cf (townSys p)), c'.s = (dr ns k rest m).2 → Step c c' → Ok c' → Rep K c'.F v (.int (dr ns k rest m).1) → Q v c'.H := h
    cases rs with
    | cons r1 rs =>
    cases rs with
    | cons r2 rs =>
    cases rs with
    | cons r3 rs =>
    cases rs
    cases r1 with
    | @scr a _ hS =>
    cases r2
    cases r3
    have cel : c.H p = some (.lst ((k :: rest).map V.int)) := cel0
    have hm' : m ≠ 0 := by omega
    have hmd : CDivV 0 m := ⟨hm', by
      have : m.natAbs < 2 ^ 20 := by omega
      have := (Nat.log2_lt (by omega)).mpr this
      omega⟩
    refine ⟨.ref p, rfl, p, _, 0, .int k, rfl, rfl, .inl (.inl cel), atI_nat (j := 0) rfl, k, 1, rfl, rfl, .ref p, rfl, p, _, 0, 0, rfl, rfl, cel, ixN_nat (by simp), ?_⟩
    show tSeq _ _ _ _ (upd c.H p (.lst (((k + 1) :: rest).map V.int)))
    obtain ⟨ok1, st1⟩ := town_new (K := K) ok ((k + 1) :: rest) (upd c.H p (.lst (((k + 1) :: rest).map V.int))) (fun a ha => upd_ne ha) upd_same
    have allI : ∀ (H : Hp) (l : List Int), DpAll K H (l.map V.int) (l.map PyData.int) := fun H l => by
      induction l with
      | nil => exact .nil
      | cons x l ih => exact .cons (.int x) ih
    have ishp : ∀ l : List Int, SeqAt.shaped (.list (l.map PyData.int)) = true := fun l => by
      have h1 : ∀ l : List Int, PyData.canLayAll0 (l.map PyData.int) = true ∧ PyData.depthAll (l.map PyData.int) = 0 := fun l => by
        induction l with
        | nil => exact ⟨rfl, rfl⟩
        | cons x l ih => exact ⟨Bool.and_eq_true_iff.mpr ⟨rfl, ih.1⟩, by show max 0 (PyData.depthAll (l.map PyData.int)) = 0; rw [ih.2]; rfl⟩
      refine Bool.and_eq_true_iff.mpr ⟨(h1 l).1, decide_eq_true ?_⟩
      show PyData.depthAll (l.map PyData.int) + 1 ≤ 64
      rw [(h1 l).2]
      decide
    refine ⟨.ref a, rfl, by show 0 ≤ sizeLine; decide, fun l hl0 => ?_⟩
    have ok2 := ok1.own hl0 (.lst [])
    have st2 : Step c _ := st1.trans ok1 (Step.own ok1 hl0 (.lst []))
    have hS2 : SqL K (upd (upd c.H p (.lst (((k + 1) :: rest).map V.int))) l (.lst [])) a (ns.map V.int) := sqL_sub ok2.sub hS
    have hq2 : upd (upd c.H p (.lst (((k + 1) :: rest).map V.int))) l (.lst []) p = some (.lst (((k + 1) :: rest).map V.int)) := ok2.cel
    refine ⟨_, _, .lst hS2 (allI _ ns), .lst (.inl (.inl upd_same)) .nil, ishp ns, ishp [], _, rfl, ?_⟩
    have fin : ∀ (d : Int), (dr ns k rest m) = (d, (k + 1) :: rest) → Q (.int d) (upd (upd c.H p (.lst (((k + 1) :: rest).map V.int))) l (.lst [])) := fun d e => by
      refine h (.int d) ⟨c.F, upd (upd c.H p (.lst (((k + 1) :: rest).map V.int))) l (.lst []), (k + 1) :: rest⟩ ?_ st2 ok2 ?_
      · rw [e]
      · rw [e]; exact .int d
    cases ns with
    | nil =>
      refine iteT ?_
      refine ⟨.ref p, rfl, p, _, 0, .int (k + 1), rfl, rfl, .inl (.inl hq2), atI_nat (j := 0) rfl, .ref p, rfl, p, _, 0, .int (k + 1), rfl, rfl, .inl (.inl hq2), atI_nat (j := 0) rfl, _, _, rfl, rfl, .inl ⟨by omega, by omega⟩, _, _, rfl, rfl, .inr ⟨by decide, by decide⟩, _, _, rfl, rfl, ⟨by decide, by decide +kernel⟩, .int m, rfl, _, _, rfl, rfl, hm', ?_⟩
      exact fin _ rfl
    | cons n0 ns0 =>
      refine iteF ?_
      have hn : (((n0 :: ns0).map V.int).length : Int) ≠ 0 := by simp; omega
      have hn1 : ((n0 :: ns0).map V.int).length = (n0 :: ns0).length := List.length_map ..
      obtain ⟨a', ha'⟩ : ∃ a' : Nat, (k + 1).fmod (((n0 :: ns0).map V.int).length : Int) = (a' : Int) := Int.eq_ofNat_of_zero_le (Int.fmod_nonneg_of_pos _ (by simp))
      have hlt : a' < (n0 :: ns0).length := by
        have := Int.fmod_lt_of_pos (k + 1) (show (0 : Int) < (((n0 :: ns0).map V.int).length : Int) by simp)
        rw [ha', hn1] at this
        omega
      have hat : ((k + 1).fmod ((n0 :: ns0).length : Int)).toNat = a' := by rw [← hn1, ha']; rfl
      refine ⟨.ref p, rfl, p, _, 0, .int (k + 1), rfl, rfl, .inl (.inl hq2), atI_nat (j := 0) rfl, .ref a, rfl, a, _, rfl, .inl hS2, _, _, rfl, rfl, hn, ?_⟩
      show tSeq _ _ _ [some (.ref a), some (.ref p), some (.int m), some (.int ((k + 1).fmod (((n0 :: ns0).map V.int).length : Int))), none, none] _
      rw [ha']
      have hl1 : a' < rest.length := by omega
      have e1 : rest.getD a' 0 = rest[a'] := by rw [List.getD_eq_getElem?_getD, List.getElem?_eq_getElem hl1]; rfl
      have e2 : (n0 :: ns0).getD a' 0 = (n0 :: ns0)[a'] := by rw [List.getD_eq_getElem?_getD, List.getElem?_eq_getElem hlt]; rfl
      have g1 : atI (((k + 1) :: rest).map V.int) (1 + (a' : Int)) = some (.int (rest.getD a' 0)) := by
        have : (1 : Int) + (a' : Int) = ((a' + 1 : Nat) : Int) := by omega
        rw [this]
        refine atI_nat ?_
        rw [List.map_cons, List.getElem?_cons_succ, List.getElem?_map, List.getElem?_eq_getElem hl1, e1]
        rfl
      have g2 : atI ((n0 :: ns0).map V.int) (a' : Int) = some (.int ((n0 :: ns0).getD a' 0)) := by
        refine atI_nat ?_
        rw [List.getElem?_map, List.getElem?_eq_getElem hlt, e2]
        rfl
      refine ⟨.ref p, rfl, .int (a' : Int), rfl, 1, (a' : Int), rfl, rfl, p, _, _, _, rfl, rfl, .inl (.inl hq2), g1, ?_⟩
      refine ⟨.ref a, rfl, .int (a' : Int), rfl, a, _, _, _, rfl, rfl, hS2, g2, 10, 18, rfl, rfl, ⟨by decide, by decide, by decide⟩, _, _, rfl, rfl, _, rfl, ?_⟩
      have dr1 : ¬ ((n0 :: ns0).getD a' 0 ≥ 10 ^ 18 ∧ rest.getD a' 0 > 0) → dr (n0 :: ns0) k rest m = ((((((((n0 :: ns0).getD a' 0 + 104729 * (k + 1)).fmod 4294967291) ^ 5).fmod 4294967279).fdiv 64 * 69621 + (((((n0 :: ns0).getD a' 0 + 104729 * (k + 1)).fmod 4294967291) ^ 5).fmod 4294967279)).fmod 4294967231).fdiv 8 |>.fmod m, (k + 1) :: rest) := fun hno => by
        unfold dr
        rw [if_neg (by simp)]
        dsimp only
        rw [hat, if_neg hno]
      have low : ¬ ((n0 :: ns0).getD a' 0 ≥ 10 ^ 18 ∧ rest.getD a' 0 > 0) → tSeq (tAsg (tOp (rI (fun _ j => j ≠ 0) fun i j => .int (i.fmod j)) (tOp (rI0 fun i j => .int (i + j)) (tOp (rIxL K) (tVar 0) (tVar 3)) (tOp (rI CMul fun i j => .int (i * j)) (tC (.int 104729)) (tOp (rIxL K) (tVar 1) (tC (.int 0))))) (tC (.int 4294967291))) (gName 5))
          (tSeq (tAsg (tOp (rI (fun _ j => j ≠ 0) fun i j => .int (i.fmod j)) (tOp (rI CPow fun i j => .int (i ^ j.toNat)) (tVar 5) (tC (.int 5))) (tC (.int 4294967279))) (gName 5))
          (tRet (tOp (rI (fun _ j => j ≠ 0) fun i j => .int (i.fmod j)) (tOp (rI CDivV fun i j => .int (i.fdiv j)) (tOp (rI (fun _ j => j ≠ 0) fun i j => .int (i.fmod j)) (tOp (rI0 fun i j => .int (i + j)) (tOp (rI CMul fun i j => .int (i * j)) (tOp (rI CDivV fun i j => .int (i.fdiv j)) (tVar 5) (tC (.int 64))) (tC (.int 69621))) (tVar 5)) (tC (.int 4294967231))) (tC (.int 8))) (tVar 2)))) { nx := fun _ H' => Q .non H', rt := Q } [some (.ref a), some (.ref p), some (.int m), some (.int (a' : Int)), some (.int (rest.getD a' 0)), none] (upd (upd c.H p (.lst (((k + 1) :: rest).map V.int))) l (.lst [])) := fun hno => by
        have b0 : ∀ x : Int, 0 ≤ x.fmod 4294967291 ∧ x.fmod 4294967291 < 4294967291 := fun x => ⟨Int.fmod_nonneg_of_pos _ (by decide), Int.fmod_lt_of_pos _ (by decide)⟩
        have b1 := b0 ((n0 :: ns0).getD a' 0 + 104729 * (k + 1))
        refine ⟨.ref a, rfl, .int (a' : Int), rfl, a, _, _, _, rfl, rfl, hS2, g2, .ref p, rfl, p, _, 0, .int (k + 1), rfl, rfl, .inl (.inl hq2), atI_nat (j := 0) rfl, 104729, k + 1, rfl, rfl, .inl ⟨by decide, by decide⟩, _, _, rfl, rfl, _, 4294967291, rfl, rfl, (by decide : (4294967291 : Int) ≠ 0), ?_⟩
        refine ⟨_, rfl, _, 5, rfl, rfl, ⟨by decide, by decide, by omega⟩, _, 4294967279, rfl, rfl, (by decide : (4294967279 : Int) ≠ 0), ?_⟩
        refine ⟨_, rfl, _, 64, rfl, rfl, ⟨by decide, by decide +kernel⟩, _, 69621, rfl, rfl, .inr ⟨by decide, by decide⟩, _, rfl, _, _, rfl, rfl, _, 4294967231, rfl, rfl, (by decide : (4294967231 : Int) ≠ 0), _, 8, rfl, rfl, ⟨by decide, by decide +kernel⟩, .int m, rfl, _, _, rfl, rfl, hm', ?_⟩
        exact fin _ (dr1 hno)
      by_cases hb : (10 : Int) ^ 18 ≤ (n0 :: ns0).getD a' 0
      · have hb1 : decide ((10 : Int) ^ (18 : Int).toNat ≤ (n0 :: ns0).getD a' 0) = true := decide_eq_true hb
        rw [hb1]
        refine iteT ?_
        refine ⟨_, rfl, _, 0, rfl, rfl, _, rfl, ?_⟩
        by_cases hp : 0 < rest.getD a' 0
        · rw [decide_eq_true hp]
          refine iteT ?_
          have g3 : ixN (((k + 1) :: rest).map V.int).length (1 + (a' : Int)) = some (a' + 1) := by
            have e : (1 : Int) + (a' : Int) = ((a' + 1 : Nat) : Int) := by omega
            rw [e]
            exact ixN_nat (by simp; omega)
          refine ⟨_, rfl, .int m, rfl, _, _, rfl, rfl, hmd, .ref p, rfl, _, rfl, 1, (a' : Int), rfl, rfl, p, _, _, _, rfl, rfl, hq2, g3, ?_⟩
          refine ⟨_, rfl, .int m, rfl, _, _, rfl, rfl, hm', ?_⟩
          have es : ((((k + 1) :: rest).map V.int).set (a' + 1) (.int ((rest.getD a' 0).fdiv m))) = ((k + 1) :: rest.set a' ((rest.getD a' 0).fdiv m)).map V.int := by
            rw [List.map_cons, List.set_cons_succ, List.map_cons, List.map_set]
          rw [es]
          obtain ⟨ok3, st3⟩ := town_new (K := K) (c := ⟨c.F, upd (upd c.H p (.lst (((k + 1) :: rest).map V.int))) l (.lst []), (k + 1) :: rest⟩) ok2 ((k + 1) :: rest.set a' ((rest.getD a' 0).fdiv m)) (upd (upd (upd c.H p (.lst (((k + 1) :: rest).map V.int))) l (.lst [])) p (.lst (((k + 1) :: rest.set a' ((rest.getD a' 0).fdiv m)).map V.int))) (fun a ha => upd_ne ha) upd_same
          have ed : dr (n0 :: ns0) k rest m = ((rest.getD a' 0).fmod m, (k + 1) :: rest.set a' ((rest.getD a' 0).fdiv m)) := by
            unfold dr
            rw [if_neg (by simp)]
            dsimp only
            rw [hat, if_pos ⟨hb, hp⟩]
          refine h _ _ ?_ (st2.trans ok2 st3) ok3 ?_
          · rw [ed]
          · rw [ed]; exact .int _
        · rw [decide_eq_false hp]
          exact iteF (low fun z => hp z.2)
      · have hb1 : decide ((10 : Int) ^ (18 : Int).toNat ≤ (n0 :: ns0).getD a' 0) = false := decide_eq_false hb
        rw [hb1]
        exact iteF (iteF (low fun z => hb z.1))
theorem ok_town (F : Fun K "_law_town" "_law_town" s__law_town f fd) (ml : mg "list" = none) : FnOk P w K mg base (L2.CX P w) 1 f fd ["script"] (spTown K) := by
  refine F.okX sc__law_town (fun vs H Q E h => ?_) (fun cdv A outer s H vs Q E hr h => ?_)
  · obtain ⟨a, ns, rfl, _⟩ := h
    rfl
  · refine ⟨_, pss_one (ps_ret (pe_op op_cat (pe_lst (pa_cons pe_int pa_nil)) (pe_callTy call_list_of rfl ml PyProof.Rows.boot_list (pa_cons (pv 0) pa_nil)))), ?_⟩
    obtain ⟨a, ns, rfl, hS, h63, q⟩ := h
    refine ⟨by show 1 ≤ sizeLine; decide, fun l1 h1 => ?_⟩
    have sm1 : ∀ b o, H b = some o → upd H l1 (.lst [.int 0]) b = some o := fun b o e => by rw [upd_ne (ne_of_none e h1)]; exact e
    refine ⟨.ref a, rfl, a, _, rfl, .inl (sqL_sub sm1 hS), fun l2 h2 => ?_⟩
    have n12 : l1 ≠ l2 := ne_of_none (upd_same (H := H) (a := l1) (o := .lst [.int 0])) h2
    have e2 : upd (upd H l1 (.lst [.int 0])) l2 (.lst (ns.map V.int)) l1 = some (.lst [.int 0]) := by rw [upd_ne n12]; exact upd_same
    refine ⟨l1, l2, _, _, rfl, rfl, e2, upd_same, ?_, fun p hp => ?_⟩
    · rw [List.length_map]
      have e : sizeLine = 16777216 := by decide
      show 1 + ns.length ≤ _
      omega
    · have p2 : p ≠ l2 := fun z => by rw [z, upd_same] at hp; cases hp
      have hp1 : upd H l1 (.lst [.int 0]) p = none := by rw [upd_ne p2] at hp; exact hp
      have p1 : p ≠ l1 := fun z => by rw [z, upd_same] at hp1; cases hp1
      have hp0 : H p = none := by rw [upd_ne p1] at hp1; exact hp1
      refine q p _ hp0 (fun b o e => ?_) upd_same
      have n2 : b ≠ l2 := fun z => by
        have := sm1 b o e
        rw [z, h2] at this
        cases this
      rw [upd_ne (ne_of_none e hp0), upd_ne n2]
      exact sm1 b o e
end
end Mf
set_option Elab.async false
set_option linter.all false
set_option maxRecDepth 100000
set_option maxHeartbeats 1000000
namespace Mf
open PySem L2
/-! ### divisor -/
theorem divisor_loop (s : List Int) : ∀ (n : Nat) (a b : Int), b.natAbs < n →
    ∃ a' : Int, whlR (fun ρ s => (ev (.cmp .ne (.var 1) (.con (.int 0))) ρ s).bind tru) (runs b_divisor_0) n [.va (.int a), .va (.int b)] s = .nx [.va (.int a'), .va (.int 0)] s ∧ a'.natAbs = Int.gcd a b
  | 0, a, b, h => by omega
  | n + 1, a, b, h => by
    by_cases e : b = 0
    · subst e
      refine ⟨a, ?_, (Int.gcd_zero_right a).symm⟩
      simp only [whlR, b_divisor_0, fnR, runs, run, ev, evA, evT, evI, bindq_ok, ob_ok, sq_nx, sq_rt, onO_some, liftO_some, kd_some, dat_v, dat_t, tru_bl, intOf_int, noExq, stk_v, stk_t, stk_o, stow_tt, stow_fv, stow_ft, eqD_int, cmp_ne, cmp_eq, cmp_gt, cmp_ge, cmp_lt, cmp_le, cmp_in, cmp_notin, cmp_is, cmp_isnot, bin_add, bin_sub, b1_abs, ix0, ix1, items_lst, items_row, put, List.map_cons, List.map_nil, List.cons_append, List.nil_append, List.append_nil, List.length_cons, List.length_nil, List.replicate, List.getElem?_cons_zero, List.getElem?_cons_succ, List.getElem?_nil, List.set_cons_zero, List.set_cons_succ, List.set_nil, Nat.reduceAdd, Nat.reduceSub, Nat.reduceLT, Nat.reduceEqDiff, if_true, ite_true, if_false, ite_false, Option.map_some, Option.map_none, reduceIte, reduceCtorEq, Bool.false_eq_true, Nat.zero_add, Nat.add_zero, Nat.zero_lt_succ, Nat.zero_lt_one, Nat.lt_add_left_iff_pos, Nat.succ_eq_add_one, Nat.reduceLeDiff, decide_true, Bool.not_true]
    · obtain ⟨a', h1, h2⟩ := divisor_loop s n b (a.fmod b) (by have := fmod_lt a e; omega)
      refine ⟨a', ?_, by rw [h2, gcd_fmod]⟩
      rw [← h1]
      simp only [whlR, b_divisor_0, fnR, runs, run, ev, evA, evT, evI, bindq_ok, ob_ok, sq_nx, sq_rt, onO_some, liftO_some, kd_some, dat_v, dat_t, tru_bl, intOf_int, noExq, stk_v, stk_t, stk_o, stow_tt, stow_fv, stow_ft, eqD_int, cmp_ne, cmp_eq, cmp_gt, cmp_ge, cmp_lt, cmp_le, cmp_in, cmp_notin, cmp_is, cmp_isnot, bin_add, bin_sub, b1_abs, ix0, ix1, items_lst, items_row, put, List.map_cons, List.map_nil, List.cons_append, List.nil_append, List.append_nil, List.length_cons, List.length_nil, List.replicate, List.getElem?_cons_zero, List.getElem?_cons_succ, List.getElem?_nil, List.set_cons_zero, List.set_cons_succ, List.set_nil, Nat.reduceAdd, Nat.reduceSub, Nat.reduceLT, Nat.reduceEqDiff, if_true, ite_true, if_false, ite_false, Option.map_some, Option.map_none, reduceIte, reduceCtorEq, Bool.false_eq_true, Nat.zero_add, Nat.add_zero, Nat.zero_lt_succ, Nat.zero_lt_one, Nat.lt_add_left_iff_pos, Nat.succ_eq_add_one, Nat.reduceLeDiff, bin_mod e, decide_eq_false e, Bool.not_false]
theorem g_divisor_ok (a b : Int) (s : List Int) : g_divisor [.int a, .int b] s = .ok (.int (Int.gcd a b : Nat)) s := by
  obtain ⟨a', h1, h2⟩ := divisor_loop s (b.natAbs + 1) a b (Nat.lt_succ_self _)
  refine fnR_rt ?_
  show runs c_divisor [.va (.int a), .va (.int b)] s = _
  unfold c_divisor
  rw [runs_cons, run_whl]
  show (whlR _ _ (b.natAbs + 1) _ s).sq _ = _
  rw [h1]
  simp only [fnR, runs, run, ev, evA, evT, evI, bindq_ok, ob_ok, sq_nx, sq_rt, onO_some, liftO_some, kd_some, dat_v, dat_t, tru_bl, intOf_int, noExq, stk_v, stk_t, stk_o, stow_tt, stow_fv, stow_ft, eqD_int, cmp_ne, cmp_eq, cmp_gt, cmp_ge, cmp_lt, cmp_le, cmp_in, cmp_notin, cmp_is, cmp_isnot, bin_add, bin_sub, b1_abs, ix0, ix1, items_lst, items_row, put, List.map_cons, List.map_nil, List.cons_append, List.nil_append, List.append_nil, List.length_cons, List.length_nil, List.replicate, List.getElem?_cons_zero, List.getElem?_cons_succ, List.getElem?_nil, List.set_cons_zero, List.set_cons_succ, List.set_nil, Nat.reduceAdd, Nat.reduceSub, Nat.reduceLT, Nat.reduceEqDiff, if_true, ite_true, if_false, ite_false, Option.map_some, Option.map_none, reduceIte, reduceCtorEq, Bool.false_eq_true, Nat.zero_add, Nat.add_zero, Nat.zero_lt_succ, Nat.zero_lt_one, Nat.lt_add_left_iff_pos, Nat.succ_eq_add_one, Nat.reduceLeDiff, h2]
/-! ### fraction, plus, times, over -/
theorem shared_ok {a b : Int} {B : Nat} (hb : b ≠ 0) (hB : b.natAbs < 2 ^ B) (h9 : B < 9000) : mulOk ((Int.gcd a b : Nat) : Int) (if decide (0 < b) = true then 1 else -1) = true ∧ divOk (((Int.gcd a b : Nat) : Int) * (if decide (0 < b) = true then 1 else -1)) = true := by
  have hg : 0 < Int.gcd a b := Int.gcd_pos_of_ne_zero_right a hb
  have hle : Int.gcd a b ≤ b.natAbs := Nat.le_of_dvd (Int.natAbs_pos.mpr hb) (Nat.gcd_dvd_right _ _)
  have h1 : (((Int.gcd a b : Nat) : Int)).natAbs < 2 ^ B := by simpa using Nat.lt_of_le_of_lt hle hB
  have h2 : ((if decide (0 < b) = true then (1 : Int) else -1)).natAbs < 2 ^ 1 := by split <;> decide
  refine ⟨mulOk_of h1 h2 (by omega), divOk_of (b := B) (Int.mul_ne_zero (by omega) (by split <;> decide)) ?_ h9⟩
  rw [Int.natAbs_mul]
  have : ((if decide (0 < b) = true then (1 : Int) else -1)).natAbs = 1 := by split <;> rfl
  rw [this, Nat.mul_one]
  exact h1
theorem g_fraction_ok {a b : Int} {B : Nat} (hb : b ≠ 0) (hB : b.natAbs < 2 ^ B) (h9 : B < 9000) (s : List Int) : g_fraction [.int a, .int b] s = .ok (F (Rat.divInt a b)) s := by
  obtain ⟨h1, h2⟩ := shared_ok (a := a) hb hB h9
  obtain ⟨h3, h4⟩ := frac_nd (a := a) hb
  refine fnR_rt ?_
  unfold c_fraction
  by_cases h : 0 < b
  · simp only [h, decide_true, if_true] at h1 h2 h3 h4
    simp only [fnR, runs, run, ev, evA, evT, evI, bindq_ok, ob_ok, sq_nx, sq_rt, onO_some, liftO_some, kd_some, dat_v, dat_t, tru_bl, intOf_int, noExq, stk_v, stk_t, stk_o, stow_tt, stow_fv, stow_ft, eqD_int, cmp_ne, cmp_eq, cmp_gt, cmp_ge, cmp_lt, cmp_le, cmp_in, cmp_notin, cmp_is, cmp_isnot, bin_add, bin_sub, b1_abs, ix0, ix1, items_lst, items_row, put, List.map_cons, List.map_nil, List.cons_append, List.nil_append, List.append_nil, List.length_cons, List.length_nil, List.replicate, List.getElem?_cons_zero, List.getElem?_cons_succ, List.getElem?_nil, List.set_cons_zero, List.set_cons_succ, List.set_nil, Nat.reduceAdd, Nat.reduceSub, Nat.reduceLT, Nat.reduceEqDiff, if_true, ite_true, if_false, ite_false, Option.map_some, Option.map_none, reduceIte, reduceCtorEq, Bool.false_eq_true, Nat.zero_add, Nat.add_zero, Nat.zero_lt_succ, Nat.zero_lt_one, Nat.lt_add_left_iff_pos, Nat.succ_eq_add_one, Nat.reduceLeDiff, g_divisor_ok, h, decide_true, bin_mul h1, bin_fdv h2, h3, h4]
    rfl
  · simp only [h, decide_false, Bool.false_eq_true, if_false] at h1 h2 h3 h4
    simp only [fnR, runs, run, ev, evA, evT, evI, bindq_ok, ob_ok, sq_nx, sq_rt, onO_some, liftO_some, kd_some, dat_v, dat_t, tru_bl, intOf_int, noExq, stk_v, stk_t, stk_o, stow_tt, stow_fv, stow_ft, eqD_int, cmp_ne, cmp_eq, cmp_gt, cmp_ge, cmp_lt, cmp_le, cmp_in, cmp_notin, cmp_is, cmp_isnot, bin_add, bin_sub, b1_abs, ix0, ix1, items_lst, items_row, put, List.map_cons, List.map_nil, List.cons_append, List.nil_append, List.append_nil, List.length_cons, List.length_nil, List.replicate, List.getElem?_cons_zero, List.getElem?_cons_succ, List.getElem?_nil, List.set_cons_zero, List.set_cons_succ, List.set_nil, Nat.reduceAdd, Nat.reduceSub, Nat.reduceLT, Nat.reduceEqDiff, if_true, ite_true, if_false, ite_false, Option.map_some, Option.map_none, reduceIte, reduceCtorEq, Bool.false_eq_true, Nat.zero_add, Nat.add_zero, Nat.zero_lt_succ, Nat.zero_lt_one, Nat.lt_add_left_iff_pos, Nat.succ_eq_add_one, Nat.reduceLeDiff, g_divisor_ok, h, decide_false, bin_mul h1, bin_fdv h2, h3, h4]
    rfl
theorem ixF0 (x : Rat) : ixD (F x) (.int 0) = some (.int x.num) := rfl
theorem ixF1 (x : Rat) : ixD (F x) (.int 1) = some (.int x.den) := rfl
theorem g_plus_ok {A B : Nat} {x y : Rat} (hx : bd A x) (hy : bd B y) (h : A + B < 8999) (s : List Int) : g_plus [F x, F y] s = .ok (F (x + y)) s := by
  refine fnR_rt ?_
  unfold c_plus
  have m1 := mulOk_of hx.1 hy.den (by omega)
  have m2 := mulOk_of hy.1 hx.den (by omega)
  have m3 := mulOk_of hx.den hy.den (by omega)
  have e := g_fraction_ok (a := x.num * y.den + y.num * x.den) (Int.mul_ne_zero (den_ne x) (den_ne y)) (mul_lt hx.den hy.den) (by omega) s
  rw [plus_eq] at e
  simp only [fnR, runs, run, ev, evA, evT, evI, bindq_ok, ob_ok, sq_nx, sq_rt, onO_some, liftO_some, kd_some, dat_v, dat_t, tru_bl, intOf_int, noExq, stk_v, stk_t, stk_o, stow_tt, stow_fv, stow_ft, eqD_int, cmp_ne, cmp_eq, cmp_gt, cmp_ge, cmp_lt, cmp_le, cmp_in, cmp_notin, cmp_is, cmp_isnot, bin_add, bin_sub, b1_abs, ix0, ix1, items_lst, items_row, put, List.map_cons, List.map_nil, List.cons_append, List.nil_append, List.append_nil, List.length_cons, List.length_nil, List.replicate, List.getElem?_cons_zero, List.getElem?_cons_succ, List.getElem?_nil, List.set_cons_zero, List.set_cons_succ, List.set_nil, Nat.reduceAdd, Nat.reduceSub, Nat.reduceLT, Nat.reduceEqDiff, if_true, ite_true, if_false, ite_false, Option.map_some, Option.map_none, reduceIte, reduceCtorEq, Bool.false_eq_true, Nat.zero_add, Nat.add_zero, Nat.zero_lt_succ, Nat.zero_lt_one, Nat.lt_add_left_iff_pos, Nat.succ_eq_add_one, Nat.reduceLeDiff, ixF0, ixF1, bin_mul m1, bin_mul m2, bin_mul m3, e]
theorem g_times_ok {A B : Nat} {x y : Rat} (hx : bd A x) (hy : bd B y) (h : A + B < 8999) (s : List Int) : g_times [F x, F y] s = .ok (F (x * y)) s := by
  refine fnR_rt ?_
  unfold c_times
  have m1 := mulOk_of hx.1 hy.1 (by omega)
  have m3 := mulOk_of hx.den hy.den (by omega)
  have e := g_fraction_ok (a := x.num * y.num) (Int.mul_ne_zero (den_ne x) (den_ne y)) (mul_lt hx.den hy.den) (by omega) s
  rw [times_eq] at e
  simp only [fnR, runs, run, ev, evA, evT, evI, bindq_ok, ob_ok, sq_nx, sq_rt, onO_some, liftO_some, kd_some, dat_v, dat_t, tru_bl, intOf_int, noExq, stk_v, stk_t, stk_o, stow_tt, stow_fv, stow_ft, eqD_int, cmp_ne, cmp_eq, cmp_gt, cmp_ge, cmp_lt, cmp_le, cmp_in, cmp_notin, cmp_is, cmp_isnot, bin_add, bin_sub, b1_abs, ix0, ix1, items_lst, items_row, put, List.map_cons, List.map_nil, List.cons_append, List.nil_append, List.append_nil, List.length_cons, List.length_nil, List.replicate, List.getElem?_cons_zero, List.getElem?_cons_succ, List.getElem?_nil, List.set_cons_zero, List.set_cons_succ, List.set_nil, Nat.reduceAdd, Nat.reduceSub, Nat.reduceLT, Nat.reduceEqDiff, if_true, ite_true, if_false, ite_false, Option.map_some, Option.map_none, reduceIte, reduceCtorEq, Bool.false_eq_true, Nat.zero_add, Nat.add_zero, Nat.zero_lt_succ, Nat.zero_lt_one, Nat.lt_add_left_iff_pos, Nat.succ_eq_add_one, Nat.reduceLeDiff, ixF0, ixF1, bin_mul m1, bin_mul m3, e]
theorem g_over_ok {A B : Nat} {x y : Rat} (hx : bd A x) (hy : bd B y) (h0 : y ≠ 0) (h : A + B < 8999) (s : List Int) : g_over [F x, F y] s = .ok (F (x / y)) s := by
  refine fnR_rt ?_
  unfold c_over
  have m1 := mulOk_of hx.1 hy.den (by omega)
  have m3 := mulOk_of hx.den hy.1 (by omega)
  have e := g_fraction_ok (a := x.num * y.den) (Int.mul_ne_zero (den_ne x) (num_ne h0)) (mul_lt hx.den hy.1) (by omega) s
  rw [over_eq] at e
  simp only [fnR, runs, run, ev, evA, evT, evI, bindq_ok, ob_ok, sq_nx, sq_rt, onO_some, liftO_some, kd_some, dat_v, dat_t, tru_bl, intOf_int, noExq, stk_v, stk_t, stk_o, stow_tt, stow_fv, stow_ft, eqD_int, cmp_ne, cmp_eq, cmp_gt, cmp_ge, cmp_lt, cmp_le, cmp_in, cmp_notin, cmp_is, cmp_isnot, bin_add, bin_sub, b1_abs, ix0, ix1, items_lst, items_row, put, List.map_cons, List.map_nil, List.cons_append, List.nil_append, List.append_nil, List.length_cons, List.length_nil, List.replicate, List.getElem?_cons_zero, List.getElem?_cons_succ, List.getElem?_nil, List.set_cons_zero, List.set_cons_succ, List.set_nil, Nat.reduceAdd, Nat.reduceSub, Nat.reduceLT, Nat.reduceEqDiff, if_true, ite_true, if_false, ite_false, Option.map_some, Option.map_none, reduceIte, reduceCtorEq, Bool.false_eq_true, Nat.zero_add, Nat.add_zero, Nat.zero_lt_succ, Nat.zero_lt_one, Nat.lt_add_left_iff_pos, Nat.succ_eq_add_one, Nat.reduceLeDiff, ixF0, ixF1, bin_mul m1, bin_mul m3, e]
theorem g_added_ok {A B C : Nat} {a b : List Rat} {m : Rat} (ha : bds A a) (hb : bds B b) (hm : bd C m) (h : A + (B + C) < 8999) (hl : a.length ≤ 1000) (s : List Int) : g_added [row a, row b, F m] s = .ok (row (radd a b m)) s := by
  refine fnR_rt ?_
  unfold c_added
  have hz : evI (S := List Int) false (.zip (.var 0) (.var 1)) [.va (row a), .va (row b), .va (F m), .no, .no] s = .ok ((a.zip b).map fun p => .tup [F p.1, F p.2]) s := by
    simp only [fnR, runs, run, ev, evA, evT, evI, bindq_ok, ob_ok, sq_nx, sq_rt, onO_some, liftO_some, kd_some, dat_v, dat_t, tru_bl, intOf_int, noExq, stk_v, stk_t, stk_o, stow_tt, stow_fv, stow_ft, eqD_int, cmp_ne, cmp_eq, cmp_gt, cmp_ge, cmp_lt, cmp_le, cmp_in, cmp_notin, cmp_is, cmp_isnot, bin_add, bin_sub, b1_abs, ix0, ix1, items_lst, items_row, put, List.map_cons, List.map_nil, List.cons_append, List.nil_append, List.append_nil, List.length_cons, List.length_nil, List.replicate, List.getElem?_cons_zero, List.getElem?_cons_succ, List.getElem?_nil, List.set_cons_zero, List.set_cons_succ, List.set_nil, Nat.reduceAdd, Nat.reduceSub, Nat.reduceLT, Nat.reduceEqDiff, if_true, ite_true, if_false, ite_false, Option.map_some, Option.map_none, reduceIte, reduceCtorEq, Bool.false_eq_true, Nat.zero_add, Nat.add_zero, Nat.zero_lt_succ, Nat.zero_lt_one, Nat.lt_add_left_iff_pos, Nat.succ_eq_add_one, Nat.reduceLeDiff]
    show liftO s (some (zipD (a.map F) (b.map F))) = _
    rw [zipD_map]
    rfl
  rw [runs_cons, run]
  show ((ev (.b1 .tuple (.lc (.zip (.var 0) (.var 1)) _ _ _ _)) [.va (row a), .va (row b), .va (F m), .no, .no] s).ob _).sq _ = _
  rw [ev, ev_lc (g := fun p : Rat × Rat => F (p.1 + p.2 * m)) hz (by rw [List.length_zip]; omega) fun p hp => ⟨_, rfl, .v, nofun, ?_⟩]
  · have e : ((a.zip b).map fun p : Rat × Rat => F (p.1 + p.2 * m)) = (radd a b m).map F := by unfold radd; rw [List.map_map]; rfl
    rw [e]
    rfl
  · have hm' := List.of_mem_zip hp
    have hx := ha _ hm'.1
    have hy := hb _ hm'.2
    simp only [wipeR, fnR, runs, run, ev, evA, evT, evI, bindq_ok, ob_ok, sq_nx, sq_rt, onO_some, liftO_some, kd_some, dat_v, dat_t, tru_bl, intOf_int, noExq, stk_v, stk_t, stk_o, stow_tt, stow_fv, stow_ft, eqD_int, cmp_ne, cmp_eq, cmp_gt, cmp_ge, cmp_lt, cmp_le, cmp_in, cmp_notin, cmp_is, cmp_isnot, bin_add, bin_sub, b1_abs, ix0, ix1, items_lst, items_row, put, List.map_cons, List.map_nil, List.cons_append, List.nil_append, List.append_nil, List.length_cons, List.length_nil, List.replicate, List.getElem?_cons_zero, List.getElem?_cons_succ, List.getElem?_nil, List.set_cons_zero, List.set_cons_succ, List.set_nil, Nat.reduceAdd, Nat.reduceSub, Nat.reduceLT, Nat.reduceEqDiff, if_true, ite_true, if_false, ite_false, Option.map_some, Option.map_none, reduceIte, reduceCtorEq, Bool.false_eq_true, Nat.zero_add, Nat.add_zero, Nat.zero_lt_succ, Nat.zero_lt_one, Nat.lt_add_left_iff_pos, Nat.succ_eq_add_one, Nat.reduceLeDiff, g_times_ok hy hm (by omega), g_plus_ok hx (bd_times hy hm) h]
end Mf
set_option Elab.async false
set_option linter.all false
set_option maxRecDepth 100000
set_option maxHeartbeats 1000000
namespace Mf
open PySem L2
theorem zero_F : d_ZERO = F 0 := rfl
/-! ### reduced -/
theorem red_row {B W : Nat} {r h : List Rat} {p : Nat} (hr : r.length = W) (hb : bds B r) (hh : bds (B + B) h) (hp : p < W) (hB : 4 * B + 2 < 8999) (hW : W ≤ 1000) (s : List Int) {ρ : List SV} (h7 : ρ[7]? = some (.va (row r))) (h6 : ρ[6]? = some (.va (row h))) (h4 : ρ[4]? = some (.va (.int (p : Int)))) :
    ev (.call "added" 3 g_added (.cons (.var 7) (.cons (.var 6) (.cons (.call "times" 2 g_times (.cons (.ix (.var 7) (.var 4)) (.cons (.tup (.cons (.neg (.con (.int 1))) (.cons (.con (.int 1)) .nil))) .nil))) .nil)))) ρ s = .ok (.v, row (rneg r h p)) s := by
  have hx := hb _ (getD_mem (show p < r.length by omega))
  simp only [fnR, runs, run, ev, evA, evT, evI, bindq_ok, ob_ok, sq_nx, sq_rt, onO_some, liftO_some, kd_some, dat_v, dat_t, tru_bl, intOf_int, noExq, stk_v, stk_t, stk_o, stow_tt, stow_fv, stow_ft, eqD_int, cmp_ne, cmp_eq, cmp_gt, cmp_ge, cmp_lt, cmp_le, cmp_in, cmp_notin, cmp_is, cmp_isnot, bin_add, bin_sub, b1_abs, ix0, ix1, items_lst, items_row, put, List.map_cons, List.map_nil, List.cons_append, List.nil_append, List.append_nil, List.length_cons, List.length_nil, List.replicate, List.getElem?_cons_zero, List.getElem?_cons_succ, List.getElem?_nil, List.set_cons_zero, List.set_cons_succ, List.set_nil, Nat.reduceAdd, Nat.reduceSub, Nat.reduceLT, Nat.reduceEqDiff, if_true, ite_true, if_false, ite_false, Option.map_some, Option.map_none, reduceIte, reduceCtorEq, Bool.false_eq_true, Nat.zero_add, Nat.add_zero, Nat.zero_lt_succ, Nat.zero_lt_one, Nat.lt_add_left_iff_pos, Nat.succ_eq_add_one, Nat.reduceLeDiff, h7, h6, h4, ix_row (show p < r.length by omega), lenOk_of (show 2 ≤ 1000000 by decide), F_neg1, g_times_ok hx bd_neg1 (by omega), g_added_ok hb hh (bd_times hx bd_neg1) (by omega) (by omega)]
  rfl
theorem red_turn {B W : Nat} {st : List (List Rat) × List (List Rat)} {p : Nat} {a0 a1 x5 x6 : SV} (h1 : RV B W st.1) (h2 : RV B W st.2) (hp : p < W) (hB : 4 * B + 2 < 8999) (hW : W ≤ 1000) (hl : st.1.length + st.2.length ≤ 1000) (s : List Int) :
    ∃ y5 y6, runs b_reduced_0 [a0, a1, .va (rows st.1), .ow (rows st.2), .va (.int (p : Int)), x5, x6, .no, .no] s = .nx [a0, a1, .va (rows (redStep st p).1), .ow (rows (redStep st p).2), .va (.int (p : Int)), y5, y6, .no, .no] s := by
  unfold b_reduced_0
  rw [runs_cons, run, ev_lcf (l := st.2) (e := row) (g := row) (t := fun r => decide (r.getD p 0 ≠ 0)) (by simp only [rows, fnR, runs, run, ev, evA, evT, evI, bindq_ok, ob_ok, sq_nx, sq_rt, onO_some, liftO_some, kd_some, dat_v, dat_t, tru_bl, intOf_int, noExq, stk_v, stk_t, stk_o, stow_tt, stow_fv, stow_ft, eqD_int, cmp_ne, cmp_eq, cmp_gt, cmp_ge, cmp_lt, cmp_le, cmp_in, cmp_notin, cmp_is, cmp_isnot, bin_add, bin_sub, b1_abs, ix0, ix1, items_lst, items_row, put, List.map_cons, List.map_nil, List.cons_append, List.nil_append, List.append_nil, List.length_cons, List.length_nil, List.replicate, List.getElem?_cons_zero, List.getElem?_cons_succ, List.getElem?_nil, List.set_cons_zero, List.set_cons_succ, List.set_nil, Nat.reduceAdd, Nat.reduceSub, Nat.reduceLT, Nat.reduceEqDiff, if_true, ite_true, if_false, ite_false, Option.map_some, Option.map_none, reduceIte, reduceCtorEq, Bool.false_eq_true, Nat.zero_add, Nat.add_zero, Nat.zero_lt_succ, Nat.zero_lt_one, Nat.lt_add_left_iff_pos, Nat.succ_eq_add_one, Nat.reduceLeDiff]) (by omega) fun r hr => ⟨_, rfl, ⟨.v, ?_⟩, fun _ => ⟨.v, nofun, ?_⟩⟩]
  rotate_left
  · simp only [wipeR, fnR, runs, run, ev, evA, evT, evI, bindq_ok, ob_ok, sq_nx, sq_rt, onO_some, liftO_some, kd_some, dat_v, dat_t, tru_bl, intOf_int, noExq, stk_v, stk_t, stk_o, stow_tt, stow_fv, stow_ft, eqD_int, cmp_ne, cmp_eq, cmp_gt, cmp_ge, cmp_lt, cmp_le, cmp_in, cmp_notin, cmp_is, cmp_isnot, bin_add, bin_sub, b1_abs, ix0, ix1, items_lst, items_row, put, List.map_cons, List.map_nil, List.cons_append, List.nil_append, List.append_nil, List.length_cons, List.length_nil, List.replicate, List.getElem?_cons_zero, List.getElem?_cons_succ, List.getElem?_nil, List.set_cons_zero, List.set_cons_succ, List.set_nil, Nat.reduceAdd, Nat.reduceSub, Nat.reduceLT, Nat.reduceEqDiff, if_true, ite_true, if_false, ite_false, Option.map_some, Option.map_none, reduceIte, reduceCtorEq, Bool.false_eq_true, Nat.zero_add, Nat.add_zero, Nat.zero_lt_succ, Nat.zero_lt_one, Nat.lt_add_left_iff_pos, Nat.succ_eq_add_one, Nat.reduceLeDiff, ix_row (show p < r.length by rw [(h2 r hr).1]; exact hp), zero_F, eqD_F, decide_not]
  · simp only [wipeR, fnR, runs, run, ev, evA, evT, evI, bindq_ok, ob_ok, sq_nx, sq_rt, onO_some, liftO_some, kd_some, dat_v, dat_t, tru_bl, intOf_int, noExq, stk_v, stk_t, stk_o, stow_tt, stow_fv, stow_ft, eqD_int, cmp_ne, cmp_eq, cmp_gt, cmp_ge, cmp_lt, cmp_le, cmp_in, cmp_notin, cmp_is, cmp_isnot, bin_add, bin_sub, b1_abs, ix0, ix1, items_lst, items_row, put, List.map_cons, List.map_nil, List.cons_append, List.nil_append, List.append_nil, List.length_cons, List.length_nil, List.replicate, List.getElem?_cons_zero, List.getElem?_cons_succ, List.getElem?_nil, List.set_cons_zero, List.set_cons_succ, List.set_nil, Nat.reduceAdd, Nat.reduceSub, Nat.reduceLT, Nat.reduceEqDiff, if_true, ite_true, if_false, ite_false, Option.map_some, Option.map_none, reduceIte, reduceCtorEq, Bool.false_eq_true, Nat.zero_add, Nat.add_zero, Nat.zero_lt_succ, Nat.zero_lt_one, Nat.lt_add_left_iff_pos, Nat.succ_eq_add_one, Nat.reduceLeDiff]
  simp only [ob_ok, stow_ft, onO_some, put, List.length_cons, List.length_nil, Nat.reduceAdd, Nat.reduceLT, if_true, List.set_cons_succ, List.set_cons_zero, sq_nx]
  rw [runs_cons, run_ife]
  have et : (ev (.cmp .ne (.var 5) (.lst .nil)) [a0, a1, .va (rows st.1), .ow (rows st.2), .va (.int (p : Int)), .va (.lst ((st.2.filter fun r => decide (r.getD p 0 ≠ 0)).map row)), x6, .no, .no] s).bind tru = .ok (!(st.2.filter fun r => decide (r.getD p 0 ≠ 0)).isEmpty) s := by
    simp only [fnR, runs, run, ev, evA, evT, evI, bindq_ok, ob_ok, sq_nx, sq_rt, onO_some, liftO_some, kd_some, dat_v, dat_t, tru_bl, intOf_int, noExq, stk_v, stk_t, stk_o, stow_tt, stow_fv, stow_ft, eqD_int, cmp_ne, cmp_eq, cmp_gt, cmp_ge, cmp_lt, cmp_le, cmp_in, cmp_notin, cmp_is, cmp_isnot, bin_add, bin_sub, b1_abs, ix0, ix1, items_lst, items_row, put, List.map_cons, List.map_nil, List.cons_append, List.nil_append, List.append_nil, List.length_cons, List.length_nil, List.replicate, List.getElem?_cons_zero, List.getElem?_cons_succ, List.getElem?_nil, List.set_cons_zero, List.set_cons_succ, List.set_nil, Nat.reduceAdd, Nat.reduceSub, Nat.reduceLT, Nat.reduceEqDiff, if_true, ite_true, if_false, ite_false, Option.map_some, Option.map_none, reduceIte, reduceCtorEq, Bool.false_eq_true, Nat.zero_add, Nat.add_zero, Nat.zero_lt_succ, Nat.zero_lt_one, Nat.lt_add_left_iff_pos, Nat.succ_eq_add_one, Nat.reduceLeDiff, lenOk_of (show 0 ≤ 1000000 by decide), eqD_nil]
  rw [et, ob_ok]
  cases hf : st.2.filter (fun r => decide (r.getD p 0 ≠ 0)) with
  | nil =>
    refine ⟨.va (.lst []), x6, ?_⟩
    have : redStep st p = st := by unfold redStep; rw [hf]
    rw [this]
    simp only [List.isEmpty_nil, Bool.not_true, Bool.false_eq_true, if_false, runs_nil, sq_nx, List.map_nil]
  | cons h t =>
    have hm : h ∈ st.2.filter (fun r => decide (r.getD p 0 ≠ 0)) := by rw [hf]; exact List.mem_cons_self
    obtain ⟨hm1, hm2⟩ := List.mem_filter.mp hm
    have h0 : h.getD p 0 ≠ 0 := of_decide_eq_true hm2
    obtain ⟨hw, hb⟩ := h2 h hm1
    have hh := head_bd hw hb hp h0
    have er : redStep st p = (st.1.map (fun r => rneg r (h.map (· / h.getD p 0)) p) ++ [h.map (· / h.getD p 0)], (st.2.erase h).map fun r => rneg r (h.map (· / h.getD p 0)) p) := by unfold redStep; rw [hf]
    rw [er]
    refine ⟨.va (.lst (row h :: t.map row)), .va (row (h.map (· / h.getD p 0))), ?_⟩
    simp only [List.isEmpty_cons, Bool.not_false, if_true, List.map_cons]
    have i0 : ∀ ds : List D, ixD (.lst (row h :: ds)) (.int 0) = some (row h) := fun ds => by
      show atI (row h :: ds) ((0 : Nat) : Int) = _
      exact atI_nat rfl
    -- head
    rw [runs_cons, run, ev, ev_lc (l := h) (e := F) (g := fun x => F (x / h.getD p 0)) (by simp only [fnR, runs, run, ev, evA, evT, evI, bindq_ok, ob_ok, sq_nx, sq_rt, onO_some, liftO_some, kd_some, dat_v, dat_t, tru_bl, intOf_int, noExq, stk_v, stk_t, stk_o, stow_tt, stow_fv, stow_ft, eqD_int, cmp_ne, cmp_eq, cmp_gt, cmp_ge, cmp_lt, cmp_le, cmp_in, cmp_notin, cmp_is, cmp_isnot, bin_add, bin_sub, b1_abs, ix0, ix1, items_lst, items_row, put, List.map_cons, List.map_nil, List.cons_append, List.nil_append, List.append_nil, List.length_cons, List.length_nil, List.replicate, List.getElem?_cons_zero, List.getElem?_cons_succ, List.getElem?_nil, List.set_cons_zero, List.set_cons_succ, List.set_nil, Nat.reduceAdd, Nat.reduceSub, Nat.reduceLT, Nat.reduceEqDiff, if_true, ite_true, if_false, ite_false, Option.map_some, Option.map_none, reduceIte, reduceCtorEq, Bool.false_eq_true, Nat.zero_add, Nat.add_zero, Nat.zero_lt_succ, Nat.zero_lt_one, Nat.lt_add_left_iff_pos, Nat.succ_eq_add_one, Nat.reduceLeDiff, i0]) (by omega) fun x hx => ⟨_, rfl, .v, nofun, ?_⟩]
    rotate_left
    · simp only [wipeR, fnR, runs, run, ev, evA, evT, evI, bindq_ok, ob_ok, sq_nx, sq_rt, onO_some, liftO_some, kd_some, dat_v, dat_t, tru_bl, intOf_int, noExq, stk_v, stk_t, stk_o, stow_tt, stow_fv, stow_ft, eqD_int, cmp_ne, cmp_eq, cmp_gt, cmp_ge, cmp_lt, cmp_le, cmp_in, cmp_notin, cmp_is, cmp_isnot, bin_add, bin_sub, b1_abs, ix0, ix1, items_lst, items_row, put, List.map_cons, List.map_nil, List.cons_append, List.nil_append, List.append_nil, List.length_cons, List.length_nil, List.replicate, List.getElem?_cons_zero, List.getElem?_cons_succ, List.getElem?_nil, List.set_cons_zero, List.set_cons_succ, List.set_nil, Nat.reduceAdd, Nat.reduceSub, Nat.reduceLT, Nat.reduceEqDiff, if_true, ite_true, if_false, ite_false, Option.map_some, Option.map_none, reduceIte, reduceCtorEq, Bool.false_eq_true, Nat.zero_add, Nat.add_zero, Nat.zero_lt_succ, Nat.zero_lt_one, Nat.lt_add_left_iff_pos, Nat.succ_eq_add_one, Nat.reduceLeDiff, i0, ix_row (show p < h.length by omega), g_over_ok (hb x hx) (hb _ (getD_mem (show p < h.length by omega))) h0 (by omega)]
    have e2 : (h.map fun x => F (x / h.getD p 0)) = (h.map (· / h.getD p 0)).map F := by rw [List.map_map]; rfl
    rw [e2]
    simp only [bindq_ok, b1D, liftO_some, ob_ok, stow_fv, onO_some, put, List.length_cons, List.length_nil, Nat.reduceAdd, Nat.reduceLT, if_true, List.set_cons_succ, List.set_cons_zero, sq_nx]
    -- remove
    obtain ⟨j, hj1, hj2⟩ := erase_row hm1
    rw [runs_cons, run]
    have eo : ownL [a0, a1, .va (rows st.1), .ow (rows st.2), .va (.int (p : Int)), .va (.lst (row h :: t.map row)), .va (.tup ((h.map (· / h.getD p 0)).map F)), .no, .no] 3 = some (st.2.map row) := rfl
    rw [eo, onO_some]
    have e3 : ev (.ix (.var 5) (.con (.int 0))) [a0, a1, .va (rows st.1), .ow (rows st.2), .va (.int (p : Int)), .va (.lst (row h :: t.map row)), .va (.tup ((h.map (· / h.getD p 0)).map F)), .no, .no] s = .ok (.v, row h) s := by simp only [fnR, runs, run, ev, evA, evT, evI, bindq_ok, ob_ok, sq_nx, sq_rt, onO_some, liftO_some, kd_some, dat_v, dat_t, tru_bl, intOf_int, noExq, stk_v, stk_t, stk_o, stow_tt, stow_fv, stow_ft, eqD_int, cmp_ne, cmp_eq, cmp_gt, cmp_ge, cmp_lt, cmp_le, cmp_in, cmp_notin, cmp_is, cmp_isnot, bin_add, bin_sub, b1_abs, ix0, ix1, items_lst, items_row, put, List.map_cons, List.map_nil, List.cons_append, List.nil_append, List.append_nil, List.length_cons, List.length_nil, List.replicate, List.getElem?_cons_zero, List.getElem?_cons_succ, List.getElem?_nil, List.set_cons_zero, List.set_cons_succ, List.set_nil, Nat.reduceAdd, Nat.reduceSub, Nat.reduceLT, Nat.reduceEqDiff, if_true, ite_true, if_false, ite_false, Option.map_some, Option.map_none, reduceIte, reduceCtorEq, Bool.false_eq_true, Nat.zero_add, Nat.add_zero, Nat.zero_lt_succ, Nat.zero_lt_one, Nat.lt_add_left_iff_pos, Nat.succ_eq_add_one, Nat.reduceLeDiff, i0]
    rw [e3]
    simp only [ob_ok, sh_row 58 h, shs_rows 57 st.2, Bool.and_self, if_true, find_row, hj1, onO_some, hj2, List.set_cons_succ, List.set_cons_zero, sq_nx]
    -- left
    rw [runs_cons, run, ev_lc (l := st.2.erase h) (e := row) (g := fun r => row (rneg r (h.map (· / h.getD p 0)) p)) (by simp only [fnR, runs, run, ev, evA, evT, evI, bindq_ok, ob_ok, sq_nx, sq_rt, onO_some, liftO_some, kd_some, dat_v, dat_t, tru_bl, intOf_int, noExq, stk_v, stk_t, stk_o, stow_tt, stow_fv, stow_ft, eqD_int, cmp_ne, cmp_eq, cmp_gt, cmp_ge, cmp_lt, cmp_le, cmp_in, cmp_notin, cmp_is, cmp_isnot, bin_add, bin_sub, b1_abs, ix0, ix1, items_lst, items_row, put, List.map_cons, List.map_nil, List.cons_append, List.nil_append, List.append_nil, List.length_cons, List.length_nil, List.replicate, List.getElem?_cons_zero, List.getElem?_cons_succ, List.getElem?_nil, List.set_cons_zero, List.set_cons_succ, List.set_nil, Nat.reduceAdd, Nat.reduceSub, Nat.reduceLT, Nat.reduceEqDiff, if_true, ite_true, if_false, ite_false, Option.map_some, Option.map_none, reduceIte, reduceCtorEq, Bool.false_eq_true, Nat.zero_add, Nat.add_zero, Nat.zero_lt_succ, Nat.zero_lt_one, Nat.lt_add_left_iff_pos, Nat.succ_eq_add_one, Nat.reduceLeDiff]) (by have := List.length_erase_of_mem hm1; omega) fun r hr => ⟨_, rfl, .v, nofun, ?_⟩]
    rotate_left
    · have hr' := List.mem_of_mem_erase hr
      exact red_row (h2 r hr').1 (h2 r hr').2 hh hp hB hW s rfl rfl rfl
    simp only [bindq_ok, ob_ok, stow_tt, onO_some, put, List.length_cons, List.length_nil, Nat.reduceAdd, Nat.reduceLT, if_true, List.set_cons_succ, List.set_cons_zero, sq_nx]
    rw [runs_cons, run, ev, ev_lc (l := st.1) (e := row) (g := fun r => row (rneg r (h.map (· / h.getD p 0)) p)) (by simp only [rows, fnR, runs, run, ev, evA, evT, evI, bindq_ok, ob_ok, sq_nx, sq_rt, onO_some, liftO_some, kd_some, dat_v, dat_t, tru_bl, intOf_int, noExq, stk_v, stk_t, stk_o, stow_tt, stow_fv, stow_ft, eqD_int, cmp_ne, cmp_eq, cmp_gt, cmp_ge, cmp_lt, cmp_le, cmp_in, cmp_notin, cmp_is, cmp_isnot, bin_add, bin_sub, b1_abs, ix0, ix1, items_lst, items_row, put, List.map_cons, List.map_nil, List.cons_append, List.nil_append, List.append_nil, List.length_cons, List.length_nil, List.replicate, List.getElem?_cons_zero, List.getElem?_cons_succ, List.getElem?_nil, List.set_cons_zero, List.set_cons_succ, List.set_nil, Nat.reduceAdd, Nat.reduceSub, Nat.reduceLT, Nat.reduceEqDiff, if_true, ite_true, if_false, ite_false, Option.map_some, Option.map_none, reduceIte, reduceCtorEq, Bool.false_eq_true, Nat.zero_add, Nat.add_zero, Nat.zero_lt_succ, Nat.zero_lt_one, Nat.lt_add_left_iff_pos, Nat.succ_eq_add_one, Nat.reduceLeDiff]) (by omega) fun r hr => ⟨_, rfl, .v, nofun, ?_⟩]
    rotate_left
    · exact red_row (h1 r hr).1 (h1 r hr).2 hh hp hB hW s rfl rfl rfl
    have hlen : lenOk ((st.1.map fun r => row (rneg r (h.map (· / h.getD p 0)) p)).length + 1) = true := lenOk_of (by rw [List.length_map]; omega)
    simp only [fnR, runs, run, ev, evA, evT, evI, bindq_ok, ob_ok, sq_nx, sq_rt, onO_some, liftO_some, kd_some, dat_v, dat_t, tru_bl, intOf_int, noExq, stk_v, stk_t, stk_o, stow_tt, stow_fv, stow_ft, eqD_int, cmp_ne, cmp_eq, cmp_gt, cmp_ge, cmp_lt, cmp_le, cmp_in, cmp_notin, cmp_is, cmp_isnot, bin_add, bin_sub, b1_abs, ix0, ix1, items_lst, items_row, put, List.map_cons, List.map_nil, List.cons_append, List.nil_append, List.append_nil, List.length_cons, List.length_nil, List.replicate, List.getElem?_cons_zero, List.getElem?_cons_succ, List.getElem?_nil, List.set_cons_zero, List.set_cons_succ, List.set_nil, Nat.reduceAdd, Nat.reduceSub, Nat.reduceLT, Nat.reduceEqDiff, if_true, ite_true, if_false, ite_false, Option.map_some, Option.map_none, reduceIte, reduceCtorEq, Bool.false_eq_true, Nat.zero_add, Nat.add_zero, Nat.zero_lt_succ, Nat.zero_lt_one, Nat.lt_add_left_iff_pos, Nat.succ_eq_add_one, Nat.reduceLeDiff, lenOk_of (show 1 ≤ 1000000 by decide), binD, hlen]
    simp only [rows, row, List.map_append, List.map_map, List.map_cons, List.map_nil]
    rfl
theorem g_reduced_ok2 {B E W n C : Nat} {l : List (List Rat)} (hl : ∀ r ∈ l, RW B E W r) (hn : n ≤ W) (hW : W ≤ 1000) (hB : ∀ j ≤ n, bB B j ≤ C ∧ bE B E j ≤ C) (hC : 4 * C + 2 < 8999) (hll : l.length ≤ 900) (s : List Int) :
    g_reduced [rows l, .int (n : Int)] s = .ok (.tup [rows (redQ l n).1, rows (redQ l n).2]) s := by
  refine fnR_rt ?_
  unfold c_reduced
  rw [runs_cons]
  have e1 : run (S := List Int) (.par false true 2 3 (.lst .nil) (.b1 .list (.var 0))) [.va (rows l), .va (.int (n : Int)), .no, .no, .no, .no, .no, .no, .no] s = .nx [.va (rows l), .va (.int (n : Int)), .va (rows []), .ow (rows l), .no, .no, .no, .no, .no] s := by
    simp only [fnR, runs, run, ev, evA, evT, evI, bindq_ok, ob_ok, sq_nx, sq_rt, onO_some, liftO_some, kd_some, dat_v, dat_t, tru_bl, intOf_int, noExq, stk_v, stk_t, stk_o, stow_tt, stow_fv, stow_ft, eqD_int, cmp_ne, cmp_eq, cmp_gt, cmp_ge, cmp_lt, cmp_le, cmp_in, cmp_notin, cmp_is, cmp_isnot, bin_add, bin_sub, b1_abs, ix0, ix1, items_lst, items_row, put, List.map_cons, List.map_nil, List.cons_append, List.nil_append, List.append_nil, List.length_cons, List.length_nil, List.replicate, List.getElem?_cons_zero, List.getElem?_cons_succ, List.getElem?_nil, List.set_cons_zero, List.set_cons_succ, List.set_nil, Nat.reduceAdd, Nat.reduceSub, Nat.reduceLT, Nat.reduceEqDiff, if_true, ite_true, if_false, ite_false, Option.map_some, Option.map_none, reduceIte, reduceCtorEq, Bool.false_eq_true, Nat.zero_add, Nat.add_zero, Nat.zero_lt_succ, Nat.zero_lt_one, Nat.lt_add_left_iff_pos, Nat.succ_eq_add_one, Nat.reduceLeDiff, lenOk_of (show 0 ≤ 1000000 by decide), rows, b1D]
  show (run _ [.va (rows l), .va (.int (n : Int)), .no, .no, .no, .no, .no, .no, .no] s).sq _ = _
  rw [e1, sq_nx, runs_cons, run_for]
  have e2 : evI (S := List Int) true (.rng (.var 1)) [.va (rows l), .va (.int (n : Int)), .va (rows []), .ow (rows l), .no, .no, .no, .no, .no] s = .ok ((List.range n).map fun (i : Nat) => D.int (i : Int)) s := by
    simp only [fnR, runs, run, ev, evA, evT, evI, bindq_ok, ob_ok, sq_nx, sq_rt, onO_some, liftO_some, kd_some, dat_v, dat_t, tru_bl, intOf_int, noExq, stk_v, stk_t, stk_o, stow_tt, stow_fv, stow_ft, eqD_int, cmp_ne, cmp_eq, cmp_gt, cmp_ge, cmp_lt, cmp_le, cmp_in, cmp_notin, cmp_is, cmp_isnot, bin_add, bin_sub, b1_abs, ix0, ix1, items_lst, items_row, put, List.map_cons, List.map_nil, List.cons_append, List.nil_append, List.append_nil, List.length_cons, List.length_nil, List.replicate, List.getElem?_cons_zero, List.getElem?_cons_succ, List.getElem?_nil, List.set_cons_zero, List.set_cons_succ, List.set_nil, Nat.reduceAdd, Nat.reduceSub, Nat.reduceLT, Nat.reduceEqDiff, if_true, ite_true, if_false, ite_false, Option.map_some, Option.map_none, reduceIte, reduceCtorEq, Bool.false_eq_true, Nat.zero_add, Nat.add_zero, Nat.zero_lt_succ, Nat.zero_lt_one, Nat.lt_add_left_iff_pos, Nat.succ_eq_add_one, Nat.reduceLeDiff, decide_eq_true (show (-1000000 : Int) ≤ n by omega), decide_eq_true (show (n : Int) ≤ 1000000 by omega), Bool.and_self, rngD, Int.toNat_natCast]
  rw [e2, ob_ok]
  obtain ⟨ρ', s', hf, rfl, st, x4, x5, x6, rfl, hst, _⟩ := forR_range (n := n) (e := fun (i : Nat) => D.int (i : Int)) (f := fun d ρ s => onO (asgT (.nm 4) d ρ) fun ρ' => runs b_reduced_0 ρ' s)
    (P := fun k ρ s' => s' = s ∧ ∃ (st : List (List Rat) × List (List Rat)) (x4 x5 x6 : SV), ρ = [.va (rows l), .va (.int (n : Int)), .va (rows st.1), .ow (rows st.2), x4, x5, x6, .no, .no] ∧ st = redQ l k ∧
      ∃ j ≤ k, (∀ r ∈ st.1, RW (bB B j) (bE B E j) W r) ∧ (∀ r ∈ st.2, RW (bB B j) (bE B E j) W r) ∧ st.1.length + st.2.length = l.length) (fun p hp ρ s1 hP => by
    obtain ⟨rfl, st, x4, x5, x6, rfl, hst, j, hj, r1, r2, hlen⟩ := hP
    have hb := hB j (by omega)
    have v1 : RV C W st.1 := fun r hr => ⟨(r1 r hr).len, (r1 r hr).bds hb.1 hb.2⟩
    have v2 : RV C W st.2 := fun r hr => ⟨(r2 r hr).len, (r2 r hr).bds hb.1 hb.2⟩
    obtain ⟨y5, y6, ht⟩ := red_turn (a0 := .va (rows l)) (a1 := .va (.int (n : Int))) (x5 := x5) (x6 := x6) v1 v2 (show p < W by omega) hC hW (by omega) s1
    have e3 : redStep st p = redQ l (p + 1) := by
      rw [hst]
      unfold redQ
      rw [List.range_succ, List.foldl_append]
      rfl
    refine ⟨_, _, ht, rfl, redStep st p, .va (.int (p : Int)), y5, y6, rfl, e3, ?_⟩
    have hcnt : (redStep st p).1.length + (redStep st p).2.length = l.length := by
      rcases redStep_inv v1 v2 (show p < W by omega) with e | ⟨_, _, q3, q4⟩
      · rw [e]; exact hlen
      · omega
    rcases redStep_RW r1 r2 (show p < W by omega) with e | ⟨q1, q2⟩
    · rw [e]
      exact ⟨j, by omega, r1, r2, hlen⟩
    · exact ⟨j + 1, by omega, q1, q2, hcnt⟩) _ s ⟨rfl, ([], l), .no, .no, .no, rfl, rfl, 0, Nat.le_refl _, fun r hr => (nomatch hr), hl, by simp⟩
  subst hst
  rw [hf, sq_nx, runs_cons]
  have e5 : run (S := List Int) (.frz 3 (.ret (.tup (.cons (.var 2) (.cons (.var 3) .nil))))) [.va (rows l), .va (.int (n : Int)), .va (rows (redQ l n).1), .ow (rows (redQ l n).2), x4, x5, x6, .no, .no] s' = .rt (.tup [rows (redQ l n).1, rows (redQ l n).2]) s' := by
    simp only [fnR, runs, run, ev, evA, evT, evI, bindq_ok, ob_ok, sq_nx, sq_rt, onO_some, liftO_some, kd_some, dat_v, dat_t, tru_bl, intOf_int, noExq, stk_v, stk_t, stk_o, stow_tt, stow_fv, stow_ft, eqD_int, cmp_ne, cmp_eq, cmp_gt, cmp_ge, cmp_lt, cmp_le, cmp_in, cmp_notin, cmp_is, cmp_isnot, bin_add, bin_sub, b1_abs, ix0, ix1, items_lst, items_row, put, List.map_cons, List.map_nil, List.cons_append, List.nil_append, List.append_nil, List.length_cons, List.length_nil, List.replicate, List.getElem?_cons_zero, List.getElem?_cons_succ, List.getElem?_nil, List.set_cons_zero, List.set_cons_succ, List.set_nil, Nat.reduceAdd, Nat.reduceSub, Nat.reduceLT, Nat.reduceEqDiff, if_true, ite_true, if_false, ite_false, Option.map_some, Option.map_none, reduceIte, reduceCtorEq, Bool.false_eq_true, Nat.zero_add, Nat.add_zero, Nat.zero_lt_succ, Nat.zero_lt_one, Nat.lt_add_left_iff_pos, Nat.succ_eq_add_one, Nat.reduceLeDiff, lenOk_of (show 2 ≤ 1000000 by decide)]
  rw [e5, sq_rt]
end Mf
set_option Elab.async false
set_option linter.all false
set_option maxRecDepth 100000
set_option maxHeartbeats 1000000
namespace Mf
open PySem L2
/-! ### _law_rank -/
theorem rank_row {B W : Nat} {r h : List Int} {p : Nat} (hr : r.length = W) (hh : h.length = W) (hb : ∀ x ∈ r, x.natAbs < 2 ^ B) (hc : ∀ x ∈ h, x.natAbs < 2 ^ B) (hp : p < W) (hB : 2 * B < 1000000) (hW : W ≤ 1000) (s : List Int) {ρ : List SV} (hl : ρ.length = 10) (h7 : ρ[7]? = some (.va (irow r))) (h6 : ρ[6]? = some (.va (irow h))) (h4 : ρ[4]? = some (.va (.int (p : Int)))) :
    ev (.lc (.zip (.var 7) (.var 6)) (.cons (.nm 8) (.cons (.nm 9) .nil)) .nil (.bin .sub (.bin .mul (.var 8) (.ix (.var 6) (.var 4))) (.bin .mul (.var 9) (.ix (.var 7) (.var 4)))) [8, 9]) ρ s = .ok (.t, irow (elim h p r)) s := by
  have hz : evI (S := List Int) false (.zip (.var 7) (.var 6)) ρ s = .ok ((r.zip h).map fun z => .tup [.int z.1, .int z.2]) s := by
    simp only [fnR, runs, run, ev, evA, evT, evI, bindq_ok, ob_ok, sq_nx, sq_rt, onO_some, liftO_some, kd_some, dat_v, dat_t, tru_bl, intOf_int, noExq, stk_v, stk_t, stk_o, stow_tt, stow_fv, stow_ft, eqD_int, cmp_ne, cmp_eq, cmp_gt, cmp_ge, cmp_lt, cmp_le, cmp_in, cmp_notin, cmp_is, cmp_isnot, bin_add, bin_sub, b1_abs, ix0, ix1, items_lst, items_row, put, List.map_cons, List.map_nil, List.cons_append, List.nil_append, List.append_nil, List.length_cons, List.length_nil, List.replicate, List.getElem?_cons_zero, List.getElem?_cons_succ, List.getElem?_nil, List.set_cons_zero, List.set_cons_succ, List.set_nil, Nat.reduceAdd, Nat.reduceSub, Nat.reduceLT, Nat.reduceEqDiff, if_true, ite_true, if_false, ite_false, Option.map_some, Option.map_none, reduceIte, reduceCtorEq, Bool.false_eq_true, Nat.zero_add, Nat.add_zero, Nat.zero_lt_succ, Nat.zero_lt_one, Nat.lt_add_left_iff_pos, Nat.succ_eq_add_one, Nat.reduceLeDiff, h7, h6]
    show liftO s (some (zipD (r.map D.int) (h.map D.int))) = _
    rw [zipD_map]
    rfl
  revert h7 h6 h4 hz
  match ρ, hl with
  | [a0, a1, a2, a3, a4, a5, a6, a7, a8, a9], _ =>
  intro h7 h6 h4 hz
  simp only [List.getElem?_cons_succ, List.getElem?_cons_zero, Option.some.injEq] at h7 h6 h4
  subst h7 h6 h4
  rw [ev_lc (g := fun z : Int × Int => .int (z.1 * h.getD p 0 - z.2 * r.getD p 0)) hz (by rw [List.length_zip]; omega) fun z hz => ⟨_, rfl, .v, nofun, ?_⟩]
  · unfold irow elim
    rw [List.map_map]
    rfl
  · have hz' := List.of_mem_zip hz
    have m1 := mulOk_of (hb _ hz'.1) (hc _ (igetD_mem (show p < h.length by omega))) (by omega)
    have m2 := mulOk_of (hc _ hz'.2) (hb _ (igetD_mem (show p < r.length by omega))) (by omega)
    simp only [wipeR, fnR, runs, run, ev, evA, evT, evI, bindq_ok, ob_ok, sq_nx, sq_rt, onO_some, liftO_some, kd_some, dat_v, dat_t, tru_bl, intOf_int, noExq, stk_v, stk_t, stk_o, stow_tt, stow_fv, stow_ft, eqD_int, cmp_ne, cmp_eq, cmp_gt, cmp_ge, cmp_lt, cmp_le, cmp_in, cmp_notin, cmp_is, cmp_isnot, bin_add, bin_sub, b1_abs, ix0, ix1, items_lst, items_row, put, List.map_cons, List.map_nil, List.cons_append, List.nil_append, List.append_nil, List.length_cons, List.length_nil, List.replicate, List.getElem?_cons_zero, List.getElem?_cons_succ, List.getElem?_nil, List.set_cons_zero, List.set_cons_succ, List.set_nil, Nat.reduceAdd, Nat.reduceSub, Nat.reduceLT, Nat.reduceEqDiff, if_true, ite_true, if_false, ite_false, Option.map_some, Option.map_none, reduceIte, reduceCtorEq, Bool.false_eq_true, Nat.zero_add, Nat.add_zero, Nat.zero_lt_succ, Nat.zero_lt_one, Nat.lt_add_left_iff_pos, Nat.succ_eq_add_one, Nat.reduceLeDiff, ix_irow (show p < h.length by omega), ix_irow (show p < r.length by omega), bin_mul m1, bin_mul m2]
theorem rank_turn {B W : Nat} {st : List (List Int) × Nat} {p : Nat} {a0 a3 x5 x6 : SV} (h1 : IV B W st.1) (hp : p < W) (hB : 2 * B < 1000000) (hW : W ≤ 1000) (hl : st.1.length ≤ 1000) (s : List Int) :
    ∃ y5 y6, runs b__law_rank_0 [a0, .ow (irows st.1), .va (.int (st.2 : Int)), a3, .va (.int (p : Int)), x5, x6, .no, .no, .no] s = .nx [a0, .ow (irows (rkStep st p).1), .va (.int ((rkStep st p).2 : Int)), a3, .va (.int (p : Int)), y5, y6, .no, .no, .no] s := by
  unfold b__law_rank_0
  rw [runs_cons, run, ev_lcf (l := st.1) (e := irow) (g := irow) (t := fun r => decide (r.getD p 0 ≠ 0)) (by simp only [irows, fnR, runs, run, ev, evA, evT, evI, bindq_ok, ob_ok, sq_nx, sq_rt, onO_some, liftO_some, kd_some, dat_v, dat_t, tru_bl, intOf_int, noExq, stk_v, stk_t, stk_o, stow_tt, stow_fv, stow_ft, eqD_int, cmp_ne, cmp_eq, cmp_gt, cmp_ge, cmp_lt, cmp_le, cmp_in, cmp_notin, cmp_is, cmp_isnot, bin_add, bin_sub, b1_abs, ix0, ix1, items_lst, items_row, put, List.map_cons, List.map_nil, List.cons_append, List.nil_append, List.append_nil, List.length_cons, List.length_nil, List.replicate, List.getElem?_cons_zero, List.getElem?_cons_succ, List.getElem?_nil, List.set_cons_zero, List.set_cons_succ, List.set_nil, Nat.reduceAdd, Nat.reduceSub, Nat.reduceLT, Nat.reduceEqDiff, if_true, ite_true, if_false, ite_false, Option.map_some, Option.map_none, reduceIte, reduceCtorEq, Bool.false_eq_true, Nat.zero_add, Nat.add_zero, Nat.zero_lt_succ, Nat.zero_lt_one, Nat.lt_add_left_iff_pos, Nat.succ_eq_add_one, Nat.reduceLeDiff]) (by omega) fun r hr => ⟨_, rfl, ⟨.v, ?_⟩, fun _ => ⟨.v, nofun, ?_⟩⟩]
  rotate_left
  · simp only [wipeR, fnR, runs, run, ev, evA, evT, evI, bindq_ok, ob_ok, sq_nx, sq_rt, onO_some, liftO_some, kd_some, dat_v, dat_t, tru_bl, intOf_int, noExq, stk_v, stk_t, stk_o, stow_tt, stow_fv, stow_ft, eqD_int, cmp_ne, cmp_eq, cmp_gt, cmp_ge, cmp_lt, cmp_le, cmp_in, cmp_notin, cmp_is, cmp_isnot, bin_add, bin_sub, b1_abs, ix0, ix1, items_lst, items_row, put, List.map_cons, List.map_nil, List.cons_append, List.nil_append, List.append_nil, List.length_cons, List.length_nil, List.replicate, List.getElem?_cons_zero, List.getElem?_cons_succ, List.getElem?_nil, List.set_cons_zero, List.set_cons_succ, List.set_nil, Nat.reduceAdd, Nat.reduceSub, Nat.reduceLT, Nat.reduceEqDiff, if_true, ite_true, if_false, ite_false, Option.map_some, Option.map_none, reduceIte, reduceCtorEq, Bool.false_eq_true, Nat.zero_add, Nat.add_zero, Nat.zero_lt_succ, Nat.zero_lt_one, Nat.lt_add_left_iff_pos, Nat.succ_eq_add_one, Nat.reduceLeDiff, ix_irow (show p < r.length by rw [(h1 r hr).1]; exact hp), decide_not]
  · simp only [wipeR, fnR, runs, run, ev, evA, evT, evI, bindq_ok, ob_ok, sq_nx, sq_rt, onO_some, liftO_some, kd_some, dat_v, dat_t, tru_bl, intOf_int, noExq, stk_v, stk_t, stk_o, stow_tt, stow_fv, stow_ft, eqD_int, cmp_ne, cmp_eq, cmp_gt, cmp_ge, cmp_lt, cmp_le, cmp_in, cmp_notin, cmp_is, cmp_isnot, bin_add, bin_sub, b1_abs, ix0, ix1, items_lst, items_row, put, List.map_cons, List.map_nil, List.cons_append, List.nil_append, List.append_nil, List.length_cons, List.length_nil, List.replicate, List.getElem?_cons_zero, List.getElem?_cons_succ, List.getElem?_nil, List.set_cons_zero, List.set_cons_succ, List.set_nil, Nat.reduceAdd, Nat.reduceSub, Nat.reduceLT, Nat.reduceEqDiff, if_true, ite_true, if_false, ite_false, Option.map_some, Option.map_none, reduceIte, reduceCtorEq, Bool.false_eq_true, Nat.zero_add, Nat.add_zero, Nat.zero_lt_succ, Nat.zero_lt_one, Nat.lt_add_left_iff_pos, Nat.succ_eq_add_one, Nat.reduceLeDiff]
  simp only [ob_ok, stow_ft, onO_some, put, List.length_cons, List.length_nil, Nat.reduceAdd, Nat.reduceLT, if_true, List.set_cons_succ, List.set_cons_zero, sq_nx]
  rw [runs_cons, run_ife]
  have et : (ev (.cmp .ne (.var 5) (.lst .nil)) [a0, .ow (irows st.1), .va (.int (st.2 : Int)), a3, .va (.int (p : Int)), .va (.lst ((st.1.filter fun r => decide (r.getD p 0 ≠ 0)).map irow)), x6, .no, .no, .no] s).bind tru = .ok (!(st.1.filter fun r => decide (r.getD p 0 ≠ 0)).isEmpty) s := by
    simp only [fnR, runs, run, ev, evA, evT, evI, bindq_ok, ob_ok, sq_nx, sq_rt, onO_some, liftO_some, kd_some, dat_v, dat_t, tru_bl, intOf_int, noExq, stk_v, stk_t, stk_o, stow_tt, stow_fv, stow_ft, eqD_int, cmp_ne, cmp_eq, cmp_gt, cmp_ge, cmp_lt, cmp_le, cmp_in, cmp_notin, cmp_is, cmp_isnot, bin_add, bin_sub, b1_abs, ix0, ix1, items_lst, items_row, put, List.map_cons, List.map_nil, List.cons_append, List.nil_append, List.append_nil, List.length_cons, List.length_nil, List.replicate, List.getElem?_cons_zero, List.getElem?_cons_succ, List.getElem?_nil, List.set_cons_zero, List.set_cons_succ, List.set_nil, Nat.reduceAdd, Nat.reduceSub, Nat.reduceLT, Nat.reduceEqDiff, if_true, ite_true, if_false, ite_false, Option.map_some, Option.map_none, reduceIte, reduceCtorEq, Bool.false_eq_true, Nat.zero_add, Nat.add_zero, Nat.zero_lt_succ, Nat.zero_lt_one, Nat.lt_add_left_iff_pos, Nat.succ_eq_add_one, Nat.reduceLeDiff, lenOk_of (show 0 ≤ 1000000 by decide), eqD_inil]
  rw [et, ob_ok]
  cases hf : st.1.filter (fun r => decide (r.getD p 0 ≠ 0)) with
  | nil =>
    refine ⟨.va (.lst []), x6, ?_⟩
    have : rkStep st p = st := by unfold rkStep; rw [hf]
    rw [this]
    simp only [List.isEmpty_nil, Bool.not_true, Bool.false_eq_true, if_false, runs_nil, sq_nx, List.map_nil]
  | cons h t =>
    have hm : h ∈ st.1.filter (fun r => decide (r.getD p 0 ≠ 0)) := by rw [hf]; exact List.mem_cons_self
    obtain ⟨hm1, hm2⟩ := List.mem_filter.mp hm
    have er : rkStep st p = ((st.1.erase h).map (elim h p), st.2 + 1) := by unfold rkStep; rw [hf]
    rw [er]
    refine ⟨.va (.lst (irow h :: t.map irow)), .va (irow h), ?_⟩
    simp only [List.isEmpty_cons, Bool.not_false, if_true, List.map_cons]
    have i0 : ∀ ds : List D, ixD (.lst (irow h :: ds)) (.int 0) = some (irow h) := fun ds => by
      show atI (irow h :: ds) ((0 : Nat) : Int) = _
      exact atI_nat rfl
    obtain ⟨j, hj1, hj2⟩ := erase_irow hm1
    refine (congrArg (fun o : Out (List Int) => o.sq _) (a₂ := .nx [a0, .ow (irows ((st.1.erase h).map (elim h p))), .va (.int ((st.2 + 1 : Nat) : Int)), a3, .va (.int (p : Int)), .va (.lst (irow h :: t.map irow)), .va (irow h), .no, .no, .no] s) ?_).trans rfl
    refine seq_asg (x := (.v, irow h)) (by simp only [fnR, runs, run, ev, evA, evT, evI, bindq_ok, ob_ok, sq_nx, sq_rt, onO_some, liftO_some, kd_some, dat_v, dat_t, tru_bl, intOf_int, noExq, stk_v, stk_t, stk_o, stow_tt, stow_fv, stow_ft, eqD_int, cmp_ne, cmp_eq, cmp_gt, cmp_ge, cmp_lt, cmp_le, cmp_in, cmp_notin, cmp_is, cmp_isnot, bin_add, bin_sub, b1_abs, ix0, ix1, items_lst, items_row, put, List.map_cons, List.map_nil, List.cons_append, List.nil_append, List.append_nil, List.length_cons, List.length_nil, List.replicate, List.getElem?_cons_zero, List.getElem?_cons_succ, List.getElem?_nil, List.set_cons_zero, List.set_cons_succ, List.set_nil, Nat.reduceAdd, Nat.reduceSub, Nat.reduceLT, Nat.reduceEqDiff, if_true, ite_true, if_false, ite_false, Option.map_some, Option.map_none, reduceIte, reduceCtorEq, Bool.false_eq_true, Nat.zero_add, Nat.add_zero, Nat.zero_lt_succ, Nat.zero_lt_one, Nat.lt_add_left_iff_pos, Nat.succ_eq_add_one, Nat.reduceLeDiff, i0]) rfl rfl ?_
    rw [runs_cons, run]
    have eo : ownL [a0, .ow (irows st.1), .va (.int (st.2 : Int)), a3, .va (.int (p : Int)), .va (.lst (irow h :: t.map irow)), .va (irow h), .no, .no, .no] 1 = some (st.1.map irow) := rfl
    show ((onO (ownL [a0, .ow (irows st.1), .va (.int (st.2 : Int)), a3, .va (.int (p : Int)), .va (.lst (irow h :: t.map irow)), .va (irow h), .no, .no, .no] 1) _).sq _) = _
    rw [eo, onO_some]
    have e3 : ev (.var 6) [a0, .ow (irows st.1), .va (.int (st.2 : Int)), a3, .va (.int (p : Int)), .va (.lst (irow h :: t.map irow)), .va (irow h), .no, .no, .no] s = .ok (.v, irow h) s := by simp only [fnR, runs, run, ev, evA, evT, evI, bindq_ok, ob_ok, sq_nx, sq_rt, onO_some, liftO_some, kd_some, dat_v, dat_t, tru_bl, intOf_int, noExq, stk_v, stk_t, stk_o, stow_tt, stow_fv, stow_ft, eqD_int, cmp_ne, cmp_eq, cmp_gt, cmp_ge, cmp_lt, cmp_le, cmp_in, cmp_notin, cmp_is, cmp_isnot, bin_add, bin_sub, b1_abs, ix0, ix1, items_lst, items_row, put, List.map_cons, List.map_nil, List.cons_append, List.nil_append, List.append_nil, List.length_cons, List.length_nil, List.replicate, List.getElem?_cons_zero, List.getElem?_cons_succ, List.getElem?_nil, List.set_cons_zero, List.set_cons_succ, List.set_nil, Nat.reduceAdd, Nat.reduceSub, Nat.reduceLT, Nat.reduceEqDiff, if_true, ite_true, if_false, ite_false, Option.map_some, Option.map_none, reduceIte, reduceCtorEq, Bool.false_eq_true, Nat.zero_add, Nat.add_zero, Nat.zero_lt_succ, Nat.zero_lt_one, Nat.lt_add_left_iff_pos, Nat.succ_eq_add_one, Nat.reduceLeDiff]
    simp only [e3, ob_ok, sh_irow 59 h, shs_irows 58 st.1, Bool.and_self, if_true, find_irow, hj1, onO_some, hj2, List.set_cons_succ, List.set_cons_zero, sq_nx]
    refine seq_asg (x := (.t, .lst ((st.1.erase h).map fun r => irow (elim h p r)))) (ev_lc (l := st.1.erase h) (e := irow) (g := fun r => irow (elim h p r)) (by simp only [fnR, runs, run, ev, evA, evT, evI, bindq_ok, ob_ok, sq_nx, sq_rt, onO_some, liftO_some, kd_some, dat_v, dat_t, tru_bl, intOf_int, noExq, stk_v, stk_t, stk_o, stow_tt, stow_fv, stow_ft, eqD_int, cmp_ne, cmp_eq, cmp_gt, cmp_ge, cmp_lt, cmp_le, cmp_in, cmp_notin, cmp_is, cmp_isnot, bin_add, bin_sub, b1_abs, ix0, ix1, items_lst, items_row, put, List.map_cons, List.map_nil, List.cons_append, List.nil_append, List.append_nil, List.length_cons, List.length_nil, List.replicate, List.getElem?_cons_zero, List.getElem?_cons_succ, List.getElem?_nil, List.set_cons_zero, List.set_cons_succ, List.set_nil, Nat.reduceAdd, Nat.reduceSub, Nat.reduceLT, Nat.reduceEqDiff, if_true, ite_true, if_false, ite_false, Option.map_some, Option.map_none, reduceIte, reduceCtorEq, Bool.false_eq_true, Nat.zero_add, Nat.add_zero, Nat.zero_lt_succ, Nat.zero_lt_one, Nat.lt_add_left_iff_pos, Nat.succ_eq_add_one, Nat.reduceLeDiff]) (by have := List.length_erase_of_mem hm1; omega) fun r hr => ⟨_, rfl, .t, nofun, ?_⟩) rfl rfl ?_
    · have hr' := List.mem_of_mem_erase hr
      exact rank_row (h1 r hr').1 (h1 h hm1).1 (h1 r hr').2 (h1 h hm1).2 hp hB hW s rfl rfl rfl rfl
    simp only [fnR, runs, run, ev, evA, evT, evI, bindq_ok, ob_ok, sq_nx, sq_rt, onO_some, liftO_some, kd_some, dat_v, dat_t, tru_bl, intOf_int, noExq, stk_v, stk_t, stk_o, stow_tt, stow_fv, stow_ft, eqD_int, cmp_ne, cmp_eq, cmp_gt, cmp_ge, cmp_lt, cmp_le, cmp_in, cmp_notin, cmp_is, cmp_isnot, bin_add, bin_sub, b1_abs, ix0, ix1, items_lst, items_row, put, List.map_cons, List.map_nil, List.cons_append, List.nil_append, List.append_nil, List.length_cons, List.length_nil, List.replicate, List.getElem?_cons_zero, List.getElem?_cons_succ, List.getElem?_nil, List.set_cons_zero, List.set_cons_succ, List.set_nil, Nat.reduceAdd, Nat.reduceSub, Nat.reduceLT, Nat.reduceEqDiff, if_true, ite_true, if_false, ite_false, Option.map_some, Option.map_none, reduceIte, reduceCtorEq, Bool.false_eq_true, Nat.zero_add, Nat.add_zero, Nat.zero_lt_succ, Nat.zero_lt_one, Nat.lt_add_left_iff_pos, Nat.succ_eq_add_one, Nat.reduceLeDiff]
    simp only [irows, List.map_map]
    rfl
/-- a row, as a list or as a tuple -/
def trow (r : List Int) : D := .tup (r.map D.int)
def brow (z : Bool × List Int) : D := if z.1 then irow z.2 else trow z.2
theorem rank_gen {B W : Nat} {M : List (Bool × List Int)} {d : D} (hd : itemsD d = some (M.map brow)) {L : List (List Int)} (hM : M.map Prod.snd = L) (hL : IV B W L) (hB : 2 * bi B W < 1000000) (hW : W ≤ 1000) (hl : L.length ≤ 1000) (s : List Int) : g__law_rank [d] s = .ok (.int (rk W 0 L : Nat)) s := by
  refine fnR_rt ?_
  show runs c__law_rank [.va d, .no, .no, .no, .no, .no, .no, .no, .no, .no] s = _
  unfold c__law_rank
  have e1 : ev (S := List Int) (.lc (.seq (.var 0)) (.nm 7) .nil (.b1 .list (.var 7)) [7]) [.va d, .no, .no, .no, .no, .no, .no, .no, .no, .no] s = .ok (.t, irows L) s := by
    rw [ev_lc (l := M) (e := brow) (g := fun z => irow z.2) (by simp only [fnR, runs, run, ev, evA, evT, evI, bindq_ok, ob_ok, sq_nx, sq_rt, onO_some, liftO_some, kd_some, dat_v, dat_t, tru_bl, intOf_int, noExq, stk_v, stk_t, stk_o, stow_tt, stow_fv, stow_ft, eqD_int, cmp_ne, cmp_eq, cmp_gt, cmp_ge, cmp_lt, cmp_le, cmp_in, cmp_notin, cmp_is, cmp_isnot, bin_add, bin_sub, b1_abs, ix0, ix1, items_lst, items_row, put, List.map_cons, List.map_nil, List.cons_append, List.nil_append, List.append_nil, List.length_cons, List.length_nil, List.replicate, List.getElem?_cons_zero, List.getElem?_cons_succ, List.getElem?_nil, List.set_cons_zero, List.set_cons_succ, List.set_nil, Nat.reduceAdd, Nat.reduceSub, Nat.reduceLT, Nat.reduceEqDiff, if_true, ite_true, if_false, ite_false, Option.map_some, Option.map_none, reduceIte, reduceCtorEq, Bool.false_eq_true, Nat.zero_add, Nat.add_zero, Nat.zero_lt_succ, Nat.zero_lt_one, Nat.lt_add_left_iff_pos, Nat.succ_eq_add_one, Nat.reduceLeDiff, hd]) (by rw [← hM, List.length_map] at hl; omega) fun r hr => ⟨_, rfl, .t, nofun, by
      have : b1D .list (brow r) = some (.t, irow r.2) := by obtain ⟨b, r⟩ := r; cases b <;> rfl
      simp only [wipeR, fnR, runs, run, ev, evA, evT, evI, bindq_ok, ob_ok, sq_nx, sq_rt, onO_some, liftO_some, kd_some, dat_v, dat_t, tru_bl, intOf_int, noExq, stk_v, stk_t, stk_o, stow_tt, stow_fv, stow_ft, eqD_int, cmp_ne, cmp_eq, cmp_gt, cmp_ge, cmp_lt, cmp_le, cmp_in, cmp_notin, cmp_is, cmp_isnot, bin_add, bin_sub, b1_abs, ix0, ix1, items_lst, items_row, put, List.map_cons, List.map_nil, List.cons_append, List.nil_append, List.append_nil, List.length_cons, List.length_nil, List.replicate, List.getElem?_cons_zero, List.getElem?_cons_succ, List.getElem?_nil, List.set_cons_zero, List.set_cons_succ, List.set_nil, Nat.reduceAdd, Nat.reduceSub, Nat.reduceLT, Nat.reduceEqDiff, if_true, ite_true, if_false, ite_false, Option.map_some, Option.map_none, reduceIte, reduceCtorEq, Bool.false_eq_true, Nat.zero_add, Nat.add_zero, Nat.zero_lt_succ, Nat.zero_lt_one, Nat.lt_add_left_iff_pos, Nat.succ_eq_add_one, Nat.reduceLeDiff, this]⟩, ← hM]
    unfold irows
    rw [List.map_map]
    rfl
  refine seq_nx (s' := s) (ρ' := [.va d, .ow (irows L), .va (.int ((0 : Nat) : Int)), .no, .no, .no, .no, .no, .no, .no]) ?_ ?_
  · rw [run, e1]
    simp only [fnR, runs, run, ev, evA, evT, evI, bindq_ok, ob_ok, sq_nx, sq_rt, onO_some, liftO_some, kd_some, dat_v, dat_t, tru_bl, intOf_int, noExq, stk_v, stk_t, stk_o, stow_tt, stow_fv, stow_ft, eqD_int, cmp_ne, cmp_eq, cmp_gt, cmp_ge, cmp_lt, cmp_le, cmp_in, cmp_notin, cmp_is, cmp_isnot, bin_add, bin_sub, b1_abs, ix0, ix1, items_lst, items_row, put, List.map_cons, List.map_nil, List.cons_append, List.nil_append, List.append_nil, List.length_cons, List.length_nil, List.replicate, List.getElem?_cons_zero, List.getElem?_cons_succ, List.getElem?_nil, List.set_cons_zero, List.set_cons_succ, List.set_nil, Nat.reduceAdd, Nat.reduceSub, Nat.reduceLT, Nat.reduceEqDiff, if_true, ite_true, if_false, ite_false, Option.map_some, Option.map_none, reduceIte, reduceCtorEq, Bool.false_eq_true, Nat.zero_add, Nat.add_zero, Nat.zero_lt_succ, Nat.zero_lt_one, Nat.lt_add_left_iff_pos, Nat.succ_eq_add_one, Nat.reduceLeDiff]
    rfl
  clear hM e1
  cases L with
  | nil =>
    refine seq_asg (x := (.v, .int 0)) (by rfl) rfl rfl ?_
    rw [rk_nil]
    rfl
  | cons r0 L0 =>
    have hw : r0.length = W := (hL r0 List.mem_cons_self).1
    refine seq_asg (x := (.v, .int (W : Int))) ?_ rfl rfl ?_
    · have i0 : ixD (irows (r0 :: L0)) (.int 0) = some (irow r0) := by
        show atI (irow r0 :: L0.map irow) ((0 : Nat) : Int) = _
        exact atI_nat rfl
      have i1 : b1D .len (irow r0) = some (.v, .int (W : Int)) := by
        show some (K3.v, D.int ((r0.map D.int).length : Nat)) = _
        rw [List.length_map, hw]
      have i2 : eqD (irows (r0 :: L0)) (.lst []) = some false := eqD_inil (r0 :: L0)
      simp only [fnR, runs, run, ev, evA, evT, evI, bindq_ok, ob_ok, sq_nx, sq_rt, onO_some, liftO_some, kd_some, dat_v, dat_t, tru_bl, intOf_int, noExq, stk_v, stk_t, stk_o, stow_tt, stow_fv, stow_ft, eqD_int, cmp_ne, cmp_eq, cmp_gt, cmp_ge, cmp_lt, cmp_le, cmp_in, cmp_notin, cmp_is, cmp_isnot, bin_add, bin_sub, b1_abs, ix0, ix1, items_lst, items_row, put, List.map_cons, List.map_nil, List.cons_append, List.nil_append, List.append_nil, List.length_cons, List.length_nil, List.replicate, List.getElem?_cons_zero, List.getElem?_cons_succ, List.getElem?_nil, List.set_cons_zero, List.set_cons_succ, List.set_nil, Nat.reduceAdd, Nat.reduceSub, Nat.reduceLT, Nat.reduceEqDiff, if_true, ite_true, if_false, ite_false, Option.map_some, Option.map_none, reduceIte, reduceCtorEq, Bool.false_eq_true, Nat.zero_add, Nat.add_zero, Nat.zero_lt_succ, Nat.zero_lt_one, Nat.lt_add_left_iff_pos, Nat.succ_eq_add_one, Nat.reduceLeDiff, lenOk_of (show 0 ≤ 1000000 by decide), i2, i0, i1, Bool.not_false]
    obtain ⟨ρ', s', hf, st, x4, x5, x6, rfl, rfl, hst, _⟩ := forR_ind (e := fun (i : Nat) => D.int (i : Int)) (f := fun d ρ s => onO (asgT (.nm 4) d ρ) fun ρ' => runs b__law_rank_0 ρ' s)
      (P := fun (ps : List Nat) ρ s' => ∃ (st : List (List Int) × Nat) (x4 x5 x6 : SV), ρ = [.va d, .ow (irows st.1), .va (.int (st.2 : Int)), .va (.int (W : Int)), x4, x5, x6, .no, .no, .no] ∧ s' = s ∧ (ps.foldl rkStep st).2 = rk W 0 (r0 :: L0) ∧
        (∀ p ∈ ps, p < W) ∧ ps.length ≤ W ∧ IV (bi B (W - ps.length)) W st.1 ∧ st.1.length ≤ 1000)
      (fun p ps ρ s1 hP => by
        obtain ⟨st, x4, x5, x6, rfl, rfl, hst, hps, hle, hi, hl⟩ := hP
        have hpw := hps p List.mem_cons_self
        have hb := bi_mono (B := B) (show W - (p :: ps).length ≤ W by omega)
        obtain ⟨y5, y6, ht⟩ := rank_turn (a0 := .va d) (a3 := .va (.int (W : Int))) (x5 := x5) (x6 := x6) hi hpw (by omega) hW hl s1
        have inv := rkStep_inv hi hpw
        simp only [List.length_cons] at hle
        refine ⟨_, _, ht, rkStep st p, .va (.int (p : Int)), y5, y6, rfl, rfl, hst, fun q hq => hps q (List.mem_cons_of_mem _ hq), by omega, ?_, by omega⟩
        have e : W - ps.length = (W - (p :: ps).length) + 1 := by simp only [List.length_cons]; omega
        rw [e]
        exact inv.1) (List.range W) _ s ⟨(r0 :: L0, 0), .no, .no, .no, rfl, rfl, by rw [List.range_eq_range', rkStep_fold]; simp, fun p hp => List.mem_range.mp hp, by simp, by simp; exact hL, hl⟩
    refine seq_nx (run_forq (s1 := s') (ds := (List.range W).map fun (i : Nat) => D.int (i : Int)) ?_ hf) ?_
    · simp only [fnR, runs, run, ev, evA, evT, evI, bindq_ok, ob_ok, sq_nx, sq_rt, onO_some, liftO_some, kd_some, dat_v, dat_t, tru_bl, intOf_int, noExq, stk_v, stk_t, stk_o, stow_tt, stow_fv, stow_ft, eqD_int, cmp_ne, cmp_eq, cmp_gt, cmp_ge, cmp_lt, cmp_le, cmp_in, cmp_notin, cmp_is, cmp_isnot, bin_add, bin_sub, b1_abs, ix0, ix1, items_lst, items_row, put, List.map_cons, List.map_nil, List.cons_append, List.nil_append, List.append_nil, List.length_cons, List.length_nil, List.replicate, List.getElem?_cons_zero, List.getElem?_cons_succ, List.getElem?_nil, List.set_cons_zero, List.set_cons_succ, List.set_nil, Nat.reduceAdd, Nat.reduceSub, Nat.reduceLT, Nat.reduceEqDiff, if_true, ite_true, if_false, ite_false, Option.map_some, Option.map_none, reduceIte, reduceCtorEq, Bool.false_eq_true, Nat.zero_add, Nat.add_zero, Nat.zero_lt_succ, Nat.zero_lt_one, Nat.lt_add_left_iff_pos, Nat.succ_eq_add_one, Nat.reduceLeDiff, decide_eq_true (show (-1000000 : Int) ≤ W by omega), decide_eq_true (show (W : Int) ≤ 1000000 by omega), Bool.and_self, rngD, Int.toNat_natCast]
    have hst : st.2 = rk W 0 (r0 :: L0) := hst
    simp only [fnR, runs, run, ev, evA, evT, evI, bindq_ok, ob_ok, sq_nx, sq_rt, onO_some, liftO_some, kd_some, dat_v, dat_t, tru_bl, intOf_int, noExq, stk_v, stk_t, stk_o, stow_tt, stow_fv, stow_ft, eqD_int, cmp_ne, cmp_eq, cmp_gt, cmp_ge, cmp_lt, cmp_le, cmp_in, cmp_notin, cmp_is, cmp_isnot, bin_add, bin_sub, b1_abs, ix0, ix1, items_lst, items_row, put, List.map_cons, List.map_nil, List.cons_append, List.nil_append, List.append_nil, List.length_cons, List.length_nil, List.replicate, List.getElem?_cons_zero, List.getElem?_cons_succ, List.getElem?_nil, List.set_cons_zero, List.set_cons_succ, List.set_nil, Nat.reduceAdd, Nat.reduceSub, Nat.reduceLT, Nat.reduceEqDiff, if_true, ite_true, if_false, ite_false, Option.map_some, Option.map_none, reduceIte, reduceCtorEq, Bool.false_eq_true, Nat.zero_add, Nat.add_zero, Nat.zero_lt_succ, Nat.zero_lt_one, Nat.lt_add_left_iff_pos, Nat.succ_eq_add_one, Nat.reduceLeDiff, hst]
theorem g__law_rank_ok {B W : Nat} {L : List (List Int)} (hL : IV B W L) (hB : 2 * bi B W < 1000000) (hW : W ≤ 1000) (hl : L.length ≤ 1000) (s : List Int) : g__law_rank [irows L] s = .ok (.int (rk W 0 L : Nat)) s :=
  rank_gen (M := L.map fun r => (true, r)) (by rw [List.map_map]; rfl) (by rw [List.map_map]; exact List.map_id' L) hL hB hW hl s
end Mf
set_option Elab.async false
set_option linter.all false
set_option maxRecDepth 100000
set_option maxHeartbeats 1000000
namespace Mf
open PySem L2
def parts : Fm → List Int
  | .nm _ => [] | .nu _ => []
  | .bi _ _ _ => [1, 2]
  | _ => [1]
theorem g_parts_ok (f : Fm) (s : List Int) : g_parts_of [f.D] s = .ok (.tup ((parts f).map D.int)) s := by
  cases f with
  | bi o p q => cases o <;> rfl
  | _ => rfl
theorem one_F : D.tup [.int 1, .int 1] = F 1 := rfl
theorem k_F (k : Int) : D.tup [.int k, .int 1] = F (k : Rat) := rfl
theorem half_F : D.tup [.int 1, .int 2] = F (Rat.divInt 1 2) := by rfl
theorem empty_F : d_EMPTY = row zero6 := rfl
theorem dm_len4 : ∀ f : Fm, f.dep ≤ 4 → (dm f).length ≤ 4 ^ f.dep
  | .nm _, _ => Nat.zero_le _
  | .nu _, _ => Nat.zero_le _
  | .bi o p q, h => by
    have h : max p.dep q.dep + 1 ≤ 4 := h
    have hp := dm_len4 p (by omega)
    have hq := dm_len4 q (by omega)
    have h1 : 4 ^ p.dep ≤ 4 ^ (max p.dep q.dep) := Nat.pow_le_pow_right (by decide) (by omega)
    have h2 : 4 ^ q.dep ≤ 4 ^ (max p.dep q.dep) := Nat.pow_le_pow_right (by decide) (by omega)
    have h3 : 0 < 4 ^ (max p.dep q.dep) := Nat.pow_pos (by decide)
    show _ ≤ 4 ^ (max p.dep q.dep + 1)
    rw [Nat.pow_succ]
    cases o <;> simp only [dm, List.length_append, List.length_singleton] <;> omega
  | .pw p _, h => by
    have h : p.dep + 1 ≤ 4 := h
    exact Nat.le_trans (dm_len4 p (by omega)) (Nat.pow_le_pow_right (by decide) (Nat.le_succ _))
  | .rt p, h => by
    have h : p.dep + 1 ≤ 4 := h
    exact Nat.le_trans (dm_len4 p (by omega)) (Nat.pow_le_pow_right (by decide) (Nat.le_succ _))
  | .wv p, h => by
    have h : p.dep + 1 ≤ 4 := h
    have hp := dm_len4 p (by omega)
    have h3 : 0 < 4 ^ p.dep := Nat.pow_pos (by decide)
    show (dm p ++ [ex p]).length ≤ 4 ^ (p.dep + 1)
    rw [Nat.pow_succ, List.length_append, List.length_singleton]
    omega
abbrev am (f : Fm) : D := .tup [row (ex f), rows (dm f)]
/-- the part behind name and number: some, rows, first -/
theorem asked_mid {self : Sem (List Int)} {f : Fm} {ps : List Fm} {w : Str} (s : List Int) (hs : ∀ p ∈ ps, self [p.D] s = .ok (am p) s) (hp : (parts f).length = ps.length) (hix : ∀ i < ps.length, ixD f.D (.int ((parts f).getD i 0)) = some (ps.getD i (.nm 0)).D)
    (hd : ∀ p ∈ ps, p.dep ≤ 4) (h2 : ps.length ≤ 2) (h1 : ps ≠ []) {r : Out (List Int)} {cs : CSs (List Int)}
    (k : runs cs [.va f.D, .va (.str w), .va (.lst (ps.map am)), .va (rows (ps.flatMap dm)), .va (row (ex (ps.getD 0 (.nm 0)))), .no, .no, .no, .no, .no, .no] s = r) :
    runs (.cons (.asg false 2 (.lc (.seq (.call "parts_of" 1 g_parts_of (.cons (.var 0) .nil))) (.nm 6) .nil (.call "asked_by" 1 self (.cons (.ix (.var 0) (.var 6)) .nil)) [6]))
      (.cons (.asg false 3 (.lc2 (.seq (.var 2)) (.cons (.nm 7) (.cons (.nm 8) .nil)) (.seq (.var 8)) (.nm 9) (.var 9) [7, 8, 9] [9]))
      (.cons (.asg false 4 (.ix (.ix (.var 2) (.con (.int 0))) (.con (.int 0)))) cs))) [.va f.D, .va (.str w), .no, .no, .no, .no, .no, .no, .no, .no, .no] s = r := by
  have e2 : ev (S := List Int) (.lc (.seq (.call "parts_of" 1 g_parts_of (.cons (.var 0) .nil))) (.nm 6) .nil (.call "asked_by" 1 self (.cons (.ix (.var 0) (.var 6)) .nil)) [6]) [.va f.D, .va (.str w), .no, .no, .no, .no, .no, .no, .no, .no, .no] s = .ok (.t, .lst (ps.map am)) s := by
    have it : evI (S := List Int) false (.seq (.call "parts_of" 1 g_parts_of (.cons (.var 0) .nil))) [.va f.D, .va (.str w), .no, .no, .no, .no, .no, .no, .no, .no, .no] s = .ok ((List.range ps.length).map fun i => D.int ((parts f).getD i 0)) s := by
      simp only [fnR, runs, run, ev, evA, evT, evI, bindq_ok, ob_ok, sq_nx, sq_rt, onO_some, liftO_some, kd_some, dat_v, dat_t, tru_bl, intOf_int, noExq, stk_v, stk_t, stk_o, stow_tt, stow_fv, stow_ft, eqD_int, cmp_ne, cmp_eq, cmp_gt, cmp_ge, cmp_lt, cmp_le, cmp_in, cmp_notin, cmp_is, cmp_isnot, bin_add, bin_sub, b1_abs, ix0, ix1, items_lst, items_row, put, List.map_cons, List.map_nil, List.cons_append, List.nil_append, List.append_nil, List.length_cons, List.length_nil, List.replicate, List.getElem?_cons_zero, List.getElem?_cons_succ, List.getElem?_nil, List.set_cons_zero, List.set_cons_succ, List.set_nil, Nat.reduceAdd, Nat.reduceSub, Nat.reduceLT, Nat.reduceEqDiff, if_true, ite_true, if_false, ite_false, Option.map_some, Option.map_none, reduceIte, reduceCtorEq, Bool.false_eq_true, Nat.zero_add, Nat.add_zero, Nat.zero_lt_succ, Nat.zero_lt_one, Nat.lt_add_left_iff_pos, Nat.succ_eq_add_one, Nat.reduceLeDiff, g_parts_ok]
      show liftO s (some ((parts f).map D.int)) = _
      have : (parts f).map D.int = (List.range ps.length).map fun i => D.int ((parts f).getD i 0) := by
        rw [← hp]
        cases f <;> rfl
      rw [this]
      rfl
    rw [ev_lc (l := List.range ps.length) (g := fun i => am (ps.getD i (.nm 0))) it (by rw [List.length_range]; omega) fun i hi => ⟨_, rfl, .v, nofun, ?_⟩]
    · have : (List.range ps.length).map (fun i => am (ps.getD i (.nm 0))) = ps.map am := by
        refine List.ext_getElem (by simp) fun i h1 h2 => ?_
        simp at h1 h2
        simp [h2]
      rw [this]
    · have hi := List.mem_range.mp hi
      have hm : ps.getD i (.nm 0) ∈ ps := by
        rw [List.getD_eq_getElem?_getD, List.getElem?_eq_getElem hi]
        exact List.getElem_mem hi
      simp only [wipeR, fnR, runs, run, ev, evA, evT, evI, bindq_ok, ob_ok, sq_nx, sq_rt, onO_some, liftO_some, kd_some, dat_v, dat_t, tru_bl, intOf_int, noExq, stk_v, stk_t, stk_o, stow_tt, stow_fv, stow_ft, eqD_int, cmp_ne, cmp_eq, cmp_gt, cmp_ge, cmp_lt, cmp_le, cmp_in, cmp_notin, cmp_is, cmp_isnot, bin_add, bin_sub, b1_abs, ix0, ix1, items_lst, items_row, put, List.map_cons, List.map_nil, List.cons_append, List.nil_append, List.append_nil, List.length_cons, List.length_nil, List.replicate, List.getElem?_cons_zero, List.getElem?_cons_succ, List.getElem?_nil, List.set_cons_zero, List.set_cons_succ, List.set_nil, Nat.reduceAdd, Nat.reduceSub, Nat.reduceLT, Nat.reduceEqDiff, if_true, ite_true, if_false, ite_false, Option.map_some, Option.map_none, reduceIte, reduceCtorEq, Bool.false_eq_true, Nat.zero_add, Nat.add_zero, Nat.zero_lt_succ, Nat.zero_lt_one, Nat.lt_add_left_iff_pos, Nat.succ_eq_add_one, Nat.reduceLeDiff, hix i hi, hs _ hm]
  refine seq_asg e2 rfl rfl ?_
  have hlen : (ps.flatMap dm).length ≤ 1000 := by
    have b : ∀ p ∈ ps, (dm p).length ≤ 256 := fun p hp => Nat.le_trans (dm_len4 p (hd p hp)) (Nat.le_trans (Nat.pow_le_pow_right (by decide) (hd p hp)) (by decide))
    match ps, h2, b with
    | [], _, _ => simp
    | [a], _, b => have := b a (by simp); simp; omega
    | [a, c], _, b =>
      have := b a (by simp)
      have := b c (by simp)
      simp
      omega
  have e3 : ev (S := List Int) (.lc2 (.seq (.var 2)) (.cons (.nm 7) (.cons (.nm 8) .nil)) (.seq (.var 8)) (.nm 9) (.var 9) [7, 8, 9] [9]) [.va f.D, .va (.str w), .va (.lst (ps.map am)), .no, .no, .no, .no, .no, .no, .no, .no] s = .ok (.t, rows (ps.flatMap dm)) s :=
    ev_lc2q (l := ps) (e := am) (m := dm) (e1 := row) (g := row) (by simp only [fnR, runs, run, ev, evA, evT, evI, bindq_ok, ob_ok, sq_nx, sq_rt, onO_some, liftO_some, kd_some, dat_v, dat_t, tru_bl, intOf_int, noExq, stk_v, stk_t, stk_o, stow_tt, stow_fv, stow_ft, eqD_int, cmp_ne, cmp_eq, cmp_gt, cmp_ge, cmp_lt, cmp_le, cmp_in, cmp_notin, cmp_is, cmp_isnot, bin_add, bin_sub, b1_abs, ix0, ix1, items_lst, items_row, put, List.map_cons, List.map_nil, List.cons_append, List.nil_append, List.append_nil, List.length_cons, List.length_nil, List.replicate, List.getElem?_cons_zero, List.getElem?_cons_succ, List.getElem?_nil, List.set_cons_zero, List.set_cons_succ, List.set_nil, Nat.reduceAdd, Nat.reduceSub, Nat.reduceLT, Nat.reduceEqDiff, if_true, ite_true, if_false, ite_false, Option.map_some, Option.map_none, reduceIte, reduceCtorEq, Bool.false_eq_true, Nat.zero_add, Nat.add_zero, Nat.zero_lt_succ, Nat.zero_lt_one, Nat.lt_add_left_iff_pos, Nat.succ_eq_add_one, Nat.reduceLeDiff]) (by omega) (by omega) fun p hp => ⟨_, rfl, by rfl, fun b hb => ⟨_, rfl, .v, nofun, by rfl⟩⟩
  refine seq_asg e3 rfl rfl ?_
  refine seq_asg (x := (.v, row (ex (ps.getD 0 (.nm 0))))) ?_ rfl rfl k
  match ps, h1 with
  | a :: l, _ =>
    have i0 : ixD (.lst (am a :: l.map am)) (.int 0) = some (am a) := by
      show atI (am a :: l.map am) ((0 : Nat) : Int) = _
      exact atI_nat rfl
    have i1 : ixD (am a) (.int 0) = some (row (ex a)) := rfl
    simp only [fnR, runs, run, ev, evA, evT, evI, bindq_ok, ob_ok, sq_nx, sq_rt, onO_some, liftO_some, kd_some, dat_v, dat_t, tru_bl, intOf_int, noExq, stk_v, stk_t, stk_o, stow_tt, stow_fv, stow_ft, eqD_int, cmp_ne, cmp_eq, cmp_gt, cmp_ge, cmp_lt, cmp_le, cmp_in, cmp_notin, cmp_is, cmp_isnot, bin_add, bin_sub, b1_abs, ix0, ix1, items_lst, items_row, put, List.map_cons, List.map_nil, List.cons_append, List.nil_append, List.append_nil, List.length_cons, List.length_nil, List.replicate, List.getElem?_cons_zero, List.getElem?_cons_succ, List.getElem?_nil, List.set_cons_zero, List.set_cons_succ, List.set_nil, Nat.reduceAdd, Nat.reduceSub, Nat.reduceLT, Nat.reduceEqDiff, if_true, ite_true, if_false, ite_false, Option.map_some, Option.map_none, reduceIte, reduceCtorEq, Bool.false_eq_true, Nat.zero_add, Nat.add_zero, Nat.zero_lt_succ, Nat.zero_lt_one, Nat.lt_add_left_iff_pos, Nat.succ_eq_add_one, Nat.reduceLeDiff, i0, i1, List.getD_cons_zero]
end Mf
set_option Elab.async false
set_option linter.all false
set_option maxRecDepth 100000
set_option maxHeartbeats 1000000
namespace Mf
open PySem L2
theorem bx4 {d : Nat} (h : d ≤ 4) : bx d ≤ 92 := bx_mono h
theorem asked_ok (s : List Int) : ∀ (n : Nat) (f : Fm), f.ok → f.dep ≤ n → f.dep ≤ 4 → g_asked_by n [f.D] s = .ok (am f) s
  | 0, f, _, h, _ => by have := f.dep_pos; omega
  | n + 1, .nm i, hk, _, _ => by
    have hi : i < 6 := hk
    refine fnR_rt ?_
    show runs (c_asked_by _) [.va (Fm.nm i).D, .no, .no, .no, .no, .no, .no, .no, .no, .no, .no] s = _
    unfold c_asked_by
    refine seq_asg (x := (.v, .str "name")) (ρ' := [.va (Fm.nm i).D, .va (.str "name"), .no, .no, .no, .no, .no, .no, .no, .no, .no]) (by rfl) rfl rfl ?_
    refine seq_ift (k3 := .v) (by kernel_rfl) ?_
    have e : ev (S := List Int) (.lc (.seq (.glb "NAMES" d_NAMES)) (.nm 10) .nil (.tup (.cons (.b1 .int (.cmp .eq (.var 10) (.ix (.var 0) (.con (.int 1))))) (.cons (.con (.int 1)) .nil))) [10]) [.va (Fm.nm i).D, .va (.str "name"), .no, .no, .no, .no, .no, .no, .no, .no, .no] s = .ok (.t, .lst ((ex (.nm i)).map F)) s := by
      rw [ev_lc (l := List.range 6) (e := fun j => .str (nm j)) (g := fun j => F (if j = i then 1 else 0)) (by simp only [fnR, runs, run, ev, evA, evT, evI, bindq_ok, ob_ok, sq_nx, sq_rt, onO_some, liftO_some, kd_some, dat_v, dat_t, tru_bl, intOf_int, noExq, stk_v, stk_t, stk_o, stow_tt, stow_fv, stow_ft, eqD_int, cmp_ne, cmp_eq, cmp_gt, cmp_ge, cmp_lt, cmp_le, cmp_in, cmp_notin, cmp_is, cmp_isnot, bin_add, bin_sub, b1_abs, ix0, ix1, items_lst, items_row, put, List.map_cons, List.map_nil, List.cons_append, List.nil_append, List.append_nil, List.length_cons, List.length_nil, List.replicate, List.getElem?_cons_zero, List.getElem?_cons_succ, List.getElem?_nil, List.set_cons_zero, List.set_cons_succ, List.set_nil, Nat.reduceAdd, Nat.reduceSub, Nat.reduceLT, Nat.reduceEqDiff, if_true, ite_true, if_false, ite_false, Option.map_some, Option.map_none, reduceIte, reduceCtorEq, Bool.false_eq_true, Nat.zero_add, Nat.add_zero, Nat.zero_lt_succ, Nat.zero_lt_one, Nat.lt_add_left_iff_pos, Nat.succ_eq_add_one, Nat.reduceLeDiff, d_NAMES, items_names]) (by decide) fun j hj => ⟨_, rfl, .v, nofun, ?_⟩]
      · show _ = Res.ok (K3.t, D.lst (((List.range 6).map fun j => if j = i then (1 : Rat) else 0).map F)) s
        rw [List.map_map]
        rfl
      · have i1 : ixD (Fm.nm i).D (.int 1) = some (.str (nm i)) := rfl
        simp only [wipeR, fnR, runs, run, ev, evA, evT, evI, bindq_ok, ob_ok, sq_nx, sq_rt, onO_some, liftO_some, kd_some, dat_v, dat_t, tru_bl, intOf_int, noExq, stk_v, stk_t, stk_o, stow_tt, stow_fv, stow_ft, eqD_int, cmp_ne, cmp_eq, cmp_gt, cmp_ge, cmp_lt, cmp_le, cmp_in, cmp_notin, cmp_is, cmp_isnot, bin_add, bin_sub, b1_abs, ix0, ix1, items_lst, items_row, put, List.map_cons, List.map_nil, List.cons_append, List.nil_append, List.append_nil, List.length_cons, List.length_nil, List.replicate, List.getElem?_cons_zero, List.getElem?_cons_succ, List.getElem?_nil, List.set_cons_zero, List.set_cons_succ, List.set_nil, Nat.reduceAdd, Nat.reduceSub, Nat.reduceLT, Nat.reduceEqDiff, if_true, ite_true, if_false, ite_false, Option.map_some, Option.map_none, reduceIte, reduceCtorEq, Bool.false_eq_true, Nat.zero_add, Nat.add_zero, Nat.zero_lt_succ, Nat.zero_lt_one, Nat.lt_add_left_iff_pos, Nat.succ_eq_add_one, Nat.reduceLeDiff, i1, eq_nm (List.mem_range.mp hj) hi, b1D, lenOk_of (show 2 ≤ 1000000 by decide)]
        by_cases h : j = i
        · simp only [h, decide_true, if_true]; rfl
        · simp only [h, decide_false, Bool.false_eq_true, if_false]; rfl
    refine seq_ret (k := .v) (d := am (.nm i)) (by
      rw [ev, evA, ev, e]
      rfl) nofun
  | n + 1, .nu k, _, _, _ => by kernel_rfl
  | n + 1, .pw p k, hk, hn, hd => by
    have hd' : p.dep + 1 ≤ 4 := hd
    have hn' : p.dep + 1 ≤ n + 1 := hn
    have ih := asked_ok s n p hk.1 (by omega) (by omega)
    have hb := ex_bds p hk.1
    have h4 := bx4 (show p.dep ≤ 4 by omega)
    refine fnR_rt ?_
    show runs (c_asked_by _) [.va (Fm.pw p k).D, .no, .no, .no, .no, .no, .no, .no, .no, .no, .no] s = _
    unfold c_asked_by
    refine seq_asg (x := (.v, .str "power")) (ρ' := [.va (Fm.pw p k).D, .va (.str "power"), .no, .no, .no, .no, .no, .no, .no, .no, .no]) (by rfl) rfl rfl ?_
    refine seq_iff (k3 := .v) (by kernel_rfl) ?_
    refine seq_iff (k3 := .v) (by kernel_rfl) ?_
    refine asked_mid (ps := [p]) s (fun q hq => by rw [List.mem_singleton.mp hq]; exact ih) rfl (fun i hi => by match i, hi with | 0, _ => rfl) (fun q hq => by rw [List.mem_singleton.mp hq]; omega) (by simp) nofun ?_
    refine seq_iff (k3 := .v) (by kernel_rfl) ?_
    refine seq_iff (k3 := .v) (by kernel_rfl) ?_
    refine seq_iff (k3 := .v) (by kernel_rfl) ?_
    refine seq_iff (k3 := .v) (by kernel_rfl) ?_
    refine seq_asg (x := (.v, F (k : Rat))) (by kernel_rfl) rfl rfl ?_
    have e : ev (S := List Int) (.lc (.seq (.var 4)) (.nm 6) .nil (.call "times" 2 g_times (.cons (.var 6) (.cons (.var 5) .nil))) [6]) [.va (Fm.pw p k).D, .va (.str "power"), .va (.lst ([p].map am)), .va (rows ([p].flatMap dm)), .va (row (ex p)), .va (F (k : Rat)), .no, .no, .no, .no, .no] s = .ok (.t, .lst ((ex (.pw p k)).map F)) s := by
      rw [ev_lc (l := ex p) (e := F) (g := fun x => F (x * (k : Rat))) (by simp only [fnR, runs, run, ev, evA, evT, evI, bindq_ok, ob_ok, sq_nx, sq_rt, onO_some, liftO_some, kd_some, dat_v, dat_t, tru_bl, intOf_int, noExq, stk_v, stk_t, stk_o, stow_tt, stow_fv, stow_ft, eqD_int, cmp_ne, cmp_eq, cmp_gt, cmp_ge, cmp_lt, cmp_le, cmp_in, cmp_notin, cmp_is, cmp_isnot, bin_add, bin_sub, b1_abs, ix0, ix1, items_lst, items_row, put, List.map_cons, List.map_nil, List.cons_append, List.nil_append, List.append_nil, List.length_cons, List.length_nil, List.replicate, List.getElem?_cons_zero, List.getElem?_cons_succ, List.getElem?_nil, List.set_cons_zero, List.set_cons_succ, List.set_nil, Nat.reduceAdd, Nat.reduceSub, Nat.reduceLT, Nat.reduceEqDiff, if_true, ite_true, if_false, ite_false, Option.map_some, Option.map_none, reduceIte, reduceCtorEq, Bool.false_eq_true, Nat.zero_add, Nat.add_zero, Nat.zero_lt_succ, Nat.zero_lt_one, Nat.lt_add_left_iff_pos, Nat.succ_eq_add_one, Nat.reduceLeDiff]) (by rw [ex_len]; decide) fun x hx => ⟨_, rfl, .v, nofun, by simp only [wipeR, fnR, runs, run, ev, evA, evT, evI, bindq_ok, ob_ok, sq_nx, sq_rt, onO_some, liftO_some, kd_some, dat_v, dat_t, tru_bl, intOf_int, noExq, stk_v, stk_t, stk_o, stow_tt, stow_fv, stow_ft, eqD_int, cmp_ne, cmp_eq, cmp_gt, cmp_ge, cmp_lt, cmp_le, cmp_in, cmp_notin, cmp_is, cmp_isnot, bin_add, bin_sub, b1_abs, ix0, ix1, items_lst, items_row, put, List.map_cons, List.map_nil, List.cons_append, List.nil_append, List.append_nil, List.length_cons, List.length_nil, List.replicate, List.getElem?_cons_zero, List.getElem?_cons_succ, List.getElem?_nil, List.set_cons_zero, List.set_cons_succ, List.set_nil, Nat.reduceAdd, Nat.reduceSub, Nat.reduceLT, Nat.reduceEqDiff, if_true, ite_true, if_false, ite_false, Option.map_some, Option.map_none, reduceIte, reduceCtorEq, Bool.false_eq_true, Nat.zero_add, Nat.add_zero, Nat.zero_lt_succ, Nat.zero_lt_one, Nat.lt_add_left_iff_pos, Nat.succ_eq_add_one, Nat.reduceLeDiff, g_times_ok (hb x hx) (bd_int hk.2) (by omega)]⟩]
      show _ = Res.ok (K3.t, D.lst (((ex p).map (· * (k : Rat))).map F)) s
      rw [List.map_map]
      rfl
    refine seq_ret (k := .v) ?_ nofun
    rw [ev, evA, ev]
    show ((Res.bind (ev _ [.va (Fm.pw p k).D, .va (.str "power"), .va (.lst ([p].map am)), .va (rows ([p].flatMap dm)), .va (row (ex p)), .va (F (k : Rat)), .no, .no, .no, .no, .no] s) _).bind _).bind _ = _
    rw [e]
    show Res.ok (K3.v, D.tup [row (ex (.pw p k)), rows ([p].flatMap dm)]) s = _
    simp [am, dm]
  | n + 1, .rt p, hk, hn, hd => by
    have hd' : p.dep + 1 ≤ 4 := hd
    have hn' : p.dep + 1 ≤ n + 1 := hn
    have ih := asked_ok s n p hk (by omega) (by omega)
    have hb := ex_bds p hk
    have h4 := bx4 (show p.dep ≤ 4 by omega)
    refine fnR_rt ?_
    show runs (c_asked_by _) [.va (Fm.rt p).D, .no, .no, .no, .no, .no, .no, .no, .no, .no, .no] s = _
    unfold c_asked_by
    refine seq_asg (x := (.v, .str "root")) (ρ' := [.va (Fm.rt p).D, .va (.str "root"), .no, .no, .no, .no, .no, .no, .no, .no, .no]) (by rfl) rfl rfl ?_
    refine seq_iff (k3 := .v) (by kernel_rfl) ?_
    refine seq_iff (k3 := .v) (by kernel_rfl) ?_
    refine asked_mid (ps := [p]) s (fun q hq => by rw [List.mem_singleton.mp hq]; exact ih) rfl (fun i hi => by match i, hi with | 0, _ => rfl) (fun q hq => by rw [List.mem_singleton.mp hq]; omega) (by simp) nofun ?_
    refine seq_iff (k3 := .v) (by kernel_rfl) ?_
    refine seq_iff (k3 := .v) (by kernel_rfl) ?_
    refine seq_iff (k3 := .v) (by kernel_rfl) ?_
    refine seq_iff (k3 := .v) (by kernel_rfl) ?_
    refine seq_asg (x := (.v, F (Rat.divInt 1 2))) (by kernel_rfl) rfl rfl ?_
    have e : ev (S := List Int) (.lc (.seq (.var 4)) (.nm 6) .nil (.call "times" 2 g_times (.cons (.var 6) (.cons (.var 5) .nil))) [6]) [.va (Fm.rt p).D, .va (.str "root"), .va (.lst ([p].map am)), .va (rows ([p].flatMap dm)), .va (row (ex p)), .va (F (Rat.divInt 1 2)), .no, .no, .no, .no, .no] s = .ok (.t, .lst ((ex (.rt p)).map F)) s := by
      rw [ev_lc (l := ex p) (e := F) (g := fun x => F (x * Rat.divInt 1 2)) (by simp only [fnR, runs, run, ev, evA, evT, evI, bindq_ok, ob_ok, sq_nx, sq_rt, onO_some, liftO_some, kd_some, dat_v, dat_t, tru_bl, intOf_int, noExq, stk_v, stk_t, stk_o, stow_tt, stow_fv, stow_ft, eqD_int, cmp_ne, cmp_eq, cmp_gt, cmp_ge, cmp_lt, cmp_le, cmp_in, cmp_notin, cmp_is, cmp_isnot, bin_add, bin_sub, b1_abs, ix0, ix1, items_lst, items_row, put, List.map_cons, List.map_nil, List.cons_append, List.nil_append, List.append_nil, List.length_cons, List.length_nil, List.replicate, List.getElem?_cons_zero, List.getElem?_cons_succ, List.getElem?_nil, List.set_cons_zero, List.set_cons_succ, List.set_nil, Nat.reduceAdd, Nat.reduceSub, Nat.reduceLT, Nat.reduceEqDiff, if_true, ite_true, if_false, ite_false, Option.map_some, Option.map_none, reduceIte, reduceCtorEq, Bool.false_eq_true, Nat.zero_add, Nat.add_zero, Nat.zero_lt_succ, Nat.zero_lt_one, Nat.lt_add_left_iff_pos, Nat.succ_eq_add_one, Nat.reduceLeDiff]) (by rw [ex_len]; decide) fun x hx => ⟨_, rfl, .v, nofun, by simp only [wipeR, fnR, runs, run, ev, evA, evT, evI, bindq_ok, ob_ok, sq_nx, sq_rt, onO_some, liftO_some, kd_some, dat_v, dat_t, tru_bl, intOf_int, noExq, stk_v, stk_t, stk_o, stow_tt, stow_fv, stow_ft, eqD_int, cmp_ne, cmp_eq, cmp_gt, cmp_ge, cmp_lt, cmp_le, cmp_in, cmp_notin, cmp_is, cmp_isnot, bin_add, bin_sub, b1_abs, ix0, ix1, items_lst, items_row, put, List.map_cons, List.map_nil, List.cons_append, List.nil_append, List.append_nil, List.length_cons, List.length_nil, List.replicate, List.getElem?_cons_zero, List.getElem?_cons_succ, List.getElem?_nil, List.set_cons_zero, List.set_cons_succ, List.set_nil, Nat.reduceAdd, Nat.reduceSub, Nat.reduceLT, Nat.reduceEqDiff, if_true, ite_true, if_false, ite_false, Option.map_some, Option.map_none, reduceIte, reduceCtorEq, Bool.false_eq_true, Nat.zero_add, Nat.add_zero, Nat.zero_lt_succ, Nat.zero_lt_one, Nat.lt_add_left_iff_pos, Nat.succ_eq_add_one, Nat.reduceLeDiff, g_times_ok (hb x hx) bd_half (by omega)]⟩]
      show _ = Res.ok (K3.t, D.lst (((ex p).map (· * Rat.divInt 1 2)).map F)) s
      rw [List.map_map]
      rfl
    refine seq_ret (k := .v) ?_ nofun
    rw [ev, evA, ev]
    show ((Res.bind (ev _ [.va (Fm.rt p).D, .va (.str "root"), .va (.lst ([p].map am)), .va (rows ([p].flatMap dm)), .va (row (ex p)), .va (F (Rat.divInt 1 2)), .no, .no, .no, .no, .no] s) _).bind _).bind _ = _
    rw [e]
    show Res.ok (K3.v, D.tup [row (ex (.rt p)), rows ([p].flatMap dm)]) s = _
    simp [am, dm]
  | n + 1, .wv p, hk, hn, hd => by
    have hd' : p.dep + 1 ≤ 4 := hd
    have hn' : p.dep + 1 ≤ n + 1 := hn
    have ih := asked_ok s n p hk (by omega) (by omega)
    refine fnR_rt ?_
    show runs (c_asked_by _) [.va (Fm.wv p).D, .no, .no, .no, .no, .no, .no, .no, .no, .no, .no] s = _
    unfold c_asked_by
    refine seq_asg (x := (.v, .str "wave")) (ρ' := [.va (Fm.wv p).D, .va (.str "wave"), .no, .no, .no, .no, .no, .no, .no, .no, .no]) (by rfl) rfl rfl ?_
    refine seq_iff (k3 := .v) (by kernel_rfl) ?_
    refine seq_iff (k3 := .v) (by kernel_rfl) ?_
    refine asked_mid (ps := [p]) s (fun q hq => by rw [List.mem_singleton.mp hq]; exact ih) rfl (fun i hi => by match i, hi with | 0, _ => rfl) (fun q hq => by rw [List.mem_singleton.mp hq]; omega) (by simp) nofun ?_
    refine seq_iff (k3 := .v) (by kernel_rfl) ?_
    refine seq_iff (k3 := .v) (by kernel_rfl) ?_
    refine seq_iff (k3 := .v) (by kernel_rfl) ?_
    have hl := dm_len4 p (by omega)
    have h256 : 4 ^ p.dep ≤ 256 := Nat.le_trans (Nat.pow_le_pow_right (by decide) (show p.dep ≤ 4 by omega)) (by decide)
    have hb : binD .add (rows ([p].flatMap dm)) (.lst [row (ex p)]) = some (.t, rows (dm p ++ [ex p])) := by
      have e : [p].flatMap dm = dm p := by simp
      rw [e]
      unfold rows
      rw [List.map_append]
      exact if_pos (lenOk_of (by rw [List.length_map]; show (dm p).length + 1 ≤ 1000000; omega))
    refine seq_ift (k3 := .v) (by kernel_rfl) ?_
    refine seq_ret (k := .v) (d := am (.wv p)) (by
      simp only [fnR, runs, run, ev, evA, evT, evI, bindq_ok, ob_ok, sq_nx, sq_rt, onO_some, liftO_some, kd_some, dat_v, dat_t, tru_bl, intOf_int, noExq, stk_v, stk_t, stk_o, stow_tt, stow_fv, stow_ft, eqD_int, cmp_ne, cmp_eq, cmp_gt, cmp_ge, cmp_lt, cmp_le, cmp_in, cmp_notin, cmp_is, cmp_isnot, bin_add, bin_sub, b1_abs, ix0, ix1, items_lst, items_row, put, List.map_cons, List.map_nil, List.cons_append, List.nil_append, List.append_nil, List.length_cons, List.length_nil, List.replicate, List.getElem?_cons_zero, List.getElem?_cons_succ, List.getElem?_nil, List.set_cons_zero, List.set_cons_succ, List.set_nil, Nat.reduceAdd, Nat.reduceSub, Nat.reduceLT, Nat.reduceEqDiff, if_true, ite_true, if_false, ite_false, Option.map_some, Option.map_none, reduceIte, reduceCtorEq, Bool.false_eq_true, Nat.zero_add, Nat.add_zero, Nat.zero_lt_succ, Nat.zero_lt_one, Nat.lt_add_left_iff_pos, Nat.succ_eq_add_one, Nat.reduceLeDiff, empty_F, lenOk_of (show 1 ≤ 1000000 by decide), lenOk_of (show 2 ≤ 1000000 by decide), List.getD_cons_zero, hb]
      rfl) nofun
  | n + 1, .bi o p q, hk, hn, hd => by
    have hd' : max p.dep q.dep + 1 ≤ 4 := hd
    have hn' : max p.dep q.dep + 1 ≤ n + 1 := hn
    have ihp := asked_ok s n p hk.1 (by omega) (by omega)
    have ihq := asked_ok s n q hk.2 (by omega) (by omega)
    have bp := (ex_bds p hk.1).mono (bx4 (show p.dep ≤ 4 by omega))
    have bq := (ex_bds q hk.2).mono (bx4 (show q.dep ≤ 4 by omega))
    have a1 := g_added_ok bp bq (show bd 1 1 from ⟨by decide, by decide⟩) (by decide) (by rw [ex_len]; decide) s
    have a2 := g_added_ok bp bq bd_neg1 (by decide) (by rw [ex_len]; decide) s
    have i0 : ixD (.lst [am p, am q]) (.int 1) = some (am q) := rfl
    have i1 : ixD (am q) (.int 0) = some (row (ex q)) := rfl
    have hl := dm_len4 p (by omega)
    have hl2 := dm_len4 q (by omega)
    have h256 : ∀ d ≤ 4, 4 ^ d ≤ 256 := fun d h => Nat.le_trans (Nat.pow_le_pow_right (by decide) h) (by decide)
    have h3 := h256 p.dep (by omega)
    have h5 := h256 q.dep (by omega)
    have ef : [p, q].flatMap dm = dm p ++ dm q := by simp
    have hb : binD .add (rows (dm p ++ dm q)) (.lst [row (radd (ex p) (ex q) (-1))]) = some (.t, rows (dm p ++ dm q ++ [radd (ex p) (ex q) (-1)])) := by
      unfold rows
      rw [List.map_append (l₁ := dm p ++ dm q)]
      exact if_pos (lenOk_of (by rw [List.length_map, List.length_append]; show (dm p).length + (dm q).length + 1 ≤ 1000000; omega))
    refine fnR_rt ?_
    show runs (c_asked_by _) [.va (Fm.bi o p q).D, .no, .no, .no, .no, .no, .no, .no, .no, .no, .no] s = _
    unfold c_asked_by
    refine seq_asg (x := (.v, .str o.w)) (ρ' := [.va (Fm.bi o p q).D, .va (.str o.w), .no, .no, .no, .no, .no, .no, .no, .no, .no]) (by rfl) rfl rfl ?_
    refine seq_iff (k3 := .v) (by cases o <;> kernel_rfl) ?_
    refine seq_iff (k3 := .v) (by cases o <;> kernel_rfl) ?_
    refine asked_mid (ps := [p, q]) s (fun r hr => by
      rcases List.mem_cons.mp hr with z | z
      · rw [z]; exact ihp
      · rw [List.mem_singleton.mp z]; exact ihq) rfl (fun i hi => by match i, hi with | 0, _ => rfl | 1, _ => rfl) (fun r hr => by
      rcases List.mem_cons.mp hr with z | z
      · rw [z]; omega
      · rw [List.mem_singleton.mp z]; omega) (by simp) nofun ?_
    rw [ef]
    cases o with
    | times =>
      refine seq_ift (k3 := .v) (by kernel_rfl) ?_
      refine seq_ret (k := .v) (d := am (.bi .times p q)) (by
        simp only [fnR, runs, run, ev, evA, evT, evI, bindq_ok, ob_ok, sq_nx, sq_rt, onO_some, liftO_some, kd_some, dat_v, dat_t, tru_bl, intOf_int, noExq, stk_v, stk_t, stk_o, stow_tt, stow_fv, stow_ft, eqD_int, cmp_ne, cmp_eq, cmp_gt, cmp_ge, cmp_lt, cmp_le, cmp_in, cmp_notin, cmp_is, cmp_isnot, bin_add, bin_sub, b1_abs, ix0, ix1, items_lst, items_row, put, List.map_cons, List.map_nil, List.cons_append, List.nil_append, List.append_nil, List.length_cons, List.length_nil, List.replicate, List.getElem?_cons_zero, List.getElem?_cons_succ, List.getElem?_nil, List.set_cons_zero, List.set_cons_succ, List.set_nil, Nat.reduceAdd, Nat.reduceSub, Nat.reduceLT, Nat.reduceEqDiff, if_true, ite_true, if_false, ite_false, Option.map_some, Option.map_none, reduceIte, reduceCtorEq, Bool.false_eq_true, Nat.zero_add, Nat.add_zero, Nat.zero_lt_succ, Nat.zero_lt_one, Nat.lt_add_left_iff_pos, Nat.succ_eq_add_one, Nat.reduceLeDiff, lenOk_of (show 2 ≤ 1000000 by decide), List.getD_cons_zero, i0, i1, one_F, a1]
        rfl) nofun
    | over =>
      refine seq_iff (k3 := .v) (by kernel_rfl) ?_
      refine seq_ift (k3 := .v) (by kernel_rfl) ?_
      refine seq_ret (k := .v) (d := am (.bi .over p q)) (by
        simp only [fnR, runs, run, ev, evA, evT, evI, bindq_ok, ob_ok, sq_nx, sq_rt, onO_some, liftO_some, kd_some, dat_v, dat_t, tru_bl, intOf_int, noExq, stk_v, stk_t, stk_o, stow_tt, stow_fv, stow_ft, eqD_int, cmp_ne, cmp_eq, cmp_gt, cmp_ge, cmp_lt, cmp_le, cmp_in, cmp_notin, cmp_is, cmp_isnot, bin_add, bin_sub, b1_abs, ix0, ix1, items_lst, items_row, put, List.map_cons, List.map_nil, List.cons_append, List.nil_append, List.append_nil, List.length_cons, List.length_nil, List.replicate, List.getElem?_cons_zero, List.getElem?_cons_succ, List.getElem?_nil, List.set_cons_zero, List.set_cons_succ, List.set_nil, Nat.reduceAdd, Nat.reduceSub, Nat.reduceLT, Nat.reduceEqDiff, if_true, ite_true, if_false, ite_false, Option.map_some, Option.map_none, reduceIte, reduceCtorEq, Bool.false_eq_true, Nat.zero_add, Nat.add_zero, Nat.zero_lt_succ, Nat.zero_lt_one, Nat.lt_add_left_iff_pos, Nat.succ_eq_add_one, Nat.reduceLeDiff, lenOk_of (show 2 ≤ 1000000 by decide), List.getD_cons_zero, i0, i1, F_neg1, a2]
        rfl) nofun
    | plus =>
      refine seq_iff (k3 := .v) (by kernel_rfl) ?_
      refine seq_iff (k3 := .v) (by kernel_rfl) ?_
      refine seq_ift (k3 := .v) (by kernel_rfl) ?_
      refine seq_ret (k := .v) (d := am (.bi .plus p q)) (by
        simp only [fnR, runs, run, ev, evA, evT, evI, bindq_ok, ob_ok, sq_nx, sq_rt, onO_some, liftO_some, kd_some, dat_v, dat_t, tru_bl, intOf_int, noExq, stk_v, stk_t, stk_o, stow_tt, stow_fv, stow_ft, eqD_int, cmp_ne, cmp_eq, cmp_gt, cmp_ge, cmp_lt, cmp_le, cmp_in, cmp_notin, cmp_is, cmp_isnot, bin_add, bin_sub, b1_abs, ix0, ix1, items_lst, items_row, put, List.map_cons, List.map_nil, List.cons_append, List.nil_append, List.append_nil, List.length_cons, List.length_nil, List.replicate, List.getElem?_cons_zero, List.getElem?_cons_succ, List.getElem?_nil, List.set_cons_zero, List.set_cons_succ, List.set_nil, Nat.reduceAdd, Nat.reduceSub, Nat.reduceLT, Nat.reduceEqDiff, if_true, ite_true, if_false, ite_false, Option.map_some, Option.map_none, reduceIte, reduceCtorEq, Bool.false_eq_true, Nat.zero_add, Nat.add_zero, Nat.zero_lt_succ, Nat.zero_lt_one, Nat.lt_add_left_iff_pos, Nat.succ_eq_add_one, Nat.reduceLeDiff, lenOk_of (show 1 ≤ 1000000 by decide), lenOk_of (show 2 ≤ 1000000 by decide), List.getD_cons_zero, i0, i1, F_neg1, a2, hb]
        rfl) nofun
    | minus =>
      refine seq_iff (k3 := .v) (by kernel_rfl) ?_
      refine seq_iff (k3 := .v) (by kernel_rfl) ?_
      refine seq_ift (k3 := .v) (by kernel_rfl) ?_
      refine seq_ret (k := .v) (d := am (.bi .minus p q)) (by
        simp only [fnR, runs, run, ev, evA, evT, evI, bindq_ok, ob_ok, sq_nx, sq_rt, onO_some, liftO_some, kd_some, dat_v, dat_t, tru_bl, intOf_int, noExq, stk_v, stk_t, stk_o, stow_tt, stow_fv, stow_ft, eqD_int, cmp_ne, cmp_eq, cmp_gt, cmp_ge, cmp_lt, cmp_le, cmp_in, cmp_notin, cmp_is, cmp_isnot, bin_add, bin_sub, b1_abs, ix0, ix1, items_lst, items_row, put, List.map_cons, List.map_nil, List.cons_append, List.nil_append, List.append_nil, List.length_cons, List.length_nil, List.replicate, List.getElem?_cons_zero, List.getElem?_cons_succ, List.getElem?_nil, List.set_cons_zero, List.set_cons_succ, List.set_nil, Nat.reduceAdd, Nat.reduceSub, Nat.reduceLT, Nat.reduceEqDiff, if_true, ite_true, if_false, ite_false, Option.map_some, Option.map_none, reduceIte, reduceCtorEq, Bool.false_eq_true, Nat.zero_add, Nat.add_zero, Nat.zero_lt_succ, Nat.zero_lt_one, Nat.lt_add_left_iff_pos, Nat.succ_eq_add_one, Nat.reduceLeDiff, lenOk_of (show 1 ≤ 1000000 by decide), lenOk_of (show 2 ≤ 1000000 by decide), List.getD_cons_zero, i0, i1, F_neg1, a2, hb]
        rfl) nofun
end Mf
set_option Elab.async false
set_option linter.all false
set_option maxRecDepth 100000
set_option maxHeartbeats 1000000
namespace Mf
open PySem L2
theorem cat_rows {a b : List (List Rat)} (h : a.length + b.length ≤ 1000000) : binD .add (rows a) (rows b) = some (.t, rows (a ++ b)) := by
  unfold rows
  rw [List.map_append]
  exact if_pos (lenOk_of (by rw [List.length_map, List.length_map]; exact h))
theorem dm_256 {f : Fm} (h : f.dep ≤ 4) : (dm f).length ≤ 256 := Nat.le_trans (dm_len4 f h) (Nat.le_trans (Nat.pow_le_pow_right (by decide) h) (by decide))
theorem stRows_len {p : Fm × Fm} (h : stOk p) : (stRows p).length ≤ 513 := by
  have h1 := dm_256 h.2.2.1
  have h2 := dm_256 h.2.2.2
  unfold stRows
  simp only [List.length_append, List.length_singleton]
  omega
theorem rows_turn {p : Fm × Fm} (h : stOk p) {acc : List (List Rat)} (ha : acc.length ≤ 100000) {a0 x4 x5 : SV} (s : List Int) :
    runs b_rows_of_0 [a0, .ow (rows acc), .va p.1.D, .va p.2.D, x4, x5] s = .nx [a0, .ow (rows (acc ++ stRows p)), .va p.1.D, .va p.2.D, .va (am p.1), .va (am p.2)] s := by
  have h1 := dm_256 h.2.2.1
  have h2 := dm_256 h.2.2.2
  have e1 := asked_ok s 6 p.1 h.1 (by have := h.2.2.1; omega) h.2.2.1
  have e2 := asked_ok s 6 p.2 h.2.1 (by have := h.2.2.2; omega) h.2.2.2
  have bp := (ex_bds p.1 h.1).mono (bx4 h.2.2.1)
  have bq := (ex_bds p.2 h.2.1).mono (bx4 h.2.2.2)
  have a2 := g_added_ok bp bq bd_neg1 (by decide) (by rw [ex_len]; decide) s
  have i0 : ∀ f : Fm, ixD (am f) (.int 0) = some (row (ex f)) := fun f => rfl
  have i1 : ∀ f : Fm, ixD (am f) (.int 1) = some (rows (dm f)) := fun f => rfl
  have c1 := cat_rows (a := dm p.1) (b := dm p.2) (by omega)
  have c2 : binD .add (rows (dm p.1 ++ dm p.2)) (.lst [row (radd (ex p.1) (ex p.2) (-1))]) = some (.t, rows (stRows p)) := cat_rows (a := dm p.1 ++ dm p.2) (b := [radd (ex p.1) (ex p.2) (-1)]) (by simp only [List.length_append, List.length_singleton]; omega)
  unfold b_rows_of_0
  refine seq_nx (ρ' := [a0, .ow (rows acc), .va p.1.D, .va p.2.D, .va (am p.1), .va (am p.2)]) (s' := s) (by simp only [fnR, runs, run, ev, evA, evT, evI, bindq_ok, ob_ok, sq_nx, sq_rt, onO_some, liftO_some, kd_some, dat_v, dat_t, tru_bl, intOf_int, noExq, stk_v, stk_t, stk_o, stow_tt, stow_fv, stow_ft, eqD_int, cmp_ne, cmp_eq, cmp_gt, cmp_ge, cmp_lt, cmp_le, cmp_in, cmp_notin, cmp_is, cmp_isnot, bin_add, bin_sub, b1_abs, ix0, ix1, items_lst, items_row, put, List.map_cons, List.map_nil, List.cons_append, List.nil_append, List.append_nil, List.length_cons, List.length_nil, List.replicate, List.getElem?_cons_zero, List.getElem?_cons_succ, List.getElem?_nil, List.set_cons_zero, List.set_cons_succ, List.set_nil, Nat.reduceAdd, Nat.reduceSub, Nat.reduceLT, Nat.reduceEqDiff, if_true, ite_true, if_false, ite_false, Option.map_some, Option.map_none, reduceIte, reduceCtorEq, Bool.false_eq_true, Nat.zero_add, Nat.add_zero, Nat.zero_lt_succ, Nat.zero_lt_one, Nat.lt_add_left_iff_pos, Nat.succ_eq_add_one, Nat.reduceLeDiff, e1, e2]) ?_
  rw [runs_cons, run]
  have eo : ownL [a0, .ow (rows acc), .va p.1.D, .va p.2.D, .va (am p.1), .va (am p.2)] 1 = some (acc.map row) := rfl
  have ee : ev (S := List Int) (.bin .add (.bin .add (.ix (.var 4) (.con (.int 1))) (.ix (.var 5) (.con (.int 1)))) (.lst (.cons (.call "added" 3 g_added (.cons (.ix (.var 4) (.con (.int 0))) (.cons (.ix (.var 5) (.con (.int 0))) (.cons (.tup (.cons (.neg (.con (.int 1))) (.cons (.con (.int 1)) .nil))) .nil)))) .nil))) [a0, .ow (rows acc), .va p.1.D, .va p.2.D, .va (am p.1), .va (am p.2)] s = .ok (.t, rows (stRows p)) s := by
    simp only [fnR, runs, run, ev, evA, evT, evI, bindq_ok, ob_ok, sq_nx, sq_rt, onO_some, liftO_some, kd_some, dat_v, dat_t, tru_bl, intOf_int, noExq, stk_v, stk_t, stk_o, stow_tt, stow_fv, stow_ft, eqD_int, cmp_ne, cmp_eq, cmp_gt, cmp_ge, cmp_lt, cmp_le, cmp_in, cmp_notin, cmp_is, cmp_isnot, bin_add, bin_sub, b1_abs, ix0, ix1, items_lst, items_row, put, List.map_cons, List.map_nil, List.cons_append, List.nil_append, List.append_nil, List.length_cons, List.length_nil, List.replicate, List.getElem?_cons_zero, List.getElem?_cons_succ, List.getElem?_nil, List.set_cons_zero, List.set_cons_succ, List.set_nil, Nat.reduceAdd, Nat.reduceSub, Nat.reduceLT, Nat.reduceEqDiff, if_true, ite_true, if_false, ite_false, Option.map_some, Option.map_none, reduceIte, reduceCtorEq, Bool.false_eq_true, Nat.zero_add, Nat.add_zero, Nat.zero_lt_succ, Nat.zero_lt_one, Nat.lt_add_left_iff_pos, Nat.succ_eq_add_one, Nat.reduceLeDiff, i0, i1, c1, lenOk_of (show 2 ≤ 1000000 by decide), lenOk_of (show 1 ≤ 1000000 by decide), F_neg1, a2, c2]
  rw [eo, onO_some, ee, ob_ok]
  have hl := stRows_len h
  have hlen : lenOk ((acc.map row).length + ((stRows p).map row).length) = true := lenOk_of (by rw [List.length_map, List.length_map]; omega)
  show ((if lenOk ((acc.map row).length + ((stRows p).map row).length) = true then _ else _ : Out (List Int)).sq _) = _
  rw [if_pos hlen]
  show Out.nx [a0, .ow (.lst (acc.map row ++ (stRows p).map row)), .va p.1.D, .va p.2.D, .va (am p.1), .va (am p.2)] s = _
  unfold rows
  rw [List.map_append]
theorem g_rows_of_ok {l : List (Fm × Fm)} (hl : l.length ≤ 100) (h : ∀ p ∈ l, stOk p) (s : List Int) : g_rows_of [stsD l] s = .ok (rows (stsRows l)) s := by
  refine fnR_rt ?_
  show runs c_rows_of [.va (stsD l), .no, .no, .no, .no, .no] s = _
  unfold c_rows_of
  refine seq_asg (x := (.t, rows [])) (ρ' := [.va (stsD l), .ow (rows []), .no, .no, .no, .no]) (by rfl) rfl rfl ?_
  obtain ⟨ρ', s', hf, rfl, acc, x2, x3, x4, x5, rfl, hacc, _⟩ := forR_ind (e := stD) (f := fun d ρ s => onO (asgT (.cons (.nm 2) (.cons (.nm 3) .nil)) d ρ) fun ρ' => runs b_rows_of_0 ρ' s)
    (P := fun (m : List (Fm × Fm)) ρ s' => s' = s ∧ ∃ (acc : List (List Rat)) (x2 x3 x4 x5 : SV), ρ = [.va (stsD l), .ow (rows acc), x2, x3, x4, x5] ∧ acc ++ stsRows m = stsRows l ∧ (∀ p ∈ m, stOk p) ∧ m.length ≤ 100 ∧ acc.length ≤ 513 * (100 - m.length))
    (fun p m ρ s1 hP => by
      obtain ⟨rfl, acc, x2, x3, x4, x5, rfl, hacc, hm, hlm, hla⟩ := hP
      have hp := hm p List.mem_cons_self
      have := stRows_len hp
      simp only [List.length_cons] at hlm hla
      refine ⟨_, _, rows_turn hp (by omega) s1, rfl, acc ++ stRows p, _, _, _, _, rfl, ?_, fun q hq => hm q (List.mem_cons_of_mem _ hq), by omega, by rw [List.length_append]; omega⟩
      rw [← hacc]
      simp [stsRows]) l _ s ⟨rfl, [], .no, .no, .no, .no, rfl, rfl, h, hl, by simp⟩
  have hacc : acc = stsRows l := by simpa [stsRows] using hacc
  subst hacc
  refine seq_nx (run_forq (s1 := s') (ds := l.map stD) (by rfl) hf) ?_
  rfl
end Mf
set_option Elab.async false
set_option linter.all false
set_option maxRecDepth 100000
set_option maxHeartbeats 1000000
namespace Mf
open PySem L2
theorem lcm_fdiv (a b : Nat) (hb : 0 < b) : ((a : Int) * (b : Int)).fdiv ((Int.gcd (a : Int) (b : Int) : Nat) : Int) = (Nat.lcm a b : Nat) := by
  rw [Int.fdiv_eq_ediv_of_nonneg _ (by omega)]
  show ((a : Int) * (b : Int)) / ((Nat.gcd a b : Nat) : Int) = _
  unfold Nat.lcm
  push_cast
  rfl
theorem whole_turn1 {m E : Nat} {x : Rat} (hm : m < 2 ^ E) (hx : x.den < 2 ^ E) (hE : E < 4000) {a0 a3 a4 a5 : SV} (s : List Int) : runs b_whole_0 [a0, .va (.int (m : Int)), .va (F x), a3, a4, a5] s = .nx [a0, .va (.int (Nat.lcm m x.den : Nat)), .va (F x), a3, a4, a5] s := by
  have hd : 0 < x.den := Nat.pos_of_ne_zero x.den_nz
  have m1 : mulOk (m : Int) (x.den : Int) = true := mulOk_of (a := E) (b := E) (by simpa using hm) (by simpa using hx) (by omega)
  have hg : 0 < Int.gcd (m : Int) (x.den : Int) := Int.gcd_pos_of_ne_zero_right _ (den_ne x)
  have hle : Int.gcd (m : Int) (x.den : Int) ≤ x.den := Nat.le_of_dvd hd (Nat.gcd_dvd_right _ _)
  have d1 : divOk ((Int.gcd (m : Int) (x.den : Int) : Nat) : Int) = true := divOk_of (b := E) (by omega) (by rw [Int.natAbs_natCast]; omega) (by omega)
  unfold b_whole_0
  simp only [fnR, runs, run, ev, evA, evT, evI, bindq_ok, ob_ok, sq_nx, sq_rt, onO_some, liftO_some, kd_some, dat_v, dat_t, tru_bl, intOf_int, noExq, stk_v, stk_t, stk_o, stow_tt, stow_fv, stow_ft, eqD_int, cmp_ne, cmp_eq, cmp_gt, cmp_ge, cmp_lt, cmp_le, cmp_in, cmp_notin, cmp_is, cmp_isnot, bin_add, bin_sub, b1_abs, ix0, ix1, items_lst, items_row, put, List.map_cons, List.map_nil, List.cons_append, List.nil_append, List.append_nil, List.length_cons, List.length_nil, List.replicate, List.getElem?_cons_zero, List.getElem?_cons_succ, List.getElem?_nil, List.set_cons_zero, List.set_cons_succ, List.set_nil, Nat.reduceAdd, Nat.reduceSub, Nat.reduceLT, Nat.reduceEqDiff, if_true, ite_true, if_false, ite_false, Option.map_some, Option.map_none, reduceIte, reduceCtorEq, Bool.false_eq_true, Nat.zero_add, Nat.add_zero, Nat.zero_lt_succ, Nat.zero_lt_one, Nat.lt_add_left_iff_pos, Nat.succ_eq_add_one, Nat.reduceLeDiff, ixF1, bin_mul m1, g_divisor_ok, bin_fdv d1, lcm_fdiv m x.den hd]
theorem g_whole_ok {B E W : Nat} {r : List Rat} (hr : RW B E W r) (hB : B + E < 4000) (hW : W ≤ 1000) {q0 : Nat} (h0 : r.getD q0 0 ≠ 0) (s : List Int) : g_whole [row r] s = .ok (.tup ((wholeQ r).map D.int)) s := by
  have hb : bds (B + E) r := hr.bds (by omega) (by omega)
  obtain ⟨R, d, d0, d1, d2, d3, rfl⟩ := hr
  generalize hrr : (R.map fun (x : Int) => (x : Rat) / (d : Rat)) = r at *
  have hden : ∀ x ∈ r, x.den ∣ d := fun x hx => by
    rw [← hrr] at hx
    obtain ⟨y, hy, rfl⟩ := List.mem_map.mp hx
    rw [rat_divInt, Rat.den_divInt, if_neg (by omega), Int.natAbs_natCast]
    exact Nat.div_dvd_of_dvd (by have := Int.gcd_dvd_left (d : Int) y; exact_mod_cast this)
  have hlen : r.length = W := by rw [← hrr, List.length_map, d2]
  have hE : ∀ m, m ∣ d → m < 2 ^ E := fun m hm => Nat.lt_of_le_of_lt (Nat.le_of_dvd d0 hm) d1
  have hL : lcmF 1 r ∣ d := lcmF_of r 1 (Nat.one_dvd _) hden
  have hLb := hE _ hL
  have hgp := gcd_pos h0
  refine fnR_rt ?_
  show runs c_whole [.va (row r), .no, .no, .no, .no, .no] s = _
  unfold c_whole
  refine seq_asg (x := (.v, .int 1)) (ρ' := [.va (row r), .va (.int ((1 : Nat) : Int)), .no, .no, .no, .no]) (by rfl) rfl rfl ?_
  obtain ⟨ρ', s', hf, rfl, m, x2, rfl, hm, _⟩ := forR_ind (e := F) (f := fun d ρ s => onO (asgT (.nm 2) d ρ) fun ρ' => runs b_whole_0 ρ' s)
    (P := fun (l : List Rat) ρ s' => s' = s ∧ ∃ (m : Nat) (x2 : SV), ρ = [.va (row r), .va (.int (m : Int)), x2, .no, .no, .no] ∧ lcmF m l = lcmF 1 r ∧ m ∣ d ∧ ∀ x ∈ l, x.den ∣ d)
    (fun x l ρ s1 hP => by
      obtain ⟨rfl, m, x2, rfl, hm, hmd, hl⟩ := hP
      have hx := hl x List.mem_cons_self
      exact ⟨_, _, whole_turn1 (hE m hmd) (hE _ hx) (by omega) s1, rfl, Nat.lcm m x.den, _, rfl, hm, Nat.lcm_dvd hmd hx, fun y hy => hl y (List.mem_cons_of_mem _ hy)⟩) r _ s ⟨rfl, 1, .no, rfl, rfl, Nat.one_dvd _, hden⟩
  have hm : m = lcmF 1 r := hm
  subst hm
  refine seq_nx (run_forq (s1 := s') (ds := r.map F) (by rfl) hf) ?_
  -- the numbers
  have e3 : ev (S := List Int) (.lc (.seq (.var 0)) (.nm 2) .nil (.bin .fdv (.bin .mul (.ix (.var 2) (.con (.int 0))) (.var 1)) (.ix (.var 2) (.con (.int 1)))) [2]) [.va (row r), .va (.int (lcmF 1 r : Nat)), x2, .no, .no, .no] s' = .ok (.t, .lst ((numsD r (lcmF 1 r)).map D.int)) s' := by
    rw [ev_lc (l := r) (e := F) (g := fun x => .int ((x.num * (lcmF 1 r : Int)).fdiv (x.den : Int))) (by simp only [fnR, runs, run, ev, evA, evT, evI, bindq_ok, ob_ok, sq_nx, sq_rt, onO_some, liftO_some, kd_some, dat_v, dat_t, tru_bl, intOf_int, noExq, stk_v, stk_t, stk_o, stow_tt, stow_fv, stow_ft, eqD_int, cmp_ne, cmp_eq, cmp_gt, cmp_ge, cmp_lt, cmp_le, cmp_in, cmp_notin, cmp_is, cmp_isnot, bin_add, bin_sub, b1_abs, ix0, ix1, items_lst, items_row, put, List.map_cons, List.map_nil, List.cons_append, List.nil_append, List.append_nil, List.length_cons, List.length_nil, List.replicate, List.getElem?_cons_zero, List.getElem?_cons_succ, List.getElem?_nil, List.set_cons_zero, List.set_cons_succ, List.set_nil, Nat.reduceAdd, Nat.reduceSub, Nat.reduceLT, Nat.reduceEqDiff, if_true, ite_true, if_false, ite_false, Option.map_some, Option.map_none, reduceIte, reduceCtorEq, Bool.false_eq_true, Nat.zero_add, Nat.add_zero, Nat.zero_lt_succ, Nat.zero_lt_one, Nat.lt_add_left_iff_pos, Nat.succ_eq_add_one, Nat.reduceLeDiff]) (by omega) fun x hx => ⟨_, rfl, .v, nofun, ?_⟩]
    · unfold numsD
      rw [List.map_map]
      rfl
    · have b1 := hb x hx
      have m1 : mulOk x.num ((lcmF 1 r : Nat) : Int) = true := mulOk_of b1.1 (b := E) (by simpa using hLb) (by omega)
      have v1 : divOk (x.den : Int) = true := divOk_of (den_ne x) b1.den (by omega)
      simp only [wipeR, fnR, runs, run, ev, evA, evT, evI, bindq_ok, ob_ok, sq_nx, sq_rt, onO_some, liftO_some, kd_some, dat_v, dat_t, tru_bl, intOf_int, noExq, stk_v, stk_t, stk_o, stow_tt, stow_fv, stow_ft, eqD_int, cmp_ne, cmp_eq, cmp_gt, cmp_ge, cmp_lt, cmp_le, cmp_in, cmp_notin, cmp_is, cmp_isnot, bin_add, bin_sub, b1_abs, ix0, ix1, items_lst, items_row, put, List.map_cons, List.map_nil, List.cons_append, List.nil_append, List.append_nil, List.length_cons, List.length_nil, List.replicate, List.getElem?_cons_zero, List.getElem?_cons_succ, List.getElem?_nil, List.set_cons_zero, List.set_cons_succ, List.set_nil, Nat.reduceAdd, Nat.reduceSub, Nat.reduceLT, Nat.reduceEqDiff, if_true, ite_true, if_false, ite_false, Option.map_some, Option.map_none, reduceIte, reduceCtorEq, Bool.false_eq_true, Nat.zero_add, Nat.add_zero, Nat.zero_lt_succ, Nat.zero_lt_one, Nat.lt_add_left_iff_pos, Nat.succ_eq_add_one, Nat.reduceLeDiff, ixF0, ixF1, bin_mul m1, bin_fdv v1]
  refine seq_asg e3 rfl (ρ' := [.va (row r), .va (.int (lcmF 1 r : Nat)), x2, .va (.lst ((numsD r (lcmF 1 r)).map D.int)), .no, .no]) rfl ?_
  refine seq_asg (x := (.v, .int 0)) (ρ' := [.va (row r), .va (.int (lcmF 1 r : Nat)), x2, .va (.lst ((numsD r (lcmF 1 r)).map D.int)), .va (.int ((0 : Nat) : Int)), .no]) (by rfl) rfl rfl ?_
  obtain ⟨ρ', s2, hf2, rfl, g, x5, rfl, hg⟩ := forR_ind (e := D.int) (f := fun d ρ s => onO (asgT (.nm 5) d ρ) fun ρ' => runs b_whole_1 ρ' s)
    (P := fun (l : List Int) ρ s2 => s2 = s' ∧ ∃ (g : Nat) (x5 : SV), ρ = [.va (row r), .va (.int (lcmF 1 r : Nat)), x2, .va (.lst ((numsD r (lcmF 1 r)).map D.int)), .va (.int (g : Int)), x5] ∧ gcdF g l = gcdF 0 (numsD r (lcmF 1 r)))
    (fun y l ρ s1 hP => by
      obtain ⟨rfl, g, x5, rfl, hg⟩ := hP
      refine ⟨_, _, ?_, rfl, Int.gcd (g : Int) y, .va (.int y), rfl, hg⟩
      show runs b_whole_1 [.va (row r), .va (.int (lcmF 1 r : Nat)), x2, .va (.lst ((numsD r (lcmF 1 r)).map D.int)), .va (.int (g : Int)), .va (.int y)] s1 = _
      unfold b_whole_1
      simp only [fnR, runs, run, ev, evA, evT, evI, bindq_ok, ob_ok, sq_nx, sq_rt, onO_some, liftO_some, kd_some, dat_v, dat_t, tru_bl, intOf_int, noExq, stk_v, stk_t, stk_o, stow_tt, stow_fv, stow_ft, eqD_int, cmp_ne, cmp_eq, cmp_gt, cmp_ge, cmp_lt, cmp_le, cmp_in, cmp_notin, cmp_is, cmp_isnot, bin_add, bin_sub, b1_abs, ix0, ix1, items_lst, items_row, put, List.map_cons, List.map_nil, List.cons_append, List.nil_append, List.append_nil, List.length_cons, List.length_nil, List.replicate, List.getElem?_cons_zero, List.getElem?_cons_succ, List.getElem?_nil, List.set_cons_zero, List.set_cons_succ, List.set_nil, Nat.reduceAdd, Nat.reduceSub, Nat.reduceLT, Nat.reduceEqDiff, if_true, ite_true, if_false, ite_false, Option.map_some, Option.map_none, reduceIte, reduceCtorEq, Bool.false_eq_true, Nat.zero_add, Nat.add_zero, Nat.zero_lt_succ, Nat.zero_lt_one, Nat.lt_add_left_iff_pos, Nat.succ_eq_add_one, Nat.reduceLeDiff, g_divisor_ok]) (numsD r (lcmF 1 r)) _ s' ⟨rfl, 0, .no, rfl, rfl⟩
  have hg : g = gcdF 0 (numsD r (lcmF 1 r)) := hg
  subst hg
  refine seq_nx (run_forq (s1 := s2) (ds := (numsD r (lcmF 1 r)).map D.int) (by rfl) hf2) ?_
  have hgb : gcdF 0 (numsD r (lcmF 1 r)) < 2 ^ (B + E + E) := by
    have hq : q0 < r.length := by
      rcases Nat.lt_or_ge q0 r.length with z | z
      · exact z
      · exact absurd (by rw [List.getD_eq_getElem?_getD, List.getElem?_eq_none z]; rfl) h0
    have hn : q0 < (numsD r (lcmF 1 r)).length := by unfold numsD; rw [List.length_map]; exact hq
    have hdv := ((gcdF_iff (d := gcdF 0 (numsD r (lcmF 1 r))) (numsD r (lcmF 1 r)) 0).mp (Nat.dvd_refl _)).2 _ (igetD_mem hn)
    have hne : (numsD r (lcmF 1 r)).getD q0 0 ≠ 0 := fun z => by
      have e := numsD_get (r := r) (q := q0)
      rw [z] at e
      have hm : (lcmF 1 r : Rat) ≠ 0 := by
        have := lcmF_pos r 1 (by decide)
        intro z
        have : lcmF 1 r = 0 := by exact_mod_cast z
        omega
      have e : (0 : Rat) = r.getD q0 0 * (lcmF 1 r : Rat) := e
      exact h0 (by grind)
    have h1 : gcdF 0 (numsD r (lcmF 1 r)) ≤ ((numsD r (lcmF 1 r)).getD q0 0).natAbs := Nat.le_of_dvd (Int.natAbs_pos.mpr hne) (by have := Int.natAbs_dvd_natAbs.mpr hdv; rwa [Int.natAbs_natCast] at this)
    refine Nat.lt_of_le_of_lt h1 ?_
    have hmem := igetD_mem hn
    obtain ⟨x, hx, e⟩ := List.mem_map.mp hmem
    rw [← e]
    have b1 := hb x hx
    rw [Int.fdiv_eq_ediv_of_nonneg _ (by omega)]
    refine Nat.lt_of_le_of_lt (Int.natAbs_ediv_le_natAbs _ _) ?_
    exact mul_lt b1.1 (by simpa using hLb)
  have dv : divOk ((gcdF 0 (numsD r (lcmF 1 r)) : Nat) : Int) = true := divOk_of (b := B + E + E) (by omega) (by rw [Int.natAbs_natCast]; exact hgb) (by omega)
  have nl : (numsD r (lcmF 1 r)).length ≤ 1000000 := by unfold numsD; rw [List.length_map]; omega
  refine seq_ret (k := .v) ?_ nofun
  rw [ev, ev_lc (l := numsD r (lcmF 1 r)) (e := D.int) (g := fun y => .int (y.fdiv (gcdF 0 (numsD r (lcmF 1 r)) : Nat))) (by simp only [fnR, runs, run, ev, evA, evT, evI, bindq_ok, ob_ok, sq_nx, sq_rt, onO_some, liftO_some, kd_some, dat_v, dat_t, tru_bl, intOf_int, noExq, stk_v, stk_t, stk_o, stow_tt, stow_fv, stow_ft, eqD_int, cmp_ne, cmp_eq, cmp_gt, cmp_ge, cmp_lt, cmp_le, cmp_in, cmp_notin, cmp_is, cmp_isnot, bin_add, bin_sub, b1_abs, ix0, ix1, items_lst, items_row, put, List.map_cons, List.map_nil, List.cons_append, List.nil_append, List.append_nil, List.length_cons, List.length_nil, List.replicate, List.getElem?_cons_zero, List.getElem?_cons_succ, List.getElem?_nil, List.set_cons_zero, List.set_cons_succ, List.set_nil, Nat.reduceAdd, Nat.reduceSub, Nat.reduceLT, Nat.reduceEqDiff, if_true, ite_true, if_false, ite_false, Option.map_some, Option.map_none, reduceIte, reduceCtorEq, Bool.false_eq_true, Nat.zero_add, Nat.add_zero, Nat.zero_lt_succ, Nat.zero_lt_one, Nat.lt_add_left_iff_pos, Nat.succ_eq_add_one, Nat.reduceLeDiff]) nl fun y hy => ⟨_, rfl, .v, nofun, by simp only [wipeR, fnR, runs, run, ev, evA, evT, evI, bindq_ok, ob_ok, sq_nx, sq_rt, onO_some, liftO_some, kd_some, dat_v, dat_t, tru_bl, intOf_int, noExq, stk_v, stk_t, stk_o, stow_tt, stow_fv, stow_ft, eqD_int, cmp_ne, cmp_eq, cmp_gt, cmp_ge, cmp_lt, cmp_le, cmp_in, cmp_notin, cmp_is, cmp_isnot, bin_add, bin_sub, b1_abs, ix0, ix1, items_lst, items_row, put, List.map_cons, List.map_nil, List.cons_append, List.nil_append, List.append_nil, List.length_cons, List.length_nil, List.replicate, List.getElem?_cons_zero, List.getElem?_cons_succ, List.getElem?_nil, List.set_cons_zero, List.set_cons_succ, List.set_nil, Nat.reduceAdd, Nat.reduceSub, Nat.reduceLT, Nat.reduceEqDiff, if_true, ite_true, if_false, ite_false, Option.map_some, Option.map_none, reduceIte, reduceCtorEq, Bool.false_eq_true, Nat.zero_add, Nat.add_zero, Nat.zero_lt_succ, Nat.zero_lt_one, Nat.lt_add_left_iff_pos, Nat.succ_eq_add_one, Nat.reduceLeDiff, bin_fdv dv]⟩]
  unfold wholeQ
  rw [List.map_map]
  rfl
end Mf
set_option Elab.async false
set_option linter.all false
set_option maxRecDepth 100000
set_option maxHeartbeats 1000000
namespace Mf
open PySem L2
theorem bBE : ∀ j ≤ 6, bB 10 j ≤ 703 ∧ bE 10 5 j ≤ 703 := by
  have : ∀ j ∈ List.range 7, bB 10 j ≤ 703 ∧ bE 10 5 j ≤ 703 := by decide +kernel
  exact fun j hj => this j (List.mem_range.mpr (by omega))
theorem redQ_RW {W n : Nat} {l : List (List Rat)} (hl : ∀ r ∈ l, RW 10 5 W r) (hn : n ≤ 6) (hW : 6 ≤ W) : ∀ r ∈ (redQ l n).1, RW 703 703 W r := by
  have key : ∀ n ≤ 6, ∃ j ≤ n, (∀ r ∈ (redQ l n).1, RW (bB 10 j) (bE 10 5 j) W r) ∧ ∀ r ∈ (redQ l n).2, RW (bB 10 j) (bE 10 5 j) W r := by
    intro n
    induction n with
    | zero => intro _; exact ⟨0, Nat.le_refl _, fun _ h => (nomatch h), hl⟩
    | succ n ih =>
      intro hn
      obtain ⟨j, hj, a, b⟩ := ih (by omega)
      have e : redQ l (n + 1) = redStep (redQ l n) n := by unfold redQ; rw [List.range_succ, List.foldl_append]; rfl
      rw [e]
      rcases redStep_RW a b (show n < W by omega) with z | ⟨q1, q2⟩
      · rw [z]; exact ⟨j, by omega, a, b⟩
      · exact ⟨j + 1, by omega, q1, q2⟩
  obtain ⟨j, hj, a, _⟩ := key n hn
  have := bBE j (by omega)
  exact fun r hr => (a r hr).mono this.1 this.2
def fmQ (l : List (Fm × Fm)) : List (List Int) := (redQ (stsRows l) 6).1.map wholeQ
def fmD (l : List (Fm × Fm)) : D := .tup ((fmQ l).map trow)
theorem g_form_of_ok {l : List (Fm × Fm)} (hl : l.length ≤ 4 ∨ (stsRows l).length ≤ 900 ∧ l.length ≤ 100) (h9 : (stsRows l).length ≤ 900) (h : ∀ p ∈ l, stOk p) (s : List Int) : g_form_of [stsD l] s = .ok (fmD l) s := by
  have hrw : ∀ r ∈ stsRows l, RW 10 5 6 r := fun r hr => by
    obtain ⟨p, hp, hr⟩ := List.mem_flatMap.mp hr
    exact stRows_RW (h p hp) r hr
  have e1 := g_rows_of_ok (l := l) (by omega) h s
  have e2 : g_reduced [rows (stsRows l), .int 6] s = .ok (.tup [rows (redQ (stsRows l) 6).1, rows (redQ (stsRows l) 6).2]) s := g_reduced_ok2 (n := 6) (C := 703) hrw (by decide) (by decide) (fun j hj => bBE j hj) (by decide) h9 s
  have I := redQ_inv (n := 6) (l := stsRows l) (fun r hr => (hrw r hr).len) (by decide)
  have hw := redQ_RW (n := 6) hrw (by decide) (by decide)
  have hcnt : (redQ (stsRows l) 6).1.length ≤ 900 := by have := I.cnt; omega
  refine fnR_rt ?_
  show runs c_form_of [.va (stsD l), .no] s = _
  unfold c_form_of
  refine seq_ret (k := .v) ?_ nofun
  have i0 : ∀ a b : D, ixD (.tup [a, b]) (.int 0) = some a := fun _ _ => rfl
  rw [ev, ev_lc (l := (redQ (stsRows l) 6).1) (e := row) (g := fun r => trow (wholeQ r)) (by simp only [fnR, runs, run, ev, evA, evT, evI, bindq_ok, ob_ok, sq_nx, sq_rt, onO_some, liftO_some, kd_some, dat_v, dat_t, tru_bl, intOf_int, noExq, stk_v, stk_t, stk_o, stow_tt, stow_fv, stow_ft, eqD_int, cmp_ne, cmp_eq, cmp_gt, cmp_ge, cmp_lt, cmp_le, cmp_in, cmp_notin, cmp_is, cmp_isnot, bin_add, bin_sub, b1_abs, ix0, ix1, items_lst, items_row, put, List.map_cons, List.map_nil, List.cons_append, List.nil_append, List.append_nil, List.length_cons, List.length_nil, List.replicate, List.getElem?_cons_zero, List.getElem?_cons_succ, List.getElem?_nil, List.set_cons_zero, List.set_cons_succ, List.set_nil, Nat.reduceAdd, Nat.reduceSub, Nat.reduceLT, Nat.reduceEqDiff, if_true, ite_true, if_false, ite_false, Option.map_some, Option.map_none, reduceIte, reduceCtorEq, Bool.false_eq_true, Nat.zero_add, Nat.add_zero, Nat.zero_lt_succ, Nat.zero_lt_one, Nat.lt_add_left_iff_pos, Nat.succ_eq_add_one, Nat.reduceLeDiff, e1, e2, i0]; rfl) (by omega) fun r hr => ⟨_, rfl, .v, nofun, ?_⟩]
  · unfold fmD fmQ
    rw [List.map_map]
    rfl
  · obtain ⟨ps, hps, H⟩ := I.hd
    have : ∃ x ∈ ps, x.1 = r := by rw [hps] at hr; obtain ⟨x, hx, e⟩ := List.mem_map.mp hr; exact ⟨x, hx, e⟩
    obtain ⟨x, hx, rfl⟩ := this
    have h0 : x.1.getD x.2 0 ≠ 0 := by rw [H.one x hx]; decide
    have := g_whole_ok (hw x.1 hr) (by decide) (by decide) h0 s
    simp only [wipeR, fnR, runs, run, ev, evA, evT, evI, bindq_ok, ob_ok, sq_nx, sq_rt, onO_some, liftO_some, kd_some, dat_v, dat_t, tru_bl, intOf_int, noExq, stk_v, stk_t, stk_o, stow_tt, stow_fv, stow_ft, eqD_int, cmp_ne, cmp_eq, cmp_gt, cmp_ge, cmp_lt, cmp_le, cmp_in, cmp_notin, cmp_is, cmp_isnot, bin_add, bin_sub, b1_abs, ix0, ix1, items_lst, items_row, put, List.map_cons, List.map_nil, List.cons_append, List.nil_append, List.append_nil, List.length_cons, List.length_nil, List.replicate, List.getElem?_cons_zero, List.getElem?_cons_succ, List.getElem?_nil, List.set_cons_zero, List.set_cons_succ, List.set_nil, Nat.reduceAdd, Nat.reduceSub, Nat.reduceLT, Nat.reduceEqDiff, if_true, ite_true, if_false, ite_false, Option.map_some, Option.map_none, reduceIte, reduceCtorEq, Bool.false_eq_true, Nat.zero_add, Nat.add_zero, Nat.zero_lt_succ, Nat.zero_lt_one, Nat.lt_add_left_iff_pos, Nat.succ_eq_add_one, Nat.reduceLeDiff, this]
    rfl
end Mf
set_option Elab.async false
set_option linter.all false
set_option maxRecDepth 100000
set_option maxHeartbeats 1000000
namespace Mf
open PySem L2
theorem g_is_name_ok' {i : Nat} (h : i < 6) (s : List Int) : g_is_name [.str (nm i)] s = .ok (.bl true) s := by
  match i, h with
  | 0, _ => kernel_rfl
  | 1, _ => kernel_rfl
  | 2, _ => kernel_rfl
  | 3, _ => kernel_rfl
  | 4, _ => kernel_rfl
  | 5, _ => kernel_rfl
theorem isi_int' (k : Int) : isiD .int (.int k) = some true := rfl
theorem isi_bool' (k : Int) : isiD .bool (.int k) = some false := rfl
theorem g_is_between_ok {k a b : Int} (h : a ≤ k ∧ k ≤ b) (s : List Int) : g_is_between [.int k, .int a, .int b] s = .ok (.bl true) s := by
  refine fnR_rt ?_
  unfold c_is_between
  simp only [fnR, runs, run, ev, evA, evT, evI, bindq_ok, ob_ok, sq_nx, sq_rt, onO_some, liftO_some, kd_some, dat_v, dat_t, tru_bl, intOf_int, noExq, stk_v, stk_t, stk_o, stow_tt, stow_fv, stow_ft, eqD_int, cmp_ne, cmp_eq, cmp_gt, cmp_ge, cmp_lt, cmp_le, cmp_in, cmp_notin, cmp_is, cmp_isnot, bin_add, bin_sub, b1_abs, ix0, ix1, items_lst, items_row, put, List.map_cons, List.map_nil, List.cons_append, List.nil_append, List.append_nil, List.length_cons, List.length_nil, List.replicate, List.getElem?_cons_zero, List.getElem?_cons_succ, List.getElem?_nil, List.set_cons_zero, List.set_cons_succ, List.set_nil, Nat.reduceAdd, Nat.reduceSub, Nat.reduceLT, Nat.reduceEqDiff, if_true, ite_true, if_false, ite_false, Option.map_some, Option.map_none, reduceIte, reduceCtorEq, Bool.false_eq_true, Nat.zero_add, Nat.add_zero, Nat.zero_lt_succ, Nat.zero_lt_one, Nat.lt_add_left_iff_pos, Nat.succ_eq_add_one, Nat.reduceLeDiff, isi_int', isi_bool', Bool.not_false, h.1, h.2, decide_true]
/-- the first question -/
theorem atmost_first {f : Fm} {d : Int} (hd : 1 ≤ d) (s : List Int) : ev (S := List Int) (.or (.cmp .lt (.var 1) (.con (.int 1))) (.or (.not (.isi (.var 0) .tuple)) (.or (.not (.chn .le .le (.con (.int 2)) (.b1 .len (.var 0)) (.con (.int 3)))) (.one (.not (.isi (.ix (.var 0) (.con (.int 0))) .str)))))) [.va f.D, .va (.int d), .no] s = .ok (.v, .bl false) s := by
  have h1 : decide (d < 1) = false := decide_eq_false (by omega)
  cases f with
  | bi o p q => cases o <;> (simp only [fnR, runs, run, ev, evA, evT, evI, bindq_ok, ob_ok, sq_nx, sq_rt, onO_some, liftO_some, kd_some, dat_v, dat_t, tru_bl, intOf_int, noExq, stk_v, stk_t, stk_o, stow_tt, stow_fv, stow_ft, eqD_int, cmp_ne, cmp_eq, cmp_gt, cmp_ge, cmp_lt, cmp_le, cmp_in, cmp_notin, cmp_is, cmp_isnot, bin_add, bin_sub, b1_abs, ix0, ix1, items_lst, items_row, put, List.map_cons, List.map_nil, List.cons_append, List.nil_append, List.append_nil, List.length_cons, List.length_nil, List.replicate, List.getElem?_cons_zero, List.getElem?_cons_succ, List.getElem?_nil, List.set_cons_zero, List.set_cons_succ, List.set_nil, Nat.reduceAdd, Nat.reduceSub, Nat.reduceLT, Nat.reduceEqDiff, if_true, ite_true, if_false, ite_false, Option.map_some, Option.map_none, reduceIte, reduceCtorEq, Bool.false_eq_true, Nat.zero_add, Nat.add_zero, Nat.zero_lt_succ, Nat.zero_lt_one, Nat.lt_add_left_iff_pos, Nat.succ_eq_add_one, Nat.reduceLeDiff, h1]; rfl)
  | _ => simp only [fnR, runs, run, ev, evA, evT, evI, bindq_ok, ob_ok, sq_nx, sq_rt, onO_some, liftO_some, kd_some, dat_v, dat_t, tru_bl, intOf_int, noExq, stk_v, stk_t, stk_o, stow_tt, stow_fv, stow_ft, eqD_int, cmp_ne, cmp_eq, cmp_gt, cmp_ge, cmp_lt, cmp_le, cmp_in, cmp_notin, cmp_is, cmp_isnot, bin_add, bin_sub, b1_abs, ix0, ix1, items_lst, items_row, put, List.map_cons, List.map_nil, List.cons_append, List.nil_append, List.append_nil, List.length_cons, List.length_nil, List.replicate, List.getElem?_cons_zero, List.getElem?_cons_succ, List.getElem?_nil, List.set_cons_zero, List.set_cons_succ, List.set_nil, Nat.reduceAdd, Nat.reduceSub, Nat.reduceLT, Nat.reduceEqDiff, if_true, ite_true, if_false, ite_false, Option.map_some, Option.map_none, reduceIte, reduceCtorEq, Bool.false_eq_true, Nat.zero_add, Nat.add_zero, Nat.zero_lt_succ, Nat.zero_lt_one, Nat.lt_add_left_iff_pos, Nat.succ_eq_add_one, Nat.reduceLeDiff, h1]; rfl
theorem atmost_ok (s : List Int) : ∀ (n : Nat) (f : Fm) (d : Int), f.ok → f.dep ≤ n → (f.dep : Int) ≤ d → g_is_at_most n [f.D, .int d] s = .ok (.bl true) s
  | 0, f, _, _, h, _ => by have := f.dep_pos; omega
  | n + 1, .nm i, d, hk, _, hd => by
    have hd : (1 : Int) ≤ d := hd
    refine fnR_rt ?_
    show runs (c_is_at_most _) [.va (Fm.nm i).D, .va (.int d), .no] s = _
    unfold c_is_at_most
    refine seq_iff (atmost_first hd s) ?_
    refine seq_asg (x := (.v, .str "name")) (ρ' := [.va (Fm.nm i).D, .va (.int d), .va (.str "name")]) (by rfl) rfl rfl ?_
    refine seq_ift (k3 := .v) (by kernel_rfl) ?_
    have i1 : ixD (Fm.nm i).D (.int 1) = some (.str (nm i)) := rfl
    have l1 : b1D .len (Fm.nm i).D = some (.v, .int 2) := rfl
    exact seq_ret (k := .v) (by simp only [fnR, runs, run, ev, evA, evT, evI, bindq_ok, ob_ok, sq_nx, sq_rt, onO_some, liftO_some, kd_some, dat_v, dat_t, tru_bl, intOf_int, noExq, stk_v, stk_t, stk_o, stow_tt, stow_fv, stow_ft, eqD_int, cmp_ne, cmp_eq, cmp_gt, cmp_ge, cmp_lt, cmp_le, cmp_in, cmp_notin, cmp_is, cmp_isnot, bin_add, bin_sub, b1_abs, ix0, ix1, items_lst, items_row, put, List.map_cons, List.map_nil, List.cons_append, List.nil_append, List.append_nil, List.length_cons, List.length_nil, List.replicate, List.getElem?_cons_zero, List.getElem?_cons_succ, List.getElem?_nil, List.set_cons_zero, List.set_cons_succ, List.set_nil, Nat.reduceAdd, Nat.reduceSub, Nat.reduceLT, Nat.reduceEqDiff, if_true, ite_true, if_false, ite_false, Option.map_some, Option.map_none, reduceIte, reduceCtorEq, Bool.false_eq_true, Nat.zero_add, Nat.add_zero, Nat.zero_lt_succ, Nat.zero_lt_one, Nat.lt_add_left_iff_pos, Nat.succ_eq_add_one, Nat.reduceLeDiff, i1, l1, decide_true, g_is_name_ok' hk]) nofun
  | n + 1, .nu k, d, hk, _, hd => by
    have hd : (1 : Int) ≤ d := hd
    refine fnR_rt ?_
    show runs (c_is_at_most _) [.va (Fm.nu k).D, .va (.int d), .no] s = _
    unfold c_is_at_most
    refine seq_iff (atmost_first hd s) ?_
    refine seq_asg (x := (.v, .str "number")) (ρ' := [.va (Fm.nu k).D, .va (.int d), .va (.str "number")]) (by rfl) rfl rfl ?_
    refine seq_iff (k3 := .v) (by kernel_rfl) ?_
    refine seq_ift (k3 := .v) (by kernel_rfl) ?_
    have i1 : ixD (Fm.nu k).D (.int 1) = some (.int k) := rfl
    have l1 : b1D .len (Fm.nu k).D = some (.v, .int 2) := rfl
    exact seq_ret (k := .v) (by simp only [fnR, runs, run, ev, evA, evT, evI, bindq_ok, ob_ok, sq_nx, sq_rt, onO_some, liftO_some, kd_some, dat_v, dat_t, tru_bl, intOf_int, noExq, stk_v, stk_t, stk_o, stow_tt, stow_fv, stow_ft, eqD_int, cmp_ne, cmp_eq, cmp_gt, cmp_ge, cmp_lt, cmp_le, cmp_in, cmp_notin, cmp_is, cmp_isnot, bin_add, bin_sub, b1_abs, ix0, ix1, items_lst, items_row, put, List.map_cons, List.map_nil, List.cons_append, List.nil_append, List.append_nil, List.length_cons, List.length_nil, List.replicate, List.getElem?_cons_zero, List.getElem?_cons_succ, List.getElem?_nil, List.set_cons_zero, List.set_cons_succ, List.set_nil, Nat.reduceAdd, Nat.reduceSub, Nat.reduceLT, Nat.reduceEqDiff, if_true, ite_true, if_false, ite_false, Option.map_some, Option.map_none, reduceIte, reduceCtorEq, Bool.false_eq_true, Nat.zero_add, Nat.add_zero, Nat.zero_lt_succ, Nat.zero_lt_one, Nat.lt_add_left_iff_pos, Nat.succ_eq_add_one, Nat.reduceLeDiff, i1, l1, decide_true, g_is_between_ok hk]) nofun
  | n + 1, .rt p, d, hk, hn, hd => by
    have hd' : ((p.dep + 1 : Nat) : Int) ≤ d := hd
    have hn' : p.dep + 1 ≤ n + 1 := hn
    have ih := atmost_ok s n p (d - 1) hk (by omega) (by omega)
    refine fnR_rt ?_
    show runs (c_is_at_most _) [.va (Fm.rt p).D, .va (.int d), .no] s = _
    unfold c_is_at_most
    refine seq_iff (atmost_first (by omega) s) ?_
    refine seq_asg (x := (.v, .str "root")) (ρ' := [.va (Fm.rt p).D, .va (.int d), .va (.str "root")]) (by rfl) rfl rfl ?_
    refine seq_iff (k3 := .v) (by kernel_rfl) ?_
    refine seq_iff (k3 := .v) (by kernel_rfl) ?_
    refine seq_ift (k3 := .v) (by kernel_rfl) ?_
    have i1 : ixD (Fm.rt p).D (.int 1) = some p.D := rfl
    have l1 : b1D .len (Fm.rt p).D = some (.v, .int 2) := rfl
    exact seq_ret (k := .v) (by simp only [fnR, runs, run, ev, evA, evT, evI, bindq_ok, ob_ok, sq_nx, sq_rt, onO_some, liftO_some, kd_some, dat_v, dat_t, tru_bl, intOf_int, noExq, stk_v, stk_t, stk_o, stow_tt, stow_fv, stow_ft, eqD_int, cmp_ne, cmp_eq, cmp_gt, cmp_ge, cmp_lt, cmp_le, cmp_in, cmp_notin, cmp_is, cmp_isnot, bin_add, bin_sub, b1_abs, ix0, ix1, items_lst, items_row, put, List.map_cons, List.map_nil, List.cons_append, List.nil_append, List.append_nil, List.length_cons, List.length_nil, List.replicate, List.getElem?_cons_zero, List.getElem?_cons_succ, List.getElem?_nil, List.set_cons_zero, List.set_cons_succ, List.set_nil, Nat.reduceAdd, Nat.reduceSub, Nat.reduceLT, Nat.reduceEqDiff, if_true, ite_true, if_false, ite_false, Option.map_some, Option.map_none, reduceIte, reduceCtorEq, Bool.false_eq_true, Nat.zero_add, Nat.add_zero, Nat.zero_lt_succ, Nat.zero_lt_one, Nat.lt_add_left_iff_pos, Nat.succ_eq_add_one, Nat.reduceLeDiff, i1, l1, decide_true, ih]) nofun
  | n + 1, .wv p, d, hk, hn, hd => by
    have hd' : ((p.dep + 1 : Nat) : Int) ≤ d := hd
    have hn' : p.dep + 1 ≤ n + 1 := hn
    have ih := atmost_ok s n p (d - 1) hk (by omega) (by omega)
    refine fnR_rt ?_
    show runs (c_is_at_most _) [.va (Fm.wv p).D, .va (.int d), .no] s = _
    unfold c_is_at_most
    refine seq_iff (atmost_first (by omega) s) ?_
    refine seq_asg (x := (.v, .str "wave")) (ρ' := [.va (Fm.wv p).D, .va (.int d), .va (.str "wave")]) (by rfl) rfl rfl ?_
    refine seq_iff (k3 := .v) (by kernel_rfl) ?_
    refine seq_iff (k3 := .v) (by kernel_rfl) ?_
    refine seq_ift (k3 := .v) (by kernel_rfl) ?_
    have i1 : ixD (Fm.wv p).D (.int 1) = some p.D := rfl
    have l1 : b1D .len (Fm.wv p).D = some (.v, .int 2) := rfl
    exact seq_ret (k := .v) (by simp only [fnR, runs, run, ev, evA, evT, evI, bindq_ok, ob_ok, sq_nx, sq_rt, onO_some, liftO_some, kd_some, dat_v, dat_t, tru_bl, intOf_int, noExq, stk_v, stk_t, stk_o, stow_tt, stow_fv, stow_ft, eqD_int, cmp_ne, cmp_eq, cmp_gt, cmp_ge, cmp_lt, cmp_le, cmp_in, cmp_notin, cmp_is, cmp_isnot, bin_add, bin_sub, b1_abs, ix0, ix1, items_lst, items_row, put, List.map_cons, List.map_nil, List.cons_append, List.nil_append, List.append_nil, List.length_cons, List.length_nil, List.replicate, List.getElem?_cons_zero, List.getElem?_cons_succ, List.getElem?_nil, List.set_cons_zero, List.set_cons_succ, List.set_nil, Nat.reduceAdd, Nat.reduceSub, Nat.reduceLT, Nat.reduceEqDiff, if_true, ite_true, if_false, ite_false, Option.map_some, Option.map_none, reduceIte, reduceCtorEq, Bool.false_eq_true, Nat.zero_add, Nat.add_zero, Nat.zero_lt_succ, Nat.zero_lt_one, Nat.lt_add_left_iff_pos, Nat.succ_eq_add_one, Nat.reduceLeDiff, i1, l1, decide_true, ih]) nofun
  | n + 1, .pw p k, d, hk, hn, hd => by
    have hd' : ((p.dep + 1 : Nat) : Int) ≤ d := hd
    have hn' : p.dep + 1 ≤ n + 1 := hn
    have ih := atmost_ok s n p (d - 1) hk.1 (by omega) (by omega)
    refine fnR_rt ?_
    show runs (c_is_at_most _) [.va (Fm.pw p k).D, .va (.int d), .no] s = _
    unfold c_is_at_most
    refine seq_iff (atmost_first (by omega) s) ?_
    refine seq_asg (x := (.v, .str "power")) (ρ' := [.va (Fm.pw p k).D, .va (.int d), .va (.str "power")]) (by rfl) rfl rfl ?_
    refine seq_iff (k3 := .v) (by kernel_rfl) ?_
    refine seq_iff (k3 := .v) (by kernel_rfl) ?_
    refine seq_iff (k3 := .v) (by kernel_rfl) ?_
    have i1 : ixD (Fm.pw p k).D (.int 1) = some p.D := rfl
    have i2 : ixD (Fm.pw p k).D (.int 2) = some (.int k) := rfl
    have l1 : b1D .len (Fm.pw p k).D = some (.v, .int 3) := rfl
    refine seq_iff (k3 := .v) (by simp only [fnR, runs, run, ev, evA, evT, evI, bindq_ok, ob_ok, sq_nx, sq_rt, onO_some, liftO_some, kd_some, dat_v, dat_t, tru_bl, intOf_int, noExq, stk_v, stk_t, stk_o, stow_tt, stow_fv, stow_ft, eqD_int, cmp_ne, cmp_eq, cmp_gt, cmp_ge, cmp_lt, cmp_le, cmp_in, cmp_notin, cmp_is, cmp_isnot, bin_add, bin_sub, b1_abs, ix0, ix1, items_lst, items_row, put, List.map_cons, List.map_nil, List.cons_append, List.nil_append, List.append_nil, List.length_cons, List.length_nil, List.replicate, List.getElem?_cons_zero, List.getElem?_cons_succ, List.getElem?_nil, List.set_cons_zero, List.set_cons_succ, List.set_nil, Nat.reduceAdd, Nat.reduceSub, Nat.reduceLT, Nat.reduceEqDiff, if_true, ite_true, if_false, ite_false, Option.map_some, Option.map_none, reduceIte, reduceCtorEq, Bool.false_eq_true, Nat.zero_add, Nat.add_zero, Nat.zero_lt_succ, Nat.zero_lt_one, Nat.lt_add_left_iff_pos, Nat.succ_eq_add_one, Nat.reduceLeDiff, i1, l1, decide_true, ih, Bool.not_true]) ?_
    refine seq_ift (k3 := .v) (by kernel_rfl) ?_
    exact seq_ret (k := .v) (by simp only [fnR, runs, run, ev, evA, evT, evI, bindq_ok, ob_ok, sq_nx, sq_rt, onO_some, liftO_some, kd_some, dat_v, dat_t, tru_bl, intOf_int, noExq, stk_v, stk_t, stk_o, stow_tt, stow_fv, stow_ft, eqD_int, cmp_ne, cmp_eq, cmp_gt, cmp_ge, cmp_lt, cmp_le, cmp_in, cmp_notin, cmp_is, cmp_isnot, bin_add, bin_sub, b1_abs, ix0, ix1, items_lst, items_row, put, List.map_cons, List.map_nil, List.cons_append, List.nil_append, List.append_nil, List.length_cons, List.length_nil, List.replicate, List.getElem?_cons_zero, List.getElem?_cons_succ, List.getElem?_nil, List.set_cons_zero, List.set_cons_succ, List.set_nil, Nat.reduceAdd, Nat.reduceSub, Nat.reduceLT, Nat.reduceEqDiff, if_true, ite_true, if_false, ite_false, Option.map_some, Option.map_none, reduceIte, reduceCtorEq, Bool.false_eq_true, Nat.zero_add, Nat.add_zero, Nat.zero_lt_succ, Nat.zero_lt_one, Nat.lt_add_left_iff_pos, Nat.succ_eq_add_one, Nat.reduceLeDiff, i2, g_is_between_ok hk.2]) nofun
  | n + 1, .bi o p q, d, hk, hn, hd => by
    have hd' : ((max p.dep q.dep + 1 : Nat) : Int) ≤ d := hd
    have hn' : max p.dep q.dep + 1 ≤ n + 1 := hn
    have ihp := atmost_ok s n p (d - 1) hk.1 (by omega) (by omega)
    have ihq := atmost_ok s n q (d - 1) hk.2 (by omega) (by omega)
    refine fnR_rt ?_
    show runs (c_is_at_most _) [.va (Fm.bi o p q).D, .va (.int d), .no] s = _
    unfold c_is_at_most
    refine seq_iff (atmost_first (by omega) s) ?_
    refine seq_asg (x := (.v, .str o.w)) (ρ' := [.va (Fm.bi o p q).D, .va (.int d), .va (.str o.w)]) (by rfl) rfl rfl ?_
    refine seq_iff (k3 := .v) (by cases o <;> kernel_rfl) ?_
    refine seq_iff (k3 := .v) (by cases o <;> kernel_rfl) ?_
    refine seq_iff (k3 := .v) (by cases o <;> kernel_rfl) ?_
    have i1 : ixD (Fm.bi o p q).D (.int 1) = some p.D := rfl
    have i2 : ixD (Fm.bi o p q).D (.int 2) = some q.D := rfl
    have l1 : b1D .len (Fm.bi o p q).D = some (.v, .int 3) := rfl
    refine seq_iff (k3 := .v) (by simp only [fnR, runs, run, ev, evA, evT, evI, bindq_ok, ob_ok, sq_nx, sq_rt, onO_some, liftO_some, kd_some, dat_v, dat_t, tru_bl, intOf_int, noExq, stk_v, stk_t, stk_o, stow_tt, stow_fv, stow_ft, eqD_int, cmp_ne, cmp_eq, cmp_gt, cmp_ge, cmp_lt, cmp_le, cmp_in, cmp_notin, cmp_is, cmp_isnot, bin_add, bin_sub, b1_abs, ix0, ix1, items_lst, items_row, put, List.map_cons, List.map_nil, List.cons_append, List.nil_append, List.append_nil, List.length_cons, List.length_nil, List.replicate, List.getElem?_cons_zero, List.getElem?_cons_succ, List.getElem?_nil, List.set_cons_zero, List.set_cons_succ, List.set_nil, Nat.reduceAdd, Nat.reduceSub, Nat.reduceLT, Nat.reduceEqDiff, if_true, ite_true, if_false, ite_false, Option.map_some, Option.map_none, reduceIte, reduceCtorEq, Bool.false_eq_true, Nat.zero_add, Nat.add_zero, Nat.zero_lt_succ, Nat.zero_lt_one, Nat.lt_add_left_iff_pos, Nat.succ_eq_add_one, Nat.reduceLeDiff, i1, l1, decide_true, ihp, Bool.not_true]) ?_
    refine seq_iff (k3 := .v) (by cases o <;> kernel_rfl) ?_
    have hin : ev (S := List Int) (.cmp .isin (.var 2) (.tup (.cons (.con (.str "plus")) (.cons (.con (.str "minus")) (.cons (.con (.str "times")) (.cons (.con (.str "over")) .nil)))))) [.va (Fm.bi o p q).D, .va (.int d), .va (.str o.w)] s = .ok (.v, .bl true) s := by cases o <;> kernel_rfl
    refine seq_ret (k := .v) ?_ nofun
    rw [ev, hin]
    simp only [fnR, runs, run, ev, evA, evT, evI, bindq_ok, ob_ok, sq_nx, sq_rt, onO_some, liftO_some, kd_some, dat_v, dat_t, tru_bl, intOf_int, noExq, stk_v, stk_t, stk_o, stow_tt, stow_fv, stow_ft, eqD_int, cmp_ne, cmp_eq, cmp_gt, cmp_ge, cmp_lt, cmp_le, cmp_in, cmp_notin, cmp_is, cmp_isnot, bin_add, bin_sub, b1_abs, ix0, ix1, items_lst, items_row, put, List.map_cons, List.map_nil, List.cons_append, List.nil_append, List.append_nil, List.length_cons, List.length_nil, List.replicate, List.getElem?_cons_zero, List.getElem?_cons_succ, List.getElem?_nil, List.set_cons_zero, List.set_cons_succ, List.set_nil, Nat.reduceAdd, Nat.reduceSub, Nat.reduceLT, Nat.reduceEqDiff, if_true, ite_true, if_false, ite_false, Option.map_some, Option.map_none, reduceIte, reduceCtorEq, Bool.false_eq_true, Nat.zero_add, Nat.add_zero, Nat.zero_lt_succ, Nat.zero_lt_one, Nat.lt_add_left_iff_pos, Nat.succ_eq_add_one, Nat.reduceLeDiff, i2, ihq]
end Mf
set_option Elab.async false
set_option linter.all false
set_option maxRecDepth 100000
set_option maxHeartbeats 1000000
namespace Mf
open PySem L2
theorem g_is_formula_ok {f : Fm} (h : f.ok) (hd : f.dep ≤ 4) (s : List Int) : g_is_formula [f.D] s = .ok (.bl true) s := by
  refine fnR_rt ?_
  unfold c_is_formula
  simp only [fnR, runs, run, ev, evA, evT, evI, bindq_ok, ob_ok, sq_nx, sq_rt, onO_some, liftO_some, kd_some, dat_v, dat_t, tru_bl, intOf_int, noExq, stk_v, stk_t, stk_o, stow_tt, stow_fv, stow_ft, eqD_int, cmp_ne, cmp_eq, cmp_gt, cmp_ge, cmp_lt, cmp_le, cmp_in, cmp_notin, cmp_is, cmp_isnot, bin_add, bin_sub, b1_abs, ix0, ix1, items_lst, items_row, put, List.map_cons, List.map_nil, List.cons_append, List.nil_append, List.append_nil, List.length_cons, List.length_nil, List.replicate, List.getElem?_cons_zero, List.getElem?_cons_succ, List.getElem?_nil, List.set_cons_zero, List.set_cons_succ, List.set_nil, Nat.reduceAdd, Nat.reduceSub, Nat.reduceLT, Nat.reduceEqDiff, if_true, ite_true, if_false, ite_false, Option.map_some, Option.map_none, reduceIte, reduceCtorEq, Bool.false_eq_true, Nat.zero_add, Nat.add_zero, Nat.zero_lt_succ, Nat.zero_lt_one, Nat.lt_add_left_iff_pos, Nat.succ_eq_add_one, Nat.reduceLeDiff, atmost_ok s 6 f 4 h (by omega) (by omega)]
theorem g_is_statement_ok {p : Fm × Fm} (h : stOk p) (s : List Int) : g_is_statement [stD p] s = .ok (.bl true) s := by
  refine fnR_rt ?_
  show runs c_is_statement [.va (stD p), .no] s = _
  unfold c_is_statement
  have t1 : isiD .tuple (stD p) = some true := rfl
  have l1 : b1D .len (stD p) = some (.v, .int 2) := rfl
  have e : ev (S := List Int) (.lc (.seq (.var 0)) (.nm 1) .nil (.call "is_formula" 1 g_is_formula (.cons (.var 1) .nil)) [1]) [.va (stD p), .no] s = .ok (.t, .lst ([p.1, p.2].map fun _ => .bl true)) s :=
    ev_lc (l := [p.1, p.2]) (e := Fm.D) (g := fun _ => .bl true) (by rfl) (by simp) fun f hf => ⟨_, rfl, .v, nofun, by
      have hf' : f.ok ∧ f.dep ≤ 4 := by
        rcases List.mem_cons.mp hf with z | z
        · rw [z]; exact ⟨h.1, h.2.2.1⟩
        · rw [List.mem_singleton.mp z]; exact ⟨h.2.1, h.2.2.2⟩
      simp only [wipeR, fnR, runs, run, ev, evA, evT, evI, bindq_ok, ob_ok, sq_nx, sq_rt, onO_some, liftO_some, kd_some, dat_v, dat_t, tru_bl, intOf_int, noExq, stk_v, stk_t, stk_o, stow_tt, stow_fv, stow_ft, eqD_int, cmp_ne, cmp_eq, cmp_gt, cmp_ge, cmp_lt, cmp_le, cmp_in, cmp_notin, cmp_is, cmp_isnot, bin_add, bin_sub, b1_abs, ix0, ix1, items_lst, items_row, put, List.map_cons, List.map_nil, List.cons_append, List.nil_append, List.append_nil, List.length_cons, List.length_nil, List.replicate, List.getElem?_cons_zero, List.getElem?_cons_succ, List.getElem?_nil, List.set_cons_zero, List.set_cons_succ, List.set_nil, Nat.reduceAdd, Nat.reduceSub, Nat.reduceLT, Nat.reduceEqDiff, if_true, ite_true, if_false, ite_false, Option.map_some, Option.map_none, reduceIte, reduceCtorEq, Bool.false_eq_true, Nat.zero_add, Nat.add_zero, Nat.zero_lt_succ, Nat.zero_lt_one, Nat.lt_add_left_iff_pos, Nat.succ_eq_add_one, Nat.reduceLeDiff, g_is_formula_ok hf'.1 hf'.2]⟩
  refine seq_ret (k := .v) ?_ nofun
  have ea : ev (S := List Int) (.b1 .all (.lc (.seq (.var 0)) (.nm 1) .nil (.call "is_formula" 1 g_is_formula (.cons (.var 1) .nil)) [1])) [.va (stD p), .no] s = .ok (.v, .bl true) s := by rw [ev, e]; rfl
  simp only [ev, bindq_ok, kd_some, t1, l1, Option.map_some, tru_bl, if_true, List.getElem?_cons_zero, liftO_some, cmp_eq, eqD_int, decide_true] at ea ⊢
  exact ea
theorem g_is_statements_ok {l : List (Fm × Fm)} (hl : l.length ≤ 4) (h : ∀ p ∈ l, stOk p) (s : List Int) : g_is_statements [stsD l] s = .ok (.bl true) s := by
  refine fnR_rt ?_
  show runs c_is_statements [.va (stsD l), .no] s = _
  unfold c_is_statements
  have t1 : isiD .tuple (stsD l) = some true := rfl
  have l1 : b1D .len (stsD l) = some (.v, .int (l.length : Nat)) := by
    show some (K3.v, D.int ((l.map stD).length : Nat)) = _
    rw [List.length_map]
  have h4 : decide (((l.length : Nat) : Int) ≤ 4) = true := decide_eq_true (by omega)
  have e : ev (S := List Int) (.lc (.seq (.var 0)) (.nm 1) .nil (.call "is_statement" 1 g_is_statement (.cons (.var 1) .nil)) [1]) [.va (stsD l), .no] s = .ok (.t, .lst (l.map fun _ => .bl true)) s :=
    ev_lc (l := l) (e := stD) (g := fun _ => .bl true) (by rfl) (by omega) fun p hp => ⟨_, rfl, .v, nofun, by simp only [wipeR, fnR, runs, run, ev, evA, evT, evI, bindq_ok, ob_ok, sq_nx, sq_rt, onO_some, liftO_some, kd_some, dat_v, dat_t, tru_bl, intOf_int, noExq, stk_v, stk_t, stk_o, stow_tt, stow_fv, stow_ft, eqD_int, cmp_ne, cmp_eq, cmp_gt, cmp_ge, cmp_lt, cmp_le, cmp_in, cmp_notin, cmp_is, cmp_isnot, bin_add, bin_sub, b1_abs, ix0, ix1, items_lst, items_row, put, List.map_cons, List.map_nil, List.cons_append, List.nil_append, List.append_nil, List.length_cons, List.length_nil, List.replicate, List.getElem?_cons_zero, List.getElem?_cons_succ, List.getElem?_nil, List.set_cons_zero, List.set_cons_succ, List.set_nil, Nat.reduceAdd, Nat.reduceSub, Nat.reduceLT, Nat.reduceEqDiff, if_true, ite_true, if_false, ite_false, Option.map_some, Option.map_none, reduceIte, reduceCtorEq, Bool.false_eq_true, Nat.zero_add, Nat.add_zero, Nat.zero_lt_succ, Nat.zero_lt_one, Nat.lt_add_left_iff_pos, Nat.succ_eq_add_one, Nat.reduceLeDiff, g_is_statement_ok (h p hp)]⟩
  refine seq_ret (k := .v) ?_ nofun
  have ea : ev (S := List Int) (.b1 .all (.lc (.seq (.var 0)) (.nm 1) .nil (.call "is_statement" 1 g_is_statement (.cons (.var 1) .nil)) [1])) [.va (stsD l), .no] s = .ok (.v, .bl true) s := by
    have ht : l.all (fun _ => true) = true := List.all_eq_true.mpr fun _ _ => rfl
    rw [ev, e, bindq_ok, all_map (fun _ => true) l, ht]
    rfl
  simp only [ev, bindq_ok, kd_some, t1, l1, Option.map_some, tru_bl, if_true, List.getElem?_cons_zero, liftO_some, cmp_le, h4] at ea ⊢
  exact ea
theorem g_check_statements_ok {l : List (Fm × Fm)} (hl : l.length ≤ 4) (h : ∀ p ∈ l, stOk p) (s : List Int) : g_check_statements [stsD l] s = .ok .non s := by
  refine fnR_nx (ρ := [.va (stsD l)]) ?_
  show runs c_check_statements [.va (stsD l)] s = _
  unfold c_check_statements
  simp only [fnR, runs, run, ev, evA, evT, evI, bindq_ok, ob_ok, sq_nx, sq_rt, onO_some, liftO_some, kd_some, dat_v, dat_t, tru_bl, intOf_int, noExq, stk_v, stk_t, stk_o, stow_tt, stow_fv, stow_ft, eqD_int, cmp_ne, cmp_eq, cmp_gt, cmp_ge, cmp_lt, cmp_le, cmp_in, cmp_notin, cmp_is, cmp_isnot, bin_add, bin_sub, b1_abs, ix0, ix1, items_lst, items_row, put, List.map_cons, List.map_nil, List.cons_append, List.nil_append, List.append_nil, List.length_cons, List.length_nil, List.replicate, List.getElem?_cons_zero, List.getElem?_cons_succ, List.getElem?_nil, List.set_cons_zero, List.set_cons_succ, List.set_nil, Nat.reduceAdd, Nat.reduceSub, Nat.reduceLT, Nat.reduceEqDiff, if_true, ite_true, if_false, ite_false, Option.map_some, Option.map_none, reduceIte, reduceCtorEq, Bool.false_eq_true, Nat.zero_add, Nat.add_zero, Nat.zero_lt_succ, Nat.zero_lt_one, Nat.lt_add_left_iff_pos, Nat.succ_eq_add_one, Nat.reduceLeDiff, g_is_statements_ok hl h, Bool.not_true]
theorem stsRows_900 {l : List (Fm × Fm)} (h : ∀ p ∈ l, stOk p) (hl : (stsRows l).length ≤ 900) (h4 : l.length ≤ 4) (s : List Int) : g_form [stsD l] s = .ok (fmD l) s := by
  refine fnR_rt ?_
  show runs c_form [.va (stsD l)] s = _
  unfold c_form
  simp only [fnR, runs, run, ev, evA, evT, evI, bindq_ok, ob_ok, sq_nx, sq_rt, onO_some, liftO_some, kd_some, dat_v, dat_t, tru_bl, intOf_int, noExq, stk_v, stk_t, stk_o, stow_tt, stow_fv, stow_ft, eqD_int, cmp_ne, cmp_eq, cmp_gt, cmp_ge, cmp_lt, cmp_le, cmp_in, cmp_notin, cmp_is, cmp_isnot, bin_add, bin_sub, b1_abs, ix0, ix1, items_lst, items_row, put, List.map_cons, List.map_nil, List.cons_append, List.nil_append, List.append_nil, List.length_cons, List.length_nil, List.replicate, List.getElem?_cons_zero, List.getElem?_cons_succ, List.getElem?_nil, List.set_cons_zero, List.set_cons_succ, List.set_nil, Nat.reduceAdd, Nat.reduceSub, Nat.reduceLT, Nat.reduceEqDiff, if_true, ite_true, if_false, ite_false, Option.map_some, Option.map_none, reduceIte, reduceCtorEq, Bool.false_eq_true, Nat.zero_add, Nat.add_zero, Nat.zero_lt_succ, Nat.zero_lt_one, Nat.lt_add_left_iff_pos, Nat.succ_eq_add_one, Nat.reduceLeDiff, g_check_statements_ok h4 h, g_form_of_ok (.inl h4) hl h]
end Mf
set_option Elab.async false
set_option linter.all false
set_option maxRecDepth 100000
set_option maxHeartbeats 1000000
namespace Mf
open PySem L2
variable {p : Addr} {ns : List Int}
theorem len_lst (ds : List D) : b1D .len (.lst ds) = some (.v, .int ds.length) := rfl
theorem ix_lst {ds : List D} {d : Int} (h0 : 0 ≤ d) (h1 : d < ds.length) : ∃ x ∈ ds, ixD (.lst ds) (.int d) = some x := by
  obtain ⟨k, rfl⟩ := Int.eq_ofNat_of_zero_le h0
  have hk : k < ds.length := by omega
  exact ⟨ds[k], List.getElem_mem hk, atI_nat (List.getElem?_eq_getElem hk)⟩
theorem pick_ok {s : List Int} {n : Nat} {cs : List D} (h : Tw ns n s) (hn : n < 100000000) (h0 : 0 < cs.length) (h1 : cs.length < 1000000) : ∃ c s', g__law_pick p [.scr ns, .adr p, .lst cs] s = .ok c s' ∧ c ∈ cs ∧ Tw ns (n + 1) s' := by
  obtain ⟨d, s', e1, d0, d1, t⟩ := draw_ok (p := p) (m := (cs.length : Int)) h hn (by omega) (by omega)
  obtain ⟨x, hx, e2⟩ := ix_lst (ds := cs) d0 (by omega)
  refine ⟨x, s', fnR_rt ?_, hx, t⟩
  unfold c__law_pick
  simp only [fnR, runs, run, ev, evA, evT, evI, bindq_ok, ob_ok, sq_nx, sq_rt, onO_some, liftO_some, kd_some, dat_v, dat_t, tru_bl, intOf_int, noExq, stk_v, stk_t, stk_o, stow_tt, stow_fv, stow_ft, eqD_int, cmp_ne, cmp_eq, cmp_gt, cmp_ge, cmp_lt, cmp_le, cmp_in, cmp_notin, cmp_is, cmp_isnot, bin_add, bin_sub, b1_abs, ix0, ix1, items_lst, items_row, put, List.map_cons, List.map_nil, List.cons_append, List.nil_append, List.append_nil, List.length_cons, List.length_nil, List.replicate, List.getElem?_cons_zero, List.getElem?_cons_succ, List.getElem?_nil, List.set_cons_zero, List.set_cons_succ, List.set_nil, Nat.reduceAdd, Nat.reduceSub, Nat.reduceLT, Nat.reduceEqDiff, if_true, ite_true, if_false, ite_false, Option.map_some, Option.map_none, reduceIte, reduceCtorEq, Bool.false_eq_true, Nat.zero_add, Nat.add_zero, Nat.zero_lt_succ, Nat.zero_lt_one, Nat.lt_add_left_iff_pos, Nat.succ_eq_add_one, Nat.reduceLeDiff, len_lst, g__law_draw, e1, e2]
theorem sign_ok {d : Int} (h0 : 0 ≤ d) (h1 : d < 6) : ∃ i < 6, ixD (.str "abcdef") (.int d) = some (.str (nm i)) := by
  have : d = 0 ∨ d = 1 ∨ d = 2 ∨ d = 3 ∨ d = 4 ∨ d = 5 := by omega
  rcases this with rfl | rfl | rfl | rfl | rfl | rfl
  · exact ⟨0, by decide, by kernel_rfl⟩
  · exact ⟨1, by decide, by kernel_rfl⟩
  · exact ⟨2, by decide, by kernel_rfl⟩
  · exact ⟨3, by decide, by kernel_rfl⟩
  · exact ⟨4, by decide, by kernel_rfl⟩
  · exact ⟨5, by decide, by kernel_rfl⟩
theorem binop_ok {d : Int} (h0 : 4 ≤ d) (h1 : d < 10) : ∃ o : B4, ixD (.tup [.str "plus", .str "minus", .str "times", .str "over", .str "times", .str "over"]) (.int (d - 4)) = some (.str o.w) := by
  have : d = 4 ∨ d = 5 ∨ d = 6 ∨ d = 7 ∨ d = 8 ∨ d = 9 := by omega
  rcases this with rfl | rfl | rfl | rfl | rfl | rfl
  · exact ⟨.plus, by rfl⟩
  · exact ⟨.minus, by rfl⟩
  · exact ⟨.times, by rfl⟩
  · exact ⟨.over, by rfl⟩
  · exact ⟨.times, by rfl⟩
  · exact ⟨.over, by rfl⟩
theorem formula_ok : ∀ (n deep : Nat) (s : List Int) (m : Nat), 1 ≤ deep → deep ≤ n → deep ≤ 4 → Tw ns m s → m + 8 ^ deep < 1000000 → ∃ (f : Fm) (s' : List Int), g__law_formula p n [.scr ns, .adr p, .int (deep : Int)] s = .ok f.D s' ∧ f.ok ∧ f.dep ≤ deep ∧ Tw ns (m + 8 ^ deep) s'
  | 0, deep, _, _, h1, h2, _, _, _ => by omega
  | n + 1, deep, s, m, h1, h2, h4, ht, hm => by
    have p8 : 8 ≤ 8 ^ deep := Nat.le_trans (by decide : 8 ≤ 8 ^ 1) (Nat.pow_le_pow_right (by decide) h1)
    obtain ⟨way, s1, e1, w0, w1, t1⟩ := draw_ok (p := p) (m := 10) ht (by omega) (by decide) (by decide)
    have en : ∀ (f : Fm) (s' : List Int), runs (c__law_formula p (g__law_formula p n)) [.va (.scr ns), .va (.adr p), .va (.int (deep : Int)), .no, .no, .no] s = .rt f.D s' → g__law_formula p (n + 1) [.scr ns, .adr p, .int (deep : Int)] s = .ok f.D s' := fun f s' h => fnR_rt h
    have st : ∀ (r : Out (List Int)) (cs : CSs (List Int)), runs cs [.va (.scr ns), .va (.adr p), .va (.int (deep : Int)), .va (.int way), .no, .no] s1 = r →
        runs (.cons (.asg false 3 (.call "_law_draw" 3 (g__law_draw p) (.cons (.var 0) (.cons (.var 1) (.cons (.con (.int 10)) .nil))))) cs) [.va (.scr ns), .va (.adr p), .va (.int (deep : Int)), .no, .no, .no] s = r := fun r cs h =>
      seq_nx (run_asgq (x := (.v, .int way)) (s1 := s1) (by simp only [fnR, runs, run, ev, evA, evT, evI, bindq_ok, ob_ok, sq_nx, sq_rt, onO_some, liftO_some, kd_some, dat_v, dat_t, tru_bl, intOf_int, noExq, stk_v, stk_t, stk_o, stow_tt, stow_fv, stow_ft, eqD_int, cmp_ne, cmp_eq, cmp_gt, cmp_ge, cmp_lt, cmp_le, cmp_in, cmp_notin, cmp_is, cmp_isnot, bin_add, bin_sub, b1_abs, ix0, ix1, items_lst, items_row, put, List.map_cons, List.map_nil, List.cons_append, List.nil_append, List.append_nil, List.length_cons, List.length_nil, List.replicate, List.getElem?_cons_zero, List.getElem?_cons_succ, List.getElem?_nil, List.set_cons_zero, List.set_cons_succ, List.set_nil, Nat.reduceAdd, Nat.reduceSub, Nat.reduceLT, Nat.reduceEqDiff, if_true, ite_true, if_false, ite_false, Option.map_some, Option.map_none, reduceIte, reduceCtorEq, Bool.false_eq_true, Nat.zero_add, Nat.add_zero, Nat.zero_lt_succ, Nat.zero_lt_one, Nat.lt_add_left_iff_pos, Nat.succ_eq_add_one, Nat.reduceLeDiff, g__law_draw, e1]) rfl rfl) h
    by_cases hq : (deep : Int) = 1 ∨ way < 2
    · have ec : ev (S := List Int) (.or (.cmp .eq (.var 2) (.con (.int 1))) (.one (.cmp .lt (.var 3) (.con (.int 2))))) [.va (.scr ns), .va (.adr p), .va (.int (deep : Int)), .va (.int way), .no, .no] s1 = .ok (.v, .bl true) s1 := by
        simp only [fnR, runs, run, ev, evA, evT, evI, bindq_ok, ob_ok, sq_nx, sq_rt, onO_some, liftO_some, kd_some, dat_v, dat_t, tru_bl, intOf_int, noExq, stk_v, stk_t, stk_o, stow_tt, stow_fv, stow_ft, eqD_int, cmp_ne, cmp_eq, cmp_gt, cmp_ge, cmp_lt, cmp_le, cmp_in, cmp_notin, cmp_is, cmp_isnot, bin_add, bin_sub, b1_abs, ix0, ix1, items_lst, items_row, put, List.map_cons, List.map_nil, List.cons_append, List.nil_append, List.append_nil, List.length_cons, List.length_nil, List.replicate, List.getElem?_cons_zero, List.getElem?_cons_succ, List.getElem?_nil, List.set_cons_zero, List.set_cons_succ, List.set_nil, Nat.reduceAdd, Nat.reduceSub, Nat.reduceLT, Nat.reduceEqDiff, if_true, ite_true, if_false, ite_false, Option.map_some, Option.map_none, reduceIte, reduceCtorEq, Bool.false_eq_true, Nat.zero_add, Nat.add_zero, Nat.zero_lt_succ, Nat.zero_lt_one, Nat.lt_add_left_iff_pos, Nat.succ_eq_add_one, Nat.reduceLeDiff]
        by_cases a : (deep : Int) = 1
        · simp only [a, decide_true, if_true]
        · have b : way < 2 := by omega
          simp only [a, b, decide_true, decide_false, Bool.false_eq_true, if_false]
      obtain ⟨k1, s2, e2, k0, k6, t2⟩ := draw_ok (p := p) (m := 6) t1 (by omega) (by decide) (by decide)
      by_cases hz : k1 = 0
      · subst hz
        obtain ⟨k2, s3, e3, j0, j1, t3⟩ := draw_ok (p := p) (m := 9) t2 (by omega) (by decide) (by decide)
        refine ⟨.nu (1 + k2), s3, en _ _ ?_, ⟨by omega, by omega⟩, h1, t3.mono (by omega)⟩
        unfold c__law_formula
        refine st _ _ ?_
        refine seq_ift ec ?_
        refine seq_rt ?_
        rw [run_ife]
        have ed : (ev (S := List Int) (.cmp .eq (.call "_law_draw" 3 (g__law_draw p) (.cons (.var 0) (.cons (.var 1) (.cons (.con (.int 6)) .nil)))) (.con (.int 0))) [.va (.scr ns), .va (.adr p), .va (.int (deep : Int)), .va (.int way), .no, .no] s1).bind tru = .ok true s2 := by
          simp only [fnR, runs, run, ev, evA, evT, evI, bindq_ok, ob_ok, sq_nx, sq_rt, onO_some, liftO_some, kd_some, dat_v, dat_t, tru_bl, intOf_int, noExq, stk_v, stk_t, stk_o, stow_tt, stow_fv, stow_ft, eqD_int, cmp_ne, cmp_eq, cmp_gt, cmp_ge, cmp_lt, cmp_le, cmp_in, cmp_notin, cmp_is, cmp_isnot, bin_add, bin_sub, b1_abs, ix0, ix1, items_lst, items_row, put, List.map_cons, List.map_nil, List.cons_append, List.nil_append, List.append_nil, List.length_cons, List.length_nil, List.replicate, List.getElem?_cons_zero, List.getElem?_cons_succ, List.getElem?_nil, List.set_cons_zero, List.set_cons_succ, List.set_nil, Nat.reduceAdd, Nat.reduceSub, Nat.reduceLT, Nat.reduceEqDiff, if_true, ite_true, if_false, ite_false, Option.map_some, Option.map_none, reduceIte, reduceCtorEq, Bool.false_eq_true, Nat.zero_add, Nat.add_zero, Nat.zero_lt_succ, Nat.zero_lt_one, Nat.lt_add_left_iff_pos, Nat.succ_eq_add_one, Nat.reduceLeDiff, g__law_draw, e2, decide_true]
        rw [ed]
        simp only [fnR, runs, run, ev, evA, evT, evI, bindq_ok, ob_ok, sq_nx, sq_rt, onO_some, liftO_some, kd_some, dat_v, dat_t, tru_bl, intOf_int, noExq, stk_v, stk_t, stk_o, stow_tt, stow_fv, stow_ft, eqD_int, cmp_ne, cmp_eq, cmp_gt, cmp_ge, cmp_lt, cmp_le, cmp_in, cmp_notin, cmp_is, cmp_isnot, bin_add, bin_sub, b1_abs, ix0, ix1, items_lst, items_row, put, List.map_cons, List.map_nil, List.cons_append, List.nil_append, List.append_nil, List.length_cons, List.length_nil, List.replicate, List.getElem?_cons_zero, List.getElem?_cons_succ, List.getElem?_nil, List.set_cons_zero, List.set_cons_succ, List.set_nil, Nat.reduceAdd, Nat.reduceSub, Nat.reduceLT, Nat.reduceEqDiff, if_true, ite_true, if_false, ite_false, Option.map_some, Option.map_none, reduceIte, reduceCtorEq, Bool.false_eq_true, Nat.zero_add, Nat.add_zero, Nat.zero_lt_succ, Nat.zero_lt_one, Nat.lt_add_left_iff_pos, Nat.succ_eq_add_one, Nat.reduceLeDiff, g__law_draw, e3, lenOk_of (show 2 ≤ 1000000 by decide)]
        rfl
      · obtain ⟨c, s3, e3, hc, t3⟩ := pick_ok (p := p) (cs := [.int 3, .int 4, .int 6]) t2 (by omega) (by decide) (by decide)
        have hc' : ∃ q : Int, c = .int q ∧ 0 < q ∧ q ≤ 6 := by
          simp only [List.mem_cons, List.not_mem_nil, or_false] at hc
          rcases hc with rfl | rfl | rfl
          · exact ⟨3, rfl, by decide, by decide⟩
          · exact ⟨4, rfl, by decide, by decide⟩
          · exact ⟨6, rfl, by decide, by decide⟩
        obtain ⟨q, rfl, q0, q6⟩ := hc'
        obtain ⟨k2, s4, e4, j0, j1, t4⟩ := draw_ok (p := p) (m := q) t3 (by omega) q0 (by omega)
        obtain ⟨i, hi, ei⟩ := sign_ok j0 (by omega)
        refine ⟨.nm i, s4, en _ _ ?_, hi, h1, t4.mono (by omega)⟩
        unfold c__law_formula
        refine st _ _ ?_
        refine seq_ift ec ?_
        refine seq_nx (ρ' := [.va (.scr ns), .va (.adr p), .va (.int (deep : Int)), .va (.int way), .no, .no]) (s' := s2) ?_ ?_
        · rw [run_ife]
          have ed : (ev (S := List Int) (.cmp .eq (.call "_law_draw" 3 (g__law_draw p) (.cons (.var 0) (.cons (.var 1) (.cons (.con (.int 6)) .nil)))) (.con (.int 0))) [.va (.scr ns), .va (.adr p), .va (.int (deep : Int)), .va (.int way), .no, .no] s1).bind tru = .ok false s2 := by
            simp only [fnR, runs, run, ev, evA, evT, evI, bindq_ok, ob_ok, sq_nx, sq_rt, onO_some, liftO_some, kd_some, dat_v, dat_t, tru_bl, intOf_int, noExq, stk_v, stk_t, stk_o, stow_tt, stow_fv, stow_ft, eqD_int, cmp_ne, cmp_eq, cmp_gt, cmp_ge, cmp_lt, cmp_le, cmp_in, cmp_notin, cmp_is, cmp_isnot, bin_add, bin_sub, b1_abs, ix0, ix1, items_lst, items_row, put, List.map_cons, List.map_nil, List.cons_append, List.nil_append, List.append_nil, List.length_cons, List.length_nil, List.replicate, List.getElem?_cons_zero, List.getElem?_cons_succ, List.getElem?_nil, List.set_cons_zero, List.set_cons_succ, List.set_nil, Nat.reduceAdd, Nat.reduceSub, Nat.reduceLT, Nat.reduceEqDiff, if_true, ite_true, if_false, ite_false, Option.map_some, Option.map_none, reduceIte, reduceCtorEq, Bool.false_eq_true, Nat.zero_add, Nat.add_zero, Nat.zero_lt_succ, Nat.zero_lt_one, Nat.lt_add_left_iff_pos, Nat.succ_eq_add_one, Nat.reduceLeDiff, g__law_draw, e2, hz, decide_false]
          rw [ed]
          simp only [fnR, runs, run, ev, evA, evT, evI, bindq_ok, ob_ok, sq_nx, sq_rt, onO_some, liftO_some, kd_some, dat_v, dat_t, tru_bl, intOf_int, noExq, stk_v, stk_t, stk_o, stow_tt, stow_fv, stow_ft, eqD_int, cmp_ne, cmp_eq, cmp_gt, cmp_ge, cmp_lt, cmp_le, cmp_in, cmp_notin, cmp_is, cmp_isnot, bin_add, bin_sub, b1_abs, ix0, ix1, items_lst, items_row, put, List.map_cons, List.map_nil, List.cons_append, List.nil_append, List.append_nil, List.length_cons, List.length_nil, List.replicate, List.getElem?_cons_zero, List.getElem?_cons_succ, List.getElem?_nil, List.set_cons_zero, List.set_cons_succ, List.set_nil, Nat.reduceAdd, Nat.reduceSub, Nat.reduceLT, Nat.reduceEqDiff, if_true, ite_true, if_false, ite_false, Option.map_some, Option.map_none, reduceIte, reduceCtorEq, Bool.false_eq_true, Nat.zero_add, Nat.add_zero, Nat.zero_lt_succ, Nat.zero_lt_one, Nat.lt_add_left_iff_pos, Nat.succ_eq_add_one, Nat.reduceLeDiff]
        · simp only [fnR, runs, run, ev, evA, evT, evI, bindq_ok, ob_ok, sq_nx, sq_rt, onO_some, liftO_some, kd_some, dat_v, dat_t, tru_bl, intOf_int, noExq, stk_v, stk_t, stk_o, stow_tt, stow_fv, stow_ft, eqD_int, cmp_ne, cmp_eq, cmp_gt, cmp_ge, cmp_lt, cmp_le, cmp_in, cmp_notin, cmp_is, cmp_isnot, bin_add, bin_sub, b1_abs, ix0, ix1, items_lst, items_row, put, List.map_cons, List.map_nil, List.cons_append, List.nil_append, List.append_nil, List.length_cons, List.length_nil, List.replicate, List.getElem?_cons_zero, List.getElem?_cons_succ, List.getElem?_nil, List.set_cons_zero, List.set_cons_succ, List.set_nil, Nat.reduceAdd, Nat.reduceSub, Nat.reduceLT, Nat.reduceEqDiff, if_true, ite_true, if_false, ite_false, Option.map_some, Option.map_none, reduceIte, reduceCtorEq, Bool.false_eq_true, Nat.zero_add, Nat.add_zero, Nat.zero_lt_succ, Nat.zero_lt_one, Nat.lt_add_left_iff_pos, Nat.succ_eq_add_one, Nat.reduceLeDiff, g__law_draw, lenOk_of (show 3 ≤ 1000000 by decide), e3, e4, ei, lenOk_of (show 2 ≤ 1000000 by decide)]
          rfl
    · have ec : ev (S := List Int) (.or (.cmp .eq (.var 2) (.con (.int 1))) (.one (.cmp .lt (.var 3) (.con (.int 2))))) [.va (.scr ns), .va (.adr p), .va (.int (deep : Int)), .va (.int way), .no, .no] s1 = .ok (.v, .bl false) s1 := by
        have a : ¬ (deep : Int) = 1 := fun z => hq (.inl z)
        have b : ¬ way < 2 := fun z => hq (.inr z)
        simp only [fnR, runs, run, ev, evA, evT, evI, bindq_ok, ob_ok, sq_nx, sq_rt, onO_some, liftO_some, kd_some, dat_v, dat_t, tru_bl, intOf_int, noExq, stk_v, stk_t, stk_o, stow_tt, stow_fv, stow_ft, eqD_int, cmp_ne, cmp_eq, cmp_gt, cmp_ge, cmp_lt, cmp_le, cmp_in, cmp_notin, cmp_is, cmp_isnot, bin_add, bin_sub, b1_abs, ix0, ix1, items_lst, items_row, put, List.map_cons, List.map_nil, List.cons_append, List.nil_append, List.append_nil, List.length_cons, List.length_nil, List.replicate, List.getElem?_cons_zero, List.getElem?_cons_succ, List.getElem?_nil, List.set_cons_zero, List.set_cons_succ, List.set_nil, Nat.reduceAdd, Nat.reduceSub, Nat.reduceLT, Nat.reduceEqDiff, if_true, ite_true, if_false, ite_false, Option.map_some, Option.map_none, reduceIte, reduceCtorEq, Bool.false_eq_true, Nat.zero_add, Nat.add_zero, Nat.zero_lt_succ, Nat.zero_lt_one, Nat.lt_add_left_iff_pos, Nat.succ_eq_add_one, Nat.reduceLeDiff, a, b, decide_false]
      obtain ⟨d', rfl⟩ : ∃ d', deep = d' + 1 := ⟨deep - 1, by omega⟩
      have hd1 : 1 ≤ d' := by omega
      have pw : 8 ^ (d' + 1) = 8 ^ d' * 8 := Nat.pow_succ ..
      have pw1 : 1 ≤ 8 ^ d' := Nat.pow_pos (by decide)
      have pw2 : 8 ^ d' ≤ 512 := Nat.le_trans (Nat.pow_le_pow_right (by decide) (show d' ≤ 3 by omega)) (by decide)
      obtain ⟨f1, s2, e2, o1, de1, t2⟩ := formula_ok n d' s1 (m + 1) hd1 (by omega) (by omega) t1 (by omega)
      have es : ((d' + 1 : Nat) : Int) - 1 = (d' : Int) := by omega
      have mid : ∀ (r : Out (List Int)) (cs : CSs (List Int)), runs cs [.va (.scr ns), .va (.adr p), .va (.int ((d' + 1 : Nat) : Int)), .va (.int way), .va f1.D, .no] s2 = r →
          runs (.cons (.asg false 4 (.call "_law_formula" 3 (g__law_formula p n) (.cons (.var 0) (.cons (.var 1) (.cons (.bin .sub (.var 2) (.con (.int 1))) .nil))))) cs) [.va (.scr ns), .va (.adr p), .va (.int ((d' + 1 : Nat) : Int)), .va (.int way), .no, .no] s1 = r := fun r cs h =>
        seq_nx (run_asgq (x := (.v, f1.D)) (s1 := s2) (by simp only [fnR, runs, run, ev, evA, evT, evI, bindq_ok, ob_ok, sq_nx, sq_rt, onO_some, liftO_some, kd_some, dat_v, dat_t, tru_bl, intOf_int, noExq, stk_v, stk_t, stk_o, stow_tt, stow_fv, stow_ft, eqD_int, cmp_ne, cmp_eq, cmp_gt, cmp_ge, cmp_lt, cmp_le, cmp_in, cmp_notin, cmp_is, cmp_isnot, bin_add, bin_sub, b1_abs, ix0, ix1, items_lst, items_row, put, List.map_cons, List.map_nil, List.cons_append, List.nil_append, List.append_nil, List.length_cons, List.length_nil, List.replicate, List.getElem?_cons_zero, List.getElem?_cons_succ, List.getElem?_nil, List.set_cons_zero, List.set_cons_succ, List.set_nil, Nat.reduceAdd, Nat.reduceSub, Nat.reduceLT, Nat.reduceEqDiff, if_true, ite_true, if_false, ite_false, Option.map_some, Option.map_none, reduceIte, reduceCtorEq, Bool.false_eq_true, Nat.zero_add, Nat.add_zero, Nat.zero_lt_succ, Nat.zero_lt_one, Nat.lt_add_left_iff_pos, Nat.succ_eq_add_one, Nat.reduceLeDiff, es, e2]) rfl rfl) h
      by_cases w2 : way = 2
      · subst w2
        obtain ⟨k2, s3, e3, j0, j1, t3⟩ := draw_ok (p := p) (m := 7) t2 (by omega) (by decide) (by decide)
        refine ⟨.pw f1 (k2 - 3), s3, en _ _ ?_, ⟨o1, by omega, by omega⟩, Nat.succ_le_succ de1, t3.mono (by omega)⟩
        unfold c__law_formula
        refine st _ _ (seq_iff ec (mid _ _ ?_))
        refine seq_rt ?_
        rw [run_ifq (k := true) (k3 := .v) (s1 := s2) (by rfl) rfl]
        simp only [fnR, runs, run, ev, evA, evT, evI, bindq_ok, ob_ok, sq_nx, sq_rt, onO_some, liftO_some, kd_some, dat_v, dat_t, tru_bl, intOf_int, noExq, stk_v, stk_t, stk_o, stow_tt, stow_fv, stow_ft, eqD_int, cmp_ne, cmp_eq, cmp_gt, cmp_ge, cmp_lt, cmp_le, cmp_in, cmp_notin, cmp_is, cmp_isnot, bin_add, bin_sub, b1_abs, ix0, ix1, items_lst, items_row, put, List.map_cons, List.map_nil, List.cons_append, List.nil_append, List.append_nil, List.length_cons, List.length_nil, List.replicate, List.getElem?_cons_zero, List.getElem?_cons_succ, List.getElem?_nil, List.set_cons_zero, List.set_cons_succ, List.set_nil, Nat.reduceAdd, Nat.reduceSub, Nat.reduceLT, Nat.reduceEqDiff, if_true, ite_true, if_false, ite_false, Option.map_some, Option.map_none, reduceIte, reduceCtorEq, Bool.false_eq_true, Nat.zero_add, Nat.add_zero, Nat.zero_lt_succ, Nat.zero_lt_one, Nat.lt_add_left_iff_pos, Nat.succ_eq_add_one, Nat.reduceLeDiff, g__law_draw, e3, lenOk_of (show 3 ≤ 1000000 by decide)]
        rfl
      · by_cases w3 : way = 3
        · subst w3
          obtain ⟨c, s3, e3, hc, t3⟩ := pick_ok (p := p) (cs := [.str "root", .str "root", .str "wave"]) t2 (by omega) (by decide) (by decide)
          simp only [List.mem_cons, List.not_mem_nil, or_false] at hc
          have fin : ∀ (f : Fm), f.D = .tup [c, f1.D] → runs (c__law_formula p (g__law_formula p n)) [.va (.scr ns), .va (.adr p), .va (.int ((d' + 1 : Nat) : Int)), .no, .no, .no] s = .rt f.D s3 := fun f hf => by
            unfold c__law_formula
            refine st _ _ (seq_iff ec (mid _ _ ?_))
            refine seq_iff (k3 := .v) (by rfl) ?_
            refine seq_rt ?_
            rw [run_ifq (k := true) (k3 := .v) (s1 := s2) (by rfl) rfl, hf]
            simp only [fnR, runs, run, ev, evA, evT, evI, bindq_ok, ob_ok, sq_nx, sq_rt, onO_some, liftO_some, kd_some, dat_v, dat_t, tru_bl, intOf_int, noExq, stk_v, stk_t, stk_o, stow_tt, stow_fv, stow_ft, eqD_int, cmp_ne, cmp_eq, cmp_gt, cmp_ge, cmp_lt, cmp_le, cmp_in, cmp_notin, cmp_is, cmp_isnot, bin_add, bin_sub, b1_abs, ix0, ix1, items_lst, items_row, put, List.map_cons, List.map_nil, List.cons_append, List.nil_append, List.append_nil, List.length_cons, List.length_nil, List.replicate, List.getElem?_cons_zero, List.getElem?_cons_succ, List.getElem?_nil, List.set_cons_zero, List.set_cons_succ, List.set_nil, Nat.reduceAdd, Nat.reduceSub, Nat.reduceLT, Nat.reduceEqDiff, if_true, ite_true, if_false, ite_false, Option.map_some, Option.map_none, reduceIte, reduceCtorEq, Bool.false_eq_true, Nat.zero_add, Nat.add_zero, Nat.zero_lt_succ, Nat.zero_lt_one, Nat.lt_add_left_iff_pos, Nat.succ_eq_add_one, Nat.reduceLeDiff, lenOk_of (show 3 ≤ 1000000 by decide), e3, lenOk_of (show 2 ≤ 1000000 by decide)]
          rcases hc with rfl | rfl | rfl
          · exact ⟨.rt f1, s3, en _ _ (fin _ rfl), o1, Nat.succ_le_succ de1, t3.mono (by omega)⟩
          · exact ⟨.rt f1, s3, en _ _ (fin _ rfl), o1, Nat.succ_le_succ de1, t3.mono (by omega)⟩
          · exact ⟨.wv f1, s3, en _ _ (fin _ rfl), o1, Nat.succ_le_succ de1, t3.mono (by omega)⟩
        · obtain ⟨o, eo⟩ := binop_ok (d := way) (by omega) w1
          obtain ⟨f2, s3, e3, o2, de2, t3⟩ := formula_ok n d' s2 (m + 1 + 8 ^ d') hd1 (by omega) (by omega) t2 (by omega)
          refine ⟨.bi o f1 f2, s3, en _ _ ?_, ⟨o1, o2⟩, Nat.succ_le_succ (Nat.max_le.mpr ⟨de1, de2⟩), t3.mono (by omega)⟩
          unfold c__law_formula
          refine st _ _ (seq_iff ec (mid _ _ ?_))
          refine seq_iff (k3 := .v) (by simp only [fnR, runs, run, ev, evA, evT, evI, bindq_ok, ob_ok, sq_nx, sq_rt, onO_some, liftO_some, kd_some, dat_v, dat_t, tru_bl, intOf_int, noExq, stk_v, stk_t, stk_o, stow_tt, stow_fv, stow_ft, eqD_int, cmp_ne, cmp_eq, cmp_gt, cmp_ge, cmp_lt, cmp_le, cmp_in, cmp_notin, cmp_is, cmp_isnot, bin_add, bin_sub, b1_abs, ix0, ix1, items_lst, items_row, put, List.map_cons, List.map_nil, List.cons_append, List.nil_append, List.append_nil, List.length_cons, List.length_nil, List.replicate, List.getElem?_cons_zero, List.getElem?_cons_succ, List.getElem?_nil, List.set_cons_zero, List.set_cons_succ, List.set_nil, Nat.reduceAdd, Nat.reduceSub, Nat.reduceLT, Nat.reduceEqDiff, if_true, ite_true, if_false, ite_false, Option.map_some, Option.map_none, reduceIte, reduceCtorEq, Bool.false_eq_true, Nat.zero_add, Nat.add_zero, Nat.zero_lt_succ, Nat.zero_lt_one, Nat.lt_add_left_iff_pos, Nat.succ_eq_add_one, Nat.reduceLeDiff, w2, decide_false]) ?_
          refine seq_iff (k3 := .v) (by simp only [fnR, runs, run, ev, evA, evT, evI, bindq_ok, ob_ok, sq_nx, sq_rt, onO_some, liftO_some, kd_some, dat_v, dat_t, tru_bl, intOf_int, noExq, stk_v, stk_t, stk_o, stow_tt, stow_fv, stow_ft, eqD_int, cmp_ne, cmp_eq, cmp_gt, cmp_ge, cmp_lt, cmp_le, cmp_in, cmp_notin, cmp_is, cmp_isnot, bin_add, bin_sub, b1_abs, ix0, ix1, items_lst, items_row, put, List.map_cons, List.map_nil, List.cons_append, List.nil_append, List.append_nil, List.length_cons, List.length_nil, List.replicate, List.getElem?_cons_zero, List.getElem?_cons_succ, List.getElem?_nil, List.set_cons_zero, List.set_cons_succ, List.set_nil, Nat.reduceAdd, Nat.reduceSub, Nat.reduceLT, Nat.reduceEqDiff, if_true, ite_true, if_false, ite_false, Option.map_some, Option.map_none, reduceIte, reduceCtorEq, Bool.false_eq_true, Nat.zero_add, Nat.add_zero, Nat.zero_lt_succ, Nat.zero_lt_one, Nat.lt_add_left_iff_pos, Nat.succ_eq_add_one, Nat.reduceLeDiff, w3, decide_false]) ?_
          refine seq_asg (x := (.v, .str o.w)) (ρ' := [.va (.scr ns), .va (.adr p), .va (.int ((d' + 1 : Nat) : Int)), .va (.int way), .va f1.D, .va (.str o.w)]) (by simp only [fnR, runs, run, ev, evA, evT, evI, bindq_ok, ob_ok, sq_nx, sq_rt, onO_some, liftO_some, kd_some, dat_v, dat_t, tru_bl, intOf_int, noExq, stk_v, stk_t, stk_o, stow_tt, stow_fv, stow_ft, eqD_int, cmp_ne, cmp_eq, cmp_gt, cmp_ge, cmp_lt, cmp_le, cmp_in, cmp_notin, cmp_is, cmp_isnot, bin_add, bin_sub, b1_abs, ix0, ix1, items_lst, items_row, put, List.map_cons, List.map_nil, List.cons_append, List.nil_append, List.append_nil, List.length_cons, List.length_nil, List.replicate, List.getElem?_cons_zero, List.getElem?_cons_succ, List.getElem?_nil, List.set_cons_zero, List.set_cons_succ, List.set_nil, Nat.reduceAdd, Nat.reduceSub, Nat.reduceLT, Nat.reduceEqDiff, if_true, ite_true, if_false, ite_false, Option.map_some, Option.map_none, reduceIte, reduceCtorEq, Bool.false_eq_true, Nat.zero_add, Nat.add_zero, Nat.zero_lt_succ, Nat.zero_lt_one, Nat.lt_add_left_iff_pos, Nat.succ_eq_add_one, Nat.reduceLeDiff, lenOk_of (show 6 ≤ 1000000 by decide), eo]) rfl rfl ?_
          simp only [fnR, runs, run, ev, evA, evT, evI, bindq_ok, ob_ok, sq_nx, sq_rt, onO_some, liftO_some, kd_some, dat_v, dat_t, tru_bl, intOf_int, noExq, stk_v, stk_t, stk_o, stow_tt, stow_fv, stow_ft, eqD_int, cmp_ne, cmp_eq, cmp_gt, cmp_ge, cmp_lt, cmp_le, cmp_in, cmp_notin, cmp_is, cmp_isnot, bin_add, bin_sub, b1_abs, ix0, ix1, items_lst, items_row, put, List.map_cons, List.map_nil, List.cons_append, List.nil_append, List.append_nil, List.length_cons, List.length_nil, List.replicate, List.getElem?_cons_zero, List.getElem?_cons_succ, List.getElem?_nil, List.set_cons_zero, List.set_cons_succ, List.set_nil, Nat.reduceAdd, Nat.reduceSub, Nat.reduceLT, Nat.reduceEqDiff, if_true, ite_true, if_false, ite_false, Option.map_some, Option.map_none, reduceIte, reduceCtorEq, Bool.false_eq_true, Nat.zero_add, Nat.add_zero, Nat.zero_lt_succ, Nat.zero_lt_one, Nat.lt_add_left_iff_pos, Nat.succ_eq_add_one, Nat.reduceLeDiff, es, e3, lenOk_of (show 3 ≤ 1000000 by decide)]
          rfl
end Mf
set_option Elab.async false
set_option linter.all false
set_option maxRecDepth 100000
set_option maxHeartbeats 1000000
namespace Mf
open PySem L2
variable {p : Addr} {ns : List Int}
/-! ### statements drawn -/
def st3 (q : Fm × Fm) : Prop := q.1.ok ∧ q.2.ok ∧ q.1.dep ≤ 3 ∧ q.2.dep ≤ 2
theorem st3.stOk {q : Fm × Fm} (h : st3 q) : stOk q := ⟨h.1, h.2.1, by have := h.2.2.1; omega, by have := h.2.2.2; omega⟩
theorem cat_sts {l : List (Fm × Fm)} {a b : Fm} (h : l.length ≤ 1000) : binD .add (stsD l) (.tup [.tup [a.D, b.D]]) = some (.v, stsD (l ++ [(a, b)])) := by
  unfold stsD
  rw [List.map_append]
  exact if_pos (lenOk_of (by rw [List.length_map]; show l.length + 1 ≤ 1000000; omega))
theorem sts_turn {s : List Int} {m : Nat} {l : List (Fm × Fm)} {a2 x4 : SV} (ht : Tw ns m s) (hm : m < 900000) (hl : l.length ≤ 1000) :
    ∃ q s', runs (b__law_statements_0 p) [.va (.scr ns), .va (.adr p), a2, .va (stsD l), x4] s = .nx [.va (.scr ns), .va (.adr p), a2, .va (stsD (l ++ [q])), x4] s' ∧ st3 q ∧ Tw ns (m + 576) s' := by
  obtain ⟨f1, s1, e1, o1, d1, t1⟩ := formula_ok (p := p) 6 3 s m (by decide) (by decide) (by decide) ht (by omega)
  obtain ⟨f2, s2, e2, o2, d2, t2⟩ := formula_ok (p := p) 6 2 s1 (m + 8 ^ 3) (by decide) (by decide) (by decide) t1 (by omega)
  refine ⟨(f1, f2), s2, ?_, ⟨o1, o2, d1, d2⟩, t2.mono (by omega)⟩
  unfold b__law_statements_0
  have e1 : g__law_formula p 6 [.scr ns, .adr p, .int 3] s = .ok f1.D s1 := e1
  have e2 : g__law_formula p 6 [.scr ns, .adr p, .int 2] s1 = .ok f2.D s2 := e2
  simp only [fnR, runs, run, ev, evA, evT, evI, bindq_ok, ob_ok, sq_nx, sq_rt, onO_some, liftO_some, kd_some, dat_v, dat_t, tru_bl, intOf_int, noExq, stk_v, stk_t, stk_o, stow_tt, stow_fv, stow_ft, eqD_int, cmp_ne, cmp_eq, cmp_gt, cmp_ge, cmp_lt, cmp_le, cmp_in, cmp_notin, cmp_is, cmp_isnot, bin_add, bin_sub, b1_abs, ix0, ix1, items_lst, items_row, put, List.map_cons, List.map_nil, List.cons_append, List.nil_append, List.append_nil, List.length_cons, List.length_nil, List.replicate, List.getElem?_cons_zero, List.getElem?_cons_succ, List.getElem?_nil, List.set_cons_zero, List.set_cons_succ, List.set_nil, Nat.reduceAdd, Nat.reduceSub, Nat.reduceLT, Nat.reduceEqDiff, if_true, ite_true, if_false, ite_false, Option.map_some, Option.map_none, reduceIte, reduceCtorEq, Bool.false_eq_true, Nat.zero_add, Nat.add_zero, Nat.zero_lt_succ, Nat.zero_lt_one, Nat.lt_add_left_iff_pos, Nat.succ_eq_add_one, Nat.reduceLeDiff, e1, e2, lenOk_of (show 2 ≤ 1000000 by decide), lenOk_of (show 1 ≤ 1000000 by decide), cat_sts hl]
theorem statements_ok {s : List Int} {m most : Nat} (ht : Tw ns m s) (hm : m < 500000) (h4 : most ≤ 4) :
    ∃ l s', g__law_statements p [.scr ns, .adr p, .int (most : Int)] s = .ok (stsD l) s' ∧ l.length ≤ most ∧ (∀ q ∈ l, st3 q) ∧ Tw ns (m + 2400) s' := by
  obtain ⟨d, s1, e1, d0, d1, t1⟩ := draw_ok (p := p) (m := (most : Int) + 1) ht (by omega) (by omega) (by omega)
  obtain ⟨n, rfl⟩ := Int.eq_ofNat_of_zero_le d0
  obtain ⟨ρ', s', hf, l, x4, rfl, hll, hall, t2⟩ := forR_range (n := n) (e := fun (k : Nat) => D.int (k : Int)) (f := fun d ρ s => onO (asgT (.nm 4) d ρ) fun ρ' => runs (b__law_statements_0 p) ρ' s)
    (P := fun k ρ s => ∃ (l : List (Fm × Fm)) (x4 : SV), ρ = [.va (.scr ns), .va (.adr p), .va (.int (most : Int)), .va (stsD l), x4] ∧ l.length = k ∧ (∀ q ∈ l, st3 q) ∧ Tw ns (m + 1 + 576 * k) s)
    (fun k hk ρ s hP => by
      obtain ⟨l, x4, rfl, hll, hall, t2⟩ := hP
      obtain ⟨q, s', e, hq, t3⟩ := sts_turn (p := p) (a2 := .va (.int (most : Int))) (x4 := .va (.int (k : Int))) t2 (by omega) (show l.length ≤ 1000 by omega)
      refine ⟨_, s', e, l ++ [q], _, rfl, by rw [List.length_append, hll]; rfl, fun r hr => ?_, t3.mono (by omega)⟩
      rcases List.mem_append.mp hr with z | z
      · exact hall r z
      · rw [List.mem_singleton.mp z]; exact hq) [.va (.scr ns), .va (.adr p), .va (.int (most : Int)), .va (stsD []), .no] s1 ⟨[], .no, rfl, rfl, fun _ h => (nomatch h), t1.mono (by omega)⟩
  refine ⟨l, s', fnR_rt ?_, by omega, hall, t2.mono (by omega)⟩
  show runs (c__law_statements p) [.va (.scr ns), .va (.adr p), .va (.int (most : Int)), .no, .no] s = _
  unfold c__law_statements
  refine seq_asg (x := (.v, stsD [])) (by rfl) rfl rfl ?_
  refine seq_nx (run_forq (s1 := s1) (ds := (List.range n).map fun (k : Nat) => D.int (k : Int)) ?_ hf) ?_
  · simp only [fnR, runs, run, ev, evA, evT, evI, bindq_ok, ob_ok, sq_nx, sq_rt, onO_some, liftO_some, kd_some, dat_v, dat_t, tru_bl, intOf_int, noExq, stk_v, stk_t, stk_o, stow_tt, stow_fv, stow_ft, eqD_int, cmp_ne, cmp_eq, cmp_gt, cmp_ge, cmp_lt, cmp_le, cmp_in, cmp_notin, cmp_is, cmp_isnot, bin_add, bin_sub, b1_abs, ix0, ix1, items_lst, items_row, put, List.map_cons, List.map_nil, List.cons_append, List.nil_append, List.append_nil, List.length_cons, List.length_nil, List.replicate, List.getElem?_cons_zero, List.getElem?_cons_succ, List.getElem?_nil, List.set_cons_zero, List.set_cons_succ, List.set_nil, Nat.reduceAdd, Nat.reduceSub, Nat.reduceLT, Nat.reduceEqDiff, if_true, ite_true, if_false, ite_false, Option.map_some, Option.map_none, reduceIte, reduceCtorEq, Bool.false_eq_true, Nat.zero_add, Nat.add_zero, Nat.zero_lt_succ, Nat.zero_lt_one, Nat.lt_add_left_iff_pos, Nat.succ_eq_add_one, Nat.reduceLeDiff, g__law_draw, e1, decide_eq_true (show (-1000000 : Int) ≤ (n : Int) by omega), decide_eq_true (show (n : Int) ≤ 1000000 by omega), Bool.and_self, rngD, Int.toNat_natCast]
  · rfl
end Mf
set_option Elab.async false
set_option linter.all false
set_option maxRecDepth 100000
set_option maxHeartbeats 1000000
namespace Mf
open PySem L2
/-! ### _law_exponents -/
abbrev lm (f : Fm) : D := .tup [irow (lex f), irows (ldm f)]
theorem lex_bd {f : Fm} (h : f.ok) (hd : f.dep ≤ 4) : ∀ x ∈ lex f, x.natAbs < 2 ^ 10 := fun x hx => by
  have := (lex_ok f h hd).bd x hx
  have := three_le (show f.dep - 1 ≤ 3 by omega)
  have e : 16 * 3 ^ 3 = 432 := rfl
  have e2 : 2 ^ 10 = 1024 := rfl
  omega
theorem ldm_len4 : ∀ f : Fm, (ldm f).length = (dm f).length
  | .nm _ => rfl | .nu _ => rfl
  | .bi o p q => by
    have hp := ldm_len4 p
    have hq := ldm_len4 q
    cases o <;> simp [ldm, dm, hp, hq]
  | .pw p _ => ldm_len4 p | .rt p => ldm_len4 p
  | .wv p => by simp [ldm, dm, ldm_len4 p]
theorem ldm_256 {f : Fm} (h : f.dep ≤ 4) : (ldm f).length ≤ 256 := by rw [ldm_len4]; exact dm_256 h
theorem cat_irows {a b : List (List Int)} (h : a.length + b.length ≤ 1000000) : binD .add (irows a) (irows b) = some (.t, irows (a ++ b)) := by
  unfold irows
  rw [List.map_append]
  exact if_pos (lenOk_of (by rw [List.length_map, List.length_map]; exact h))
theorem lexp_ok (s : List Int) : ∀ (n : Nat) (f : Fm), f.ok → f.dep ≤ n → f.dep ≤ 4 → g__law_exponents n [f.D] s = .ok (lm f) s
  | 0, f, _, h, _ => by have := f.dep_pos; omega
  | n + 1, .nm i, hk, _, _ => by
    have hi : i < 6 := hk
    refine fnR_rt ?_
    show runs (c__law_exponents _) [.va (Fm.nm i).D, .no, .no, .no, .no, .no, .no, .no, .no, .no, .no] s = _
    unfold c__law_exponents
    refine seq_asg (x := (.v, .str "name")) (ρ' := [.va (Fm.nm i).D, .va (.str "name"), .no, .no, .no, .no, .no, .no, .no, .no, .no]) (by rfl) rfl rfl ?_
    refine seq_ift (k3 := .v) (by kernel_rfl) ?_
    have e : ev (S := List Int) (.lc (.seq (.con (.str "abcdef"))) (.nm 10) .nil (.bin .mul (.con (.int 16)) (.b1 .int (.cmp .eq (.var 10) (.ix (.var 0) (.con (.int 1)))))) [10]) [.va (Fm.nm i).D, .va (.str "name"), .no, .no, .no, .no, .no, .no, .no, .no, .no] s = .ok (.t, irow (lex (.nm i))) s := by
      rw [ev_lc (l := List.range 6) (e := fun j => .str (nm j)) (g := fun j => .int (16 * (if j = i then 1 else 0))) (by simp only [fnR, runs, run, ev, evA, evT, evI, bindq_ok, ob_ok, sq_nx, sq_rt, onO_some, liftO_some, kd_some, dat_v, dat_t, tru_bl, intOf_int, noExq, stk_v, stk_t, stk_o, stow_tt, stow_fv, stow_ft, eqD_int, cmp_ne, cmp_eq, cmp_gt, cmp_ge, cmp_lt, cmp_le, cmp_in, cmp_notin, cmp_is, cmp_isnot, bin_add, bin_sub, b1_abs, ix0, ix1, items_lst, items_row, put, List.map_cons, List.map_nil, List.cons_append, List.nil_append, List.append_nil, List.length_cons, List.length_nil, List.replicate, List.getElem?_cons_zero, List.getElem?_cons_succ, List.getElem?_nil, List.set_cons_zero, List.set_cons_succ, List.set_nil, Nat.reduceAdd, Nat.reduceSub, Nat.reduceLT, Nat.reduceEqDiff, if_true, ite_true, if_false, ite_false, Option.map_some, Option.map_none, reduceIte, reduceCtorEq, Bool.false_eq_true, Nat.zero_add, Nat.add_zero, Nat.zero_lt_succ, Nat.zero_lt_one, Nat.lt_add_left_iff_pos, Nat.succ_eq_add_one, Nat.reduceLeDiff, items_names]) (by decide) fun j hj => ⟨_, rfl, .v, nofun, ?_⟩]
      · show _ = Res.ok (K3.t, D.lst (((List.range 6).map fun j => (16 * (if j = i then 1 else 0) : Int)).map D.int)) s
        rw [List.map_map]
        rfl
      · have i1 : ixD (Fm.nm i).D (.int 1) = some (.str (nm i)) := rfl
        have m1 : mulOk 16 1 = true := by decide +kernel
        have m0 : mulOk 16 0 = true := by decide +kernel
        simp only [wipeR, fnR, runs, run, ev, evA, evT, evI, bindq_ok, ob_ok, sq_nx, sq_rt, onO_some, liftO_some, kd_some, dat_v, dat_t, tru_bl, intOf_int, noExq, stk_v, stk_t, stk_o, stow_tt, stow_fv, stow_ft, eqD_int, cmp_ne, cmp_eq, cmp_gt, cmp_ge, cmp_lt, cmp_le, cmp_in, cmp_notin, cmp_is, cmp_isnot, bin_add, bin_sub, b1_abs, ix0, ix1, items_lst, items_row, put, List.map_cons, List.map_nil, List.cons_append, List.nil_append, List.append_nil, List.length_cons, List.length_nil, List.replicate, List.getElem?_cons_zero, List.getElem?_cons_succ, List.getElem?_nil, List.set_cons_zero, List.set_cons_succ, List.set_nil, Nat.reduceAdd, Nat.reduceSub, Nat.reduceLT, Nat.reduceEqDiff, if_true, ite_true, if_false, ite_false, Option.map_some, Option.map_none, reduceIte, reduceCtorEq, Bool.false_eq_true, Nat.zero_add, Nat.add_zero, Nat.zero_lt_succ, Nat.zero_lt_one, Nat.lt_add_left_iff_pos, Nat.succ_eq_add_one, Nat.reduceLeDiff, i1, eq_nm (List.mem_range.mp hj) hi, b1D]
        by_cases h : j = i
        · simp only [h, decide_true, if_true, bin_mul m1, fnR, runs, run, ev, evA, evT, evI, bindq_ok, ob_ok, sq_nx, sq_rt, onO_some, liftO_some, kd_some, dat_v, dat_t, tru_bl, intOf_int, noExq, stk_v, stk_t, stk_o, stow_tt, stow_fv, stow_ft, eqD_int, cmp_ne, cmp_eq, cmp_gt, cmp_ge, cmp_lt, cmp_le, cmp_in, cmp_notin, cmp_is, cmp_isnot, bin_add, bin_sub, b1_abs, ix0, ix1, items_lst, items_row, put, List.map_cons, List.map_nil, List.cons_append, List.nil_append, List.append_nil, List.length_cons, List.length_nil, List.replicate, List.getElem?_cons_zero, List.getElem?_cons_succ, List.getElem?_nil, List.set_cons_zero, List.set_cons_succ, List.set_nil, Nat.reduceAdd, Nat.reduceSub, Nat.reduceLT, Nat.reduceEqDiff, if_true, ite_true, if_false, ite_false, Option.map_some, Option.map_none, reduceIte, reduceCtorEq, Bool.false_eq_true, Nat.zero_add, Nat.add_zero, Nat.zero_lt_succ, Nat.zero_lt_one, Nat.lt_add_left_iff_pos, Nat.succ_eq_add_one, Nat.reduceLeDiff]
        · simp only [h, decide_false, Bool.false_eq_true, if_false, bin_mul m0, fnR, runs, run, ev, evA, evT, evI, bindq_ok, ob_ok, sq_nx, sq_rt, onO_some, liftO_some, kd_some, dat_v, dat_t, tru_bl, intOf_int, noExq, stk_v, stk_t, stk_o, stow_tt, stow_fv, stow_ft, eqD_int, cmp_ne, cmp_eq, cmp_gt, cmp_ge, cmp_lt, cmp_le, cmp_in, cmp_notin, cmp_is, cmp_isnot, bin_add, bin_sub, b1_abs, ix0, ix1, items_lst, items_row, put, List.map_cons, List.map_nil, List.cons_append, List.nil_append, List.append_nil, List.length_cons, List.length_nil, List.replicate, List.getElem?_cons_zero, List.getElem?_cons_succ, List.getElem?_nil, List.set_cons_zero, List.set_cons_succ, List.set_nil, Nat.reduceAdd, Nat.reduceSub, Nat.reduceLT, Nat.reduceEqDiff, if_true, ite_true, if_false, ite_false, Option.map_some, Option.map_none, reduceIte, reduceCtorEq, Bool.false_eq_true, Nat.zero_add, Nat.add_zero, Nat.zero_lt_succ, Nat.zero_lt_one, Nat.lt_add_left_iff_pos, Nat.succ_eq_add_one, Nat.reduceLeDiff]
    refine seq_ret (k := .v) (d := lm (.nm i)) (by
      rw [ev, evA, e]
      rfl) nofun
  | n + 1, .nu k, _, _, _ => by kernel_rfl
  | n + 1, .pw p k, hk, hn, hd => by
    have hd' : p.dep + 1 ≤ 4 := hd
    have hn' : p.dep + 1 ≤ n + 1 := hn
    have ih := lexp_ok s n p hk.1 (by omega) (by omega)
    have hb := lex_bd hk.1 (show p.dep ≤ 4 by omega)
    have hl := (lex_ok p hk.1 (by omega)).len
    refine fnR_rt ?_
    show runs (c__law_exponents _) [.va (Fm.pw p k).D, .no, .no, .no, .no, .no, .no, .no, .no, .no, .no] s = _
    unfold c__law_exponents
    refine seq_asg (x := (.v, .str "power")) (ρ' := [.va (Fm.pw p k).D, .va (.str "power"), .no, .no, .no, .no, .no, .no, .no, .no, .no]) (by rfl) rfl rfl ?_
    refine seq_iff (k3 := .v) (by kernel_rfl) ?_
    refine seq_iff (k3 := .v) (by kernel_rfl) ?_
    have i1 : ixD (Fm.pw p k).D (.int 1) = some p.D := rfl
    refine seq_nx (ρ' := [.va (Fm.pw p k).D, .va (.str "power"), .va (irow (lex p)), .va (irows (ldm p)), .no, .no, .no, .no, .no, .no, .no]) (s' := s) (by simp only [fnR, runs, run, ev, evA, evT, evI, bindq_ok, ob_ok, sq_nx, sq_rt, onO_some, liftO_some, kd_some, dat_v, dat_t, tru_bl, intOf_int, noExq, stk_v, stk_t, stk_o, stow_tt, stow_fv, stow_ft, eqD_int, cmp_ne, cmp_eq, cmp_gt, cmp_ge, cmp_lt, cmp_le, cmp_in, cmp_notin, cmp_is, cmp_isnot, bin_add, bin_sub, b1_abs, ix0, ix1, items_lst, items_row, put, List.map_cons, List.map_nil, List.cons_append, List.nil_append, List.append_nil, List.length_cons, List.length_nil, List.replicate, List.getElem?_cons_zero, List.getElem?_cons_succ, List.getElem?_nil, List.set_cons_zero, List.set_cons_succ, List.set_nil, Nat.reduceAdd, Nat.reduceSub, Nat.reduceLT, Nat.reduceEqDiff, if_true, ite_true, if_false, ite_false, Option.map_some, Option.map_none, reduceIte, reduceCtorEq, Bool.false_eq_true, Nat.zero_add, Nat.add_zero, Nat.zero_lt_succ, Nat.zero_lt_one, Nat.lt_add_left_iff_pos, Nat.succ_eq_add_one, Nat.reduceLeDiff, i1, ih]; rfl) ?_
    refine seq_iff (k3 := .v) (by kernel_rfl) ?_
    refine seq_ift (k3 := .v) (by kernel_rfl) ?_
    have e : ev (S := List Int) (.lc (.seq (.var 2)) (.nm 10) .nil (.bin .mul (.var 10) (.ix (.var 0) (.con (.int 2)))) [10]) [.va (Fm.pw p k).D, .va (.str "power"), .va (irow (lex p)), .va (irows (ldm p)), .no, .no, .no, .no, .no, .no, .no] s = .ok (.t, irow (lex (.pw p k))) s := by
      rw [ev_lc (l := lex p) (e := D.int) (g := fun x => .int (x * k)) (by simp only [fnR, runs, run, ev, evA, evT, evI, bindq_ok, ob_ok, sq_nx, sq_rt, onO_some, liftO_some, kd_some, dat_v, dat_t, tru_bl, intOf_int, noExq, stk_v, stk_t, stk_o, stow_tt, stow_fv, stow_ft, eqD_int, cmp_ne, cmp_eq, cmp_gt, cmp_ge, cmp_lt, cmp_le, cmp_in, cmp_notin, cmp_is, cmp_isnot, bin_add, bin_sub, b1_abs, ix0, ix1, items_lst, items_row, put, List.map_cons, List.map_nil, List.cons_append, List.nil_append, List.append_nil, List.length_cons, List.length_nil, List.replicate, List.getElem?_cons_zero, List.getElem?_cons_succ, List.getElem?_nil, List.set_cons_zero, List.set_cons_succ, List.set_nil, Nat.reduceAdd, Nat.reduceSub, Nat.reduceLT, Nat.reduceEqDiff, if_true, ite_true, if_false, ite_false, Option.map_some, Option.map_none, reduceIte, reduceCtorEq, Bool.false_eq_true, Nat.zero_add, Nat.add_zero, Nat.zero_lt_succ, Nat.zero_lt_one, Nat.lt_add_left_iff_pos, Nat.succ_eq_add_one, Nat.reduceLeDiff, items_irow]) (by rw [hl]; decide) fun x hx => ⟨_, rfl, .v, nofun, by
        have i2 : ixD (Fm.pw p k).D (.int 2) = some (.int k) := rfl
        have m := mulOk_of (hb x hx) (show k.natAbs < 2 ^ 2 by have := hk.2; omega) (by decide)
        simp only [wipeR, fnR, runs, run, ev, evA, evT, evI, bindq_ok, ob_ok, sq_nx, sq_rt, onO_some, liftO_some, kd_some, dat_v, dat_t, tru_bl, intOf_int, noExq, stk_v, stk_t, stk_o, stow_tt, stow_fv, stow_ft, eqD_int, cmp_ne, cmp_eq, cmp_gt, cmp_ge, cmp_lt, cmp_le, cmp_in, cmp_notin, cmp_is, cmp_isnot, bin_add, bin_sub, b1_abs, ix0, ix1, items_lst, items_row, put, List.map_cons, List.map_nil, List.cons_append, List.nil_append, List.append_nil, List.length_cons, List.length_nil, List.replicate, List.getElem?_cons_zero, List.getElem?_cons_succ, List.getElem?_nil, List.set_cons_zero, List.set_cons_succ, List.set_nil, Nat.reduceAdd, Nat.reduceSub, Nat.reduceLT, Nat.reduceEqDiff, if_true, ite_true, if_false, ite_false, Option.map_some, Option.map_none, reduceIte, reduceCtorEq, Bool.false_eq_true, Nat.zero_add, Nat.add_zero, Nat.zero_lt_succ, Nat.zero_lt_one, Nat.lt_add_left_iff_pos, Nat.succ_eq_add_one, Nat.reduceLeDiff, i2, bin_mul m]⟩]
      show _ = Res.ok (K3.t, D.lst (((lex p).map (· * k)).map D.int)) s
      rw [List.map_map]
      rfl
    refine seq_ret (k := .v) (d := lm (.pw p k)) (by
      rw [ev, evA, e]
      rfl) nofun
  | n + 1, .rt p, hk, hn, hd => by
    have hd' : p.dep + 1 ≤ 4 := hd
    have hn' : p.dep + 1 ≤ n + 1 := hn
    have ih := lexp_ok s n p hk (by omega) (by omega)
    have hl := (lex_ok p hk (by omega)).len
    refine fnR_rt ?_
    show runs (c__law_exponents _) [.va (Fm.rt p).D, .no, .no, .no, .no, .no, .no, .no, .no, .no, .no] s = _
    unfold c__law_exponents
    refine seq_asg (x := (.v, .str "root")) (ρ' := [.va (Fm.rt p).D, .va (.str "root"), .no, .no, .no, .no, .no, .no, .no, .no, .no]) (by rfl) rfl rfl ?_
    refine seq_iff (k3 := .v) (by kernel_rfl) ?_
    refine seq_iff (k3 := .v) (by kernel_rfl) ?_
    have i1 : ixD (Fm.rt p).D (.int 1) = some p.D := rfl
    refine seq_nx (ρ' := [.va (Fm.rt p).D, .va (.str "root"), .va (irow (lex p)), .va (irows (ldm p)), .no, .no, .no, .no, .no, .no, .no]) (s' := s) (by simp only [fnR, runs, run, ev, evA, evT, evI, bindq_ok, ob_ok, sq_nx, sq_rt, onO_some, liftO_some, kd_some, dat_v, dat_t, tru_bl, intOf_int, noExq, stk_v, stk_t, stk_o, stow_tt, stow_fv, stow_ft, eqD_int, cmp_ne, cmp_eq, cmp_gt, cmp_ge, cmp_lt, cmp_le, cmp_in, cmp_notin, cmp_is, cmp_isnot, bin_add, bin_sub, b1_abs, ix0, ix1, items_lst, items_row, put, List.map_cons, List.map_nil, List.cons_append, List.nil_append, List.append_nil, List.length_cons, List.length_nil, List.replicate, List.getElem?_cons_zero, List.getElem?_cons_succ, List.getElem?_nil, List.set_cons_zero, List.set_cons_succ, List.set_nil, Nat.reduceAdd, Nat.reduceSub, Nat.reduceLT, Nat.reduceEqDiff, if_true, ite_true, if_false, ite_false, Option.map_some, Option.map_none, reduceIte, reduceCtorEq, Bool.false_eq_true, Nat.zero_add, Nat.add_zero, Nat.zero_lt_succ, Nat.zero_lt_one, Nat.lt_add_left_iff_pos, Nat.succ_eq_add_one, Nat.reduceLeDiff, i1, ih]; rfl) ?_
    refine seq_ift (k3 := .v) (by kernel_rfl) ?_
    have e : ev (S := List Int) (.lc (.seq (.var 2)) (.nm 10) .nil (.bin .fdv (.var 10) (.con (.int 2))) [10]) [.va (Fm.rt p).D, .va (.str "root"), .va (irow (lex p)), .va (irows (ldm p)), .no, .no, .no, .no, .no, .no, .no] s = .ok (.t, irow (lex (.rt p))) s := by
      rw [ev_lc (l := lex p) (e := D.int) (g := fun x => .int (x.fdiv 2)) (by simp only [fnR, runs, run, ev, evA, evT, evI, bindq_ok, ob_ok, sq_nx, sq_rt, onO_some, liftO_some, kd_some, dat_v, dat_t, tru_bl, intOf_int, noExq, stk_v, stk_t, stk_o, stow_tt, stow_fv, stow_ft, eqD_int, cmp_ne, cmp_eq, cmp_gt, cmp_ge, cmp_lt, cmp_le, cmp_in, cmp_notin, cmp_is, cmp_isnot, bin_add, bin_sub, b1_abs, ix0, ix1, items_lst, items_row, put, List.map_cons, List.map_nil, List.cons_append, List.nil_append, List.append_nil, List.length_cons, List.length_nil, List.replicate, List.getElem?_cons_zero, List.getElem?_cons_succ, List.getElem?_nil, List.set_cons_zero, List.set_cons_succ, List.set_nil, Nat.reduceAdd, Nat.reduceSub, Nat.reduceLT, Nat.reduceEqDiff, if_true, ite_true, if_false, ite_false, Option.map_some, Option.map_none, reduceIte, reduceCtorEq, Bool.false_eq_true, Nat.zero_add, Nat.add_zero, Nat.zero_lt_succ, Nat.zero_lt_one, Nat.lt_add_left_iff_pos, Nat.succ_eq_add_one, Nat.reduceLeDiff, items_irow]) (by rw [hl]; decide) fun x hx => ⟨_, rfl, .v, nofun, by
        have m : divOk 2 = true := by decide +kernel
        simp only [wipeR, fnR, runs, run, ev, evA, evT, evI, bindq_ok, ob_ok, sq_nx, sq_rt, onO_some, liftO_some, kd_some, dat_v, dat_t, tru_bl, intOf_int, noExq, stk_v, stk_t, stk_o, stow_tt, stow_fv, stow_ft, eqD_int, cmp_ne, cmp_eq, cmp_gt, cmp_ge, cmp_lt, cmp_le, cmp_in, cmp_notin, cmp_is, cmp_isnot, bin_add, bin_sub, b1_abs, ix0, ix1, items_lst, items_row, put, List.map_cons, List.map_nil, List.cons_append, List.nil_append, List.append_nil, List.length_cons, List.length_nil, List.replicate, List.getElem?_cons_zero, List.getElem?_cons_succ, List.getElem?_nil, List.set_cons_zero, List.set_cons_succ, List.set_nil, Nat.reduceAdd, Nat.reduceSub, Nat.reduceLT, Nat.reduceEqDiff, if_true, ite_true, if_false, ite_false, Option.map_some, Option.map_none, reduceIte, reduceCtorEq, Bool.false_eq_true, Nat.zero_add, Nat.add_zero, Nat.zero_lt_succ, Nat.zero_lt_one, Nat.lt_add_left_iff_pos, Nat.succ_eq_add_one, Nat.reduceLeDiff, bin_fdv m]⟩]
      show _ = Res.ok (K3.t, D.lst (((lex p).map fun x => x.fdiv 2).map D.int)) s
      rw [List.map_map]
      rfl
    refine seq_ret (k := .v) (d := lm (.rt p)) (by
      rw [ev, evA, e]
      rfl) nofun
  | n + 1, .wv p, hk, hn, hd => by
    have hd' : p.dep + 1 ≤ 4 := hd
    have hn' : p.dep + 1 ≤ n + 1 := hn
    have ih := lexp_ok s n p hk (by omega) (by omega)
    refine fnR_rt ?_
    show runs (c__law_exponents _) [.va (Fm.wv p).D, .no, .no, .no, .no, .no, .no, .no, .no, .no, .no] s = _
    unfold c__law_exponents
    refine seq_asg (x := (.v, .str "wave")) (ρ' := [.va (Fm.wv p).D, .va (.str "wave"), .no, .no, .no, .no, .no, .no, .no, .no, .no]) (by rfl) rfl rfl ?_
    refine seq_iff (k3 := .v) (by kernel_rfl) ?_
    refine seq_iff (k3 := .v) (by kernel_rfl) ?_
    have i1 : ixD (Fm.wv p).D (.int 1) = some p.D := rfl
    refine seq_nx (ρ' := [.va (Fm.wv p).D, .va (.str "wave"), .va (irow (lex p)), .va (irows (ldm p)), .no, .no, .no, .no, .no, .no, .no]) (s' := s) (by simp only [fnR, runs, run, ev, evA, evT, evI, bindq_ok, ob_ok, sq_nx, sq_rt, onO_some, liftO_some, kd_some, dat_v, dat_t, tru_bl, intOf_int, noExq, stk_v, stk_t, stk_o, stow_tt, stow_fv, stow_ft, eqD_int, cmp_ne, cmp_eq, cmp_gt, cmp_ge, cmp_lt, cmp_le, cmp_in, cmp_notin, cmp_is, cmp_isnot, bin_add, bin_sub, b1_abs, ix0, ix1, items_lst, items_row, put, List.map_cons, List.map_nil, List.cons_append, List.nil_append, List.append_nil, List.length_cons, List.length_nil, List.replicate, List.getElem?_cons_zero, List.getElem?_cons_succ, List.getElem?_nil, List.set_cons_zero, List.set_cons_succ, List.set_nil, Nat.reduceAdd, Nat.reduceSub, Nat.reduceLT, Nat.reduceEqDiff, if_true, ite_true, if_false, ite_false, Option.map_some, Option.map_none, reduceIte, reduceCtorEq, Bool.false_eq_true, Nat.zero_add, Nat.add_zero, Nat.zero_lt_succ, Nat.zero_lt_one, Nat.lt_add_left_iff_pos, Nat.succ_eq_add_one, Nat.reduceLeDiff, i1, ih]; rfl) ?_
    refine seq_iff (k3 := .v) (by kernel_rfl) ?_
    refine seq_iff (k3 := .v) (by kernel_rfl) ?_
    refine seq_ift (k3 := .v) (by kernel_rfl) ?_
    have h2 := ldm_256 (show p.dep ≤ 4 by omega)
    have c1 : binD .add (irows (ldm p)) (.lst [irow (lex p)]) = some (.t, irows (ldm p ++ [lex p])) := cat_irows (a := ldm p) (b := [lex p]) (by simp; omega)
    have z6 : binD .mul (.lst [.int 0]) (.int 6) = some (.t, irow [0, 0, 0, 0, 0, 0]) := by rfl
    refine seq_ret (k := .v) (d := lm (.wv p)) (by
      simp only [fnR, runs, run, ev, evA, evT, evI, bindq_ok, ob_ok, sq_nx, sq_rt, onO_some, liftO_some, kd_some, dat_v, dat_t, tru_bl, intOf_int, noExq, stk_v, stk_t, stk_o, stow_tt, stow_fv, stow_ft, eqD_int, cmp_ne, cmp_eq, cmp_gt, cmp_ge, cmp_lt, cmp_le, cmp_in, cmp_notin, cmp_is, cmp_isnot, bin_add, bin_sub, b1_abs, ix0, ix1, items_lst, items_row, put, List.map_cons, List.map_nil, List.cons_append, List.nil_append, List.append_nil, List.length_cons, List.length_nil, List.replicate, List.getElem?_cons_zero, List.getElem?_cons_succ, List.getElem?_nil, List.set_cons_zero, List.set_cons_succ, List.set_nil, Nat.reduceAdd, Nat.reduceSub, Nat.reduceLT, Nat.reduceEqDiff, if_true, ite_true, if_false, ite_false, Option.map_some, Option.map_none, reduceIte, reduceCtorEq, Bool.false_eq_true, Nat.zero_add, Nat.add_zero, Nat.zero_lt_succ, Nat.zero_lt_one, Nat.lt_add_left_iff_pos, Nat.succ_eq_add_one, Nat.reduceLeDiff, lenOk_of (show 1 ≤ 1000000 by decide), lenOk_of (show 2 ≤ 1000000 by decide), c1, z6]
      rfl) nofun
  | n + 1, .bi o p q, hk, hn, hd => by
    have hd' : max p.dep q.dep + 1 ≤ 4 := hd
    have hn' : max p.dep q.dep + 1 ≤ n + 1 := hn
    have ihp := lexp_ok s n p hk.1 (by omega) (by omega)
    have ihq := lexp_ok s n q hk.2 (by omega) (by omega)
    have bq := lex_bd hk.2 (show q.dep ≤ 4 by omega)
    have lp := (lex_ok p hk.1 (by omega)).len
    have lq := (lex_ok q hk.2 (by omega)).len
    have h2 := ldm_256 (show p.dep ≤ 4 by omega)
    have h3 := ldm_256 (show q.dep ≤ 4 by omega)
    have c1 := cat_irows (a := ldm p) (b := ldm q) (by omega)
    have c2 : binD .add (irows (ldm p ++ ldm q)) (.lst [irow (ladd (lex p) (lex q) (-1))]) = some (.t, irows (ldm p ++ ldm q ++ [ladd (lex p) (lex q) (-1)])) := cat_irows (a := ldm p ++ ldm q) (b := [ladd (lex p) (lex q) (-1)]) (by simp; omega)
    refine fnR_rt ?_
    show runs (c__law_exponents _) [.va (Fm.bi o p q).D, .no, .no, .no, .no, .no, .no, .no, .no, .no, .no] s = _
    unfold c__law_exponents
    refine seq_asg (x := (.v, .str o.w)) (ρ' := [.va (Fm.bi o p q).D, .va (.str o.w), .no, .no, .no, .no, .no, .no, .no, .no, .no]) (by rfl) rfl rfl ?_
    refine seq_iff (k3 := .v) (by cases o <;> kernel_rfl) ?_
    refine seq_iff (k3 := .v) (by cases o <;> kernel_rfl) ?_
    have i1 : ixD (Fm.bi o p q).D (.int 1) = some p.D := rfl
    have i2 : ixD (Fm.bi o p q).D (.int 2) = some q.D := rfl
    refine seq_nx (ρ' := [.va (Fm.bi o p q).D, .va (.str o.w), .va (irow (lex p)), .va (irows (ldm p)), .no, .no, .no, .no, .no, .no, .no]) (s' := s) (by simp only [fnR, runs, run, ev, evA, evT, evI, bindq_ok, ob_ok, sq_nx, sq_rt, onO_some, liftO_some, kd_some, dat_v, dat_t, tru_bl, intOf_int, noExq, stk_v, stk_t, stk_o, stow_tt, stow_fv, stow_ft, eqD_int, cmp_ne, cmp_eq, cmp_gt, cmp_ge, cmp_lt, cmp_le, cmp_in, cmp_notin, cmp_is, cmp_isnot, bin_add, bin_sub, b1_abs, ix0, ix1, items_lst, items_row, put, List.map_cons, List.map_nil, List.cons_append, List.nil_append, List.append_nil, List.length_cons, List.length_nil, List.replicate, List.getElem?_cons_zero, List.getElem?_cons_succ, List.getElem?_nil, List.set_cons_zero, List.set_cons_succ, List.set_nil, Nat.reduceAdd, Nat.reduceSub, Nat.reduceLT, Nat.reduceEqDiff, if_true, ite_true, if_false, ite_false, Option.map_some, Option.map_none, reduceIte, reduceCtorEq, Bool.false_eq_true, Nat.zero_add, Nat.add_zero, Nat.zero_lt_succ, Nat.zero_lt_one, Nat.lt_add_left_iff_pos, Nat.succ_eq_add_one, Nat.reduceLeDiff, i1, ihp]; rfl) ?_
    refine seq_iff (k3 := .v) (by cases o <;> kernel_rfl) ?_
    refine seq_iff (k3 := .v) (by cases o <;> kernel_rfl) ?_
    refine seq_iff (k3 := .v) (by cases o <;> kernel_rfl) ?_
    refine seq_nx (ρ' := [.va (Fm.bi o p q).D, .va (.str o.w), .va (irow (lex p)), .va (irows (ldm p)), .va (irow (lex q)), .va (irows (ldm q)), .no, .no, .no, .no, .no]) (s' := s) (by simp only [fnR, runs, run, ev, evA, evT, evI, bindq_ok, ob_ok, sq_nx, sq_rt, onO_some, liftO_some, kd_some, dat_v, dat_t, tru_bl, intOf_int, noExq, stk_v, stk_t, stk_o, stow_tt, stow_fv, stow_ft, eqD_int, cmp_ne, cmp_eq, cmp_gt, cmp_ge, cmp_lt, cmp_le, cmp_in, cmp_notin, cmp_is, cmp_isnot, bin_add, bin_sub, b1_abs, ix0, ix1, items_lst, items_row, put, List.map_cons, List.map_nil, List.cons_append, List.nil_append, List.append_nil, List.length_cons, List.length_nil, List.replicate, List.getElem?_cons_zero, List.getElem?_cons_succ, List.getElem?_nil, List.set_cons_zero, List.set_cons_succ, List.set_nil, Nat.reduceAdd, Nat.reduceSub, Nat.reduceLT, Nat.reduceEqDiff, if_true, ite_true, if_false, ite_false, Option.map_some, Option.map_none, reduceIte, reduceCtorEq, Bool.false_eq_true, Nat.zero_add, Nat.add_zero, Nat.zero_lt_succ, Nat.zero_lt_one, Nat.lt_add_left_iff_pos, Nat.succ_eq_add_one, Nat.reduceLeDiff, i2, ihq]; rfl) ?_
    have both : ∀ sg : Int, (sg = 1 ∨ sg = -1) → ev (S := List Int) (.lc (.zip (.var 2) (.var 4)) (.cons (.nm 8) (.cons (.nm 9) .nil)) .nil (.bin .add (.var 8) (.bin .mul (.var 6) (.var 9))) [8, 9]) [.va (Fm.bi o p q).D, .va (.str o.w), .va (irow (lex p)), .va (irows (ldm p)), .va (irow (lex q)), .va (irows (ldm q)), .va (.int sg), .no, .no, .no, .no] s = .ok (.t, irow (ladd (lex p) (lex q) sg)) s := fun sg hsg => by
      rw [ev_lc (l := (lex p).zip (lex q)) (e := fun z => .tup [.int z.1, .int z.2]) (g := fun z => .int (z.1 + sg * z.2)) (by
        simp only [fnR, runs, run, ev, evA, evT, evI, bindq_ok, ob_ok, sq_nx, sq_rt, onO_some, liftO_some, kd_some, dat_v, dat_t, tru_bl, intOf_int, noExq, stk_v, stk_t, stk_o, stow_tt, stow_fv, stow_ft, eqD_int, cmp_ne, cmp_eq, cmp_gt, cmp_ge, cmp_lt, cmp_le, cmp_in, cmp_notin, cmp_is, cmp_isnot, bin_add, bin_sub, b1_abs, ix0, ix1, items_lst, items_row, put, List.map_cons, List.map_nil, List.cons_append, List.nil_append, List.append_nil, List.length_cons, List.length_nil, List.replicate, List.getElem?_cons_zero, List.getElem?_cons_succ, List.getElem?_nil, List.set_cons_zero, List.set_cons_succ, List.set_nil, Nat.reduceAdd, Nat.reduceSub, Nat.reduceLT, Nat.reduceEqDiff, if_true, ite_true, if_false, ite_false, Option.map_some, Option.map_none, reduceIte, reduceCtorEq, Bool.false_eq_true, Nat.zero_add, Nat.add_zero, Nat.zero_lt_succ, Nat.zero_lt_one, Nat.lt_add_left_iff_pos, Nat.succ_eq_add_one, Nat.reduceLeDiff]
        show liftO s (some (zipD ((lex p).map D.int) ((lex q).map D.int))) = _
        rw [zipD_map]
        rfl) (by rw [List.length_zip]; omega) fun z hz => ⟨_, rfl, .v, nofun, by
        have m := mulOk_of (show sg.natAbs < 2 ^ 1 by rcases hsg with rfl | rfl <;> decide) (bq _ (List.of_mem_zip hz).2) (by decide)
        simp only [wipeR, fnR, runs, run, ev, evA, evT, evI, bindq_ok, ob_ok, sq_nx, sq_rt, onO_some, liftO_some, kd_some, dat_v, dat_t, tru_bl, intOf_int, noExq, stk_v, stk_t, stk_o, stow_tt, stow_fv, stow_ft, eqD_int, cmp_ne, cmp_eq, cmp_gt, cmp_ge, cmp_lt, cmp_le, cmp_in, cmp_notin, cmp_is, cmp_isnot, bin_add, bin_sub, b1_abs, ix0, ix1, items_lst, items_row, put, List.map_cons, List.map_nil, List.cons_append, List.nil_append, List.append_nil, List.length_cons, List.length_nil, List.replicate, List.getElem?_cons_zero, List.getElem?_cons_succ, List.getElem?_nil, List.set_cons_zero, List.set_cons_succ, List.set_nil, Nat.reduceAdd, Nat.reduceSub, Nat.reduceLT, Nat.reduceEqDiff, if_true, ite_true, if_false, ite_false, Option.map_some, Option.map_none, reduceIte, reduceCtorEq, Bool.false_eq_true, Nat.zero_add, Nat.add_zero, Nat.zero_lt_succ, Nat.zero_lt_one, Nat.lt_add_left_iff_pos, Nat.succ_eq_add_one, Nat.reduceLeDiff, bin_mul m]⟩]
      show _ = Res.ok (K3.t, D.lst ((((lex p).zip (lex q)).map fun z => z.1 + sg * z.2).map D.int)) s
      rw [List.map_map]
      rfl
    cases o with
    | times =>
      refine seq_asg (x := (.v, .int 1)) (ρ' := [.va (Fm.bi .times p q).D, .va (.str "times"), .va (irow (lex p)), .va (irows (ldm p)), .va (irow (lex q)), .va (irows (ldm q)), .va (.int 1), .no, .no, .no, .no]) (by kernel_rfl) rfl rfl ?_
      refine seq_asg (both 1 (.inl rfl)) rfl rfl ?_
      refine seq_iff (k3 := .v) (by kernel_rfl) ?_
      refine seq_ret (k := .v) (d := lm (.bi .times p q)) (by
        simp only [fnR, runs, run, ev, evA, evT, evI, bindq_ok, ob_ok, sq_nx, sq_rt, onO_some, liftO_some, kd_some, dat_v, dat_t, tru_bl, intOf_int, noExq, stk_v, stk_t, stk_o, stow_tt, stow_fv, stow_ft, eqD_int, cmp_ne, cmp_eq, cmp_gt, cmp_ge, cmp_lt, cmp_le, cmp_in, cmp_notin, cmp_is, cmp_isnot, bin_add, bin_sub, b1_abs, ix0, ix1, items_lst, items_row, put, List.map_cons, List.map_nil, List.cons_append, List.nil_append, List.append_nil, List.length_cons, List.length_nil, List.replicate, List.getElem?_cons_zero, List.getElem?_cons_succ, List.getElem?_nil, List.set_cons_zero, List.set_cons_succ, List.set_nil, Nat.reduceAdd, Nat.reduceSub, Nat.reduceLT, Nat.reduceEqDiff, if_true, ite_true, if_false, ite_false, Option.map_some, Option.map_none, reduceIte, reduceCtorEq, Bool.false_eq_true, Nat.zero_add, Nat.add_zero, Nat.zero_lt_succ, Nat.zero_lt_one, Nat.lt_add_left_iff_pos, Nat.succ_eq_add_one, Nat.reduceLeDiff, lenOk_of (show 2 ≤ 1000000 by decide), c1]
        rfl) nofun
    | over =>
      refine seq_asg (x := (.v, .int (-1))) (ρ' := [.va (Fm.bi .over p q).D, .va (.str "over"), .va (irow (lex p)), .va (irows (ldm p)), .va (irow (lex q)), .va (irows (ldm q)), .va (.int (-1)), .no, .no, .no, .no]) (by kernel_rfl) rfl rfl ?_
      refine seq_asg (both (-1) (.inr rfl)) rfl rfl ?_
      refine seq_iff (k3 := .v) (by kernel_rfl) ?_
      refine seq_ret (k := .v) (d := lm (.bi .over p q)) (by
        simp only [fnR, runs, run, ev, evA, evT, evI, bindq_ok, ob_ok, sq_nx, sq_rt, onO_some, liftO_some, kd_some, dat_v, dat_t, tru_bl, intOf_int, noExq, stk_v, stk_t, stk_o, stow_tt, stow_fv, stow_ft, eqD_int, cmp_ne, cmp_eq, cmp_gt, cmp_ge, cmp_lt, cmp_le, cmp_in, cmp_notin, cmp_is, cmp_isnot, bin_add, bin_sub, b1_abs, ix0, ix1, items_lst, items_row, put, List.map_cons, List.map_nil, List.cons_append, List.nil_append, List.append_nil, List.length_cons, List.length_nil, List.replicate, List.getElem?_cons_zero, List.getElem?_cons_succ, List.getElem?_nil, List.set_cons_zero, List.set_cons_succ, List.set_nil, Nat.reduceAdd, Nat.reduceSub, Nat.reduceLT, Nat.reduceEqDiff, if_true, ite_true, if_false, ite_false, Option.map_some, Option.map_none, reduceIte, reduceCtorEq, Bool.false_eq_true, Nat.zero_add, Nat.add_zero, Nat.zero_lt_succ, Nat.zero_lt_one, Nat.lt_add_left_iff_pos, Nat.succ_eq_add_one, Nat.reduceLeDiff, lenOk_of (show 2 ≤ 1000000 by decide), c1]
        rfl) nofun
    | plus =>
      refine seq_asg (x := (.v, .int (-1))) (ρ' := [.va (Fm.bi .plus p q).D, .va (.str "plus"), .va (irow (lex p)), .va (irows (ldm p)), .va (irow (lex q)), .va (irows (ldm q)), .va (.int (-1)), .no, .no, .no, .no]) (by kernel_rfl) rfl rfl ?_
      refine seq_asg (both (-1) (.inr rfl)) rfl rfl ?_
      refine seq_ift (k3 := .v) (by kernel_rfl) ?_
      refine seq_ret (k := .v) (d := lm (.bi .plus p q)) (by
        simp only [fnR, runs, run, ev, evA, evT, evI, bindq_ok, ob_ok, sq_nx, sq_rt, onO_some, liftO_some, kd_some, dat_v, dat_t, tru_bl, intOf_int, noExq, stk_v, stk_t, stk_o, stow_tt, stow_fv, stow_ft, eqD_int, cmp_ne, cmp_eq, cmp_gt, cmp_ge, cmp_lt, cmp_le, cmp_in, cmp_notin, cmp_is, cmp_isnot, bin_add, bin_sub, b1_abs, ix0, ix1, items_lst, items_row, put, List.map_cons, List.map_nil, List.cons_append, List.nil_append, List.append_nil, List.length_cons, List.length_nil, List.replicate, List.getElem?_cons_zero, List.getElem?_cons_succ, List.getElem?_nil, List.set_cons_zero, List.set_cons_succ, List.set_nil, Nat.reduceAdd, Nat.reduceSub, Nat.reduceLT, Nat.reduceEqDiff, if_true, ite_true, if_false, ite_false, Option.map_some, Option.map_none, reduceIte, reduceCtorEq, Bool.false_eq_true, Nat.zero_add, Nat.add_zero, Nat.zero_lt_succ, Nat.zero_lt_one, Nat.lt_add_left_iff_pos, Nat.succ_eq_add_one, Nat.reduceLeDiff, lenOk_of (show 1 ≤ 1000000 by decide), lenOk_of (show 2 ≤ 1000000 by decide), c1, c2]
        rfl) nofun
    | minus =>
      refine seq_asg (x := (.v, .int (-1))) (ρ' := [.va (Fm.bi .minus p q).D, .va (.str "minus"), .va (irow (lex p)), .va (irows (ldm p)), .va (irow (lex q)), .va (irows (ldm q)), .va (.int (-1)), .no, .no, .no, .no]) (by kernel_rfl) rfl rfl ?_
      refine seq_asg (both (-1) (.inr rfl)) rfl rfl ?_
      refine seq_ift (k3 := .v) (by kernel_rfl) ?_
      refine seq_ret (k := .v) (d := lm (.bi .minus p q)) (by
        simp only [fnR, runs, run, ev, evA, evT, evI, bindq_ok, ob_ok, sq_nx, sq_rt, onO_some, liftO_some, kd_some, dat_v, dat_t, tru_bl, intOf_int, noExq, stk_v, stk_t, stk_o, stow_tt, stow_fv, stow_ft, eqD_int, cmp_ne, cmp_eq, cmp_gt, cmp_ge, cmp_lt, cmp_le, cmp_in, cmp_notin, cmp_is, cmp_isnot, bin_add, bin_sub, b1_abs, ix0, ix1, items_lst, items_row, put, List.map_cons, List.map_nil, List.cons_append, List.nil_append, List.append_nil, List.length_cons, List.length_nil, List.replicate, List.getElem?_cons_zero, List.getElem?_cons_succ, List.getElem?_nil, List.set_cons_zero, List.set_cons_succ, List.set_nil, Nat.reduceAdd, Nat.reduceSub, Nat.reduceLT, Nat.reduceEqDiff, if_true, ite_true, if_false, ite_false, Option.map_some, Option.map_none, reduceIte, reduceCtorEq, Bool.false_eq_true, Nat.zero_add, Nat.add_zero, Nat.zero_lt_succ, Nat.zero_lt_one, Nat.lt_add_left_iff_pos, Nat.succ_eq_add_one, Nat.reduceLeDiff, lenOk_of (show 1 ≤ 1000000 by decide), lenOk_of (show 2 ≤ 1000000 by decide), c1, c2]
        rfl) nofun
/-! ### _law_rows -/
def stsL (l : List (Fm × Fm)) : List (List Int) := l.flatMap stL
theorem stL_len {p : Fm × Fm} (h : stOk p) : (stL p).length ≤ 513 := by
  have h1 := ldm_256 h.2.2.1
  have h2 := ldm_256 h.2.2.2
  unfold stL
  simp only [List.length_append, List.length_singleton]
  omega
theorem lrows_turn {p : Fm × Fm} (h : stOk p) {acc : List (List Int)} (ha : acc.length ≤ 100000) {a0 x4 x5 x6 x7 : SV} (s : List Int) :
    runs b__law_rows_0 [a0, .va (irows acc), .va p.1.D, .va p.2.D, x4, x5, x6, x7, .no, .no] s = .nx [a0, .va (irows (acc ++ stL p)), .va p.1.D, .va p.2.D, .va (irow (lex p.1)), .va (irows (ldm p.1)), .va (irow (lex p.2)), .va (irows (ldm p.2)), .no, .no] s := by
  have h1 := ldm_256 h.2.2.1
  have h2 := ldm_256 h.2.2.2
  have e1 := lexp_ok s 6 p.1 h.1 (by have := h.2.2.1; omega) h.2.2.1
  have e2 := lexp_ok s 6 p.2 h.2.1 (by have := h.2.2.2; omega) h.2.2.2
  have lp := (lex_ok p.1 h.1 h.2.2.1).len
  have c1 := cat_irows (a := acc) (b := ldm p.1) (by omega)
  have c2 := cat_irows (a := acc ++ ldm p.1) (b := ldm p.2) (by simp; omega)
  have c3 : binD .add (irows (acc ++ ldm p.1 ++ ldm p.2)) (.lst [irow (ladd (lex p.1) (lex p.2) (-1))]) = some (.t, irows (acc ++ stL p)) := by
    have := cat_irows (a := acc ++ ldm p.1 ++ ldm p.2) (b := [ladd (lex p.1) (lex p.2) (-1)]) (by simp; omega)
    unfold stL
    rw [show acc ++ (ldm p.1 ++ ldm p.2 ++ [ladd (lex p.1) (lex p.2) (-1)]) = acc ++ ldm p.1 ++ ldm p.2 ++ [ladd (lex p.1) (lex p.2) (-1)] by simp]
    exact this
  unfold b__law_rows_0
  refine seq_nx (ρ' := [a0, .va (irows acc), .va p.1.D, .va p.2.D, .va (irow (lex p.1)), .va (irows (ldm p.1)), x6, x7, .no, .no]) (s' := s) (by simp only [fnR, runs, run, ev, evA, evT, evI, bindq_ok, ob_ok, sq_nx, sq_rt, onO_some, liftO_some, kd_some, dat_v, dat_t, tru_bl, intOf_int, noExq, stk_v, stk_t, stk_o, stow_tt, stow_fv, stow_ft, eqD_int, cmp_ne, cmp_eq, cmp_gt, cmp_ge, cmp_lt, cmp_le, cmp_in, cmp_notin, cmp_is, cmp_isnot, bin_add, bin_sub, b1_abs, ix0, ix1, items_lst, items_row, put, List.map_cons, List.map_nil, List.cons_append, List.nil_append, List.append_nil, List.length_cons, List.length_nil, List.replicate, List.getElem?_cons_zero, List.getElem?_cons_succ, List.getElem?_nil, List.set_cons_zero, List.set_cons_succ, List.set_nil, Nat.reduceAdd, Nat.reduceSub, Nat.reduceLT, Nat.reduceEqDiff, if_true, ite_true, if_false, ite_false, Option.map_some, Option.map_none, reduceIte, reduceCtorEq, Bool.false_eq_true, Nat.zero_add, Nat.add_zero, Nat.zero_lt_succ, Nat.zero_lt_one, Nat.lt_add_left_iff_pos, Nat.succ_eq_add_one, Nat.reduceLeDiff, e1]; rfl) ?_
  refine seq_nx (ρ' := [a0, .va (irows acc), .va p.1.D, .va p.2.D, .va (irow (lex p.1)), .va (irows (ldm p.1)), .va (irow (lex p.2)), .va (irows (ldm p.2)), .no, .no]) (s' := s) (by simp only [fnR, runs, run, ev, evA, evT, evI, bindq_ok, ob_ok, sq_nx, sq_rt, onO_some, liftO_some, kd_some, dat_v, dat_t, tru_bl, intOf_int, noExq, stk_v, stk_t, stk_o, stow_tt, stow_fv, stow_ft, eqD_int, cmp_ne, cmp_eq, cmp_gt, cmp_ge, cmp_lt, cmp_le, cmp_in, cmp_notin, cmp_is, cmp_isnot, bin_add, bin_sub, b1_abs, ix0, ix1, items_lst, items_row, put, List.map_cons, List.map_nil, List.cons_append, List.nil_append, List.append_nil, List.length_cons, List.length_nil, List.replicate, List.getElem?_cons_zero, List.getElem?_cons_succ, List.getElem?_nil, List.set_cons_zero, List.set_cons_succ, List.set_nil, Nat.reduceAdd, Nat.reduceSub, Nat.reduceLT, Nat.reduceEqDiff, if_true, ite_true, if_false, ite_false, Option.map_some, Option.map_none, reduceIte, reduceCtorEq, Bool.false_eq_true, Nat.zero_add, Nat.add_zero, Nat.zero_lt_succ, Nat.zero_lt_one, Nat.lt_add_left_iff_pos, Nat.succ_eq_add_one, Nat.reduceLeDiff, e2]; rfl) ?_
  have e : ev (S := List Int) (.lc (.zip (.var 4) (.var 6)) (.cons (.nm 8) (.cons (.nm 9) .nil)) .nil (.bin .sub (.var 8) (.var 9)) [8, 9]) [a0, .va (irows acc), .va p.1.D, .va p.2.D, .va (irow (lex p.1)), .va (irows (ldm p.1)), .va (irow (lex p.2)), .va (irows (ldm p.2)), .no, .no] s = .ok (.t, irow (ladd (lex p.1) (lex p.2) (-1))) s := by
    rw [ev_lc (l := (lex p.1).zip (lex p.2)) (e := fun z => .tup [.int z.1, .int z.2]) (g := fun z => .int (z.1 + -1 * z.2)) (by
      simp only [fnR, runs, run, ev, evA, evT, evI, bindq_ok, ob_ok, sq_nx, sq_rt, onO_some, liftO_some, kd_some, dat_v, dat_t, tru_bl, intOf_int, noExq, stk_v, stk_t, stk_o, stow_tt, stow_fv, stow_ft, eqD_int, cmp_ne, cmp_eq, cmp_gt, cmp_ge, cmp_lt, cmp_le, cmp_in, cmp_notin, cmp_is, cmp_isnot, bin_add, bin_sub, b1_abs, ix0, ix1, items_lst, items_row, put, List.map_cons, List.map_nil, List.cons_append, List.nil_append, List.append_nil, List.length_cons, List.length_nil, List.replicate, List.getElem?_cons_zero, List.getElem?_cons_succ, List.getElem?_nil, List.set_cons_zero, List.set_cons_succ, List.set_nil, Nat.reduceAdd, Nat.reduceSub, Nat.reduceLT, Nat.reduceEqDiff, if_true, ite_true, if_false, ite_false, Option.map_some, Option.map_none, reduceIte, reduceCtorEq, Bool.false_eq_true, Nat.zero_add, Nat.add_zero, Nat.zero_lt_succ, Nat.zero_lt_one, Nat.lt_add_left_iff_pos, Nat.succ_eq_add_one, Nat.reduceLeDiff]
      show liftO s (some (zipD ((lex p.1).map D.int) ((lex p.2).map D.int))) = _
      rw [zipD_map]
      rfl) (by rw [List.length_zip]; omega) fun z hz => ⟨_, rfl, .v, nofun, by
      simp only [wipeR, fnR, runs, run, ev, evA, evT, evI, bindq_ok, ob_ok, sq_nx, sq_rt, onO_some, liftO_some, kd_some, dat_v, dat_t, tru_bl, intOf_int, noExq, stk_v, stk_t, stk_o, stow_tt, stow_fv, stow_ft, eqD_int, cmp_ne, cmp_eq, cmp_gt, cmp_ge, cmp_lt, cmp_le, cmp_in, cmp_notin, cmp_is, cmp_isnot, bin_add, bin_sub, b1_abs, ix0, ix1, items_lst, items_row, put, List.map_cons, List.map_nil, List.cons_append, List.nil_append, List.append_nil, List.length_cons, List.length_nil, List.replicate, List.getElem?_cons_zero, List.getElem?_cons_succ, List.getElem?_nil, List.set_cons_zero, List.set_cons_succ, List.set_nil, Nat.reduceAdd, Nat.reduceSub, Nat.reduceLT, Nat.reduceEqDiff, if_true, ite_true, if_false, ite_false, Option.map_some, Option.map_none, reduceIte, reduceCtorEq, Bool.false_eq_true, Nat.zero_add, Nat.add_zero, Nat.zero_lt_succ, Nat.zero_lt_one, Nat.lt_add_left_iff_pos, Nat.succ_eq_add_one, Nat.reduceLeDiff, show z.1 - z.2 = z.1 + -1 * z.2 by omega]⟩]
    show _ = Res.ok (K3.t, D.lst ((((lex p.1).zip (lex p.2)).map fun z => z.1 + -1 * z.2).map D.int)) s
    rw [List.map_map]
    rfl
  refine seq_asg (x := (.t, irows (acc ++ stL p))) (ρ' := [a0, .va (irows (acc ++ stL p)), .va p.1.D, .va p.2.D, .va (irow (lex p.1)), .va (irows (ldm p.1)), .va (irow (lex p.2)), .va (irows (ldm p.2)), .no, .no]) ?_ rfl rfl (by rfl)
  generalize hE : CE.lc (S := List Int) (.zip (.var 4) (.var 6)) (.cons (.nm 8) (.cons (.nm 9) .nil)) .nil (.bin .sub (.var 8) (.var 9)) [8, 9] = E at e ⊢
  simp only [fnR, runs, run, ev, evA, evT, evI, bindq_ok, ob_ok, sq_nx, sq_rt, onO_some, liftO_some, kd_some, dat_v, dat_t, tru_bl, intOf_int, noExq, stk_v, stk_t, stk_o, stow_tt, stow_fv, stow_ft, eqD_int, cmp_ne, cmp_eq, cmp_gt, cmp_ge, cmp_lt, cmp_le, cmp_in, cmp_notin, cmp_is, cmp_isnot, bin_add, bin_sub, b1_abs, ix0, ix1, items_lst, items_row, put, List.map_cons, List.map_nil, List.cons_append, List.nil_append, List.append_nil, List.length_cons, List.length_nil, List.replicate, List.getElem?_cons_zero, List.getElem?_cons_succ, List.getElem?_nil, List.set_cons_zero, List.set_cons_succ, List.set_nil, Nat.reduceAdd, Nat.reduceSub, Nat.reduceLT, Nat.reduceEqDiff, if_true, ite_true, if_false, ite_false, Option.map_some, Option.map_none, reduceIte, reduceCtorEq, Bool.false_eq_true, Nat.zero_add, Nat.add_zero, Nat.zero_lt_succ, Nat.zero_lt_one, Nat.lt_add_left_iff_pos, Nat.succ_eq_add_one, Nat.reduceLeDiff, c1, c2, e, lenOk_of (show 1 ≤ 1000000 by decide), c3]
theorem g__law_rows_ok {l : List (Fm × Fm)} (hl : l.length ≤ 100) (h : ∀ p ∈ l, stOk p) (s : List Int) : g__law_rows [stsD l] s = .ok (irows (stsL l)) s := by
  refine fnR_rt ?_
  show runs c__law_rows [.va (stsD l), .no, .no, .no, .no, .no, .no, .no, .no, .no] s = _
  unfold c__law_rows
  refine seq_asg (x := (.t, irows [])) (ρ' := [.va (stsD l), .va (irows []), .no, .no, .no, .no, .no, .no, .no, .no]) (by rfl) rfl rfl ?_
  obtain ⟨ρ', s', hf, rfl, acc, x2, x3, x4, x5, x6, x7, rfl, hacc, _⟩ := forR_ind (e := stD) (f := fun d ρ s => onO (asgT (.cons (.nm 2) (.cons (.nm 3) .nil)) d ρ) fun ρ' => runs b__law_rows_0 ρ' s)
    (P := fun (m : List (Fm × Fm)) ρ s' => s' = s ∧ ∃ (acc : List (List Int)) (x2 x3 x4 x5 x6 x7 : SV), ρ = [.va (stsD l), .va (irows acc), x2, x3, x4, x5, x6, x7, .no, .no] ∧ acc ++ stsL m = stsL l ∧ (∀ p ∈ m, stOk p) ∧ m.length ≤ 100 ∧ acc.length ≤ 513 * (100 - m.length))
    (fun p m ρ s1 hP => by
      obtain ⟨rfl, acc, x2, x3, x4, x5, x6, x7, rfl, hacc, hm, hlm, hla⟩ := hP
      have hp := hm p List.mem_cons_self
      have := stL_len hp
      simp only [List.length_cons] at hlm hla
      refine ⟨_, _, lrows_turn hp (by omega) s1, rfl, acc ++ stL p, _, _, _, _, _, _, rfl, ?_, fun q hq => hm q (List.mem_cons_of_mem _ hq), by omega, by rw [List.length_append]; omega⟩
      rw [← hacc]
      simp [stsL]) l _ s ⟨rfl, [], .no, .no, .no, .no, .no, .no, rfl, rfl, h, hl, by simp⟩
  have hacc : acc = stsL l := by simpa [stsL] using hacc
  subst hacc
  refine seq_nx (run_forq (s1 := s') (ds := l.map stD) (by rfl) hf) ?_
  rfl
end Mf
set_option Elab.async false
set_option linter.all false
set_option maxRecDepth 100000
set_option maxHeartbeats 1000000
namespace Mf
open PySem L2
/-! ### _law_divisor -/
theorem ldiv_loop (s : List Int) (x y : SV) : ∀ (n : Nat) (a b : Int), 0 ≤ a → 0 ≤ b → b.natAbs < n →
    whlR (fun ρ s => (ev (.cmp .gt (.var 3) (.con (.int 0))) ρ s).bind tru) (runs b__law_divisor_0) n [x, .va (.int a), y, .va (.int b)] s = .nx [x, .va (.int (Int.gcd a b : Nat)), y, .va (.int 0)] s
  | 0, a, b, _, _, h => by omega
  | n + 1, a, b, ha, hb, h => by
    by_cases e : b = 0
    · subst e
      have : ((Int.gcd a 0 : Nat) : Int) = a := by rw [Int.gcd_zero_right]; omega
      simp only [whlR, b__law_divisor_0, fnR, runs, run, ev, evA, evT, evI, bindq_ok, ob_ok, sq_nx, sq_rt, onO_some, liftO_some, kd_some, dat_v, dat_t, tru_bl, intOf_int, noExq, stk_v, stk_t, stk_o, stow_tt, stow_fv, stow_ft, eqD_int, cmp_ne, cmp_eq, cmp_gt, cmp_ge, cmp_lt, cmp_le, cmp_in, cmp_notin, cmp_is, cmp_isnot, bin_add, bin_sub, b1_abs, ix0, ix1, items_lst, items_row, put, List.map_cons, List.map_nil, List.cons_append, List.nil_append, List.append_nil, List.length_cons, List.length_nil, List.replicate, List.getElem?_cons_zero, List.getElem?_cons_succ, List.getElem?_nil, List.set_cons_zero, List.set_cons_succ, List.set_nil, Nat.reduceAdd, Nat.reduceSub, Nat.reduceLT, Nat.reduceEqDiff, if_true, ite_true, if_false, ite_false, Option.map_some, Option.map_none, reduceIte, reduceCtorEq, Bool.false_eq_true, Nat.zero_add, Nat.add_zero, Nat.zero_lt_succ, Nat.zero_lt_one, Nat.lt_add_left_iff_pos, Nat.succ_eq_add_one, Nat.reduceLeDiff, Int.lt_irrefl, decide_false, this]
    · have e0 : 0 < b := by omega
      have h1 := ldiv_loop s x y n b (a.fmod b) hb (Int.fmod_nonneg_of_pos _ e0) (by have := fmod_lt a e; omega)
      rw [gcd_fmod] at h1
      rw [← h1]
      simp only [whlR, b__law_divisor_0, fnR, runs, run, ev, evA, evT, evI, bindq_ok, ob_ok, sq_nx, sq_rt, onO_some, liftO_some, kd_some, dat_v, dat_t, tru_bl, intOf_int, noExq, stk_v, stk_t, stk_o, stow_tt, stow_fv, stow_ft, eqD_int, cmp_ne, cmp_eq, cmp_gt, cmp_ge, cmp_lt, cmp_le, cmp_in, cmp_notin, cmp_is, cmp_isnot, bin_add, bin_sub, b1_abs, ix0, ix1, items_lst, items_row, put, List.map_cons, List.map_nil, List.cons_append, List.nil_append, List.append_nil, List.length_cons, List.length_nil, List.replicate, List.getElem?_cons_zero, List.getElem?_cons_succ, List.getElem?_nil, List.set_cons_zero, List.set_cons_succ, List.set_nil, Nat.reduceAdd, Nat.reduceSub, Nat.reduceLT, Nat.reduceEqDiff, if_true, ite_true, if_false, ite_false, Option.map_some, Option.map_none, reduceIte, reduceCtorEq, Bool.false_eq_true, Nat.zero_add, Nat.add_zero, Nat.zero_lt_succ, Nat.zero_lt_one, Nat.lt_add_left_iff_pos, Nat.succ_eq_add_one, Nat.reduceLeDiff, bin_mod e, e0, decide_true]
theorem g__law_divisor_ok (r : List Int) (s : List Int) : g__law_divisor [trow r] s = .ok (.int (gcdF 0 r : Nat)) s := by
  obtain ⟨ρ', s', hf, a, x2, x3, rfl, rfl, ha⟩ := forR_ind (e := D.int) (f := fun d ρ s => onO (asgT (.nm 2) d ρ) fun ρ' => runs b__law_divisor_1 ρ' s)
    (P := fun (m : List Int) ρ s' => ∃ (a : Nat) (x2 x3 : SV), ρ = [.va (trow r), .va (.int (a : Int)), x2, x3] ∧ s' = s ∧ gcdF a m = gcdF 0 r)
    (fun y m ρ s1 hP => by
      obtain ⟨a, x2, x3, rfl, rfl, ha⟩ := hP
      refine ⟨[.va (trow r), .va (.int ((Int.gcd a y : Nat) : Int)), .va (.int y), .va (.int 0)], s1, ?_, Int.gcd a y, _, _, rfl, rfl, ha⟩
      show runs b__law_divisor_1 [.va (trow r), .va (.int (a : Int)), .va (.int y), x3] s1 = _
      unfold b__law_divisor_1
      refine seq_asg (x := (.v, .int (y.natAbs : Int))) (ρ' := [.va (trow r), .va (.int (a : Int)), .va (.int y), .va (.int (y.natAbs : Int))]) (by simp only [fnR, runs, run, ev, evA, evT, evI, bindq_ok, ob_ok, sq_nx, sq_rt, onO_some, liftO_some, kd_some, dat_v, dat_t, tru_bl, intOf_int, noExq, stk_v, stk_t, stk_o, stow_tt, stow_fv, stow_ft, eqD_int, cmp_ne, cmp_eq, cmp_gt, cmp_ge, cmp_lt, cmp_le, cmp_in, cmp_notin, cmp_is, cmp_isnot, bin_add, bin_sub, b1_abs, ix0, ix1, items_lst, items_row, put, List.map_cons, List.map_nil, List.cons_append, List.nil_append, List.append_nil, List.length_cons, List.length_nil, List.replicate, List.getElem?_cons_zero, List.getElem?_cons_succ, List.getElem?_nil, List.set_cons_zero, List.set_cons_succ, List.set_nil, Nat.reduceAdd, Nat.reduceSub, Nat.reduceLT, Nat.reduceEqDiff, if_true, ite_true, if_false, ite_false, Option.map_some, Option.map_none, reduceIte, reduceCtorEq, Bool.false_eq_true, Nat.zero_add, Nat.add_zero, Nat.zero_lt_succ, Nat.zero_lt_one, Nat.lt_add_left_iff_pos, Nat.succ_eq_add_one, Nat.reduceLeDiff]) rfl rfl ?_
      have hl := ldiv_loop s1 (.va (trow r)) (.va (.int y)) (y.natAbs + 1) a y.natAbs (by omega) (by omega) (by omega)
      refine seq_nx (ρ' := [.va (trow r), .va (.int ((Int.gcd a y : Nat) : Int)), .va (.int y), .va (.int 0)]) (s' := s1) ?_ (by rfl)
      rw [run_whl]
      show whlR _ _ ((y.natAbs : Int).natAbs + 1) _ _ = _
      rw [Int.natAbs_natCast, hl]
      have : Int.gcd a (y.natAbs : Int) = Int.gcd a y := by simp [Int.gcd]
      rw [this]) r [.va (trow r), .va (.int ((0 : Nat) : Int)), .no, .no] s ⟨0, .no, .no, rfl, rfl, rfl⟩
  refine fnR_rt ?_
  show runs c__law_divisor [.va (trow r), .no, .no, .no] s' = _
  unfold c__law_divisor
  refine seq_asg (x := (.v, .int ((0 : Nat) : Int))) (by rfl) rfl rfl ?_
  refine seq_nx (run_forq (s1 := s') (ds := r.map D.int) (by rfl) hf) ?_
  have ha : a = gcdF 0 r := ha
  rw [← ha]
  rfl
/-! ### rows of ints compared, sorted -/
theorem sh_trow (n : Nat) (r : List Int) : (trow r).sh (n + 1) = true := shs_int n r
theorem shs_trows (n : Nat) : ∀ l : List (List Int), shs (n + 1) (l.map trow) = true
  | [] => rfl
  | r :: l => by
    show ((trow r).sh (n + 1) && shs (n + 1) (l.map trow)) = true
    rw [sh_trow, shs_trows n l]; rfl
theorem deqs_trows : ∀ x y : List (List Int), deqs (x.map trow) (y.map trow) = decide (x = y)
  | [], [] => by simp [deqs]
  | [], _ :: _ => by simp [deqs]
  | _ :: _, [] => by simp [deqs]
  | a :: x, b :: y => by
    show (deqs (a.map D.int) (b.map D.int) && deqs (x.map trow) (y.map trow)) = _
    rw [deqs_int, deqs_trows x y]
    simp
def trows (l : List (List Int)) : D := .tup (l.map trow)
theorem eqD_trows (x y : List (List Int)) : eqD (trows x) (trows y) = some (decide (x = y)) := by
  unfold eqD
  have a : (trows x).sh 60 = true := shs_trows 58 x
  have b : (trows y).sh 60 = true := shs_trows 58 y
  rw [a, b]
  show some (deqs (x.map trow) (y.map trow)) = _
  rw [deqs_trows]
theorem eqD_irow (x y : List Int) : eqD (irow x) (irow y) = some (decide (x = y)) := by
  unfold eqD
  have a : (irow x).sh 60 = true := sh_irow 59 x
  have b : (irow y).sh 60 = true := sh_irow 59 y
  rw [a, b]
  show some (deqs (x.map D.int) (y.map D.int)) = _
  rw [deqs_int]
theorem ix_trow {r : List Int} {p : Nat} (h : p < r.length) : ixD (trow r) (.int (p : Int)) = some (.int (r.getD p 0)) := by
  show atI (r.map D.int) (p : Int) = _
  refine atI_nat ?_
  rw [List.getElem?_map, List.getElem?_eq_getElem h, List.getD_eq_getElem?_getD, List.getElem?_eq_getElem h]
  rfl
theorem leD_int (a b : Int) : leD (.int a) (.int b) = decide (a ≤ b) := by
  show (!PySem.W.dataLt (.int b) (.int a)) = _
  rw [PySem.W.dataLt_int]
  by_cases h : a ≤ b
  · rw [decide_eq_true h, decide_eq_false (by omega)]; rfl
  · rw [decide_eq_false h, decide_eq_true (by omega)]; rfl
theorem keys_int : ∀ l : List Int, keysD (l.map D.int) = some (l.map Sum.inl)
  | [] => rfl
  | a :: l => by
    show (match keyD (.int a), keysD (l.map D.int) with | some k, some ks => some (k :: ks) | _, _ => none) = _
    rw [keys_int l]
    rfl
theorem ded_up : ∀ l : List Int, l.Pairwise (· < ·) → dedK (l.map Sum.inl) = l.map Sum.inl
  | [], _ => rfl
  | a :: l, h => by
    have h' := List.pairwise_cons.mp h
    rw [List.map_cons]
    show (if ((l.map (Sum.inl : Int → Key)).any fun x => decide (x = Sum.inl a)) = true then _ else _) = _
    have hn : ((l.map (Sum.inl : Int → Key)).any fun x => decide (x = Sum.inl a)) = false := by
      rw [List.any_eq_false]
      intro x hx
      obtain ⟨b, hb, rfl⟩ := List.mem_map.mp hx
      have := h'.1 b hb
      simp
      omega
    rw [hn, if_neg (by simp), ded_up l h'.2]
theorem sort_up : ∀ l : List Int, l.Pairwise (· < ·) → sortD (l.map D.int) = l.map D.int
  | [], _ => rfl
  | a :: l, h => by
    have h' := List.pairwise_cons.mp h
    show insD (.int a) (sortD (l.map D.int)) = _
    rw [sort_up l h'.2]
    cases l with
    | nil => rfl
    | cons b l =>
      show (if leD (.int a) (.int b) then _ else _) = _
      rw [leD_int, decide_eq_true (by have := h'.1 b List.mem_cons_self; omega)]
      rfl
theorem sset_up {l : List Int} (h : l.Pairwise (· < ·)) (hl : l.length ≤ 1000) : ssetD (irow l) = some (.t, irow l) := by
  show (match keysD (l.map D.int) with | some ks => _ | none => none) = _
  rw [keys_int]
  show (if (decide ((l.map (Sum.inl : Int → Key)).length ≤ 1000) && ((l.map (Sum.inl : Int → Key)).all (fun k => k.isLeft == true) || (l.map (Sum.inl : Int → Key)).all fun k => k.isLeft == false)) = true then _ else _) = _
  have h1 : decide ((l.map (Sum.inl : Int → Key)).length ≤ 1000) = true := decide_eq_true (by rw [List.length_map]; exact hl)
  have h2 : ((l.map (Sum.inl : Int → Key)).all fun k => k.isLeft == true) = true := by simp
  rw [h1, h2, if_pos (by rfl), ded_up l h, List.map_map]
  show some (K3.t, D.lst (sortD (l.map D.int))) = _
  rw [sort_up l h]
  rfl
/-! ### the forms -/
theorem sts_Ld {l : List (Fm × Fm)} (h : ∀ p ∈ l, stOk p) : Ld (stsRows l) (stsL l) := by
  refine ⟨fun r hr => ?_, ?_⟩
  · obtain ⟨p, hp, hr⟩ := List.mem_flatMap.mp hr
    exact ((stL_ok (h p hp)).1 r hr).1
  · unfold stsRows stsL
    induction l with
    | nil => rfl
    | cons a l ih =>
      rw [List.flatMap_cons, List.flatMap_cons, List.map_append, (stL_ok (h a List.mem_cons_self)).2, ih fun p hp => h p (List.mem_cons_of_mem _ hp)]
theorem sts_six {l : List (Fm × Fm)} (h : ∀ p ∈ l, stOk p) : ∀ r ∈ stsRows l, r.length = 6 := fun r hr => by
  obtain ⟨p, hp, hr⟩ := List.mem_flatMap.mp hr
  exact (stRows_RW (h p hp) r hr).len
theorem sts_IV {l : List (Fm × Fm)} (h : ∀ p ∈ l, stOk p) : IV 10 6 (stsL l) := fun r hr => by
  obtain ⟨p, hp, hr⟩ := List.mem_flatMap.mp hr
  exact (stL_ok (h p hp)).1 r hr
theorem fdiv_abs (a : Int) (b : Nat) : (a.fdiv (b : Int)).natAbs ≤ a.natAbs := by
  rw [Int.fdiv_eq_ediv_of_nonneg _ (by omega)]
  exact Int.natAbs_ediv_le_natAbs a b
theorem whole_bd {B E W : Nat} {r : List Rat} (hr : RW B E W r) {C : Nat} (hB : B ≤ C) (hE : E ≤ C) : ∀ y ∈ wholeQ r, y.natAbs < 2 ^ (C + E) := fun y hy => by
  have hb := hr.bds hB hE
  obtain ⟨R, d, d0, d1, d2, d3, hrr⟩ := hr
  have hden : ∀ x ∈ r, x.den ∣ d := fun x hx => by
    rw [hrr] at hx
    obtain ⟨y, hy, rfl⟩ := List.mem_map.mp hx
    rw [rat_divInt, Rat.den_divInt, if_neg (by omega), Int.natAbs_natCast]
    exact Nat.div_dvd_of_dvd (by have := Int.gcd_dvd_left (d : Int) y; exact_mod_cast this)
  have hL : lcmF 1 r ∣ d := lcmF_of r 1 (Nat.one_dvd _) hden
  have hLb : lcmF 1 r < 2 ^ E := Nat.lt_of_le_of_lt (Nat.le_of_dvd d0 hL) d1
  unfold wholeQ at hy
  obtain ⟨z, hz, rfl⟩ := List.mem_map.mp hy
  obtain ⟨x, hx, rfl⟩ := List.mem_map.mp hz
  refine Nat.lt_of_le_of_lt (fdiv_abs _ _) (Nat.lt_of_le_of_lt (fdiv_abs _ _) ?_)
  exact mul_lt (hb x hx).1 (by simpa using hLb)
theorem fmQ_IV {l : List (Fm × Fm)} (h : ∀ p ∈ l, stOk p) : IV 1406 6 (fmQ l) := fun r hr => by
  obtain ⟨x, hx, rfl⟩ := List.mem_map.mp hr
  have hrw : ∀ r ∈ stsRows l, RW 10 5 6 r := fun r hr => by
    obtain ⟨p, hp, hr⟩ := List.mem_flatMap.mp hr
    exact stRows_RW (h p hp) r hr
  have hw := redQ_RW (n := 6) hrw (by decide) (by decide) x hx
  exact ⟨by rw [wholeQ_len]; exact hw.len, whole_bd hw (C := 703) (by decide) (by decide)⟩
theorem fm_unique {l m : List (Fm × Fm)} (hl : ∀ p ∈ l, stOk p) (hm : ∀ p ∈ m, stOk p) (h : ∀ v, (∀ p ∈ l, ∀ r ∈ stRows p, dot 6 r v = 0) ↔ ∀ p ∈ m, ∀ r ∈ stRows p, dot 6 r v = 0) : fmQ l = fmQ m := by
  refine wq_unique (sts_six hl) (sts_six hm) fun v => ?_
  have key : ∀ l : List (Fm × Fm), (∀ r ∈ stsRows l, dot 6 r v = 0) ↔ ∀ p ∈ l, ∀ r ∈ stRows p, dot 6 r v = 0 := fun l => by
    constructor
    · exact fun k p hp r hr => k r (List.mem_flatMap.mpr ⟨p, hp, hr⟩)
    · intro k r hr
      obtain ⟨p, hp, hr⟩ := List.mem_flatMap.mp hr
      exact k p hp r hr
  rw [key l, key m]
  exact h v
/-- a statement turned around asks the same -/
theorem dot_radd {n : Nat} {a b : List Rat} {m : Rat} {v : Nat → Rat} (h : a.length = b.length) : dot n (radd a b m) v = dot n a v + dot n b v * m := by
  unfold dot
  rw [← sumTo_mul, ← sumTo_add]
  exact sumTo_congr fun q _ => by rw [radd_get h]; grind
theorem st_turned {p : Fm × Fm} {v : Nat → Rat} : (∀ r ∈ stRows (p.2, p.1), dot 6 r v = 0) ↔ ∀ r ∈ stRows p, dot 6 r v = 0 := by
  have e : ∀ a b : Fm, (∀ r ∈ stRows (a, b), dot 6 r v = 0) ↔ (∀ r ∈ dm a, dot 6 r v = 0) ∧ (∀ r ∈ dm b, dot 6 r v = 0) ∧ dot 6 (ex a) v = dot 6 (ex b) v := fun a b => by
    have hd : dot 6 (radd (ex a) (ex b) (-1)) v = dot 6 (ex a) v + dot 6 (ex b) v * -1 := dot_radd (by rw [ex_len, ex_len])
    constructor
    · intro k
      refine ⟨fun r hr => k r (List.mem_append_left _ (List.mem_append_left _ hr)), fun r hr => k r (List.mem_append_left _ (List.mem_append_right _ hr)), ?_⟩
      have := k _ (List.mem_append_right _ List.mem_cons_self)
      rw [hd] at this
      grind
    · rintro ⟨k1, k2, k3⟩ r hr
      rcases List.mem_append.mp hr with z | z
      · rcases List.mem_append.mp z with z | z
        · exact k1 r z
        · exact k2 r z
      · rw [List.mem_singleton.mp z, hd]; grind
  obtain ⟨a, b⟩ := p
  rw [e b a, e a b]
  constructor
  · exact fun ⟨x, y, z⟩ => ⟨y, x, z.symm⟩
  · exact fun ⟨x, y, z⟩ => ⟨y, x, z.symm⟩
theorem fm_rank {l : List (Fm × Fm)} (h : ∀ p ∈ l, stOk p) : rk 6 0 (stsL l) = (fmQ l).length ∧ rk 6 0 (stsL l ++ fmQ l) = (fmQ l).length ∧ rk 6 0 (fmQ l) = (fmQ l).length := by
  obtain ⟨ps, hps, H, _, _⟩ := wq_heads (sts_six h)
  have hps : fmQ l = ps.map Prod.fst := hps
  have e1 : rk 6 0 (fmQ l) = (fmQ l).length := by rw [hps, rk_heads 6 0 ps rfl H fun _ _ => Nat.zero_le _, List.length_map]
  have sp : SpanEq 6 (stsL l) (fmQ l) := wq_span (sts_Ld h)
  have l1 : ∀ x ∈ stsL l, x.length = 6 := (sts_Ld h).len
  have l2 : ∀ x ∈ fmQ l, x.length = 6 := fun x hx => (fmQ_IV h x hx).1
  refine ⟨by rw [rk_span 6 0 rfl l1 l2 sp, e1], ?_, e1⟩
  rw [rk_span 6 0 (M := fmQ l) rfl (fun x hx => by
    rcases List.mem_append.mp hx with z | z
    · exact l1 x z
    · exact l2 x z) l2 ⟨fun x hx => by
      rcases List.mem_append.mp hx with z | z
      · exact sp.1 x z
      · exact InS.mem z, fun x hx => InS.mem (List.mem_append_right _ hx)⟩, e1]
end Mf
set_option Elab.async false
set_option linter.all false
set_option maxRecDepth 100000
set_option maxHeartbeats 2000000
namespace Mf
open PySem L2
variable {p : Addr} {ns : List Int}
theorem nz_t {a : Int} (h : a ≠ 0) : (!decide (a = 0)) = true := by rw [decide_eq_false h]; rfl
theorem nz_f {a : Int} (h : a = 0) : ¬ (!decide (a = 0)) = true := by rw [decide_eq_true h]; exact fun z => (nomatch z)
theorem ihead {x : List Int × Nat} {n : Nat} (h1 : x.1.getD x.2 0 ≠ 0) (h2 : ∀ q < x.2, x.1.getD q 0 = 0) (h3 : x.2 < n) : ∃ t, (List.range n).filter (fun p => !decide (x.1.getD p 0 = 0)) = x.2 :: t := by
  have e : List.range n = List.range' 0 x.2 ++ (x.2 :: (List.range' (x.2 + 1) (n - x.2 - 1))) := by
    have := List.range'_append_1 (s := 0) (m := x.2) (n := n - x.2)
    rw [List.range_eq_range', show n = x.2 + (n - x.2) by omega, ← this, Nat.zero_add]
    congr 1
    rw [show x.2 + (n - x.2) - x.2 - 1 = n - x.2 - 1 by omega]
    obtain ⟨k, hk⟩ : ∃ k, n - x.2 = k + 1 := ⟨n - x.2 - 1, by omega⟩
    rw [hk]
    rfl
  rw [e, List.filter_append]
  have z : (List.range' 0 x.2).filter (fun p => !decide (x.1.getD p 0 = 0)) = [] := by
    rw [List.filter_eq_nil_iff]
    intro q hq
    exact nz_f (h2 q (by have := List.mem_range'_1.mp hq; omega))
  rw [z, List.nil_append, List.filter_cons, if_pos (nz_t h1)]
  exact ⟨_, rfl⟩
theorem one_head {W : Nat} {ps : List (List Int × Nat)} (H : HdI W ps) {y : List Int × Nat} (hy : y ∈ ps) : (ps.filter fun x => !decide (x.1.getD y.2 0 = 0)).length = 1 := by
  have key : ∀ qs : List (List Int × Nat), qs.Pairwise (fun x y => x.2 < y.2) → (∀ x ∈ qs, x ∈ ps) → y ∈ qs → (qs.filter fun x => !decide (x.1.getD y.2 0 = 0)).length = 1 := fun qs => by
    induction qs with
    | nil => exact fun _ _ h => (nomatch h)
    | cons x qs ih =>
      intro hu hs hm
      have hu' := List.pairwise_cons.mp hu
      by_cases e : x.2 = y.2
      · have hx := H.pos x (hs x List.mem_cons_self)
        rw [e] at hx
        rw [List.filter_cons, if_pos (nz_t hx)]
        have : qs.filter (fun x => !decide (x.1.getD y.2 0 = 0)) = [] := by
          rw [List.filter_eq_nil_iff]
          intro z hz
          have := hu'.1 z hz
          have := H.alone z (hs z (List.mem_cons_of_mem _ hz)) y hy (by omega)
          exact nz_f this
        rw [this]
        rfl
      · have : x.1.getD y.2 0 = 0 := H.alone x (hs x List.mem_cons_self) y hy (fun z => e z.symm)
        rw [List.filter_cons, if_neg (nz_f this)]
        refine ih hu'.2 (fun z hz => hs z (List.mem_cons_of_mem _ hz)) ?_
        rcases List.mem_cons.mp hm with z | z
        · subst z; exact absurd rfl e
        · exact z
  exact key ps H.up (fun _ h => h) hy
theorem law_turn0 {ps : List (List Int × Nat)} (H : HdI 6 ps) (hpos : ∀ x ∈ ps, 0 < x.1.getD x.2 0) (hg : ∀ x ∈ ps, gcdF 0 x.1 = 1) {x : List Int × Nat} (hx : x ∈ ps) {hs : List Int} (hhs : hs.length ≤ 1000) {a0 a1 a2 a3 a4 a5 a8 a9 a10 a11 a12 a13 a14 : SV} (s : List Int) :
    ∃ y11, runs (b_law_0 p) [a0, a1, a2, a3, a4, a5, .ow (irow hs), .va (trow x.1), a8, a9, a10, a11, a12, a13, a14] s = .nx [a0, a1, a2, a3, a4, a5, .ow (irow (hs ++ [(x.2 : Int)])), .va (trow x.1), a8, a9, a10, y11, a12, a13, a14] s := by
  obtain ⟨t, ht⟩ := ihead (n := 6) (H.pos x hx) (H.ahead x hx) (H.lt x hx)
  have hl := H.len x hx
  have e1 : ev (S := List Int) (.lc (.rng (.con (.int 6))) (.nm 12) (.cons (.cmp .ne (.ix (.var 7) (.var 12)) (.con (.int 0))) .nil) (.var 12) [12]) [a0, a1, a2, a3, a4, a5, .ow (irow hs), .va (trow x.1), a8, a9, a10, a11, a12, a13, a14] s = .ok (.t, irow ((x.2 :: t).map fun (q : Nat) => (q : Int))) s := by
    rw [ev_lcf (l := List.range 6) (e := fun (q : Nat) => D.int (q : Int)) (g := fun (q : Nat) => D.int (q : Int)) (t := fun q => !decide (x.1.getD q 0 = 0)) (by rfl) (by decide) fun q hq => ⟨_, rfl, ⟨.v, by simp only [wipeR, fnR, runs, run, ev, evA, evT, evI, bindq_ok, ob_ok, sq_nx, sq_rt, onO_some, liftO_some, kd_some, dat_v, dat_t, tru_bl, intOf_int, noExq, stk_v, stk_t, stk_o, stow_tt, stow_fv, stow_ft, eqD_int, cmp_ne, cmp_eq, cmp_gt, cmp_ge, cmp_lt, cmp_le, cmp_in, cmp_notin, cmp_is, cmp_isnot, bin_add, bin_sub, b1_abs, ix0, ix1, items_lst, items_row, put, List.map_cons, List.map_nil, List.cons_append, List.nil_append, List.append_nil, List.length_cons, List.length_nil, List.replicate, List.getElem?_cons_zero, List.getElem?_cons_succ, List.getElem?_nil, List.set_cons_zero, List.set_cons_succ, List.set_nil, Nat.reduceAdd, Nat.reduceSub, Nat.reduceLT, Nat.reduceEqDiff, if_true, ite_true, if_false, ite_false, Option.map_some, Option.map_none, reduceIte, reduceCtorEq, Bool.false_eq_true, Nat.zero_add, Nat.add_zero, Nat.zero_lt_succ, Nat.zero_lt_one, Nat.lt_add_left_iff_pos, Nat.succ_eq_add_one, Nat.reduceLeDiff, ix_trow (show q < x.1.length by rw [hl]; exact List.mem_range.mp hq)]⟩, fun _ => ⟨.v, nofun, by simp only [wipeR, fnR, runs, run, ev, evA, evT, evI, bindq_ok, ob_ok, sq_nx, sq_rt, onO_some, liftO_some, kd_some, dat_v, dat_t, tru_bl, intOf_int, noExq, stk_v, stk_t, stk_o, stow_tt, stow_fv, stow_ft, eqD_int, cmp_ne, cmp_eq, cmp_gt, cmp_ge, cmp_lt, cmp_le, cmp_in, cmp_notin, cmp_is, cmp_isnot, bin_add, bin_sub, b1_abs, ix0, ix1, items_lst, items_row, put, List.map_cons, List.map_nil, List.cons_append, List.nil_append, List.append_nil, List.length_cons, List.length_nil, List.replicate, List.getElem?_cons_zero, List.getElem?_cons_succ, List.getElem?_nil, List.set_cons_zero, List.set_cons_succ, List.set_nil, Nat.reduceAdd, Nat.reduceSub, Nat.reduceLT, Nat.reduceEqDiff, if_true, ite_true, if_false, ite_false, Option.map_some, Option.map_none, reduceIte, reduceCtorEq, Bool.false_eq_true, Nat.zero_add, Nat.add_zero, Nat.zero_lt_succ, Nat.zero_lt_one, Nat.lt_add_left_iff_pos, Nat.succ_eq_add_one, Nat.reduceLeDiff]⟩⟩, ht]
    unfold irow
    rw [List.map_map]
    rfl
  unfold b_law_0
  have l1 : b1D .len (trow x.1) = some (.v, .int 6) := by
    show some (K3.v, D.int ((x.1.map D.int).length : Nat)) = _
    rw [List.length_map, hl]; rfl
  have q1 : eqD (irow ((x.2 :: t).map fun (q : Nat) => (q : Int))) (.lst []) = some false := by
    have := eqD_irow ((x.2 :: t).map fun (q : Nat) => (q : Int)) []
    rw [decide_eq_false (by simp)] at this
    exact this
  have i1 : ixD (irow ((x.2 :: t).map fun (q : Nat) => (q : Int))) (.int 0) = some (.int (x.2 : Int)) := by
    have := ix_irow (r := (x.2 :: t).map fun (q : Nat) => (q : Int)) (p := 0) (by simp)
    simpa using this
  have i2 := ix_trow (r := x.1) (p := x.2) (by rw [hl]; exact H.lt x hx)
  generalize hL : irow ((x.2 :: t).map fun (q : Nat) => (q : Int)) = E at e1 q1 i1
  refine ⟨.va E, ?_⟩
  refine seq_asg e1 rfl rfl ?_
  have n1 : decide (x.1.getD x.2 0 ≤ 0) = false := decide_eq_false (by have := hpos x hx; omega)
  have d1 : g__law_divisor [trow x.1] s = .ok (.int 1) s := by rw [g__law_divisor_ok, hg x hx]; rfl
  refine seq_iff (k3 := .v) (by
    simp only [fnR, runs, run, ev, evA, evT, evI, bindq_ok, ob_ok, sq_nx, sq_rt, onO_some, liftO_some, kd_some, dat_v, dat_t, tru_bl, intOf_int, noExq, stk_v, stk_t, stk_o, stow_tt, stow_fv, stow_ft, eqD_int, cmp_ne, cmp_eq, cmp_gt, cmp_ge, cmp_lt, cmp_le, cmp_in, cmp_notin, cmp_is, cmp_isnot, bin_add, bin_sub, b1_abs, ix0, ix1, items_lst, items_row, put, List.map_cons, List.map_nil, List.cons_append, List.nil_append, List.append_nil, List.length_cons, List.length_nil, List.replicate, List.getElem?_cons_zero, List.getElem?_cons_succ, List.getElem?_nil, List.set_cons_zero, List.set_cons_succ, List.set_nil, Nat.reduceAdd, Nat.reduceSub, Nat.reduceLT, Nat.reduceEqDiff, if_true, ite_true, if_false, ite_false, Option.map_some, Option.map_none, reduceIte, reduceCtorEq, Bool.false_eq_true, Nat.zero_add, Nat.add_zero, Nat.zero_lt_succ, Nat.zero_lt_one, Nat.lt_add_left_iff_pos, Nat.succ_eq_add_one, Nat.reduceLeDiff, l1, decide_true, Bool.not_true, lenOk_of (show 0 ≤ 1000000 by decide), q1, i1, i2, n1, d1]) ?_
  rw [runs_cons, run]
  have o1 : ownL [a0, a1, a2, a3, a4, a5, .ow (irow hs), .va (trow x.1), a8, a9, a10, .va E, a12, a13, a14] 6 = some (hs.map D.int) := rfl
  show (onO (ownL [a0, a1, a2, a3, a4, a5, .ow (irow hs), .va (trow x.1), a8, a9, a10, .va E, a12, a13, a14] 6) _).sq _ = _
  rw [o1]
  simp only [fnR, runs, run, ev, evA, evT, evI, bindq_ok, ob_ok, sq_nx, sq_rt, onO_some, liftO_some, kd_some, dat_v, dat_t, tru_bl, intOf_int, noExq, stk_v, stk_t, stk_o, stow_tt, stow_fv, stow_ft, eqD_int, cmp_ne, cmp_eq, cmp_gt, cmp_ge, cmp_lt, cmp_le, cmp_in, cmp_notin, cmp_is, cmp_isnot, bin_add, bin_sub, b1_abs, ix0, ix1, items_lst, items_row, put, List.map_cons, List.map_nil, List.cons_append, List.nil_append, List.append_nil, List.length_cons, List.length_nil, List.replicate, List.getElem?_cons_zero, List.getElem?_cons_succ, List.getElem?_nil, List.set_cons_zero, List.set_cons_succ, List.set_nil, Nat.reduceAdd, Nat.reduceSub, Nat.reduceLT, Nat.reduceEqDiff, if_true, ite_true, if_false, ite_false, Option.map_some, Option.map_none, reduceIte, reduceCtorEq, Bool.false_eq_true, Nat.zero_add, Nat.add_zero, Nat.zero_lt_succ, Nat.zero_lt_one, Nat.lt_add_left_iff_pos, Nat.succ_eq_add_one, Nat.reduceLeDiff, i1, lenOk_of (show (hs.map D.int).length + 1 ≤ 1000000 by rw [List.length_map]; omega)]
  simp only [irow, List.map_append, List.map_cons, List.map_nil]
theorem fm_900 {l : List (Fm × Fm)} (h : ∀ p ∈ l, st3 p) (hl : l.length ≤ 5) : (stsRows l).length ≤ 900 := by
  have key : ∀ f : Fm, ∀ d, f.dep ≤ d → d ≤ 4 → (dm f).length ≤ 4 ^ d := fun f d h1 h2 => Nat.le_trans (dm_len4 f (by omega)) (Nat.pow_le_pow_right (by decide) h1)
  have one : ∀ q ∈ l, (stRows q).length ≤ 81 := fun q hq => by
    have h1 := key q.1 3 (h q hq).2.2.1 (by decide)
    have h2 := key q.2 2 (h q hq).2.2.2 (by decide)
    unfold stRows
    simp only [List.length_append, List.length_singleton]
    have e1 : 4 ^ 3 = 64 := rfl
    have e2 : 4 ^ 2 = 16 := rfl
    omega
  have all : ∀ m : List (Fm × Fm), (∀ q ∈ m, (stRows q).length ≤ 81) → (stsRows m).length ≤ 81 * m.length := fun m => by
    induction m with
    | nil => exact fun _ => Nat.le_refl _
    | cons a m ih =>
      intro hm
      have h1 := hm a List.mem_cons_self
      have h2 := ih fun q hq => hm q (List.mem_cons_of_mem _ hq)
      unfold stsRows at h2 ⊢
      rw [List.flatMap_cons, List.length_append, List.length_cons]
      omega
  have := all l one
  omega
theorem st3_turned {q : Fm × Fm} (h : st3 q) : stOk (q.2, q.1) := ⟨h.2.1, h.1, by have := h.2.2.2; show q.2.dep ≤ 4; omega, by have := h.2.2.1; show q.1.dep ≤ 4; omega⟩
theorem count_ok {l : List (Fm × Fm)} (h : ∀ p ∈ l, stOk p) (h9 : (stsRows l).length ≤ 900) (h4 : l.length ≤ 4) (s : List Int) : g_count_free [stsD l] s = .ok (.int (6 - ((fmQ l).length : Int))) s := by
  refine fnR_rt ?_
  show runs c_count_free [.va (stsD l)] s = _
  unfold c_count_free
  have l1 : b1D .len (fmD l) = some (.v, .int ((fmQ l).length : Int)) := by
    show some (K3.v, D.int (((fmQ l).map trow).length : Nat)) = _
    rw [List.length_map]
  simp only [fnR, runs, run, ev, evA, evT, evI, bindq_ok, ob_ok, sq_nx, sq_rt, onO_some, liftO_some, kd_some, dat_v, dat_t, tru_bl, intOf_int, noExq, stk_v, stk_t, stk_o, stow_tt, stow_fv, stow_ft, eqD_int, cmp_ne, cmp_eq, cmp_gt, cmp_ge, cmp_lt, cmp_le, cmp_in, cmp_notin, cmp_is, cmp_isnot, bin_add, bin_sub, b1_abs, ix0, ix1, items_lst, items_row, put, List.map_cons, List.map_nil, List.cons_append, List.nil_append, List.append_nil, List.length_cons, List.length_nil, List.replicate, List.getElem?_cons_zero, List.getElem?_cons_succ, List.getElem?_nil, List.set_cons_zero, List.set_cons_succ, List.set_nil, Nat.reduceAdd, Nat.reduceSub, Nat.reduceLT, Nat.reduceEqDiff, if_true, ite_true, if_false, ite_false, Option.map_some, Option.map_none, reduceIte, reduceCtorEq, Bool.false_eq_true, Nat.zero_add, Nat.add_zero, Nat.zero_lt_succ, Nat.zero_lt_one, Nat.lt_add_left_iff_pos, Nat.succ_eq_add_one, Nat.reduceLeDiff, g_check_statements_ok h4 h, g_form_of_ok (.inl h4) h9 h, l1]
theorem turned_900 {l : List (Fm × Fm)} : (stsRows (l.map fun q => (q.2, q.1))).length = (stsRows l).length := by
  induction l with
  | nil => rfl
  | cons a m ih =>
    unfold stsRows at ih ⊢
    rw [List.map_cons, List.flatMap_cons, List.flatMap_cons, List.length_append, List.length_append, ih]
    unfold stRows
    simp only [List.length_append, List.length_singleton]
    omega
theorem main (ns : List Int) (hl : ns.length ≤ 63) : ∀ p, ∃ s', runs (c_law p) (.va (.scr ns) :: .va (.adr p) :: List.replicate (15 - 2) .no) (0 :: ns) = .rt (.bl true) s' := by
  intro p
  obtain ⟨l, s1, e1, hl4, h3, _⟩ := statements_ok (p := p) (most := 4) (Tw.zero hl) (by decide) (by decide)
  have e1 : g__law_statements p [.scr ns, .adr p, .int 4] (0 :: ns) = .ok (stsD l) s1 := e1
  have hok : ∀ q ∈ l, stOk q := fun q hq => (h3 q hq).stOk
  have h9 := fm_900 h3 (by omega)
  have e2 : g_form [stsD l] s1 = .ok (trows (fmQ l)) s1 := stsRows_900 hok h9 hl4 s1
  have e3 := g__law_rows_ok (l := l) (by omega) hok s1
  obtain ⟨r1, r2, r3⟩ := fm_rank hok
  have hL : (stsL l).length ≤ 900 := by
    have : stsRows l = (stsL l).map d16 := (sts_Ld hok).eq
    rw [this, List.length_map] at h9
    exact h9
  obtain ⟨ps, hps, H, hpos, hg⟩ := wq_heads (sts_six hok)
  have hps : fmQ l = ps.map Prod.fst := hps
  have hpl : ps.length ≤ 6 := by
    have key : ∀ (qs : List (List Int × Nat)) (a : Nat), qs.Pairwise (fun x y => x.2 < y.2) → (∀ x ∈ qs, a ≤ x.2 ∧ x.2 < 6) → a ≤ 6 → qs.length + a ≤ 6 := fun qs => by
      induction qs with
      | nil => intro a _ _ h; simpa using h
      | cons x qs ih =>
        intro a hu hs _
        have hu' := List.pairwise_cons.mp hu
        have hx := hs x List.mem_cons_self
        have := ih (x.2 + 1) hu'.2 (fun z hz => ⟨hu'.1 z hz, (hs z (List.mem_cons_of_mem _ hz)).2⟩) (by omega)
        rw [List.length_cons]
        omega
    have := key ps 0 H.up (fun x hx => ⟨Nat.zero_le _, H.lt x hx⟩) (by omega)
    omega
  have hfl : (fmQ l).length ≤ 6 := by rw [hps, List.length_map]; exact hpl
  have ivL := sts_IV hok
  have ivF := fmQ_IV hok
  have k1 : g__law_rank [irows (stsL l)] s1 = .ok (.int ((fmQ l).length : Int)) s1 := by
    rw [← r1]
    exact g__law_rank_ok (B := 10) (W := 6) ivL (by decide) (by decide) (by omega) s1
  have k2 : g__law_rank [.lst ((stsL l).map irow ++ (fmQ l).map trow)] s1 = .ok (.int ((fmQ l).length : Int)) s1 := by
    have h := rank_gen (B := 1406) (W := 6) (M := (stsL l).map (fun r => (true, r)) ++ (fmQ l).map fun r => (false, r)) (d := .lst ((stsL l).map irow ++ (fmQ l).map trow)) (L := stsL l ++ fmQ l) (by
        rw [List.map_append, List.map_map, List.map_map]; rfl) (by
        rw [List.map_append, List.map_map, List.map_map]
        show (stsL l).map (fun x => x) ++ (fmQ l).map (fun x => x) = _
        rw [List.map_id', List.map_id']) (fun r hr => by
        rcases List.mem_append.mp hr with z | z
        · exact ⟨(ivL r z).1, fun x hx => Nat.lt_of_lt_of_le ((ivL r z).2 x hx) (Nat.pow_le_pow_right (by decide) (by decide))⟩
        · exact ivF r z) (by decide +kernel) (by decide) (by rw [List.length_append]; omega) s1
    rw [r2] at h
    exact h
  have k3 : g__law_rank [trows (fmQ l)] s1 = .ok (.int ((fmQ l).length : Int)) s1 := by
    have h := rank_gen (B := 1406) (W := 6) (M := (fmQ l).map fun r => (false, r)) (d := trows (fmQ l)) (L := fmQ l) (by
        rw [List.map_map]; rfl) (by
        rw [List.map_map]
        show (fmQ l).map (fun x => x) = _
        rw [List.map_id']) ivF (by decide +kernel) (by decide) (by omega) s1
    rw [r3] at h
    exact h
  have l1 : b1D .len (trows (fmQ l)) = some (.v, .int ((fmQ l).length : Int)) := by
    show some (K3.v, D.int (((fmQ l).map trow).length : Nat)) = _
    rw [List.length_map]
  have b1 : b1D .list (trows (fmQ l)) = some (.t, .lst ((fmQ l).map trow)) := rfl
  have c1 : binD .add (irows (stsL l)) (.lst ((fmQ l).map trow)) = some (.t, .lst ((stsL l).map irow ++ (fmQ l).map trow)) := if_pos (lenOk_of (by rw [List.length_map, List.length_map]; omega))
  have c2 := count_ok hok h9 hl4 s1
  -- the two loops
  obtain ⟨ρ1, s1', hf1, rfl, hs, x7, x11, rfl, hhs, _⟩ := forR_ind (e := fun (x : List Int × Nat) => trow x.1) (f := fun d ρ s => onO (asgT (.nm 7) d ρ) fun ρ' => runs (b_law_0 p) ρ' s)
    (P := fun (m : List (List Int × Nat)) ρ s' => s' = s1 ∧ ∃ (hs : List Int) (x7 x11 : SV), ρ = [.va (.scr ns), .va (.adr p), .va (stsD l), .va (trows (fmQ l)), .va (irows (stsL l)), .va (.int ((fmQ l).length : Int)), .ow (irow hs), x7, .no, .no, .no, x11, .no, .no, .no] ∧ hs ++ m.map (fun x => (x.2 : Int)) = ps.map (fun x => (x.2 : Int)) ∧ ∀ x ∈ m, x ∈ ps)
    (fun x m ρ s2 hP => by
      obtain ⟨rfl, hs, x7, x11, rfl, hh, hm⟩ := hP
      have hlen : hs.length ≤ 6 := by
        have := congrArg List.length hh
        rw [List.length_append, List.length_map, List.length_map] at this
        omega
      obtain ⟨y11, e⟩ := law_turn0 (p := p) H hpos hg (hm x List.mem_cons_self) (hs := hs) (by omega) (a0 := .va (.scr ns)) (a1 := .va (.adr p)) (a2 := .va (stsD l)) (a3 := .va (trows (fmQ l))) (a4 := .va (irows (stsL l))) (a5 := .va (.int ((fmQ l).length : Int))) (a8 := .no) (a9 := .no) (a10 := .no) (a11 := x11) (a12 := .no) (a13 := .no) (a14 := .no) s2
      exact ⟨_, _, e, rfl, hs ++ [(x.2 : Int)], _, y11, rfl, by rw [← hh]; simp, fun z hz => hm z (List.mem_cons_of_mem _ hz)⟩) ps
    [.va (.scr ns), .va (.adr p), .va (stsD l), .va (trows (fmQ l)), .va (irows (stsL l)), .va (.int ((fmQ l).length : Int)), .ow (irow []), .no, .no, .no, .no, .no, .no, .no, .no] s1 ⟨rfl, [], .no, .no, rfl, rfl, fun _ h => h⟩
  have hhs : hs = ps.map (fun x => (x.2 : Int)) := by simpa using hhs
  subst hhs
  obtain ⟨ρ2, s2', hf2, rfl, x8, rfl, _⟩ := forR_ind (e := fun (x : List Int × Nat) => D.int (x.2 : Int)) (f := fun d ρ s => onO (asgT (.nm 8) d ρ) fun ρ' => runs (b_law_1 p) ρ' s)
    (P := fun (m : List (List Int × Nat)) ρ s' => s' = s1' ∧ ∃ (x8 : SV), ρ = [.va (.scr ns), .va (.adr p), .va (stsD l), .va (trows (fmQ l)), .va (irows (stsL l)), .va (.int ((fmQ l).length : Int)), .va (irow (ps.map fun x => (x.2 : Int))), x7, x8, .no, .no, x11, .no, .no, .no] ∧ ∀ x ∈ m, x ∈ ps)
    (fun y m ρ s2 hP => by
      obtain ⟨rfl, x8, rfl, hm⟩ := hP
      have hy := hm y List.mem_cons_self
      refine ⟨[.va (.scr ns), .va (.adr p), .va (stsD l), .va (trows (fmQ l)), .va (irows (stsL l)), .va (.int ((fmQ l).length : Int)), .va (irow (ps.map fun x => (x.2 : Int))), x7, .va (.int (y.2 : Int)), .no, .no, x11, .no, .no, .no], s2, ?_, rfl, _, rfl, fun z hz => hm z (List.mem_cons_of_mem _ hz)⟩
      show runs (b_law_1 p) [.va (.scr ns), .va (.adr p), .va (stsD l), .va (trows (fmQ l)), .va (irows (stsL l)), .va (.int ((fmQ l).length : Int)), .va (irow (ps.map fun x => (x.2 : Int))), x7, .va (.int (y.2 : Int)), .no, .no, x11, .no, .no, .no] s2 = _
      unfold b_law_1
      have e : ev (S := List Int) (.lc (.seq (.var 3)) (.nm 7) (.cons (.cmp .ne (.ix (.var 7) (.var 8)) (.con (.int 0))) .nil) (.var 7) [7]) [.va (.scr ns), .va (.adr p), .va (stsD l), .va (trows (fmQ l)), .va (irows (stsL l)), .va (.int ((fmQ l).length : Int)), .va (irow (ps.map fun x => (x.2 : Int))), x7, .va (.int (y.2 : Int)), .no, .no, x11, .no, .no, .no] s2 = .ok (.t, .lst ((ps.filter fun x => !decide (x.1.getD y.2 0 = 0)).map fun x => trow x.1)) s2 :=
        ev_lcf (l := ps) (e := fun x => trow x.1) (g := fun x => trow x.1) (t := fun x => !decide (x.1.getD y.2 0 = 0)) (by
          rw [hps]
          simp only [fnR, runs, run, ev, evA, evT, evI, bindq_ok, ob_ok, sq_nx, sq_rt, onO_some, liftO_some, kd_some, dat_v, dat_t, tru_bl, intOf_int, noExq, stk_v, stk_t, stk_o, stow_tt, stow_fv, stow_ft, eqD_int, cmp_ne, cmp_eq, cmp_gt, cmp_ge, cmp_lt, cmp_le, cmp_in, cmp_notin, cmp_is, cmp_isnot, bin_add, bin_sub, b1_abs, ix0, ix1, items_lst, items_row, put, List.map_cons, List.map_nil, List.cons_append, List.nil_append, List.append_nil, List.length_cons, List.length_nil, List.replicate, List.getElem?_cons_zero, List.getElem?_cons_succ, List.getElem?_nil, List.set_cons_zero, List.set_cons_succ, List.set_nil, Nat.reduceAdd, Nat.reduceSub, Nat.reduceLT, Nat.reduceEqDiff, if_true, ite_true, if_false, ite_false, Option.map_some, Option.map_none, reduceIte, reduceCtorEq, Bool.false_eq_true, Nat.zero_add, Nat.add_zero, Nat.zero_lt_succ, Nat.zero_lt_one, Nat.lt_add_left_iff_pos, Nat.succ_eq_add_one, Nat.reduceLeDiff, trows]
          show liftO s2 (some ((ps.map Prod.fst).map trow)) = _
          rw [List.map_map]
          rfl) (by omega) fun x hx => ⟨_, rfl, ⟨.v, by simp only [wipeR, fnR, runs, run, ev, evA, evT, evI, bindq_ok, ob_ok, sq_nx, sq_rt, onO_some, liftO_some, kd_some, dat_v, dat_t, tru_bl, intOf_int, noExq, stk_v, stk_t, stk_o, stow_tt, stow_fv, stow_ft, eqD_int, cmp_ne, cmp_eq, cmp_gt, cmp_ge, cmp_lt, cmp_le, cmp_in, cmp_notin, cmp_is, cmp_isnot, bin_add, bin_sub, b1_abs, ix0, ix1, items_lst, items_row, put, List.map_cons, List.map_nil, List.cons_append, List.nil_append, List.append_nil, List.length_cons, List.length_nil, List.replicate, List.getElem?_cons_zero, List.getElem?_cons_succ, List.getElem?_nil, List.set_cons_zero, List.set_cons_succ, List.set_nil, Nat.reduceAdd, Nat.reduceSub, Nat.reduceLT, Nat.reduceEqDiff, if_true, ite_true, if_false, ite_false, Option.map_some, Option.map_none, reduceIte, reduceCtorEq, Bool.false_eq_true, Nat.zero_add, Nat.add_zero, Nat.zero_lt_succ, Nat.zero_lt_one, Nat.lt_add_left_iff_pos, Nat.succ_eq_add_one, Nat.reduceLeDiff, ix_trow (show y.2 < x.1.length by rw [H.len x hx]; exact H.lt y hy)]⟩, fun _ => ⟨.v, nofun, by simp only [wipeR, fnR, runs, run, ev, evA, evT, evI, bindq_ok, ob_ok, sq_nx, sq_rt, onO_some, liftO_some, kd_some, dat_v, dat_t, tru_bl, intOf_int, noExq, stk_v, stk_t, stk_o, stow_tt, stow_fv, stow_ft, eqD_int, cmp_ne, cmp_eq, cmp_gt, cmp_ge, cmp_lt, cmp_le, cmp_in, cmp_notin, cmp_is, cmp_isnot, bin_add, bin_sub, b1_abs, ix0, ix1, items_lst, items_row, put, List.map_cons, List.map_nil, List.cons_append, List.nil_append, List.append_nil, List.length_cons, List.length_nil, List.replicate, List.getElem?_cons_zero, List.getElem?_cons_succ, List.getElem?_nil, List.set_cons_zero, List.set_cons_succ, List.set_nil, Nat.reduceAdd, Nat.reduceSub, Nat.reduceLT, Nat.reduceEqDiff, if_true, ite_true, if_false, ite_false, Option.map_some, Option.map_none, reduceIte, reduceCtorEq, Bool.false_eq_true, Nat.zero_add, Nat.add_zero, Nat.zero_lt_succ, Nat.zero_lt_one, Nat.lt_add_left_iff_pos, Nat.succ_eq_add_one, Nat.reduceLeDiff]⟩⟩
      have l2 : b1D .len (.lst ((ps.filter fun x => !decide (x.1.getD y.2 0 = 0)).map fun x => trow x.1)) = some (.v, .int 1) := by
        show some (K3.v, D.int (((ps.filter fun x => !decide (x.1.getD y.2 0 = 0)).map fun x => trow x.1).length : Nat)) = _
        rw [List.length_map, one_head H hy]
        rfl
      generalize hE : CE.lc (S := List Int) (.seq (.var 3)) (.nm 7) (.cons (.cmp .ne (.ix (.var 7) (.var 8)) (.con (.int 0))) .nil) (.var 7) [7] = E at e ⊢
      refine seq_iff (k3 := .v) (by simp only [fnR, runs, run, ev, evA, evT, evI, bindq_ok, ob_ok, sq_nx, sq_rt, onO_some, liftO_some, kd_some, dat_v, dat_t, tru_bl, intOf_int, noExq, stk_v, stk_t, stk_o, stow_tt, stow_fv, stow_ft, eqD_int, cmp_ne, cmp_eq, cmp_gt, cmp_ge, cmp_lt, cmp_le, cmp_in, cmp_notin, cmp_is, cmp_isnot, bin_add, bin_sub, b1_abs, ix0, ix1, items_lst, items_row, put, List.map_cons, List.map_nil, List.cons_append, List.nil_append, List.append_nil, List.length_cons, List.length_nil, List.replicate, List.getElem?_cons_zero, List.getElem?_cons_succ, List.getElem?_nil, List.set_cons_zero, List.set_cons_succ, List.set_nil, Nat.reduceAdd, Nat.reduceSub, Nat.reduceLT, Nat.reduceEqDiff, if_true, ite_true, if_false, ite_false, Option.map_some, Option.map_none, reduceIte, reduceCtorEq, Bool.false_eq_true, Nat.zero_add, Nat.add_zero, Nat.zero_lt_succ, Nat.zero_lt_one, Nat.lt_add_left_iff_pos, Nat.succ_eq_add_one, Nat.reduceLeDiff, e, l2, decide_true, Bool.not_true]) (by rfl)) ps
    [.va (.scr ns), .va (.adr p), .va (stsD l), .va (trows (fmQ l)), .va (irows (stsL l)), .va (.int ((fmQ l).length : Int)), .va (irow (ps.map fun x => (x.2 : Int))), x7, .no, .no, .no, x11, .no, .no, .no] s1' ⟨rfl, .no, rfl, fun _ h => h⟩
  refine ⟨s2', ?_⟩
  unfold c_law
  refine seq_nx (run_asgq (x := (.v, stsD l)) (s1 := s2') (by simp only [fnR, runs, run, ev, evA, evT, evI, bindq_ok, ob_ok, sq_nx, sq_rt, onO_some, liftO_some, kd_some, dat_v, dat_t, tru_bl, intOf_int, noExq, stk_v, stk_t, stk_o, stow_tt, stow_fv, stow_ft, eqD_int, cmp_ne, cmp_eq, cmp_gt, cmp_ge, cmp_lt, cmp_le, cmp_in, cmp_notin, cmp_is, cmp_isnot, bin_add, bin_sub, b1_abs, ix0, ix1, items_lst, items_row, put, List.map_cons, List.map_nil, List.cons_append, List.nil_append, List.append_nil, List.length_cons, List.length_nil, List.replicate, List.getElem?_cons_zero, List.getElem?_cons_succ, List.getElem?_nil, List.set_cons_zero, List.set_cons_succ, List.set_nil, Nat.reduceAdd, Nat.reduceSub, Nat.reduceLT, Nat.reduceEqDiff, if_true, ite_true, if_false, ite_false, Option.map_some, Option.map_none, reduceIte, reduceCtorEq, Bool.false_eq_true, Nat.zero_add, Nat.add_zero, Nat.zero_lt_succ, Nat.zero_lt_one, Nat.lt_add_left_iff_pos, Nat.succ_eq_add_one, Nat.reduceLeDiff, e1]) rfl rfl) ?_
  refine seq_nx (ρ' := [.va (.scr ns), .va (.adr p), .va (stsD l), .va (trows (fmQ l)), .va (irows (stsL l)), .no, .no, .no, .no, .no, .no, .no, .no, .no, .no]) (s' := s2') (by simp only [fnR, runs, run, ev, evA, evT, evI, bindq_ok, ob_ok, sq_nx, sq_rt, onO_some, liftO_some, kd_some, dat_v, dat_t, tru_bl, intOf_int, noExq, stk_v, stk_t, stk_o, stow_tt, stow_fv, stow_ft, eqD_int, cmp_ne, cmp_eq, cmp_gt, cmp_ge, cmp_lt, cmp_le, cmp_in, cmp_notin, cmp_is, cmp_isnot, bin_add, bin_sub, b1_abs, ix0, ix1, items_lst, items_row, put, List.map_cons, List.map_nil, List.cons_append, List.nil_append, List.append_nil, List.length_cons, List.length_nil, List.replicate, List.getElem?_cons_zero, List.getElem?_cons_succ, List.getElem?_nil, List.set_cons_zero, List.set_cons_succ, List.set_nil, Nat.reduceAdd, Nat.reduceSub, Nat.reduceLT, Nat.reduceEqDiff, if_true, ite_true, if_false, ite_false, Option.map_some, Option.map_none, reduceIte, reduceCtorEq, Bool.false_eq_true, Nat.zero_add, Nat.add_zero, Nat.zero_lt_succ, Nat.zero_lt_one, Nat.lt_add_left_iff_pos, Nat.succ_eq_add_one, Nat.reduceLeDiff, e2, e3]) ?_
  refine seq_asg (x := (.v, .int ((fmQ l).length : Int))) (ρ' := [.va (.scr ns), .va (.adr p), .va (stsD l), .va (trows (fmQ l)), .va (irows (stsL l)), .va (.int ((fmQ l).length : Int)), .no, .no, .no, .no, .no, .no, .no, .no, .no]) (by simp only [fnR, runs, run, ev, evA, evT, evI, bindq_ok, ob_ok, sq_nx, sq_rt, onO_some, liftO_some, kd_some, dat_v, dat_t, tru_bl, intOf_int, noExq, stk_v, stk_t, stk_o, stow_tt, stow_fv, stow_ft, eqD_int, cmp_ne, cmp_eq, cmp_gt, cmp_ge, cmp_lt, cmp_le, cmp_in, cmp_notin, cmp_is, cmp_isnot, bin_add, bin_sub, b1_abs, ix0, ix1, items_lst, items_row, put, List.map_cons, List.map_nil, List.cons_append, List.nil_append, List.append_nil, List.length_cons, List.length_nil, List.replicate, List.getElem?_cons_zero, List.getElem?_cons_succ, List.getElem?_nil, List.set_cons_zero, List.set_cons_succ, List.set_nil, Nat.reduceAdd, Nat.reduceSub, Nat.reduceLT, Nat.reduceEqDiff, if_true, ite_true, if_false, ite_false, Option.map_some, Option.map_none, reduceIte, reduceCtorEq, Bool.false_eq_true, Nat.zero_add, Nat.add_zero, Nat.zero_lt_succ, Nat.zero_lt_one, Nat.lt_add_left_iff_pos, Nat.succ_eq_add_one, Nat.reduceLeDiff, k1]) rfl rfl ?_
  refine seq_iff (k3 := .v) (by simp only [fnR, runs, run, ev, evA, evT, evI, bindq_ok, ob_ok, sq_nx, sq_rt, onO_some, liftO_some, kd_some, dat_v, dat_t, tru_bl, intOf_int, noExq, stk_v, stk_t, stk_o, stow_tt, stow_fv, stow_ft, eqD_int, cmp_ne, cmp_eq, cmp_gt, cmp_ge, cmp_lt, cmp_le, cmp_in, cmp_notin, cmp_is, cmp_isnot, bin_add, bin_sub, b1_abs, ix0, ix1, items_lst, items_row, put, List.map_cons, List.map_nil, List.cons_append, List.nil_append, List.append_nil, List.length_cons, List.length_nil, List.replicate, List.getElem?_cons_zero, List.getElem?_cons_succ, List.getElem?_nil, List.set_cons_zero, List.set_cons_succ, List.set_nil, Nat.reduceAdd, Nat.reduceSub, Nat.reduceLT, Nat.reduceEqDiff, if_true, ite_true, if_false, ite_false, Option.map_some, Option.map_none, reduceIte, reduceCtorEq, Bool.false_eq_true, Nat.zero_add, Nat.add_zero, Nat.zero_lt_succ, Nat.zero_lt_one, Nat.lt_add_left_iff_pos, Nat.succ_eq_add_one, Nat.reduceLeDiff, l1, b1, c1, k2, k3, decide_true, Bool.not_true]) ?_
  have t1 : isiD .tuple (trows (fmQ l)) = some true := rfl
  refine seq_iff (k3 := .v) (by simp only [fnR, runs, run, ev, evA, evT, evI, bindq_ok, ob_ok, sq_nx, sq_rt, onO_some, liftO_some, kd_some, dat_v, dat_t, tru_bl, intOf_int, noExq, stk_v, stk_t, stk_o, stow_tt, stow_fv, stow_ft, eqD_int, cmp_ne, cmp_eq, cmp_gt, cmp_ge, cmp_lt, cmp_le, cmp_in, cmp_notin, cmp_is, cmp_isnot, bin_add, bin_sub, b1_abs, ix0, ix1, items_lst, items_row, put, List.map_cons, List.map_nil, List.cons_append, List.nil_append, List.append_nil, List.length_cons, List.length_nil, List.replicate, List.getElem?_cons_zero, List.getElem?_cons_succ, List.getElem?_nil, List.set_cons_zero, List.set_cons_succ, List.set_nil, Nat.reduceAdd, Nat.reduceSub, Nat.reduceLT, Nat.reduceEqDiff, if_true, ite_true, if_false, ite_false, Option.map_some, Option.map_none, reduceIte, reduceCtorEq, Bool.false_eq_true, Nat.zero_add, Nat.add_zero, Nat.zero_lt_succ, Nat.zero_lt_one, Nat.lt_add_left_iff_pos, Nat.succ_eq_add_one, Nat.reduceLeDiff, c2, t1, decide_true, Bool.not_true]) ?_
  refine seq_asg (x := (.t, irow [])) (ρ' := [.va (.scr ns), .va (.adr p), .va (stsD l), .va (trows (fmQ l)), .va (irows (stsL l)), .va (.int ((fmQ l).length : Int)), .ow (irow []), .no, .no, .no, .no, .no, .no, .no, .no]) (by rfl) rfl rfl ?_
  refine seq_nx (run_forq (s1 := s2') (ds := ps.map fun x => trow x.1) (by
    rw [hps]
    simp only [fnR, runs, run, ev, evA, evT, evI, bindq_ok, ob_ok, sq_nx, sq_rt, onO_some, liftO_some, kd_some, dat_v, dat_t, tru_bl, intOf_int, noExq, stk_v, stk_t, stk_o, stow_tt, stow_fv, stow_ft, eqD_int, cmp_ne, cmp_eq, cmp_gt, cmp_ge, cmp_lt, cmp_le, cmp_in, cmp_notin, cmp_is, cmp_isnot, bin_add, bin_sub, b1_abs, ix0, ix1, items_lst, items_row, put, List.map_cons, List.map_nil, List.cons_append, List.nil_append, List.append_nil, List.length_cons, List.length_nil, List.replicate, List.getElem?_cons_zero, List.getElem?_cons_succ, List.getElem?_nil, List.set_cons_zero, List.set_cons_succ, List.set_nil, Nat.reduceAdd, Nat.reduceSub, Nat.reduceLT, Nat.reduceEqDiff, if_true, ite_true, if_false, ite_false, Option.map_some, Option.map_none, reduceIte, reduceCtorEq, Bool.false_eq_true, Nat.zero_add, Nat.add_zero, Nat.zero_lt_succ, Nat.zero_lt_one, Nat.lt_add_left_iff_pos, Nat.succ_eq_add_one, Nat.reduceLeDiff, trows]
    show liftO s2' (some ((ps.map Prod.fst).map trow)) = _
    rw [List.map_map]
    rfl) hf1) ?_
  have up : (ps.map fun x => (x.2 : Int)).Pairwise (· < ·) := List.pairwise_map.mpr (H.up.imp fun h => by omega)
  have ss := sset_up up (by rw [List.length_map]; omega)
  refine seq_iff (k3 := .v) (by simp only [fnR, runs, run, ev, evA, evT, evI, bindq_ok, ob_ok, sq_nx, sq_rt, onO_some, liftO_some, kd_some, dat_v, dat_t, tru_bl, intOf_int, noExq, stk_v, stk_t, stk_o, stow_tt, stow_fv, stow_ft, eqD_int, cmp_ne, cmp_eq, cmp_gt, cmp_ge, cmp_lt, cmp_le, cmp_in, cmp_notin, cmp_is, cmp_isnot, bin_add, bin_sub, b1_abs, ix0, ix1, items_lst, items_row, put, List.map_cons, List.map_nil, List.cons_append, List.nil_append, List.append_nil, List.length_cons, List.length_nil, List.replicate, List.getElem?_cons_zero, List.getElem?_cons_succ, List.getElem?_nil, List.set_cons_zero, List.set_cons_succ, List.set_nil, Nat.reduceAdd, Nat.reduceSub, Nat.reduceLT, Nat.reduceEqDiff, if_true, ite_true, if_false, ite_false, Option.map_some, Option.map_none, reduceIte, reduceCtorEq, Bool.false_eq_true, Nat.zero_add, Nat.add_zero, Nat.zero_lt_succ, Nat.zero_lt_one, Nat.lt_add_left_iff_pos, Nat.succ_eq_add_one, Nat.reduceLeDiff, ss, eqD_irow, decide_true, Bool.not_true]) ?_
  refine seq_nx (ρ' := [.va (.scr ns), .va (.adr p), .va (stsD l), .va (trows (fmQ l)), .va (irows (stsL l)), .va (.int ((fmQ l).length : Int)), .va (irow (ps.map fun x => (x.2 : Int))), x7, x8, .no, .no, x11, .no, .no, .no]) (s' := s2') (by
    rw [run]
    show run _ [.va (.scr ns), .va (.adr p), .va (stsD l), .va (trows (fmQ l)), .va (irows (stsL l)), .va (.int ((fmQ l).length : Int)), .va (irow (ps.map fun x => (x.2 : Int))), x7, .no, .no, .no, x11, .no, .no, .no] s2' = _
    exact run_forq (s1 := s2') (ds := ps.map fun x => D.int (x.2 : Int)) (by
      simp only [fnR, runs, run, ev, evA, evT, evI, bindq_ok, ob_ok, sq_nx, sq_rt, onO_some, liftO_some, kd_some, dat_v, dat_t, tru_bl, intOf_int, noExq, stk_v, stk_t, stk_o, stow_tt, stow_fv, stow_ft, eqD_int, cmp_ne, cmp_eq, cmp_gt, cmp_ge, cmp_lt, cmp_le, cmp_in, cmp_notin, cmp_is, cmp_isnot, bin_add, bin_sub, b1_abs, ix0, ix1, items_lst, items_row, put, List.map_cons, List.map_nil, List.cons_append, List.nil_append, List.append_nil, List.length_cons, List.length_nil, List.replicate, List.getElem?_cons_zero, List.getElem?_cons_succ, List.getElem?_nil, List.set_cons_zero, List.set_cons_succ, List.set_nil, Nat.reduceAdd, Nat.reduceSub, Nat.reduceLT, Nat.reduceEqDiff, if_true, ite_true, if_false, ite_false, Option.map_some, Option.map_none, reduceIte, reduceCtorEq, Bool.false_eq_true, Nat.zero_add, Nat.add_zero, Nat.zero_lt_succ, Nat.zero_lt_one, Nat.lt_add_left_iff_pos, Nat.succ_eq_add_one, Nat.reduceLeDiff, irow]
      rw [List.map_map]
      rfl) hf2) ?_
  -- other sequences
  have rv : revD (stsD l) = some (stsD l.reverse) := by
    show some (D.tup (l.map stD).reverse) = _
    rw [← List.map_reverse]
    rfl
  have f1 : g_form [stsD l.reverse] s2' = .ok (trows (fmQ l)) s2' := by
    have h := stsRows_900 (l := l.reverse) (fun q hq => hok q (List.mem_reverse.mp hq)) (fm_900 (fun q hq => h3 q (List.mem_reverse.mp hq)) (by rw [List.length_reverse]; omega)) (by rw [List.length_reverse]; omega) s2'
    rw [h]
    have : fmQ l.reverse = fmQ l := fm_unique (fun q hq => hok q (List.mem_reverse.mp hq)) hok fun v => by simp only [List.mem_reverse]
    show Res.ok (trows (fmQ l.reverse)) s2' = _
    rw [this]
  have sl : slD (stsD l) none (some 1) = some (.v, stsD (l.take 1)) := by
    show some (K3.v, D.tup (((l.map stD).drop 0).take (HT.sIx (l.map stD).length (l.map stD).length (some ((1 : Nat) : Int)) - 0))) = _
    rw [HT.sIx_nat]
    have : (l.map stD).take (min 1 (l.map stD).length - 0) = (l.take 1).map stD := by
      rw [List.map_take]
      cases l with
      | nil => rfl
      | cons a l => simp
    show some (K3.v, D.tup ((l.map stD).take (min 1 (l.map stD).length - 0))) = _
    rw [this]
    rfl
  have tk : ∀ q ∈ l.take 1, q ∈ l := fun q hq => List.mem_of_mem_take hq
  have tl : (l.take 1).length ≤ 1 := by rw [List.length_take]; omega
  have f2 : g_form [stsD (l.take 1)] s2' = .ok (trows (fmQ (l.take 1))) s2' := stsRows_900 (fun q hq => hok q (tk q hq)) (fm_900 (fun q hq => h3 q (tk q hq)) (by omega)) (by omega) s2'
  have dbm : ∀ q ∈ l.take 1 ++ l.take 1, q ∈ l.take 1 := fun q hq => by
    rcases List.mem_append.mp hq with z | z <;> exact z
  have f3 : g_form [stsD (l.take 1 ++ l.take 1)] s2' = .ok (trows (fmQ (l.take 1))) s2' := by
    have h := stsRows_900 (l := l.take 1 ++ l.take 1) (fun q hq => hok q (tk q (dbm q hq))) (fm_900 (fun q hq => h3 q (tk q (dbm q hq))) (by rw [List.length_append]; omega)) (by rw [List.length_append]; omega) s2'
    rw [h]
    have : fmQ (l.take 1 ++ l.take 1) = fmQ (l.take 1) := fm_unique (fun q hq => hok q (tk q (dbm q hq))) (fun q hq => hok q (tk q hq)) fun v => by simp only [List.mem_append, or_self]
    show Res.ok (trows (fmQ (l.take 1 ++ l.take 1))) s2' = _
    rw [this]
  have ct : binD .add (stsD (l.take 1)) (stsD (l.take 1)) = some (.v, stsD (l.take 1 ++ l.take 1)) := by
    unfold stsD
    rw [List.map_append]
    exact if_pos (lenOk_of (by rw [List.length_map]; omega))
  refine seq_iff (k3 := .v) (by simp only [fnR, runs, run, ev, evA, evT, evI, bindq_ok, ob_ok, sq_nx, sq_rt, onO_some, liftO_some, kd_some, dat_v, dat_t, tru_bl, intOf_int, noExq, stk_v, stk_t, stk_o, stow_tt, stow_fv, stow_ft, eqD_int, cmp_ne, cmp_eq, cmp_gt, cmp_ge, cmp_lt, cmp_le, cmp_in, cmp_notin, cmp_is, cmp_isnot, bin_add, bin_sub, b1_abs, ix0, ix1, items_lst, items_row, put, List.map_cons, List.map_nil, List.cons_append, List.nil_append, List.append_nil, List.length_cons, List.length_nil, List.replicate, List.getElem?_cons_zero, List.getElem?_cons_succ, List.getElem?_nil, List.set_cons_zero, List.set_cons_succ, List.set_nil, Nat.reduceAdd, Nat.reduceSub, Nat.reduceLT, Nat.reduceEqDiff, if_true, ite_true, if_false, ite_false, Option.map_some, Option.map_none, reduceIte, reduceCtorEq, Bool.false_eq_true, Nat.zero_add, Nat.add_zero, Nat.zero_lt_succ, Nat.zero_lt_one, Nat.lt_add_left_iff_pos, Nat.succ_eq_add_one, Nat.reduceLeDiff, rv, f1, eqD_trows, decide_true, Bool.not_true, sl, f2, ct, f3]) ?_
  have et : ev (S := List Int) (.lc (.seq (.var 2)) (.cons (.nm 13) (.cons (.nm 14) .nil)) .nil (.tup (.cons (.var 14) (.cons (.var 13) .nil))) [13, 14]) [.va (.scr ns), .va (.adr p), .va (stsD l), .va (trows (fmQ l)), .va (irows (stsL l)), .va (.int ((fmQ l).length : Int)), .va (irow (ps.map fun x => (x.2 : Int))), x7, x8, .no, .no, x11, .no, .no, .no] s2' = .ok (.t, .lst ((l.map fun q => (q.2, q.1)).map stD)) s2' := by
    rw [ev_lc (l := l) (e := stD) (g := fun q => stD (q.2, q.1)) (by rfl) (by omega) fun q hq => ⟨_, rfl, .v, nofun, by rfl⟩, List.map_map]
    rfl
  refine seq_asg (x := (.v, stsD (l.map fun q => (q.2, q.1)))) (by
    rw [ev, et]
    rfl) rfl rfl ?_
  have f4 : g_form [stsD (l.map fun q => (q.2, q.1))] s2' = .ok (trows (fmQ l)) s2' := by
    have hm : ∀ q ∈ l.map (fun q => (q.2, q.1)), stOk q := fun q hq => by
      obtain ⟨z, hz, rfl⟩ := List.mem_map.mp hq
      exact st3_turned (h3 z hz)
    have h := stsRows_900 (l := l.map fun q => (q.2, q.1)) hm (by rw [turned_900]; exact h9) (by rw [List.length_map]; omega) s2'
    rw [h]
    have : fmQ (l.map fun q => (q.2, q.1)) = fmQ l := fm_unique hm hok fun v => by
      constructor
      · exact fun k q hq => st_turned.mp (k (q.2, q.1) (List.mem_map.mpr ⟨q, hq, rfl⟩))
      · intro k q hq
        obtain ⟨z, hz, rfl⟩ := List.mem_map.mp hq
        exact st_turned.mpr (k z hz)
    show Res.ok (trows (fmQ (l.map fun q => (q.2, q.1)))) s2' = _
    rw [this]
  have f5 : g_form [.tup []] s2' = .ok (.tup []) s2' := stsRows_900 (l := []) (fun _ h => (nomatch h)) (by decide) (by decide) s2'
  have q5 : eqD (.tup []) (.tup []) = some true := by rfl
  refine seq_iff (k3 := .v) (by simp only [fnR, runs, run, ev, evA, evT, evI, bindq_ok, ob_ok, sq_nx, sq_rt, onO_some, liftO_some, kd_some, dat_v, dat_t, tru_bl, intOf_int, noExq, stk_v, stk_t, stk_o, stow_tt, stow_fv, stow_ft, eqD_int, cmp_ne, cmp_eq, cmp_gt, cmp_ge, cmp_lt, cmp_le, cmp_in, cmp_notin, cmp_is, cmp_isnot, bin_add, bin_sub, b1_abs, ix0, ix1, items_lst, items_row, put, List.map_cons, List.map_nil, List.cons_append, List.nil_append, List.append_nil, List.length_cons, List.length_nil, List.replicate, List.getElem?_cons_zero, List.getElem?_cons_succ, List.getElem?_nil, List.set_cons_zero, List.set_cons_succ, List.set_nil, Nat.reduceAdd, Nat.reduceSub, Nat.reduceLT, Nat.reduceEqDiff, if_true, ite_true, if_false, ite_false, Option.map_some, Option.map_none, reduceIte, reduceCtorEq, Bool.false_eq_true, Nat.zero_add, Nat.add_zero, Nat.zero_lt_succ, Nat.zero_lt_one, Nat.lt_add_left_iff_pos, Nat.succ_eq_add_one, Nat.reduceLeDiff, f4, eqD_trows, decide_true, Bool.not_true, lenOk_of (show 0 ≤ 1000000 by decide), f5, q5]) ?_
  generalize SV.va (stsD l) = z2
  generalize SV.va (trows (fmQ l)) = z3
  generalize SV.va (irows (stsL l)) = z4
  generalize SV.va (.int ((fmQ l).length : Int)) = z5
  generalize SV.va (irow (ps.map fun x => (x.2 : Int))) = z6
  generalize SV.va (stsD (l.map fun q => (q.2, q.1))) = z9
  kernel_rfl
end Mf
set_option Elab.async false
set_option linter.all false
set_option maxRecDepth 100000
set_option maxHeartbeats 0
namespace Mf
open PySem L2
theorem all_mk {l : PySem.W.OpenLaw} {w : World} {K : PySem.W.Frag} {h : Heap} {mg : Str → Option Value} {fa : Addr} (X : K.In h) (G : h.Ns mainGlobals mg) (hfa : mg "law" = some (.ref fa))
    {f0 : Addr} {od0 an0 : Option Addr} {sl0 : Array (Option Value)} {oc0 kV0 dc0 pm0 cd0 ct0 : Value}
    (a0 : PySem.W.nsIn K mainGlobals "_law_town" = some (some (.ref f0))) (l0 : K.lookup f0 = some ⟨oc0, od0, .func (PySem.W.fnOf "_law_town" "_law_town" (defArgs s__law_town) (defBody s__law_town) (defScope s__law_town) .none kV0 dc0 pm0 an0 cd0 ct0), sl0⟩) (c0 : PySem.W.codeIn K cd0 "_law_town" = true) (k0 : PySem.W.keepIn K (.ref f0) = true)
    {f1 : Addr} {od1 an1 : Option Addr} {sl1 : Array (Option Value)} {oc1 kV1 dc1 pm1 cd1 ct1 : Value}
    (a1 : PySem.W.nsIn K mainGlobals "_law_draw" = some (some (.ref f1))) (l1 : K.lookup f1 = some ⟨oc1, od1, .func (PySem.W.fnOf "_law_draw" "_law_draw" (defArgs s__law_draw) (defBody s__law_draw) (defScope s__law_draw) .none kV1 dc1 pm1 an1 cd1 ct1), sl1⟩) (c1 : PySem.W.codeIn K cd1 "_law_draw" = true) (k1 : PySem.W.keepIn K (.ref f1) = true)
    {f2 : Addr} {od2 an2 : Option Addr} {sl2 : Array (Option Value)} {oc2 kV2 dc2 pm2 cd2 ct2 : Value}
    (a2 : PySem.W.nsIn K mainGlobals "_law_pick" = some (some (.ref f2))) (l2 : K.lookup f2 = some ⟨oc2, od2, .func (PySem.W.fnOf "_law_pick" "_law_pick" (defArgs s__law_pick) (defBody s__law_pick) (defScope s__law_pick) .none kV2 dc2 pm2 an2 cd2 ct2), sl2⟩) (c2 : PySem.W.codeIn K cd2 "_law_pick" = true) (k2 : PySem.W.keepIn K (.ref f2) = true)
    {f3 : Addr} {od3 an3 : Option Addr} {sl3 : Array (Option Value)} {oc3 kV3 dc3 pm3 cd3 ct3 : Value}
    (a3 : PySem.W.nsIn K mainGlobals "_law_formula" = some (some (.ref f3))) (l3 : K.lookup f3 = some ⟨oc3, od3, .func (PySem.W.fnOf "_law_formula" "_law_formula" (defArgs s__law_formula) (defBody s__law_formula) (defScope s__law_formula) .none kV3 dc3 pm3 an3 cd3 ct3), sl3⟩) (c3 : PySem.W.codeIn K cd3 "_law_formula" = true) (k3 : PySem.W.keepIn K (.ref f3) = true)
    {f4 : Addr} {od4 an4 : Option Addr} {sl4 : Array (Option Value)} {oc4 kV4 dc4 pm4 cd4 ct4 : Value}
    (a4 : PySem.W.nsIn K mainGlobals "_law_statements" = some (some (.ref f4))) (l4 : K.lookup f4 = some ⟨oc4, od4, .func (PySem.W.fnOf "_law_statements" "_law_statements" (defArgs s__law_statements) (defBody s__law_statements) (defScope s__law_statements) .none kV4 dc4 pm4 an4 cd4 ct4), sl4⟩) (c4 : PySem.W.codeIn K cd4 "_law_statements" = true) (k4 : PySem.W.keepIn K (.ref f4) = true)
    {f5 : Addr} {od5 an5 : Option Addr} {sl5 : Array (Option Value)} {oc5 kV5 dc5 pm5 cd5 ct5 : Value}
    (a5 : PySem.W.nsIn K mainGlobals "_law_rank" = some (some (.ref f5))) (l5 : K.lookup f5 = some ⟨oc5, od5, .func (PySem.W.fnOf "_law_rank" "_law_rank" (defArgs s__law_rank) (defBody s__law_rank) (defScope s__law_rank) .none kV5 dc5 pm5 an5 cd5 ct5), sl5⟩) (c5 : PySem.W.codeIn K cd5 "_law_rank" = true) (k5 : PySem.W.keepIn K (.ref f5) = true)
    {f6 : Addr} {od6 an6 : Option Addr} {sl6 : Array (Option Value)} {oc6 kV6 dc6 pm6 cd6 ct6 : Value}
    (a6 : PySem.W.nsIn K mainGlobals "is_between" = some (some (.ref f6))) (l6 : K.lookup f6 = some ⟨oc6, od6, .func (PySem.W.fnOf "is_between" "is_between" (defArgs s_is_between) (defBody s_is_between) (defScope s_is_between) .none kV6 dc6 pm6 an6 cd6 ct6), sl6⟩) (c6 : PySem.W.codeIn K cd6 "is_between" = true) (k6 : PySem.W.keepIn K (.ref f6) = true)
    {f7 : Addr} {od7 an7 : Option Addr} {sl7 : Array (Option Value)} {oc7 kV7 dc7 pm7 cd7 ct7 : Value}
    (a7 : PySem.W.nsIn K mainGlobals "is_name" = some (some (.ref f7))) (l7 : K.lookup f7 = some ⟨oc7, od7, .func (PySem.W.fnOf "is_name" "is_name" (defArgs s_is_name) (defBody s_is_name) (defScope s_is_name) .none kV7 dc7 pm7 an7 cd7 ct7), sl7⟩) (c7 : PySem.W.codeIn K cd7 "is_name" = true) (k7 : PySem.W.keepIn K (.ref f7) = true)
    {f8 : Addr} {od8 an8 : Option Addr} {sl8 : Array (Option Value)} {oc8 kV8 dc8 pm8 cd8 ct8 : Value}
    (a8 : PySem.W.nsIn K mainGlobals "is_at_most" = some (some (.ref f8))) (l8 : K.lookup f8 = some ⟨oc8, od8, .func (PySem.W.fnOf "is_at_most" "is_at_most" (defArgs s_is_at_most) (defBody s_is_at_most) (defScope s_is_at_most) .none kV8 dc8 pm8 an8 cd8 ct8), sl8⟩) (c8 : PySem.W.codeIn K cd8 "is_at_most" = true) (k8 : PySem.W.keepIn K (.ref f8) = true)
    {f9 : Addr} {od9 an9 : Option Addr} {sl9 : Array (Option Value)} {oc9 kV9 dc9 pm9 cd9 ct9 : Value}
    (a9 : PySem.W.nsIn K mainGlobals "is_formula" = some (some (.ref f9))) (l9 : K.lookup f9 = some ⟨oc9, od9, .func (PySem.W.fnOf "is_formula" "is_formula" (defArgs s_is_formula) (defBody s_is_formula) (defScope s_is_formula) .none kV9 dc9 pm9 an9 cd9 ct9), sl9⟩) (c9 : PySem.W.codeIn K cd9 "is_formula" = true) (k9 : PySem.W.keepIn K (.ref f9) = true)
    {f10 : Addr} {od10 an10 : Option Addr} {sl10 : Array (Option Value)} {oc10 kV10 dc10 pm10 cd10 ct10 : Value}
    (a10 : PySem.W.nsIn K mainGlobals "is_statement" = some (some (.ref f10))) (l10 : K.lookup f10 = some ⟨oc10, od10, .func (PySem.W.fnOf "is_statement" "is_statement" (defArgs s_is_statement) (defBody s_is_statement) (defScope s_is_statement) .none kV10 dc10 pm10 an10 cd10 ct10), sl10⟩) (c10 : PySem.W.codeIn K cd10 "is_statement" = true) (k10 : PySem.W.keepIn K (.ref f10) = true)
    {f11 : Addr} {od11 an11 : Option Addr} {sl11 : Array (Option Value)} {oc11 kV11 dc11 pm11 cd11 ct11 : Value}
    (a11 : PySem.W.nsIn K mainGlobals "is_statements" = some (some (.ref f11))) (l11 : K.lookup f11 = some ⟨oc11, od11, .func (PySem.W.fnOf "is_statements" "is_statements" (defArgs s_is_statements) (defBody s_is_statements) (defScope s_is_statements) .none kV11 dc11 pm11 an11 cd11 ct11), sl11⟩) (c11 : PySem.W.codeIn K cd11 "is_statements" = true) (k11 : PySem.W.keepIn K (.ref f11) = true)
    {f12 : Addr} {od12 an12 : Option Addr} {sl12 : Array (Option Value)} {oc12 kV12 dc12 pm12 cd12 ct12 : Value}
    (a12 : PySem.W.nsIn K mainGlobals "check_statements" = some (some (.ref f12))) (l12 : K.lookup f12 = some ⟨oc12, od12, .func (PySem.W.fnOf "check_statements" "check_statements" (defArgs s_check_statements) (defBody s_check_statements) (defScope s_check_statements) .none kV12 dc12 pm12 an12 cd12 ct12), sl12⟩) (c12 : PySem.W.codeIn K cd12 "check_statements" = true) (k12 : PySem.W.keepIn K (.ref f12) = true)
    {f13 : Addr} {od13 an13 : Option Addr} {sl13 : Array (Option Value)} {oc13 kV13 dc13 pm13 cd13 ct13 : Value}
    (a13 : PySem.W.nsIn K mainGlobals "divisor" = some (some (.ref f13))) (l13 : K.lookup f13 = some ⟨oc13, od13, .func (PySem.W.fnOf "divisor" "divisor" (defArgs s_divisor) (defBody s_divisor) (defScope s_divisor) .none kV13 dc13 pm13 an13 cd13 ct13), sl13⟩) (c13 : PySem.W.codeIn K cd13 "divisor" = true) (k13 : PySem.W.keepIn K (.ref f13) = true)
    {f14 : Addr} {od14 an14 : Option Addr} {sl14 : Array (Option Value)} {oc14 kV14 dc14 pm14 cd14 ct14 : Value}
    (a14 : PySem.W.nsIn K mainGlobals "whole" = some (some (.ref f14))) (l14 : K.lookup f14 = some ⟨oc14, od14, .func (PySem.W.fnOf "whole" "whole" (defArgs s_whole) (defBody s_whole) (defScope s_whole) .none kV14 dc14 pm14 an14 cd14 ct14), sl14⟩) (c14 : PySem.W.codeIn K cd14 "whole" = true) (k14 : PySem.W.keepIn K (.ref f14) = true)
    {f15 : Addr} {od15 an15 : Option Addr} {sl15 : Array (Option Value)} {oc15 kV15 dc15 pm15 cd15 ct15 : Value}
    (a15 : PySem.W.nsIn K mainGlobals "fraction" = some (some (.ref f15))) (l15 : K.lookup f15 = some ⟨oc15, od15, .func (PySem.W.fnOf "fraction" "fraction" (defArgs s_fraction) (defBody s_fraction) (defScope s_fraction) .none kV15 dc15 pm15 an15 cd15 ct15), sl15⟩) (c15 : PySem.W.codeIn K cd15 "fraction" = true) (k15 : PySem.W.keepIn K (.ref f15) = true)
    {f16 : Addr} {od16 an16 : Option Addr} {sl16 : Array (Option Value)} {oc16 kV16 dc16 pm16 cd16 ct16 : Value}
    (a16 : PySem.W.nsIn K mainGlobals "plus" = some (some (.ref f16))) (l16 : K.lookup f16 = some ⟨oc16, od16, .func (PySem.W.fnOf "plus" "plus" (defArgs s_plus) (defBody s_plus) (defScope s_plus) .none kV16 dc16 pm16 an16 cd16 ct16), sl16⟩) (c16 : PySem.W.codeIn K cd16 "plus" = true) (k16 : PySem.W.keepIn K (.ref f16) = true)
    {f17 : Addr} {od17 an17 : Option Addr} {sl17 : Array (Option Value)} {oc17 kV17 dc17 pm17 cd17 ct17 : Value}
    (a17 : PySem.W.nsIn K mainGlobals "times" = some (some (.ref f17))) (l17 : K.lookup f17 = some ⟨oc17, od17, .func (PySem.W.fnOf "times" "times" (defArgs s_times) (defBody s_times) (defScope s_times) .none kV17 dc17 pm17 an17 cd17 ct17), sl17⟩) (c17 : PySem.W.codeIn K cd17 "times" = true) (k17 : PySem.W.keepIn K (.ref f17) = true)
    {f18 : Addr} {od18 an18 : Option Addr} {sl18 : Array (Option Value)} {oc18 kV18 dc18 pm18 cd18 ct18 : Value}
    (a18 : PySem.W.nsIn K mainGlobals "added" = some (some (.ref f18))) (l18 : K.lookup f18 = some ⟨oc18, od18, .func (PySem.W.fnOf "added" "added" (defArgs s_added) (defBody s_added) (defScope s_added) .none kV18 dc18 pm18 an18 cd18 ct18), sl18⟩) (c18 : PySem.W.codeIn K cd18 "added" = true) (k18 : PySem.W.keepIn K (.ref f18) = true)
    {f19 : Addr} {od19 an19 : Option Addr} {sl19 : Array (Option Value)} {oc19 kV19 dc19 pm19 cd19 ct19 : Value}
    (a19 : PySem.W.nsIn K mainGlobals "over" = some (some (.ref f19))) (l19 : K.lookup f19 = some ⟨oc19, od19, .func (PySem.W.fnOf "over" "over" (defArgs s_over) (defBody s_over) (defScope s_over) .none kV19 dc19 pm19 an19 cd19 ct19), sl19⟩) (c19 : PySem.W.codeIn K cd19 "over" = true) (k19 : PySem.W.keepIn K (.ref f19) = true)
    {f20 : Addr} {od20 an20 : Option Addr} {sl20 : Array (Option Value)} {oc20 kV20 dc20 pm20 cd20 ct20 : Value}
    (a20 : PySem.W.nsIn K mainGlobals "reduced" = some (some (.ref f20))) (l20 : K.lookup f20 = some ⟨oc20, od20, .func (PySem.W.fnOf "reduced" "reduced" (defArgs s_reduced) (defBody s_reduced) (defScope s_reduced) .none kV20 dc20 pm20 an20 cd20 ct20), sl20⟩) (c20 : PySem.W.codeIn K cd20 "reduced" = true) (k20 : PySem.W.keepIn K (.ref f20) = true)
    {f21 : Addr} {od21 an21 : Option Addr} {sl21 : Array (Option Value)} {oc21 kV21 dc21 pm21 cd21 ct21 : Value}
    (a21 : PySem.W.nsIn K mainGlobals "parts_of" = some (some (.ref f21))) (l21 : K.lookup f21 = some ⟨oc21, od21, .func (PySem.W.fnOf "parts_of" "parts_of" (defArgs s_parts_of) (defBody s_parts_of) (defScope s_parts_of) .none kV21 dc21 pm21 an21 cd21 ct21), sl21⟩) (c21 : PySem.W.codeIn K cd21 "parts_of" = true) (k21 : PySem.W.keepIn K (.ref f21) = true)
    {f22 : Addr} {od22 an22 : Option Addr} {sl22 : Array (Option Value)} {oc22 kV22 dc22 pm22 cd22 ct22 : Value}
    (a22 : PySem.W.nsIn K mainGlobals "asked_by" = some (some (.ref f22))) (l22 : K.lookup f22 = some ⟨oc22, od22, .func (PySem.W.fnOf "asked_by" "asked_by" (defArgs s_asked_by) (defBody s_asked_by) (defScope s_asked_by) .none kV22 dc22 pm22 an22 cd22 ct22), sl22⟩) (c22 : PySem.W.codeIn K cd22 "asked_by" = true) (k22 : PySem.W.keepIn K (.ref f22) = true)
    {f23 : Addr} {od23 an23 : Option Addr} {sl23 : Array (Option Value)} {oc23 kV23 dc23 pm23 cd23 ct23 : Value}
    (a23 : PySem.W.nsIn K mainGlobals "rows_of" = some (some (.ref f23))) (l23 : K.lookup f23 = some ⟨oc23, od23, .func (PySem.W.fnOf "rows_of" "rows_of" (defArgs s_rows_of) (defBody s_rows_of) (defScope s_rows_of) .none kV23 dc23 pm23 an23 cd23 ct23), sl23⟩) (c23 : PySem.W.codeIn K cd23 "rows_of" = true) (k23 : PySem.W.keepIn K (.ref f23) = true)
    {f24 : Addr} {od24 an24 : Option Addr} {sl24 : Array (Option Value)} {oc24 kV24 dc24 pm24 cd24 ct24 : Value}
    (a24 : PySem.W.nsIn K mainGlobals "form_of" = some (some (.ref f24))) (l24 : K.lookup f24 = some ⟨oc24, od24, .func (PySem.W.fnOf "form_of" "form_of" (defArgs s_form_of) (defBody s_form_of) (defScope s_form_of) .none kV24 dc24 pm24 an24 cd24 ct24), sl24⟩) (c24 : PySem.W.codeIn K cd24 "form_of" = true) (k24 : PySem.W.keepIn K (.ref f24) = true)
    {f25 : Addr} {od25 an25 : Option Addr} {sl25 : Array (Option Value)} {oc25 kV25 dc25 pm25 cd25 ct25 : Value}
    (a25 : PySem.W.nsIn K mainGlobals "form" = some (some (.ref f25))) (l25 : K.lookup f25 = some ⟨oc25, od25, .func (PySem.W.fnOf "form" "form" (defArgs s_form) (defBody s_form) (defScope s_form) .none kV25 dc25 pm25 an25 cd25 ct25), sl25⟩) (c25 : PySem.W.codeIn K cd25 "form" = true) (k25 : PySem.W.keepIn K (.ref f25) = true)
    {f26 : Addr} {od26 an26 : Option Addr} {sl26 : Array (Option Value)} {oc26 kV26 dc26 pm26 cd26 ct26 : Value}
    (a26 : PySem.W.nsIn K mainGlobals "_law_exponents" = some (some (.ref f26))) (l26 : K.lookup f26 = some ⟨oc26, od26, .func (PySem.W.fnOf "_law_exponents" "_law_exponents" (defArgs s__law_exponents) (defBody s__law_exponents) (defScope s__law_exponents) .none kV26 dc26 pm26 an26 cd26 ct26), sl26⟩) (c26 : PySem.W.codeIn K cd26 "_law_exponents" = true) (k26 : PySem.W.keepIn K (.ref f26) = true)
    {f27 : Addr} {od27 an27 : Option Addr} {sl27 : Array (Option Value)} {oc27 kV27 dc27 pm27 cd27 ct27 : Value}
    (a27 : PySem.W.nsIn K mainGlobals "_law_rows" = some (some (.ref f27))) (l27 : K.lookup f27 = some ⟨oc27, od27, .func (PySem.W.fnOf "_law_rows" "_law_rows" (defArgs s__law_rows) (defBody s__law_rows) (defScope s__law_rows) .none kV27 dc27 pm27 an27 cd27 ct27), sl27⟩) (c27 : PySem.W.codeIn K cd27 "_law_rows" = true) (k27 : PySem.W.keepIn K (.ref f27) = true)
    {f28 : Addr} {od28 an28 : Option Addr} {sl28 : Array (Option Value)} {oc28 kV28 dc28 pm28 cd28 ct28 : Value}
    (a28 : PySem.W.nsIn K mainGlobals "count_free" = some (some (.ref f28))) (l28 : K.lookup f28 = some ⟨oc28, od28, .func (PySem.W.fnOf "count_free" "count_free" (defArgs s_count_free) (defBody s_count_free) (defScope s_count_free) .none kV28 dc28 pm28 an28 cd28 ct28), sl28⟩) (c28 : PySem.W.codeIn K cd28 "count_free" = true) (k28 : PySem.W.keepIn K (.ref f28) = true)
    {f29 : Addr} {od29 an29 : Option Addr} {sl29 : Array (Option Value)} {oc29 kV29 dc29 pm29 cd29 ct29 : Value}
    (a29 : PySem.W.nsIn K mainGlobals "_law_divisor" = some (some (.ref f29))) (l29 : K.lookup f29 = some ⟨oc29, od29, .func (PySem.W.fnOf "_law_divisor" "_law_divisor" (defArgs s__law_divisor) (defBody s__law_divisor) (defScope s__law_divisor) .none kV29 dc29 pm29 an29 cd29 ct29), sl29⟩) (c29 : PySem.W.codeIn K cd29 "_law_divisor" = true) (k29 : PySem.W.keepIn K (.ref f29) = true)
    {f30 : Addr} {od30 an30 : Option Addr} {sl30 : Array (Option Value)} {oc30 kV30 dc30 pm30 cd30 ct30 : Value}
    (a30 : PySem.W.nsIn K mainGlobals "law" = some (some (.ref f30))) (l30 : K.lookup f30 = some ⟨oc30, od30, .func (PySem.W.fnOf "law" "law" (defArgs s_law) (defBody s_law) (defScope s_law) .none kV30 dc30 pm30 an30 cd30 ct30), sl30⟩) (c30 : PySem.W.codeIn K cd30 "law" = true) (k30 : PySem.W.keepIn K (.ref f30) = true)
    (z0 : PySem.W.nsIn K mainGlobals "len" = some none)
    (z1 : PySem.W.nsIn K mainGlobals "abs" = some none)
    (z2 : PySem.W.nsIn K mainGlobals "int" = some none)
    (z3 : PySem.W.nsIn K mainGlobals "tuple" = some none)
    (z4 : PySem.W.nsIn K mainGlobals "list" = some none)
    (z5 : PySem.W.nsIn K mainGlobals "all" = some none)
    (z6 : PySem.W.nsIn K mainGlobals "any" = some none)
    (z7 : PySem.W.nsIn K mainGlobals "max" = some none)
    (z8 : PySem.W.nsIn K mainGlobals "isinstance" = some none)
    (z9 : PySem.W.nsIn K mainGlobals "bool" = some none)
    (z10 : PySem.W.nsIn K mainGlobals "str" = some none)
    (z11 : PySem.W.nsIn K mainGlobals "range" = some none)
    (z12 : PySem.W.nsIn K mainGlobals "zip" = some none)
    (z13 : PySem.W.nsIn K mainGlobals "sorted" = some none)
    (z14 : PySem.W.nsIn K mainGlobals "set" = some none)
    (z15 : PySem.W.nsIn K mainGlobals "dict" = some none)
    (z16 : PySem.W.nsIn K mainGlobals "enumerate" = some none)
    {u0 : Value} (qg0 : PySem.W.nsIn K mainGlobals "NAMES" = some (some u0)) (qr0 : repB K 20 u0 d_NAMES = true)
    {u1 : Value} (qg1 : PySem.W.nsIn K mainGlobals "ZERO" = some (some u1)) (qr1 : repB K 20 u1 d_ZERO = true)
    {u2 : Value} (qg2 : PySem.W.nsIn K mainGlobals "EMPTY" = some (some u2)) (qr2 : repB K 20 u2 d_EMPTY = true) :
    ∃ fd : FuncData, (∀ (s : Shared) (v : Value), BindsTo s fd ⟨[v], []⟩ [("script", v)]) ∧ ∀ base : Heap, K.In base → base.Ns mainGlobals mg → FnOk l.prog w K mg base (L2.CX l.prog w) 15 fa fd ["script"] (spLaw K 15 c_law) := by
  have e := hfa.symm.trans (PySem.W.mg_of X G a30)
  cases e
  have blt : ∀ y ∈ bltNames, mg y = none := by
    intro y hy
    unfold bltNames at hy
    simp only [List.mem_cons, List.not_mem_nil, or_false] at hy
    rcases hy with rfl | rfl | rfl | rfl | rfl | rfl | rfl | rfl | rfl | rfl | rfl | rfl | rfl | rfl | rfl | rfl | rfl
    · exact PySem.W.mg_none_of X G z0
    · exact PySem.W.mg_none_of X G z1
    · exact PySem.W.mg_none_of X G z2
    · exact PySem.W.mg_none_of X G z3
    · exact PySem.W.mg_none_of X G z4
    · exact PySem.W.mg_none_of X G z5
    · exact PySem.W.mg_none_of X G z6
    · exact PySem.W.mg_none_of X G z7
    · exact PySem.W.mg_none_of X G z8
    · exact PySem.W.mg_none_of X G z9
    · exact PySem.W.mg_none_of X G z10
    · exact PySem.W.mg_none_of X G z11
    · exact PySem.W.mg_none_of X G z12
    · exact PySem.W.mg_none_of X G z13
    · exact PySem.W.mg_none_of X G z14
    · exact PySem.W.mg_none_of X G z15
    · exact PySem.W.mg_none_of X G z16
  have gl_NAMES : Glb K mg "NAMES" d_NAMES := glb_of X G qg0 qr0
  have gl_ZERO : Glb K mg "ZERO" d_ZERO := glb_of X G qg1 qr1
  have gl_EMPTY : Glb K mg "EMPTY" d_EMPTY := glb_of X G qg2 qr2
  have F30 := fun_mk (st := s_law) l30 c30 k30
  refine ⟨PySem.W.fnOf "law" "law" (defArgs s_law) (defBody s_law) (defScope s_law) .none kV30 dc30 pm30 an30 cd30 ct30, fun s v => .of_eq rfl, fun base _ _ => ?_⟩
  have F0 := fun_mk (st := s__law_town) l0 c0 k0
  have b0 := F0.binds (ps := ["script"]) fun _ _ _ _ _ _ us hl => match us, hl with | [_], _ => rfl
  have F1 := fun_mk (st := s__law_draw) l1 c1 k1
  have b1 := F1.binds (ps := ["script", "town", "limit"]) fun _ _ _ _ _ _ us hl => match us, hl with | [_, _, _], _ => rfl
  have need : ∀ p, needSs (fun x m g => Has l.prog w K mg base (townSys p) 14 x m g) (Glb K mg) (c_law p) := by
    intro p
    have h__law_draw : Has l.prog w K mg base (townSys p) 1 "_law_draw" 3 (g_draw p) := ⟨f1, _, _, rfl, ok_draw F1 (blt "len" (by decide +kernel)), PySem.W.mg_of X G a1, k1, b1⟩
    have h__law_pick := H__law_pick (P := l.prog) (w := w) (base := base) (p := p) (n := 1) (defAt X G a2 l2 c2 k2) blt (h__law_draw.mono (by decide)) 
    have h__law_formula := H__law_formula (P := l.prog) (w := w) (base := base) (p := p) (n := 2) (defAt X G a3 l3 c3 k3) blt (h__law_draw.mono (by decide)) (h__law_pick.mono (by decide))  6
    have h__law_statements := H__law_statements (P := l.prog) (w := w) (base := base) (p := p) (n := 9) (defAt X G a4 l4 c4 k4) blt (h__law_draw.mono (by decide)) (h__law_formula.mono (by decide)) 
    have h__law_rank := H__law_rank (P := l.prog) (w := w) (base := base) (p := p) (n := 0) (defAt X G a5 l5 c5 k5) blt  
    have h_is_between := H_is_between (P := l.prog) (w := w) (base := base) (p := p) (n := 0) (defAt X G a6 l6 c6 k6) blt  
    have h_is_name := H_is_name (P := l.prog) (w := w) (base := base) (p := p) (n := 0) (defAt X G a7 l7 c7 k7) blt  gl_NAMES
    have h_is_at_most := H_is_at_most (P := l.prog) (w := w) (base := base) (p := p) (n := 1) (defAt X G a8 l8 c8 k8) blt (h_is_between.mono (by decide)) (h_is_name.mono (by decide))  6
    have h_is_formula := H_is_formula (P := l.prog) (w := w) (base := base) (p := p) (n := 8) (defAt X G a9 l9 c9 k9) blt (h_is_at_most.mono (by decide)) 
    have h_is_statement := H_is_statement (P := l.prog) (w := w) (base := base) (p := p) (n := 9) (defAt X G a10 l10 c10 k10) blt (h_is_formula.mono (by decide)) 
    have h_is_statements := H_is_statements (P := l.prog) (w := w) (base := base) (p := p) (n := 10) (defAt X G a11 l11 c11 k11) blt (h_is_statement.mono (by decide)) 
    have h_check_statements := H_check_statements (P := l.prog) (w := w) (base := base) (p := p) (n := 11) (defAt X G a12 l12 c12 k12) blt (h_is_statements.mono (by decide)) 
    have h_divisor := H_divisor (P := l.prog) (w := w) (base := base) (p := p) (n := 0) (defAt X G a13 l13 c13 k13) blt  
    have h_whole := H_whole (P := l.prog) (w := w) (base := base) (p := p) (n := 1) (defAt X G a14 l14 c14 k14) blt (h_divisor.mono (by decide)) 
    have h_fraction := H_fraction (P := l.prog) (w := w) (base := base) (p := p) (n := 1) (defAt X G a15 l15 c15 k15) blt (h_divisor.mono (by decide)) 
    have h_plus := H_plus (P := l.prog) (w := w) (base := base) (p := p) (n := 2) (defAt X G a16 l16 c16 k16) blt (h_fraction.mono (by decide)) 
    have h_times := H_times (P := l.prog) (w := w) (base := base) (p := p) (n := 2) (defAt X G a17 l17 c17 k17) blt (h_fraction.mono (by decide)) 
    have h_added := H_added (P := l.prog) (w := w) (base := base) (p := p) (n := 3) (defAt X G a18 l18 c18 k18) blt (h_plus.mono (by decide)) (h_times.mono (by decide)) 
    have h_over := H_over (P := l.prog) (w := w) (base := base) (p := p) (n := 2) (defAt X G a19 l19 c19 k19) blt (h_fraction.mono (by decide)) 
    have h_reduced := H_reduced (P := l.prog) (w := w) (base := base) (p := p) (n := 4) (defAt X G a20 l20 c20 k20) blt (h_added.mono (by decide)) (h_over.mono (by decide)) (h_times.mono (by decide)) gl_ZERO
    have h_parts_of := H_parts_of (P := l.prog) (w := w) (base := base) (p := p) (n := 0) (defAt X G a21 l21 c21 k21) blt  
    have h_asked_by := H_asked_by (P := l.prog) (w := w) (base := base) (p := p) (n := 4) (defAt X G a22 l22 c22 k22) blt (h_parts_of.mono (by decide)) (h_added.mono (by decide)) (h_times.mono (by decide)) gl_EMPTY gl_NAMES 6
    have h_rows_of := H_rows_of (P := l.prog) (w := w) (base := base) (p := p) (n := 11) (defAt X G a23 l23 c23 k23) blt (h_asked_by.mono (by decide)) (h_added.mono (by decide)) 
    have h_form_of := H_form_of (P := l.prog) (w := w) (base := base) (p := p) (n := 12) (defAt X G a24 l24 c24 k24) blt (h_whole.mono (by decide)) (h_reduced.mono (by decide)) (h_rows_of.mono (by decide)) 
    have h_form := H_form (P := l.prog) (w := w) (base := base) (p := p) (n := 13) (defAt X G a25 l25 c25 k25) blt (h_check_statements.mono (by decide)) (h_form_of.mono (by decide)) 
    have h__law_exponents := H__law_exponents (P := l.prog) (w := w) (base := base) (p := p) (n := 0) (defAt X G a26 l26 c26 k26) blt   6
    have h__law_rows := H__law_rows (P := l.prog) (w := w) (base := base) (p := p) (n := 7) (defAt X G a27 l27 c27 k27) blt (h__law_exponents.mono (by decide)) 
    have h_count_free := H_count_free (P := l.prog) (w := w) (base := base) (p := p) (n := 13) (defAt X G a28 l28 c28 k28) blt (h_check_statements.mono (by decide)) (h_form_of.mono (by decide)) 
    have h__law_divisor := H__law_divisor (P := l.prog) (w := w) (base := base) (p := p) (n := 0) (defAt X G a29 l29 c29 k29) blt  
    have h__law_draw := h__law_draw.mono (show _ ≤ 14 by decide)
    have h__law_pick := h__law_pick.mono (show _ ≤ 14 by decide)
    have h__law_formula := h__law_formula.mono (show _ ≤ 14 by decide)
    have h__law_statements := h__law_statements.mono (show _ ≤ 14 by decide)
    have h__law_rank := h__law_rank.mono (show _ ≤ 14 by decide)
    have h_is_between := h_is_between.mono (show _ ≤ 14 by decide)
    have h_is_name := h_is_name.mono (show _ ≤ 14 by decide)
    have h_is_at_most := h_is_at_most.mono (show _ ≤ 14 by decide)
    have h_is_formula := h_is_formula.mono (show _ ≤ 14 by decide)
    have h_is_statement := h_is_statement.mono (show _ ≤ 14 by decide)
    have h_is_statements := h_is_statements.mono (show _ ≤ 14 by decide)
    have h_check_statements := h_check_statements.mono (show _ ≤ 14 by decide)
    have h_divisor := h_divisor.mono (show _ ≤ 14 by decide)
    have h_whole := h_whole.mono (show _ ≤ 14 by decide)
    have h_fraction := h_fraction.mono (show _ ≤ 14 by decide)
    have h_plus := h_plus.mono (show _ ≤ 14 by decide)
    have h_times := h_times.mono (show _ ≤ 14 by decide)
    have h_added := h_added.mono (show _ ≤ 14 by decide)
    have h_over := h_over.mono (show _ ≤ 14 by decide)
    have h_reduced := h_reduced.mono (show _ ≤ 14 by decide)
    have h_parts_of := h_parts_of.mono (show _ ≤ 14 by decide)
    have h_asked_by := h_asked_by.mono (show _ ≤ 14 by decide)
    have h_rows_of := h_rows_of.mono (show _ ≤ 14 by decide)
    have h_form_of := h_form_of.mono (show _ ≤ 14 by decide)
    have h_form := h_form.mono (show _ ≤ 14 by decide)
    have h__law_exponents := h__law_exponents.mono (show _ ≤ 14 by decide)
    have h__law_rows := h__law_rows.mono (show _ ≤ 14 by decide)
    have h_count_free := h_count_free.mono (show _ ≤ 14 by decide)
    have h__law_divisor := h__law_divisor.mono (show _ ≤ 14 by decide)
    unfold c_law
    repeat' (first | exact True.intro | assumption | apply And.intro)
  exact law_sound F30 sc_law rfl rfl (by decide +kernel) (by decide +kernel) (by decide +kernel) rfl ((ok_town F0 (blt "list" (by decide +kernel))).mono (by decide)) b0 k0 (PySem.W.mg_of X G a0) blt k_law need
theorem walk {l : PySem.W.OpenLaw} {q : Program} {loose : List Str} {XP : (Str → Option Value) → Heap → Prop} {YP : World → Heap → Prop} {d : DefRec} {K : Params → PySem.W.Frag} (hn : l.most = some 63) (hdf : d.params.defaults = [])
    (hY : ∀ (w : World) (h : Heap), YP w h → (K w.params).In h)
    (F : ∀ (w : World) (mg : Str → Option Value) (fa : Addr) (h : Heap), (K w.params).In h → h.Ns mainGlobals mg → mg d.name = some (.ref fa) →
      ∃ fd : FuncData, (∀ (s : Shared) (u : Value), BindsTo s fd ⟨[u], []⟩ [("script", u)]) ∧ ∀ base : Heap, (K w.params).In base → base.Ns mainGlobals mg → FnOk l.prog w (K w.params) mg base (L2.CX l.prog w) 15 fa fd ["script"] (spLaw (K w.params) 15 c_law)) :
    PySem.W.WalkO q loose XP YP l.row.toRowW d [] (fun f vs => PySem.call f vs) :=
  L2.walk_of (n := 63) (k := 15) (x := "script") (CX := fun w => L2.CX l.prog w) (sp := fun w => spLaw (K w.params) 15 c_law) hn (by decide) hdf ⟨rfl, by decide, by decide⟩ hY F (fun _ _ a ns hl _ hS => ⟨a, ns, rfl, hS, hl, main ns hl, fun _ => rfl⟩) fun _ _ _ _ _ z => cx_no z
end Mf
open PySem PySem.W PyProof.Rows
set_option maxRecDepth 100000 in
set_option maxHeartbeats 0 in
theorem PySem.Challenge.cw_measureforms_k10_whole_forms_holds : PySem.Challenge.rw_measureforms_k10_whole_forms.Holds := by
  w_on; o_law; k_head; (case hw => w_witness2)
  k_fill
  refine Mf.walk (l := PySem.Challenge.rw_measureforms_k10_whole_forms) rfl rfl (fun w h Y => PySem.W.kIn_of Y) ?F
  case F =>
    intro w mg fa h KX G hmg
    refine' Mf.all_mk KX G hmg ?a0 ?l0 ?c0 ?k0 ?a1 ?l1 ?c1 ?k1 ?a2 ?l2 ?c2 ?k2 ?a3 ?l3 ?c3 ?k3 ?a4 ?l4 ?c4 ?k4 ?a5 ?l5 ?c5 ?k5 ?a6 ?l6 ?c6 ?k6 ?a7 ?l7 ?c7 ?k7 ?a8 ?l8 ?c8 ?k8 ?a9 ?l9 ?c9 ?k9 ?a10 ?l10 ?c10 ?k10 ?a11 ?l11 ?c11 ?k11 ?a12 ?l12 ?c12 ?k12 ?a13 ?l13 ?c13 ?k13 ?a14 ?l14 ?c14 ?k14 ?a15 ?l15 ?c15 ?k15 ?a16 ?l16 ?c16 ?k16 ?a17 ?l17 ?c17 ?k17 ?a18 ?l18 ?c18 ?k18 ?a19 ?l19 ?c19 ?k19 ?a20 ?l20 ?c20 ?k20 ?a21 ?l21 ?c21 ?k21 ?a22 ?l22 ?c22 ?k22 ?a23 ?l23 ?c23 ?k23 ?a24 ?l24 ?c24 ?k24 ?a25 ?l25 ?c25 ?k25 ?a26 ?l26 ?c26 ?k26 ?a27 ?l27 ?c27 ?k27 ?a28 ?l28 ?c28 ?k28 ?a29 ?l29 ?c29 ?k29 ?a30 ?l30 ?c30 ?k30 ?z0 ?z1 ?z2 ?z3 ?z4 ?z5 ?z6 ?z7 ?z8 ?z9 ?z10 ?z11 ?z12 ?z13 ?z14 ?z15 ?z16 ?qg0 ?qr0 ?qg1 ?qr1 ?qg2 ?qr2
    (case a0 => k_is)
    (case l0 => k_is)
    (case c0 => k_is)
    (case k0 => k_is)
    (case a1 => k_is)
    (case l1 => k_is)
    (case c1 => k_is)
    (case k1 => k_is)
    (case a2 => k_is)
    (case l2 => k_is)
    (case c2 => k_is)
    (case k2 => k_is)
    (case a3 => k_is)
    (case l3 => k_is)
    (case c3 => k_is)
    (case k3 => k_is)
    (case a4 => k_is)
    (case l4 => k_is)
    (case c4 => k_is)
    (case k4 => k_is)
    (case a5 => k_is)
    (case l5 => k_is)
    (case c5 => k_is)
    (case k5 => k_is)
    (case a6 => k_is)
    (case l6 => k_is)
    (case c6 => k_is)
    (case k6 => k_is)
    (case a7 => k_is)
    (case l7 => k_is)
    (case c7 => k_is)
    (case k7 => k_is)
    (case a8 => k_is)
    (case l8 => k_is)
    (case c8 => k_is)
    (case k8 => k_is)
    (case a9 => k_is)
    (case l9 => k_is)
    (case c9 => k_is)
    (case k9 => k_is)
    (case a10 => k_is)
    (case l10 => k_is)
    (case c10 => k_is)
    (case k10 => k_is)
    (case a11 => k_is)
    (case l11 => k_is)
    (case c11 => k_is)
    (case k11 => k_is)
    (case a12 => k_is)
    (case l12 => k_is)
    (case c12 => k_is)
    (case k12 => k_is)
    (case a13 => k_is)
    (case l13 => k_is)
    (case c13 => k_is)
    (case k13 => k_is)
    (case a14 => k_is)
    (case l14 => k_is)
    (case c14 => k_is)
    (case k14 => k_is)
    (case a15 => k_is)
    (case l15 => k_is)
    (case c15 => k_is)
    (case k15 => k_is)
    (case a16 => k_is)
    (case l16 => k_is)
    (case c16 => k_is)
    (case k16 => k_is)
    (case a17 => k_is)
    (case l17 => k_is)
    (case c17 => k_is)
    (case k17 => k_is)
    (case a18 => k_is)
    (case l18 => k_is)
    (case c18 => k_is)
    (case k18 => k_is)
    (case a19 => k_is)
    (case l19 => k_is)
    (case c19 => k_is)
    (case k19 => k_is)
    (case a20 => k_is)
    (case l20 => k_is)
    (case c20 => k_is)
    (case k20 => k_is)
    (case a21 => k_is)
    (case l21 => k_is)
    (case c21 => k_is)
    (case k21 => k_is)
    (case a22 => k_is)
    (case l22 => k_is)
    (case c22 => k_is)
    (case k22 => k_is)
    (case a23 => k_is)
    (case l23 => k_is)
    (case c23 => k_is)
    (case k23 => k_is)
    (case a24 => k_is)
    (case l24 => k_is)
    (case c24 => k_is)
    (case k24 => k_is)
    (case a25 => k_is)
    (case l25 => k_is)
    (case c25 => k_is)
    (case k25 => k_is)
    (case a26 => k_is)
    (case l26 => k_is)
    (case c26 => k_is)
    (case k26 => k_is)
    (case a27 => k_is)
    (case l27 => k_is)
    (case c27 => k_is)
    (case k27 => k_is)
    (case a28 => k_is)
    (case l28 => k_is)
    (case c28 => k_is)
    (case k28 => k_is)
    (case a29 => k_is)
    (case l29 => k_is)
    (case c29 => k_is)
    (case k29 => k_is)
    (case a30 => k_is)
    (case l30 => k_is)
    (case c30 => k_is)
    (case k30 => k_is)
    (case z0 => k_is)
    (case z1 => k_is)
    (case z2 => k_is)
    (case z3 => k_is)
    (case z4 => k_is)
    (case z5 => k_is)
    (case z6 => k_is)
    (case z7 => k_is)
    (case z8 => k_is)
    (case z9 => k_is)
    (case z10 => k_is)
    (case z11 => k_is)
    (case z12 => k_is)
    (case z13 => k_is)
    (case z14 => k_is)
    (case z15 => k_is)
    (case z16 => k_is)
    (case qg0 => k_is)
    (case qr0 => kernel_rfl)
    (case qg1 => k_is)
    (case qr1 => kernel_rfl)
    (case qg2 => k_is)
    (case qr2 => kernel_rfl)
