import PyProof.Rows.All
import Wide.All
import OpenK.AllK
import Wide.FinOn
import HandS.ForMost
import HandS.ForExc
import HandS.Wide
import HandS.Zip
import HandS.TupAny
import HandS.TupMul
import HandS.TupLe
import HandS.IsInst
import KE.KDictPairs
import KE.SortData
import KE.DataFind
import HandS.Replace
import HandS.Small
import HandS.Deep
import HandS.SetKeys
import HandS.SetFor
import HandS.NoneIn
import PySem.Challenge.RW_measureforms_k54_measures_by_hand
set_option Elab.async false
set_option linter.all false
set_option maxRecDepth 100000
set_option maxHeartbeats 1000000
namespace Mf
open PySem L2
/-! Tuples that are told to the object: a new tuple has no dict of its own, and that stays known. -/
abbrev NewT (H : Hp) (Q : VK) (xs : List V) : Prop := ∀ p o, H p = none → o.dict = none → Q (.ref p) (upd H p (.frz o (.tup xs)))
section
variable {X : Cx} {es : List Expr} {t : TA} {pos : Pos}
/-- a tuple just pushed -/
theorem laidT {pins : List (Addr × Obj)} {σ : L2.St} {H : Hp} {s : Shared} {Q : VK} {xs : List V} {its : List Value} (I : Inv X pins σ H s) (r : Vals xs its) (hz : xs.length ≤ sizeLine) (q : NewT H Q xs) :
    EP X pins σ Q (.ref s.heap.objs.size) { s with heap := s.heap.push { cls := .type "tuple", data := .seq its.toArray } } := by
  refine ⟨.ref s.heap.objs.size, _, I.laid (t' := s.toks) (o := .frz { cls := .type "tuple", data := .seq its.toArray } (.tup xs)) (fun b ob e => Heap.get?_push_of_some _ e) (Nat.le_refl _) ?_, rfl, q _ { cls := .type "tuple", data := .seq its.toArray } (I.hok.fresh (Nat.le_refl _)) rfl⟩
  exact ⟨Heap.get?_push_size _ rfl, hz, its, r, ⟨_, Heap.get?_push_size _ rfl, rfl, _, rfl⟩⟩
def tTupZ (t : TA) : TE := fun σ H Q => t σ H fun xs H1 => xs.length ≤ sizeLine ∧ NewT H1 Q xs
theorem pe_tupZ {x1 : Nat} (h : PA X es t) : PE X (.Tuple es x1 pos) (tTupZ t) :=
  ⟨fun pins s σ H Q I hq => wpAny_Tuple_spliced (thn (h.run pos pins s σ H _ I hq) fun us s1 ⟨xs, H1, I1, r, z, q⟩ => ⟨by rw [← r.length]; exact z, laidT I1 r z q⟩)⟩
def rCatZ (K : PySem.W.Frag) : R2 := fun x y H Q => ∃ a b xs ys, x = .ref a ∧ y = .ref b ∧ SqT K H a xs ∧ SqT K H b ys ∧ xs.length + ys.length ≤ sizeLine ∧ (xs = [] → Q (.ref b) H) ∧ (ys = [] → Q (.ref a) H) ∧ NewT H Q (xs ++ ys)
theorem op_catZ : OpR X (binaryOp .Add) (rCatZ X.K) := by
  intro pins s σ H x y v u Q I rx ry h
  obtain ⟨a, b, xs, ys, rfl, rfl, ha, hb, hz, q0, q1, q2⟩ := h
  cases rx; cases ry
  obtain ⟨i1, r1, p1, _⟩ := I.tuple ha
  obtain ⟨i2, r2, p2, _⟩ := I.tuple hb
  by_cases hx : xs = []
  · subst hx
    cases r1
    exact cat_tup0 p1 p2 ⟨.ref b, H, I, rfl, q0 rfl⟩
  · refine HT.cat_tup p1 p2 (fun z => hx (r1.nil_iff.mp z)) (fun z => ⟨.ref a, H, I, rfl, q1 (r2.nil_iff.mp z)⟩) (fun z => ?_) (by rw [← r1.length, ← r2.length]; exact hz)
    exact laidT (its := i1 ++ i2) I (r1.append r2) (by rw [List.length_append]; exact hz) q2
def rSlZ (K : PySem.W.Frag) : V → Option Int → Option Int → Hp → VK → Prop := fun x lo hi H Q => ∃ a xs, x = .ref a ∧ SqT K H a xs ∧ (cutV xs lo hi = xs → Q (.ref a) H) ∧ NewT H Q (cutV xs lo hi)
theorem sl_tupZ : SlR X (rSlZ X.K) := by
  intro pins s σ H x v vl vu lo hi sl Q I rx hs pl pu h
  obtain ⟨a, xs, rfl, hx, q1, q2⟩ := h
  cases rx
  obtain ⟨its, r, ht, hz⟩ := I.tuple hx
  have hlen : its.toArray.size = xs.length := by rw [List.size_toArray]; exact r.length.symm
  refine ⟨"tuple", _, PyProof.Rows.slot_tuple_getitem.lookup, ht.typeIs, ?_⟩
  by_cases hw : HT.sIx xs.length 0 lo = 0 ∧ HT.sIx xs.length xs.length hi = xs.length
  · refine getItem_tuple_whole ht hs pl pu (by rw [hlen]; exact hw) ⟨.ref a, H, I, rfl, q1 ?_⟩
    unfold cutV
    rw [hw.1, hw.2, List.drop_zero, Nat.sub_zero, List.take_length]
  · refine HT.getItem_tuple_cut ht hs pl pu (by rw [hlen]; exact hw) ?_ (by rw [hlen]; exact hz)
    rw [hlen]
    exact laidT I ((r.drop (HT.sIx xs.length 0 lo)).take (HT.sIx xs.length xs.length hi - HT.sIx xs.length 0 lo)) (Nat.le_trans (cutV_length xs lo hi) hz) q2
theorem call_tupleZ : CallR X (.type "tuple") (fun xs H Q => ∃ p ys, xs = [.ref p] ∧ ((SqL X.K H p ys ∧ NewT H Q ys) ∨ (SqT X.K H p ys ∧ Q (.ref p) H))) := by
  intro pins s σ H xs us Q I r h
  obtain ⟨p, ys, rfl, h⟩ := h
  obtain ⟨u, rfl, rx⟩ := vals1 r
  cases rx
  rcases h with ⟨hq, q⟩ | ⟨hq, q⟩
  · obtain ⟨its, r', pl, hz⟩ := I.list hq
    have hlen := r'.length
    refine call_tuple_list pl.isList (fun h' kp => ?_) (by simp only [List.size_toArray] <;> omega)
    exact laidT (I.kept (h' := h') (t' := s.toks) kp) r' hz q
  · obtain ⟨its, r', pl, hz⟩ := I.tuple hq
    exact call_tuple_same pl ⟨.ref p, H, I, rfl, q⟩
def rRepZ (K : PySem.W.Frag) : R2 := fun x y H Q => ∃ l k xs, x = .ref l ∧ y = .int k ∧ SqT K H l xs ∧ xs ≠ [] ∧ 2 ≤ k ∧ k ≤ 1000 ∧ xs.length ≤ 1000 ∧ NewT H Q (List.replicate k.toNat xs).flatten
theorem op_repZ : OpR X (binaryOp .Mult) (rRepZ X.K) := by
  intro pins s σ H x y v u Q I rx ry h
  obtain ⟨l, k, xs, rfl, rfl, hT, hne, k2, k3, xz, q⟩ := h
  cases rx
  obtain ⟨tk, rfl⟩ := ry
  obtain ⟨its, r, ⟨⟨cls, dd, data, sl⟩, ho, hc, n, hd⟩, _⟩ := I.tuple hT
  dsimp only at hc hd
  subst hc hd
  have el : its.length = xs.length := r.length.symm
  have es : its.toArray.size = xs.length := by rw [List.size_toArray, el]
  have ie : its.toArray.isEmpty = false := by
    cases its with
    | nil => exact absurd (List.eq_nil_of_length_eq_zero el.symm) hne
    | cons _ _ => rfl
  have big : ((its.toArray.size : Nat) : Int) * k ≤ 1000000 := by
    rw [es]
    exact Int.le_trans (Int.mul_le_mul_of_nonneg_right (show ((xs.length : Nat) : Int) ≤ 1000 by omega) (by omega)) (by omega)
  have m6 : k.toNat * xs.length ≤ 1000 * 1000 := Nat.mul_le_mul (by omega) xz
  have a0 : (decide (k < -(2 ^ 63)) || decide (k ≥ 2 ^ 63)) = false := by simp only [Bool.or_eq_false_iff, decide_eq_false_iff_not]; omega
  have a1 : (its.toArray.isEmpty || k == 1) = false := by rw [ie, Bool.false_or, beq_eq_false_iff_ne]; omega
  have a2 : (decide (k ≤ 0) || its.toArray.isEmpty) = false := by rw [ie, Bool.or_false, decide_eq_false_iff_not]; omega
  have a4 : Builtin.Tuple.tupleTooMany (((its.toArray.size : Nat) : Int) * k) = false := by
    unfold Builtin.Tuple.tupleTooMany
    rw [sizeLine_eq, decide_eq_false_iff_not]
    omega
  have fl : (List.replicate k.toNat its).flatten.length ≤ sizeLine := by
    rw [PyProof.Rows.lm_len_rep_flat, el, sizeLine_eq]
    omega
  refine wpAny_binaryOp_repeat_ref (T := "tuple") (U := "int") (by decide) ⟨_, ho, rfl⟩ (fun s' => typeIs_int s' k tk) noFill_tuple_mul F.fills_int_mul F.slot_int_rmul repeat_tuple F.slot_int_index.lookup
    (call_meets F.slot_int_rmul (typeIs_int s k tk) F.entry_int_rmul (F.args_int_rmul_2 _ _) (int_rmul_tuple k tk l its.toArray n dd sl)
      ⟨ho, rfl, ⟨_, ho, rfl⟩, call_meets F.slot_tuple_mul ⟨_, ho, rfl⟩ F.entry_tuple_mul (F.args_tuple_mul_2 _ _)
        (tuple_mulW l its.toArray n dd sl k tk a0 a1 a2 (by omega) a4 (by rw [size_rep, List.size_toArray]; exact fl)) ⟨ho, ?_⟩⟩)
  rw [size_rep]
  exact laidT I (r.rep k.toNat) (by rw [PyProof.Rows.lm_len_rep_flat, sizeLine_eq]; omega) q
end
end Mf
set_option Elab.async false
set_option linter.all false
set_option maxRecDepth 100000
set_option maxHeartbeats 1000000
namespace Mf
open PySem L2

/-! ### data -/
inductive D where
  | non | bl (b : Bool) | int (i : Int) | str (x : Str) | tup (ds : List D) | lst (ds : List D) | dct (kvs : List (Str × D)) | adr (a : Addr) | scr (ns : List Int)

/-- a tuple without a dict of its own -/
def Pt (K : PySem.W.Frag) (F : Hp) (a : Addr) : Prop := (∃ o u, F a = some (.frz o u) ∧ o.dict = none) ∨ ∃ o, K.lookup a = some o ∧ o.dict = none
mutual
inductive Rep (K : PySem.W.Frag) (F : Hp) : V → D → Prop
  | non : Rep K F .non .non
  | bl (b : Bool) : Rep K F (.bl b) (.bl b)
  | int (i : Int) : Rep K F (.int i) (.int i)
  | str (x : Str) : Rep K F (.str x) (.str x)
  | adr (a : Addr) : Rep K F (.ref a) (.adr a)
  | scr {a : Addr} {ns : List Int} : SqL K F a (ns.map V.int) → Rep K F (.ref a) (.scr ns)
  | tup {a : Addr} {vs : List V} {ds : List D} : SqT K F a vs → Pt K F a → Reps K F vs ds → Rep K F (.ref a) (.tup ds)
  | lst {a : Addr} {vs : List V} {ds : List D} : F a = some (.lst vs) → Reps K F vs ds → Rep K F (.ref a) (.lst ds)
  | dct {a : Addr} {kvs : List (Key × V)} {es : List (Str × D)} : F a = some (.dK kvs) → RepK K F kvs es → Rep K F (.ref a) (.dct es)
inductive Reps (K : PySem.W.Frag) (F : Hp) : List V → List D → Prop
  | nil : Reps K F [] []
  | cons {v : V} {vs : List V} {d : D} {ds : List D} : Rep K F v d → Reps K F vs ds → Reps K F (v :: vs) (d :: ds)
inductive RepK (K : PySem.W.Frag) (F : Hp) : List (Key × V) → List (Str × D) → Prop
  | nil : RepK K F [] []
  | cons {x : Str} {v : V} {d : D} {kvs : List (Key × V)} {es : List (Str × D)} : Rep K F v d → RepK K F kvs es → RepK K F ((.inr x, v) :: kvs) ((x, d) :: es)
end

def Sub (F F' : Hp) : Prop := ∀ a o, F a = some o → F' a = some o
theorem Sub.refl (F : Hp) : Sub F F := fun _ _ h => h
theorem Sub.trans {F F1 F2 : Hp} (a : Sub F F1) (b : Sub F1 F2) : Sub F F2 := fun x o h => b x o (a x o h)
theorem Sub.new {F : Hp} {p : Addr} {o : HO} (h : F p = none) : Sub F (upd F p o) := fun a u e => by
  rw [upd_ne (ne_of_none e h)]
  exact e
theorem sqT_sub {K : PySem.W.Frag} {F F' : Hp} {a : Addr} {xs : List V} (e : Sub F F') (h : SqT K F a xs) : SqT K F' a xs := by
  rcases h with (h | ⟨o, h⟩) | h
  · exact .inl (.inl (e _ _ h))
  · exact .inl (.inr ⟨o, e _ _ h⟩)
  · exact .inr h
theorem Pt.sub {K : PySem.W.Frag} {F F' : Hp} {a : Addr} (e : Sub F F') (h : Pt K F a) : Pt K F' a := by
  rcases h with ⟨o, u, h, d⟩ | h
  · exact .inl ⟨o, u, e _ _ h, d⟩
  · exact .inr h
theorem sqL_sub {K : PySem.W.Frag} {F F' : Hp} {a : Addr} {xs : List V} (e : Sub F F') (h : SqL K F a xs) : SqL K F' a xs := by
  rcases h with (h | ⟨o, h⟩) | h
  · exact .inl (.inl (e _ _ h))
  · exact .inl (.inr ⟨o, e _ _ h⟩)
  · exact .inr h
mutual
theorem Rep.mono {K : PySem.W.Frag} {F F' : Hp} (e : Sub F F') : ∀ {v : V} {d : D}, Rep K F v d → Rep K F' v d
  | _, _, .non => .non
  | _, _, .bl b => .bl b
  | _, _, .int i => .int i
  | _, _, .str x => .str x
  | _, _, .adr a => .adr a
  | _, _, .scr h => .scr (sqL_sub e h)
  | _, _, .tup h t r => .tup (sqT_sub e h) (Pt.sub e t) (Reps.mono e r)
  | _, _, .lst h r => .lst (e _ _ h) (Reps.mono e r)
  | _, _, .dct h r => .dct (e _ _ h) (RepK.mono e r)
theorem Reps.mono {K : PySem.W.Frag} {F F' : Hp} (e : Sub F F') : ∀ {vs : List V} {ds : List D}, Reps K F vs ds → Reps K F' vs ds
  | _, _, .nil => .nil
  | _, _, .cons h r => .cons (Rep.mono e h) (Reps.mono e r)
theorem RepK.mono {K : PySem.W.Frag} {F F' : Hp} (e : Sub F F') : ∀ {vs : List (Key × V)} {ds : List (Str × D)}, RepK K F vs ds → RepK K F' vs ds
  | _, _, .nil => .nil
  | _, _, .cons h r => .cons (Rep.mono e h) (RepK.mono e r)
end
section
variable {K : PySem.W.Frag} {F : Hp}
theorem Reps.length : ∀ {vs : List V} {ds : List D}, Reps K F vs ds → vs.length = ds.length
  | _, _, .nil => rfl
  | _, _, .cons _ r => congrArg (· + 1) (Reps.length r)
theorem Reps.get : ∀ {vs : List V} {ds : List D} {i : Nat} {d : D}, Reps K F vs ds → ds[i]? = some d → ∃ v, vs[i]? = some v ∧ Rep K F v d
  | _, _, _, _, .nil, e => by simp at e
  | _, _, 0, _, .cons h _, e => by simp at e; subst e; exact ⟨_, rfl, h⟩
  | _, _, i + 1, d, .cons _ t, e => by
    obtain ⟨v, h1, h2⟩ := Reps.get (i := i) (d := d) t (by simpa using e)
    exact ⟨v, by simpa using h1, h2⟩
theorem Reps.getv : ∀ {vs : List V} {ds : List D} {i : Nat} {v : V}, Reps K F vs ds → vs[i]? = some v → ∃ d, ds[i]? = some d ∧ Rep K F v d
  | _, _, _, _, .nil, e => by simp at e
  | _, _, 0, _, .cons h _, e => by simp at e; subst e; exact ⟨_, rfl, h⟩
  | _, _, i + 1, d, .cons _ t, e => by
    obtain ⟨v, h1, h2⟩ := Reps.getv (i := i) (v := d) t (by simpa using e)
    exact ⟨v, by simpa using h1, h2⟩
theorem Reps.append : ∀ {xs ys : List V} {us ws : List D}, Reps K F xs us → Reps K F ys ws → Reps K F (xs ++ ys) (us ++ ws)
  | _, _, _, _, .nil, s => s
  | _, _, _, _, .cons r t, s => .cons r (Reps.append t s)
theorem Reps.take : ∀ {xs : List V} {us : List D} (n : Nat), Reps K F xs us → Reps K F (xs.take n) (us.take n)
  | _, _, 0, _ => .nil
  | _, _, _ + 1, .nil => .nil
  | _, _, n + 1, .cons r t => .cons r (Reps.take n t)
theorem Reps.drop : ∀ {xs : List V} {us : List D} (n : Nat), Reps K F xs us → Reps K F (xs.drop n) (us.drop n)
  | _, _, 0, r => r
  | _, _, _ + 1, .nil => .nil
  | _, _, n + 1, .cons _ t => Reps.drop n t
theorem Reps.set {x : V} {u : D} (r : Rep K F x u) : ∀ {xs : List V} {us : List D} (i : Nat), Reps K F xs us → Reps K F (xs.set i x) (us.set i u)
  | _, _, _, .nil => .nil
  | _, _, 0, .cons _ t => .cons r t
  | _, _, i + 1, .cons q t => .cons q (Reps.set r i t)
theorem Reps.erase : ∀ {xs : List V} {us : List D} (n : Nat), Reps K F xs us → Reps K F (xs.eraseIdx n) (us.eraseIdx n)
  | _, _, _, .nil => .nil
  | _, _, 0, .cons _ t => t
  | _, _, n + 1, .cons r t => .cons r (Reps.erase n t)
theorem Reps.rep {xs : List V} {us : List D} (r : Reps K F xs us) : ∀ n : Nat, Reps K F (List.replicate n xs).flatten (List.replicate n us).flatten
  | 0 => .nil
  | n + 1 => by
    rw [List.replicate_succ, List.replicate_succ, List.flatten_cons, List.flatten_cons]
    exact r.append (Reps.rep r n)
theorem Reps.rev : ∀ {xs : List V} {us : List D}, Reps K F xs us → Reps K F xs.reverse us.reverse
  | _, _, .nil => .nil
  | _, _, .cons h t => by
    rw [List.reverse_cons, List.reverse_cons]
    exact (Reps.rev t).append (.cons h .nil)
end

/-! ### the machine's mutable part -/
structure Sys where
  S : Type
  ok : S → Hp → Prop
  dm : S → Addr → Prop
  keep : ∀ s H H', ok s H → (∀ a, dm s a → H' a = H a) → ok s H'

structure Cf (Y : Sys) where
  F : Hp
  H : Hp
  s : Y.S

structure Ok {Y : Sys} (c : Cf Y) : Prop where
  sub : Sub c.F c.H
  cel : Y.ok c.s c.H
  dis : ∀ a, Y.dm c.s a → c.F a = none
  has : ∀ a, Y.dm c.s a → c.H a ≠ none

structure Step {Y : Sys} (c c' : Cf Y) : Prop where
  f : Sub c.F c'.F
  h : ∀ a o, c.H a = some o → ¬ Y.dm c.s a → c'.H a = some o
  n : ∀ a, c.H a ≠ none → c.F a = none → c'.F a = none
  d : ∀ a, Y.dm c.s a → Y.dm c'.s a
  g : ∀ a, c.H a ≠ none → Y.dm c'.s a → Y.dm c.s a

section
variable {Y : Sys} {c c1 c2 : Cf Y}
theorem Step.refl (c : Cf Y) : Step c c := ⟨Sub.refl _, fun _ _ h _ => h, fun _ _ h => h, fun _ h => h, fun _ _ h => h⟩
theorem Step.ne (t : Step c c1) (k : Ok c1) {a : Addr} (h : c.H a ≠ none) : c1.H a ≠ none := by
  by_cases q : Y.dm c.s a
  · exact k.has a (t.d a q)
  · cases e : c.H a with
    | none => exact absurd e h
    | some o => rw [t.h a o e q]; exact fun z => nomatch z
theorem Step.back (t : Step c c1) (k : Ok c1) {a : Addr} (h : c1.H a = none) : c.H a = none := by
  cases e : c.H a with
  | none => rfl
  | some o => exact absurd h (t.ne k (by rw [e]; exact fun z => nomatch z))
theorem Step.trans (t : Step c c1) (k : Ok c1) (u : Step c1 c2) : Step c c2 where
  f := t.f.trans u.f
  h := fun a o e nd => u.h a o (t.h a o e nd) fun z => nd (t.g a (by rw [e]; exact fun z => nomatch z) z)
  n := fun a e nf => u.n a (t.ne k e) (t.n a e nf)
  d := fun a z => u.d a (t.d a z)
  g := fun a e z => t.g a e (u.g a (t.ne k e) z)
/-- a new object that nobody can change -/
theorem Ok.new (k : Ok c) {p : Addr} (hp : c.H p = none) (o : HO) : Ok (⟨upd c.F p o, upd c.H p o, c.s⟩ : Cf Y) where
  sub := fun a u e => by
    have e : upd c.F p o a = some u := e
    show upd c.H p o a = some u
    by_cases q : a = p
    · subst q
      rw [upd_same] at e ⊢
      exact e
    · rw [upd_ne q] at e
      rw [upd_ne q]
      exact k.sub a u e
  cel := Y.keep _ _ _ k.cel fun a z => upd_ne (show a ≠ p from fun e => k.has a z (by rw [e]; exact hp))
  dis := fun a z => by
    show upd c.F p o a = none
    rw [upd_ne (show a ≠ p from fun e => k.has a z (by rw [e]; exact hp))]
    exact k.dis a z
  has := fun a z => by
    show upd c.H p o a ≠ none
    rw [upd_ne (show a ≠ p from fun e => k.has a z (by rw [e]; exact hp))]
    exact k.has a z
theorem Step.new (k : Ok c) {p : Addr} (hp : c.H p = none) (o : HO) : Step c (⟨upd c.F p o, upd c.H p o, c.s⟩ : Cf Y) where
  f := Sub.new (by
    cases e : c.F p with
    | none => rfl
    | some u => rw [k.sub _ _ e] at hp; cases hp)
  h := fun a u e _ => by
    show upd c.H p o a = some u
    rw [upd_ne (ne_of_none e hp)]
    exact e
  n := fun a e nf => by
    show upd c.F p o a = none
    rw [upd_ne (show a ≠ p from fun z => e (by rw [z]; exact hp))]
    exact nf
  d := fun _ z => z
  g := fun _ _ z => z
/-- a new object that is still the maker's own -/
theorem Ok.own (k : Ok c) {p : Addr} (hp : c.H p = none) (o : HO) : Ok (⟨c.F, upd c.H p o, c.s⟩ : Cf Y) where
  sub := fun a u e => by
    show upd c.H p o a = some u
    have q := k.sub a u e
    rw [upd_ne (ne_of_none q hp)]
    exact q
  cel := Y.keep _ _ _ k.cel fun a z => upd_ne (show a ≠ p from fun e => k.has a z (by rw [e]; exact hp))
  dis := k.dis
  has := fun a z => by
    show upd c.H p o a ≠ none
    rw [upd_ne (show a ≠ p from fun e => k.has a z (by rw [e]; exact hp))]
    exact k.has a z
theorem Step.own (k : Ok c) {p : Addr} (hp : c.H p = none) (o : HO) : Step c (⟨c.F, upd c.H p o, c.s⟩ : Cf Y) where
  f := Sub.refl _
  h := fun a u e _ => by
    show upd c.H p o a = some u
    rw [upd_ne (ne_of_none e hp)]
    exact e
  n := fun _ _ nf => nf
  d := fun _ z => z
  g := fun _ _ z => z
/-- what is owned changes -/
theorem Ok.mut (k : Ok c) {p : Addr} (hf : c.F p = none) (nd : ¬ Y.dm c.s p) (o : HO) : Ok (⟨c.F, upd c.H p o, c.s⟩ : Cf Y) where
  sub := fun a u e => by
    show upd c.H p o a = some u
    rw [upd_ne (ne_of_none e hf)]
    exact k.sub a u e
  cel := Y.keep _ _ _ k.cel fun a z => upd_ne (show a ≠ p from fun e => nd (e ▸ z))
  dis := k.dis
  has := fun a z => by
    show upd c.H p o a ≠ none
    rw [upd_ne (show a ≠ p from fun e => nd (e ▸ z))]
    exact k.has a z
/-- .. seen from the entry, ahead of which it was not -/
theorem Step.mut {c0 : Cf Y} (t : Step c0 c) {p : Addr} (h0 : c0.H p = none) (o : HO) : Step c0 (⟨c.F, upd c.H p o, c.s⟩ : Cf Y) where
  f := t.f
  h := fun a u e nd => by
    show upd c.H p o a = some u
    rw [upd_ne (ne_of_none e h0)]
    exact t.h a u e nd
  n := t.n
  d := t.d
  g := t.g
/-- what is owned is given up -/
theorem Ok.frz (k : Ok c) {p : Addr} (nd : ¬ Y.dm c.s p) {o : HO} (hp : c.H p = some o) : Ok (⟨upd c.F p o, c.H, c.s⟩ : Cf Y) where
  sub := fun a u e => by
    have e : upd c.F p o a = some u := e
    show c.H a = some u
    by_cases q : a = p
    · subst q
      rw [upd_same] at e
      rw [hp]
      exact e
    · rw [upd_ne q] at e
      exact k.sub a u e
  cel := k.cel
  dis := fun a z => by
    show upd c.F p o a = none
    rw [upd_ne (show a ≠ p from fun e => nd (e ▸ z))]
    exact k.dis a z
  has := k.has
theorem Step.frz {c0 : Cf Y} (t : Step c0 c) {p : Addr} (hf : c.F p = none) (h0 : c0.H p = none) (o : HO) : Step c0 (⟨upd c.F p o, c.H, c.s⟩ : Cf Y) where
  f := t.f.trans (Sub.new hf)
  h := t.h
  n := fun a e nf => by
    show upd c.F p o a = none
    rw [upd_ne (show a ≠ p from fun z => e (by rw [z]; exact h0))]
    exact t.n a e nf
  d := t.d
  g := t.g
end

/-! ### what is owned, what a slot holds, what an expression gives -/
def Own {Y : Sys} (K : PySem.W.Frag) (c : Cf Y) (p : Addr) (d : D) : Prop :=
  (match d with
    | .lst ds => ∃ vs, c.H p = some (.lst vs) ∧ Reps K c.F vs ds
    | .dct es => ∃ kvs, c.H p = some (.dK kvs) ∧ RepK K c.F kvs es
    | _ => False) ∧ c.F p = none ∧ ¬ Y.dm c.s p

inductive SV where
  | no | va (d : D) | ow (d : D)
inductive K3 where
  | v | t | o

section
variable {Y : Sys} {c c1 c2 : Cf Y} {K : PySem.W.Frag} {p : Addr} {d : D}
theorem Own.obj (h : Own K c p d) : c.H p ≠ none := by
  obtain ⟨h, _, _⟩ := h
  cases d with
  | lst ds => obtain ⟨vs, e, _⟩ := h; rw [e]; exact fun z => nomatch z
  | dct ds => obtain ⟨vs, e, _⟩ := h; rw [e]; exact fun z => nomatch z
  | _ => exact h.elim
theorem Own.step (h : Own K c p d) (t : Step c c1) : Own K c1 p d := by
  have ob := h.obj
  obtain ⟨h, hf, nd⟩ := h
  refine ⟨?_, t.n p ob hf, fun z => nd (t.g p ob z)⟩
  cases d with
  | lst ds => obtain ⟨vs, e, r⟩ := h; exact ⟨vs, t.h _ _ e nd, r.mono t.f⟩
  | dct ds => obtain ⟨vs, e, r⟩ := h; exact ⟨vs, t.h _ _ e nd, r.mono t.f⟩
  | _ => exact h.elim
/-- given up: it is data from then on -/
theorem Own.frz (h : Own K c p d) (k : Ok c) : ∃ o, c.H p = some o ∧ Ok (⟨upd c.F p o, c.H, c.s⟩ : Cf Y) ∧ Rep K (upd c.F p o) (.ref p) d ∧ Sub c.F (upd c.F p o) := by
  obtain ⟨h, hf, nd⟩ := h
  cases d with
  | lst ds =>
    obtain ⟨vs, e, r⟩ := h
    exact ⟨_, e, k.frz nd e, .lst upd_same (r.mono (Sub.new hf)), Sub.new hf⟩
  | dct ds =>
    obtain ⟨vs, e, r⟩ := h
    exact ⟨_, e, k.frz nd e, .dct upd_same (r.mono (Sub.new hf)), Sub.new hf⟩
  | _ => exact h.elim
/-- another's change leaves it -/
theorem Own.other (h : Own K c p d) {q : Addr} (n : p ≠ q) (o : HO) : Own K (⟨c.F, upd c.H q o, c.s⟩ : Cf Y) p d := by
  obtain ⟨h, hf, nd⟩ := h
  refine ⟨?_, hf, nd⟩
  cases d with
  | lst ds => obtain ⟨vs, e, r⟩ := h; exact ⟨vs, by rw [show (⟨c.F, upd c.H q o, c.s⟩ : Cf Y).H = upd c.H q o from rfl, upd_ne n]; exact e, r⟩
  | dct ds => obtain ⟨vs, e, r⟩ := h; exact ⟨vs, by rw [show (⟨c.F, upd c.H q o, c.s⟩ : Cf Y).H = upd c.H q o from rfl, upd_ne n]; exact e, r⟩
  | _ => exact h.elim
theorem Own.frzo (h : Own K c p d) {q : Addr} {o : HO} (n : p ≠ q) (hq : c.F q = none) : Own K (⟨upd c.F q o, c.H, c.s⟩ : Cf Y) p d := by
  obtain ⟨h, hf, nd⟩ := h
  refine ⟨?_, by show upd c.F q o p = none; rw [upd_ne n]; exact hf, nd⟩
  cases d with
  | lst ds => obtain ⟨vs, e, r⟩ := h; exact ⟨vs, e, r.mono (Sub.new hq)⟩
  | dct ds => obtain ⟨vs, e, r⟩ := h; exact ⟨vs, e, r.mono (Sub.new hq)⟩
  | _ => exact h.elim
end

/-- an expression's value: data, something new, or an owned thing looked at -/
def Is {Y : Sys} (K : PySem.W.Frag) (Hs : Hp) (c : Cf Y) : K3 → V → D → Prop
  | .v, v, d => Rep K c.F v d
  | .t, v, d => ∃ p, v = .ref p ∧ Own K c p d ∧ Hs p = none
  | .o, v, d => ∃ p, v = .ref p ∧ Own K c p d

structure Rel {Y : Sys} (K : PySem.W.Frag) (H0 : Hp) (c : Cf Y) (σ : L2.St) (ρ : List SV) : Prop where
  len : ρ.length = σ.length
  va : ∀ (i : Nat) (d : D), ρ[i]? = some (SV.va d) → ∃ v, σ[i]? = some (some v) ∧ Rep K c.F v d
  ow : ∀ (i : Nat) (d : D), ρ[i]? = some (SV.ow d) → ∃ p, σ[i]? = some (some (V.ref p)) ∧ Own K c p d ∧ H0 p = none
  ap : ∀ (i j : Nat) (d e : D) (p : Addr), i ≠ j → ρ[i]? = some (SV.ow d) → ρ[j]? = some (SV.ow e) → σ[i]? = some (some (V.ref p)) → σ[j]? ≠ some (some (V.ref p))

section
variable {Y : Sys} {c c1 c2 : Cf Y} {K : PySem.W.Frag} {Hs H0 : Hp} {k : K3} {v : V} {d : D} {σ : L2.St} {ρ : List SV}
theorem Is.step (h : Is K Hs c k v d) (t : Step c c1) : Is K Hs c1 k v d := by
  cases k with
  | v => exact Rep.mono t.f h
  | t => obtain ⟨p, e, o, z⟩ := h; exact ⟨p, e, o.step t, z⟩
  | o => obtain ⟨p, e, o⟩ := h; exact ⟨p, e, o.step t⟩
theorem Is.back {Hs' : Hp} (h : Is K Hs c k v d) (hb : ∀ a, Hs a = none → Hs' a = none) : Is K Hs' c k v d := by
  cases k with
  | v => exact h
  | t => obtain ⟨p, e, o, z⟩ := h; exact ⟨p, e, o, hb _ z⟩
  | o => exact h
theorem Rel.step (r : Rel K H0 c σ ρ) (t : Step c c1) : Rel K H0 c1 σ ρ where
  len := r.len
  va := fun i d e => let ⟨v, h, q⟩ := r.va i d e; ⟨v, h, q.mono t.f⟩
  ow := fun i d e => let ⟨p, h, q, z⟩ := r.ow i d e; ⟨p, h, q.step t, z⟩
  ap := r.ap
/-- frozen: seen from the start c -/
theorem Is.data {c0 : Cf Y} (h : Is K c0.H c k v d) (hk : k ≠ .o) (t : Step c0 c) (ok : Ok c) : ∃ c' : Cf Y, c'.s = c.s ∧ c'.H = c.H ∧ Step c0 c' ∧ Ok c' ∧ Rep K c'.F v d := by
  cases k with
  | v => exact ⟨c, rfl, rfl, t, ok, h⟩
  | o => exact absurd rfl hk
  | t =>
    obtain ⟨p, rfl, o, z⟩ := h
    obtain ⟨ob, e, ok', r, _⟩ := o.frz ok
    exact ⟨⟨upd c.F p ob, c.H, c.s⟩, rfl, rfl, t.frz o.2.1 z ob, ok', r⟩
end
end Mf
set_option Elab.async false
set_option linter.all false
set_option maxRecDepth 100000
set_option maxHeartbeats 1000000
namespace Mf
open PySem L2

/-! ### data compared -/
mutual
def D.py : D → PyData
  | .non => .none | .bl b => .bool b | .int i => .int i | .str x => .str x
  | .tup ds => .tuple (pys ds) | .lst ds => .list (pys ds) | .dct _ => .none | .adr _ => .none | .scr _ => .none
def pys : List D → List PyData
  | [] => []
  | d :: ds => d.py :: pys ds
end
/-- plain data of at most a depth -/
def okS (x : Str) : Bool := x.cps.all (· < 0x110000)
mutual
def D.sh : Nat → D → Bool
  | _, .non => true | _, .bl _ => true | _, .int _ => true | _, .str x => okS x
  | n + 1, .tup ds => shs n ds | n + 1, .lst ds => shs n ds | _, _ => false
def shs : Nat → List D → Bool
  | _, [] => true
  | n, d :: ds => d.sh n && shs n ds
end
mutual
def deq : D → D → Bool
  | .non, .non => true
  | .bl a, .bl b => a == b
  | .bl a, .int j => (if a then 1 else 0) == j
  | .int i, .bl b => i == (if b then 1 else 0)
  | .int i, .int j => i == j
  | .str x, .str y => x == y
  | .lst xs, .lst ys => deqs xs ys
  | .tup xs, .tup ys => deqs xs ys
  | _, _ => false
def deqs : List D → List D → Bool
  | [], [] => true
  | x :: xs, y :: ys => deq x y && deqs xs ys
  | _, _ => false
end
def flatD : D → Bool
  | .non => true | .bl _ => true | .int _ => true | .str _ => true | _ => false

/-! ### results -/
inductive Res (S α : Type) where
  | ok (a : α) (s : S) | ex (x : Str) (s : S) | er
def Res.bind {S α β : Type} : Res S α → (α → S → Res S β) → Res S β
  | .ok a s, f => f a s
  | .ex x s, _ => .ex x s
  | .er, _ => .er
def liftO {S α : Type} (s : S) : Option α → Res S α
  | some a => .ok a s
  | none => .er
abbrev Sem (S : Type) := List D → S → Res S D

/-! ### syntax -/
inductive Bop where | add | sub | mul | fdv | mod
inductive Cop where | eq | ne | lt | le | gt | ge | isin | notin | is | isnot
inductive B1 where | len | abs | int | tuple | list | all | any | max | dict | sorted
inductive M1 where | sindex | lindex | lcount
inductive Ty where | int | bool | tuple | str | list
inductive Tg where | nm (i : Nat) | nil | cons (t r : Tg)
mutual
inductive CE (S : Type) : Type where
  | var (i : Nat) | con (d : D) | glb (x : Str) (d : D)
  | tup (es : CA S) | lst (es : CA S)
  | bin (o : Bop) (a b : CE S) | neg (a : CE S) | not (a : CE S)
  | cmp (o : Cop) (a b : CE S) | chn (o o' : Cop) (a b c : CE S)
  | and (a b : CE S) | or (a b : CE S) | one (a : CE S) | ife (t a b : CE S)
  | ix (a i : CE S) | slL (a lo : CE S) | slH (a hi : CE S) | slB (a lo hi : CE S)
  | call (x : Str) (n : Nat) (g : Sem S) (es : CA S)
  | b1 (f : B1) (e : CE S) | m1 (f : M1) (a b : CE S) | isi (e : CE S) (t : Ty)
  | lc (it : CI S) (tg : Tg) (ifs : CA S) (elt : CE S) (vs : List Nat)
  | sset (e : CE S)
  | lc2 (it : CI S) (tg : Tg) (it1 : CI S) (tg1 : Tg) (elt : CE S) (vs vs1 : List Nat)
inductive CA (S : Type) : Type where
  | nil | cons (e : CE S) (es : CA S)
inductive CI (S : Type) : Type where
  | seq (e : CE S) | rng (e : CE S) | zip (a b : CE S)
end

/-! ### operators on data -/
def mulOk (i j : Int) : Bool := decide (i.natAbs.log2 + j.natAbs.log2 < 1000000)
def divOk (j : Int) : Bool := decide (j ≠ 0) && decide (j.natAbs.log2 < 9000)
def lenOk (n : Nat) : Bool := decide (n ≤ 1000000)
def binD : Bop → D → D → Option (K3 × D)
  | .add, .int i, .int j => some (.v, .int (i + j))
  | .add, .tup xs, .tup ys => if lenOk (xs.length + ys.length) then some (.v, .tup (xs ++ ys)) else none
  | .add, .lst xs, .lst ys => if lenOk (xs.length + ys.length) then some (.t, .lst (xs ++ ys)) else none
  | .add, .str x, .str y => if lenOk (x.length + y.length) then some (.v, .str (x ++ y)) else none
  | .sub, .int i, .int j => some (.v, .int (i - j))
  | .mul, .int i, .int j => if mulOk i j then some (.v, .int (i * j)) else none
  | .mul, .tup xs, .int k => if decide (2 ≤ k) && decide (k ≤ 1000) && decide (xs.length ≤ 1000) && !xs.isEmpty then some (.v, .tup (List.replicate k.toNat xs).flatten) else none
  | .mul, .lst xs, .int k => if decide (0 ≤ k) && decide (k ≤ 1000) && decide (xs.length ≤ 1000) then some (.t, .lst (List.replicate k.toNat xs).flatten) else none
  | .fdv, .int i, .int j => if divOk j then some (.v, .int (i.fdiv j)) else none
  | .mod, .int i, .int j => if decide (j ≠ 0) then some (.v, .int (i.fmod j)) else none
  | _, _, _ => none
def eqD (x y : D) : Option Bool := if x.sh 60 && y.sh 60 then some (deq x y) else none
def lookD (x : Str) : List (Str × D) → Option D
  | [] => none
  | (y, d) :: r => if y = x then some d else lookD x r
def inD : D → D → Option Bool
  | x, .tup ds => if (flatD x && ds.all flatD) || (x.sh 60 && shs 59 ds) then some (ds.any fun y => deq y x) else none
  | x, .lst ds => if (flatD x && ds.all flatD) || (x.sh 60 && shs 59 ds) then some (ds.any fun y => deq y x) else none
  | .str x, .str z => some (!(Builtin.Str.occurrences z x 0 z.length 1).isEmpty)
  | .str x, .dct es => some (lookD x es).isSome
  | _, _ => none
def isD : D → D → Option Bool
  | .non, .non => some true
  | .bl a, .bl b => some (decide (a = b))
  | _, .non => some false
  | _, _ => none
def cmpD : Cop → D → D → Option Bool
  | .eq, x, y => eqD x y
  | .ne, x, y => (eqD x y).map (!·)
  | .lt, .int i, .int j => some (decide (i < j))
  | .lt, .str x, .str y => some (decide (x.cps.toList < y.cps.toList))
  | .le, .int i, .int j => some (decide (i ≤ j))
  | .gt, .int i, .int j => some (decide (j < i))
  | .ge, .int i, .int j => some (decide (j ≤ i))
  | .isin, x, y => inD x y
  | .notin, x, y => (inD x y).map (!·)
  | .is, x, y => isD x y
  | .isnot, x, y => (isD x y).map (!·)
  | _, _, _ => none
def ixD : D → D → Option D
  | .tup ds, .int i => atI ds i
  | .lst ds, .int i => atI ds i
  | .str x, .int i => if lenOk x.length then (atI x.cps.toList i).map fun c => .str ⟨#[c]⟩ else none
  | .dct es, .str x => lookD x es
  | _, _ => none
def slD (d : D) (lo hi : Option Int) : Option (K3 × D) :=
  match d with
  | .tup ds => some (.v, .tup ((ds.drop (HT.sIx ds.length 0 lo)).take (HT.sIx ds.length ds.length hi - HT.sIx ds.length 0 lo)))
  | .lst ds => some (.t, .lst ((ds.drop (HT.sIx ds.length 0 lo)).take (HT.sIx ds.length ds.length hi - HT.sIx ds.length 0 lo)))
  | .str x => if lenOk x.length then some (.v, .str (cutS x lo hi)) else none
  | _ => none
def boolsD : List D → Option (List Bool)
  | [] => some []
  | .bl b :: r => (boolsD r).map (b :: ·)
  | _ => none
def intsD : List D → Option (List Int)
  | [] => some []
  | .int b :: r => (intsD r).map (b :: ·)
  | _ => none
def maxL : List Int → Int → Int
  | [], m => m
  | x :: r, m => maxL r (if m < x then x else m)
def putD (es : List (Str × D)) (k : Str) (v : D) : List (Str × D) :=
  if (es.any fun kv => decide (kv.1 = k)) = true then es.map (fun kv => if kv.1 = k then (kv.1, v) else kv) else es ++ [(k, v)]
def pairsD : List D → Option (List (Str × D))
  | [] => some []
  | .tup [.str k, v] :: r => (pairsD r).map ((k, v) :: ·)
  | _ => none
def dictD (kvs : List (Str × D)) : List (Str × D) := kvs.foldl (fun acc kv => putD acc kv.1 kv.2) []
def leD (x y : D) : Bool := !PySem.W.dataLt y.py x.py
def insD (x : D) : List D → List D
  | [] => [x]
  | y :: r => if leD x y then x :: y :: r else y :: insD x r
/-- sorted, equal ones in the old order -/
def sortD : List D → List D
  | [] => []
  | x :: r => insD x (sortD r)
def tup1 : D → Bool
  | .tup (_ :: _) => true
  | _ => false
def notTup : D → Bool
  | .tup _ => false
  | .non => false
  | _ => true
def sortOk (ds : List D) : Bool := shs 59 ds && (ds.all fun x => ds.all fun y => PySem.W.alike x.py y.py) && (ds.all tup1 || ds.all notTup)
def b1D : B1 → D → Option (K3 × D)
  | .len, .lst ds => some (.v, .int ds.length)
  | .len, .tup ds => some (.v, .int ds.length)
  | .len, .str x => if lenOk x.length then some (.v, .int x.length) else none
  | .abs, .int i => some (.v, .int (if i < 0 then -i else i))
  | .int, .int i => some (.v, .int i)
  | .int, .bl b => some (.v, .int (if b then 1 else 0))
  | .tuple, .lst ds => some (.v, .tup ds)
  | .tuple, .tup ds => some (.v, .tup ds)
  | .list, .lst ds => some (.t, .lst ds)
  | .list, .tup ds => some (.t, .lst ds)
  | .all, .lst ds => (boolsD ds).map fun bs => (.v, .bl (bs.all id))
  | .any, .lst ds => (boolsD ds).map fun bs => (.v, .bl (bs.any id))
  | .dict, .lst ds => (pairsD ds).map fun kvs => (.t, .dct (dictD kvs))
  | .dict, .tup ds => (pairsD ds).map fun kvs => (.t, .dct (dictD kvs))
  | .sorted, .lst ds => if sortOk ds then some (.t, .lst (sortD ds)) else none
  | .max, .lst ds => match intsD ds with | some (m :: r) => some (.v, .int (maxL r m)) | _ => none
  | _, _ => none
def rcvD : M1 → D → Bool
  | .sindex, .str _ => true
  | .lindex, .lst _ => true
  | .lcount, .lst _ => true
  | _, _ => false
def m1D : M1 → D → D → Option (K3 × D)
  | .sindex, .str a, .str b => match Builtin.Str.occurrences a b 0 a.length 1 with | i :: _ => some (.v, .int (i : Nat)) | [] => none
  | .lindex, .lst ds, y => if y.sh 60 && shs 59 ds then (ds.findIdx? fun z => deq z y).map fun j => (.v, .int (j : Nat)) else none
  | .lcount, .lst ds, y => if y.sh 60 && shs 59 ds then some (.v, .int (ds.countP fun z => deq z y : Nat)) else none
  | _, _, _ => none
def isiD : Ty → D → Option Bool
  | _, .dct _ => none
  | _, .adr _ => none
  | _, .scr _ => none
  | .int, d => some (match d with | .int _ => true | .bl _ => true | _ => false)
  | .bool, d => some (match d with | .bl _ => true | _ => false)
  | .tuple, d => some (match d with | .tup _ => true | _ => false)
  | .str, d => some (match d with | .str _ => true | _ => false)
  | .list, d => some (match d with | .lst _ => true | _ => false)

/-! ### sorted(set(l)) -/
def keyD : D → Option Key
  | .int i => some (.inl i)
  | .str x => some (.inr x)
  | _ => none
def keysD : List D → Option (List Key)
  | [] => some []
  | d :: ds => match keyD d, keysD ds with
    | some k, some ks => some (k :: ks)
    | _, _ => none
def dK : Key → D
  | .inl i => .int i
  | .inr x => .str x
def dedK : List Key → List Key
  | [] => []
  | k :: ks => if (ks.any fun x => decide (x = k)) = true then dedK ks else k :: dedK ks
def ssetD : D → Option (K3 × D)
  | .lst ds => match keysD ds with
    | some ks => if (decide (ks.length ≤ 1000) && (ks.all (fun k => k.isLeft == true) || ks.all fun k => k.isLeft == false)) = true then some (.t, .lst (sortD ((dedK ks).map dK))) else none
    | none => none
  | _ => none

/-! ### targets -/
def asgL : Tg → List D → List SV → Option (List SV)
  | .nm _, _, _ => none
  | .nil, [], ρ => some ρ
  | .nil, _ :: _, _ => none
  | .cons _ _, [], _ => none
  | .cons t r, d :: ds, ρ =>
    match t with
    | .nm i => if i < ρ.length then asgL r ds (ρ.set i (.va d)) else none
    | .nil => none
    | .cons t' r' => match d with | .tup es => (asgL (.cons t' r') es ρ).bind (asgL r ds) | _ => none
def asgT (t : Tg) (d : D) (ρ : List SV) : Option (List SV) := asgL (.cons t .nil) [d] ρ
def wipeR (ρ : List SV) : List Nat → List SV
  | [] => ρ
  | v :: vs => (wipeR ρ vs).set v .no

/-- what is owned, out of sight -/
def hide1 : SV → SV
  | .ow _ => .no
  | x => x
def hideR (ρ : List SV) : List SV := ρ.map hide1

/-! ### the evaluator -/
def dat {S : Type} : K3 × D → S → Res S D
  | (.o, _), _ => .er
  | (_, d), s => .ok d s
def noEx {S α : Type} : Res S α → Res S α
  | .ok a s => .ok a s
  | _ => .er
/-- in a for (st): an owned thing isn't walked -/
def stk {S : Type} : Bool → K3 × D → S → Res S (K3 × D)
  | true, (.o, _), _ => .er
  | _, x, s => .ok x s
def walkR {S : Type} (f : D → S → Res S (Option D)) : List D → S → Res S (List D)
  | [], s => .ok [] s
  | d :: ds, s => (f d s).bind fun o s1 => (walkR f ds s1).bind fun r s2 => .ok (o.toList ++ r) s2
def walkL {S : Type} (f : D → S → Res S (List D)) : List D → S → Res S (List D)
  | [], s => .ok [] s
  | d :: ds, s => (f d s).bind fun o s1 => (walkL f ds s1).bind fun r s2 => .ok (o ++ r) s2
def rngD (n : Nat) : List D := (List.range n).map fun (i : Nat) => D.int (i : Int)
def zipD : List D → List D → List D
  | x :: xs, y :: ys => .tup [x, y] :: zipD xs ys
  | _, _ => []
def itemsD : D → Option (List D)
  | .lst ds => some ds
  | .tup ds => some ds
  | .str z => some (z.cps.toList.map fun c => .str ⟨#[c]⟩)
  | _ => none
def seqD : D → Option (List D)
  | .lst ds => some ds
  | .tup ds => some ds
  | .str z => if z.cps.all (· < 128) = true then some (z.cps.toList.map fun c => .str ⟨#[c]⟩) else none
  | _ => none
def zipK (x y : D) : Option (List D) := match seqD x, seqD y with
  | some xs, some ys => some (zipD xs ys)
  | _, _ => none
def tru {S : Type} : K3 × D → S → Res S Bool
  | (_, .bl b), s => .ok b s
  | _, _ => .er
def intOf {S : Type} : K3 × D → S → Res S Int
  | (_, .int b), s => .ok b s
  | _, _ => .er
def kd {S : Type} (s : S) (d : Option D) : Res S (K3 × D) := liftO s (d.map fun d => (.v, d))
mutual
def ev {S : Type} : CE S → List SV → S → Res S (K3 × D)
  | .var i, ρ, s => match ρ[i]? with
    | some (.va d) => .ok (.v, d) s
    | some (.ow d) => .ok (.o, d) s
    | _ => .er
  | .con d, _, s => .ok (.v, d) s
  | .glb _ d, _, s => .ok (.v, d) s
  | .tup es, ρ, s => (evA es ρ s).bind fun ds s => if lenOk ds.length then .ok (.v, .tup ds) s else .er
  | .lst es, ρ, s => (evA es ρ s).bind fun ds s => if lenOk ds.length then .ok (.t, .lst ds) s else .er
  | .bin o a b, ρ, s => (ev a ρ s).bind fun x s => (ev b ρ s).bind fun y s => liftO s (binD o x.2 y.2)
  | .neg a, ρ, s => (ev a ρ s).bind fun x s => (intOf x s).bind fun i s => .ok (.v, .int (-i)) s
  | .not a, ρ, s => (ev a ρ s).bind fun x s => (tru x s).bind fun b s => .ok (.v, .bl (!b)) s
  | .cmp o a b, ρ, s => (ev a ρ s).bind fun x s => (ev b ρ s).bind fun y s => kd s ((cmpD o x.2 y.2).map .bl)
  | .chn o o' a b c, ρ, s => (ev a ρ s).bind fun x s => (ev b ρ s).bind fun y s => (liftO s (cmpD o x.2 y.2)).bind fun k s =>
      if k then (ev c ρ s).bind fun z s => kd s ((cmpD o' y.2 z.2).map .bl) else .ok (.v, .bl false) s
  | .and a b, ρ, s => (ev a ρ s).bind fun x s => (tru x s).bind fun k s => if k then ev b ρ s else .ok (.v, .bl false) s
  | .or a b, ρ, s => (ev a ρ s).bind fun x s => (tru x s).bind fun k s => if k then .ok (.v, .bl true) s else ev b ρ s
  | .one a, ρ, s => ev a ρ s
  | .ife t a b, ρ, s => (ev t ρ s).bind fun x s => (tru x s).bind fun k s => if k then ev a ρ s else ev b ρ s
  | .ix a i, ρ, s => (ev a ρ s).bind fun x s => (ev i ρ s).bind fun y s => kd s (ixD x.2 y.2)
  | .slL a lo, ρ, s => (ev a ρ s).bind fun x s => (ev lo ρ s).bind fun y s => (intOf y s).bind fun i s => liftO s (slD x.2 (some i) none)
  | .slH a hi, ρ, s => (ev a ρ s).bind fun x s => (ev hi ρ s).bind fun y s => (intOf y s).bind fun i s => liftO s (slD x.2 none (some i))
  | .slB a lo hi, ρ, s => (ev a ρ s).bind fun x s => (ev lo ρ s).bind fun y s => (intOf y s).bind fun i s => (ev hi ρ s).bind fun z s => (intOf z s).bind fun j s => liftO s (slD x.2 (some i) (some j))
  | .call _ n g es, ρ, s => (evA es ρ s).bind fun ds s => if ds.length = n then (g ds s).bind fun d s => .ok (.v, d) s else .er
  | .b1 f e, ρ, s => (ev e ρ s).bind fun x s => liftO s (b1D f x.2)
  | .m1 f a b, ρ, s => (ev a ρ s).bind fun x s => if rcvD f x.2 then (ev b ρ s).bind fun y s => liftO s (m1D f x.2 y.2) else .er
  | .isi e t, ρ, s => (ev e ρ s).bind fun x s => kd s ((isiD t x.2).map .bl)
  | .lc it tg ifs elt vs, ρ, s => (evI false it ρ s).bind fun ds s => if !lenOk ds.length then .er else (walkR (fun d s => match asgT tg d (wipeR ρ vs) with
      | none => .er
      | some ρ' => (noEx (evT ifs ρ' s)).bind fun k s => if k then (noEx (ev elt ρ' s)).bind fun y s => (dat y s).bind fun e s => .ok (some e) s else .ok none s) ds s).bind fun r s => .ok (.t, .lst r) s
  | .sset e, ρ, s => (ev e ρ s).bind fun x s => liftO s (ssetD x.2)
  | .lc2 it tg it1 tg1 elt vs vs1, ρ, s => (evI false it ρ s).bind fun ds s => if !lenOk ds.length then .er else (walkL (fun d s => match asgT tg d (wipeR (hideR ρ) vs) with
      | none => .er
      | some ρ' => (noEx (evI true it1 (hideR ρ') s)).bind fun ds1 s => walkR (fun d1 s => match asgT tg1 d1 (wipeR (hideR ρ') vs1) with
        | none => .er
        | some ρ2 => (noEx (ev elt ρ2 s)).bind fun y s => (dat y s).bind fun e s => .ok (some e) s) ds1 s) ds s).bind fun r s => if lenOk r.length then .ok (.t, .lst r) s else .er
def evA {S : Type} : CA S → List SV → S → Res S (List D)
  | .nil, _, s => .ok [] s
  | .cons e es, ρ, s => (ev e ρ s).bind fun x s => (dat x s).bind fun d s => (evA es ρ s).bind fun ds s => .ok (d :: ds) s
def evT {S : Type} : CA S → List SV → S → Res S Bool
  | .nil, _, s => .ok true s
  | .cons t _, ρ, s => (ev t ρ s).bind tru
def evI {S : Type} (st : Bool) : CI S → List SV → S → Res S (List D)
  | .seq e, ρ, s => (ev e ρ s).bind fun x s => (stk st x s).bind fun x s => liftO s (itemsD x.2)
  | .rng e, ρ, s => (ev e ρ s).bind fun x s => (intOf x s).bind fun n s => if decide (-1000000 ≤ n) && decide (n ≤ 1000000) then .ok (rngD n.toNat) s else .er
  | .zip a b, ρ, s => (ev a ρ s).bind fun x s => (stk st x s).bind fun x s => (ev b ρ s).bind fun y s => (stk st y s).bind fun y s => liftO s (zipK x.2 y.2)
end
end Mf
set_option Elab.async false
set_option linter.all false
set_option maxRecDepth 100000
set_option maxHeartbeats 1000000
namespace Mf
open PySem L2

/-! ### views of a value -/
section
variable {Y : Sys} {c : Cf Y} {K : PySem.W.Frag} {Hs : Hp} {k : K3} {v : V}
theorem Is.int {i : Int} (h : Is K Hs c k v (.int i)) : v = .int i := by
  cases k with
  | v => cases h; rfl
  | t => obtain ⟨p, _, o, _⟩ := h; exact o.1.elim
  | o => obtain ⟨p, _, o⟩ := h; exact o.1.elim
theorem Is.bl {b : Bool} (h : Is K Hs c k v (.bl b)) : v = .bl b := by
  cases k with
  | v => cases h; rfl
  | t => obtain ⟨p, _, o, _⟩ := h; exact o.1.elim
  | o => obtain ⟨p, _, o⟩ := h; exact o.1.elim
theorem Is.str {x : Str} (h : Is K Hs c k v (.str x)) : v = .str x := by
  cases k with
  | v => cases h; rfl
  | t => obtain ⟨p, _, o, _⟩ := h; exact o.1.elim
  | o => obtain ⟨p, _, o⟩ := h; exact o.1.elim
theorem Is.non (h : Is K Hs c k v .non) : v = .non := by
  cases k with
  | v => cases h; rfl
  | t => obtain ⟨p, _, o, _⟩ := h; exact o.1.elim
  | o => obtain ⟨p, _, o⟩ := h; exact o.1.elim
theorem Is.tup {ds : List D} (h : Is K Hs c k v (.tup ds)) (ok : Ok c) : ∃ p vs, v = .ref p ∧ SqT K c.H p vs ∧ (SqT K c.F p vs ∧ Pt K c.F p) ∧ Reps K c.F vs ds := by
  cases k with
  | v => cases h with | tup q t r => exact ⟨_, _, rfl, sqT_sub ok.sub q, ⟨q, t⟩, r⟩
  | t => obtain ⟨p, _, o, _⟩ := h; exact o.1.elim
  | o => obtain ⟨p, _, o⟩ := h; exact o.1.elim
theorem Is.lst {ds : List D} (h : Is K Hs c k v (.lst ds)) (ok : Ok c) : ∃ p vs, v = .ref p ∧ c.H p = some (.lst vs) ∧ Reps K c.F vs ds := by
  cases k with
  | v => cases h with | lst q r => exact ⟨_, _, rfl, ok.sub _ _ q, r⟩
  | t => obtain ⟨p, e, o, _⟩ := h; obtain ⟨vs, q, r⟩ := o.1; exact ⟨p, vs, e, q, r⟩
  | o => obtain ⟨p, e, o⟩ := h; obtain ⟨vs, q, r⟩ := o.1; exact ⟨p, vs, e, q, r⟩
theorem Is.dct {ds : List (Str × D)} (h : Is K Hs c k v (.dct ds)) (ok : Ok c) : ∃ p kvs, v = .ref p ∧ c.H p = some (.dK kvs) ∧ RepK K c.F kvs ds := by
  cases k with
  | v => cases h with | dct q r => exact ⟨_, _, rfl, ok.sub _ _ q, r⟩
  | t => obtain ⟨p, e, o, _⟩ := h; obtain ⟨vs, q, r⟩ := o.1; exact ⟨p, vs, e, q, r⟩
  | o => obtain ⟨p, e, o⟩ := h; obtain ⟨vs, q, r⟩ := o.1; exact ⟨p, vs, e, q, r⟩
end

/-! ### == of data -/
mutual
theorem py_dp {K : PySem.W.Frag} {F H : Hp} (e : Sub F H) : ∀ {n : Nat} {v : V} {d : D}, Rep K F v d → d.sh n = true → Dp K H v d.py
  | _, _, _, .non, _ => .non
  | _, _, _, .bl b, _ => .bl b
  | _, _, _, .int i, _ => .int i
  | _, _, _, .str x, _ => .str x
  | n, _, _, .adr a, h => by cases n <;> cases h
  | n, _, _, .scr _, h => by cases n <;> cases h
  | n, _, _, .dct _ _, h => by cases n <;> cases h
  | 0, _, _, .tup _ _ _, h => by cases h
  | 0, _, _, .lst _ _, h => by cases h
  | n + 1, _, _, .tup q _ r, h => .tup (sqT_sub e q) (pys_dp e r h)
  | n + 1, _, _, .lst q r, h => .lst (.inl (.inl (e _ _ q))) (pys_dp e r h)
theorem pys_dp {K : PySem.W.Frag} {F H : Hp} (e : Sub F H) : ∀ {n : Nat} {vs : List V} {ds : List D}, Reps K F vs ds → shs n ds = true → DpAll K H vs (pys ds)
  | _, _, _, .nil, _ => .nil
  | _, _, _, .cons h r, q => by
    have q := Bool.and_eq_true_iff.mp q
    exact .cons (py_dp e h q.1) (pys_dp e r q.2)
end
mutual
theorem py_sh : ∀ (n : Nat) (d : D), d.sh n = true → d.py.canLay0 = true ∧ d.py.depth ≤ n
  | _, .non, _ => ⟨rfl, Nat.zero_le _⟩
  | _, .bl _, _ => ⟨rfl, Nat.zero_le _⟩
  | _, .int _, _ => ⟨rfl, Nat.zero_le _⟩
  | n, .str x, h => ⟨by cases n <;> exact h, Nat.zero_le _⟩
  | n, .adr a, h => by cases n <;> cases h
  | n, .scr a, h => by cases n <;> cases h
  | n, .dct _, h => by cases n <;> cases h
  | 0, .tup _, h => by cases h
  | 0, .lst _, h => by cases h
  | n + 1, .tup ds, h => ⟨(pys_sh n ds h).1, Nat.succ_le_succ (pys_sh n ds h).2⟩
  | n + 1, .lst ds, h => ⟨(pys_sh n ds h).1, Nat.succ_le_succ (pys_sh n ds h).2⟩
theorem pys_sh : ∀ (n : Nat) (ds : List D), shs n ds = true → PyData.canLayAll0 (pys ds) = true ∧ PyData.depthAll (pys ds) ≤ n
  | _, [], _ => ⟨rfl, Nat.zero_le _⟩
  | n, d :: ds, h => by
    have q := Bool.and_eq_true_iff.mp h
    have a := py_sh n d q.1
    have b := pys_sh n ds q.2
    exact ⟨Bool.and_eq_true_iff.mpr ⟨a.1, b.1⟩, Nat.max_le.mpr ⟨a.2, b.2⟩⟩
end
theorem shaped_of {d : D} (h : d.sh 60 = true) : SeqAt.shaped d.py = true :=
  Bool.and_eq_true_iff.mpr ⟨(py_sh 60 d h).1, decide_eq_true (Nat.le_trans (py_sh 60 d h).2 (by decide))⟩
theorem sh_dct {n : Nat} {x : List (Str × D)} : (D.dct x).sh n = false := by cases n <;> rfl
theorem sh_scr {n : Nat} {x : List Int} : (D.scr x).sh n = false := by cases n <;> rfl
theorem sh_adr {n : Nat} {x : Addr} : (D.adr x).sh n = false := by cases n <;> rfl
mutual
theorem py_eqv : ∀ (n m : Nat) (d e : D), d.sh n = true → e.sh m = true → PyData.eqv d.py e.py = deq d e
  | n, m, .dct _, e, h, _ => by rw [sh_dct] at h; cases h
  | n, m, .adr _, e, h, _ => by rw [sh_adr] at h; cases h
  | n, m, .scr _, e, h, _ => by rw [sh_scr] at h; cases h
  | n, m, d, .dct _, _, h => by rw [sh_dct] at h; cases h
  | n, m, d, .adr _, _, h => by rw [sh_adr] at h; cases h
  | n, m, d, .scr _, _, h => by rw [sh_scr] at h; cases h
  | n + 1, m + 1, .tup xs, .tup ys, h, h' => pys_eqv n m xs ys h h'
  | n + 1, m + 1, .lst xs, .lst ys, h, h' => pys_eqv n m xs ys h h'
  | 0, _, .tup xs, .tup ys, h, h' => by cases h
  | 0, _, .lst xs, .lst ys, h, h' => by cases h
  | _ + 1, 0, .tup xs, .tup ys, h, h' => by cases h'
  | _ + 1, 0, .lst xs, .lst ys, h, h' => by cases h'
  | _, _, .non, .non, _, _ => rfl
  | _, _, .non, .bl _, _, _ => rfl
  | _, _, .non, .int _, _, _ => rfl
  | _, _, .non, .str _, _, _ => rfl
  | _, _, .non, .tup _, _, _ => rfl
  | _, _, .non, .lst _, _, _ => rfl
  | _, _, .bl _, .non, _, _ => rfl
  | _, _, .bl _, .bl _, _, _ => rfl
  | _, _, .bl _, .int _, _, _ => rfl
  | _, _, .bl _, .str _, _, _ => rfl
  | _, _, .bl _, .tup _, _, _ => rfl
  | _, _, .bl _, .lst _, _, _ => rfl
  | _, _, .int _, .non, _, _ => rfl
  | _, _, .int _, .bl _, _, _ => rfl
  | _, _, .int _, .int _, _, _ => rfl
  | _, _, .int _, .str _, _, _ => rfl
  | _, _, .int _, .tup _, _, _ => rfl
  | _, _, .int _, .lst _, _, _ => rfl
  | _, _, .str _, .non, _, _ => rfl
  | _, _, .str _, .bl _, _, _ => rfl
  | _, _, .str _, .int _, _, _ => rfl
  | _, _, .str _, .str _, _, _ => rfl
  | _, _, .str _, .tup _, _, _ => rfl
  | _, _, .str _, .lst _, _, _ => rfl
  | _, _, .tup _, .non, _, _ => rfl
  | _, _, .tup _, .bl _, _, _ => rfl
  | _, _, .tup _, .int _, _, _ => rfl
  | _, _, .tup _, .str _, _, _ => rfl
  | _, _, .tup _, .lst _, _, _ => rfl
  | _, _, .lst _, .non, _, _ => rfl
  | _, _, .lst _, .bl _, _, _ => rfl
  | _, _, .lst _, .int _, _, _ => rfl
  | _, _, .lst _, .str _, _, _ => rfl
  | _, _, .lst _, .tup _, _, _ => rfl
theorem pys_eqv : ∀ (n m : Nat) (ds es : List D), shs n ds = true → shs m es = true → PyData.eqvAll (pys ds) (pys es) = deqs ds es
  | _, _, [], [], _, _ => rfl
  | _, _, [], _ :: _, _, _ => rfl
  | _, _, _ :: _, [], _, _ => rfl
  | n, m, d :: ds, e :: es, h, h' => by
    have q := Bool.and_eq_true_iff.mp h
    have q' := Bool.and_eq_true_iff.mp h'
    show (PyData.eqv d.py e.py && PyData.eqvAll (pys ds) (pys es)) = (deq d e && deqs ds es)
    rw [py_eqv n m d e q.1 q'.1, pys_eqv n m ds es q.2 q'.2]
end
theorem Is.dp {Y : Sys} {c : Cf Y} {K : PySem.W.Frag} {Hs : Hp} {k : K3} {v : V} {d : D} (h : Is K Hs c k v d) (ok : Ok c) (hs : d.sh 60 = true) : Dp K c.H v d.py := by
  cases k with
  | v => exact py_dp ok.sub h hs
  | t =>
    obtain ⟨p, rfl, o, _⟩ := h
    cases d with
    | lst ds => obtain ⟨vs, q, r⟩ := o.1; exact .lst (.inl (.inl q)) (pys_dp (n := 59) ok.sub r hs)
    | dct _ => rw [sh_dct] at hs; cases hs
    | _ => exact o.1.elim
  | o =>
    obtain ⟨p, rfl, o⟩ := h
    cases d with
    | lst ds => obtain ⟨vs, q, r⟩ := o.1; exact .lst (.inl (.inl q)) (pys_dp (n := 59) ok.sub r hs)
    | dct _ => rw [sh_dct] at hs; cases hs
    | _ => exact o.1.elim
end Mf
set_option Elab.async false
set_option linter.all false
set_option maxRecDepth 100000
set_option maxHeartbeats 1000000
namespace Mf
open PySem L2 PySem.Spec PyProof.Rows

section
variable {X : Cx}
/-! ### l.remove(x) of data -/
def rRemD (K : PySem.W.Frag) : V → List V → Hp → VK → Prop := fun x xs H Q => ∃ (l : Addr) (vs : List V) (y : V) (d : PyData) (ds : List PyData) (j : Nat), x = V.ref l ∧ xs = [y] ∧ H l = some (.lst vs) ∧ DpAll K H vs ds ∧ Dp K H y d ∧
  SeqAt.shaped (.list ds) = true ∧ SeqAt.shaped d = true ∧ SeqAt.dataPlace ds d = some j ∧ Q .non (upd H l (.lst (vs.eraseIdx j)))
theorem vals_erase : ∀ {xs : List V} {us : List Value} (n : Nat), Vals xs us → Vals (xs.eraseIdx n) (us.eraseIdx n)
  | _, _, _, .nil => .nil
  | _, _, 0, .cons _ t => t
  | _, _, n + 1, .cons r t => .cons r (vals_erase n t)
theorem mt_removeD (hu : X.A.units + 65 < cLine) : MtM X "list.remove" (rRemD X.K) := by
  intro pins s σ H x xs v us Q I rx rxs h
  obtain ⟨l, vs, y, d, ds, j, rfl, rfl, hH, hl, hy, sl, sd, hj, q⟩ := h
  cases rx
  obtain ⟨u, rfl, ru⟩ := rxs.one
  obtain ⟨bs, r1⟩ := Dp.reads I d y u hy ru
  obtain ⟨z, its, n, r, hn, e⟩ := I.lstM hH
  obtain ⟨as, h4⟩ := Dp.readsAll I ds _ its hl r
  have hxs : PyData.canLayAll0 ds = true := SeqAt.canLay_of_shaped sl
  have hroom : X.A.units + 1 + min (PyData.depthAll ds) d.depth < cLine := room_in_shaped sd hu
  have hmap : its.map (SeqAt.readOf s.heap) = ds := SeqAt.readsAll_map ds its as hxs h4
  obtain ⟨g1, g2, g3⟩ := List.findIdx?_eq_some_iff_getElem.mp hj
  have hlen : its.length = ds.length := by rw [← hmap, List.length_map]
  have at_ : ∀ (m : Nat) (hm : m < its.toArray.size) (hd : m < ds.length), SeqAt.readOf s.heap its.toArray[m] = ds[m] := by
    intro m hm hd
    have e2 : (its.map (SeqAt.readOf s.heap))[m]? = ds[m]? := by rw [hmap]
    rw [List.getElem?_map, List.getElem?_eq_getElem (by simpa using hm), List.getElem?_eq_getElem hd] at e2
    simpa using e2
  refine call_meets PySem.F.slot_list_remove ⟨_, e, rfl⟩ PySem.F.entry_list_remove (PySem.F.args_list_remove_2 _ _)
    (SeqAt.list_removeAt l its.toArray n none #[] u (fun u => PyData.eqv (SeqAt.readOf s.heap u) d) j (by rw [List.size_toArray]; omega) ?_ ?_ (by rw [List.size_toArray]; omega)) ⟨e, SeqAt.items_eqAt (vs := its.toArray) (show ReadsAll s.heap its.toArray.toList ds as from h4) r1 hxs (SeqAt.canLay_of_shaped sd) hroom, ?_⟩
  · have hjs : j < its.toArray.size := by rw [List.size_toArray]; omega
    show PyData.eqv (SeqAt.readOf s.heap (its.toArray[j]'hjs)) d = true
    rw [at_ j hjs g1]
    exact g2
  · intro m hm hmj
    show PyData.eqv (SeqAt.readOf s.heap its.toArray[m]) d = false
    rw [at_ m hm (by omega)]
    have := g3 m hmj
    simpa using this
  · refine ⟨.non, _, I.lset (its' := its.eraseIdx j) (t' := s.toks) hH e ?_ (vals_erase j r) ?_, rfl, q⟩
    · show its.toArray.eraseIdxIfInBounds j = (its.eraseIdx j).toArray
      rw [List.eraseIdxIfInBounds_toArray]
    · have := List.length_eraseIdx_le vs j
      omega
/-! ### x in a tuple or a list of data -/
def rInT (K : PySem.W.Frag) (neg : Bool) : R2 := fun x y H Q => ∃ d ds, Dp K H x d ∧ (Dp K H y (.list ds) ∨ Dp K H y (.tuple ds)) ∧ SeqAt.shaped d = true ∧ SeqAt.shaped (.list ds) = true ∧ Q (.bl (neg ^^ ds.any fun z => PyData.eqv z d)) H
theorem op_inT (hu : X.A.units + 65 < cLine) : OpR X (compareOp .In) (rInT X.K false) := by
  intro pins s σ H x y v u Q I rx ry h
  obtain ⟨d, ds, hd, he, sd, se, q⟩ := h
  obtain ⟨as, r1⟩ := Dp.reads I d x v hd rx
  rw [Bool.false_xor] at q
  rcases he with he | he
  · obtain ⟨bs, r2⟩ := Dp.reads I (.list ds) y u he ry
    exact SeqAt.in_list_reads r2 r1 (SeqAt.canLay_of_shaped se) (SeqAt.canLay_of_shaped sd) (room_in_shaped sd hu) ⟨.bl _, H, I, rfl, q⟩
  · obtain ⟨bs, r2⟩ := Dp.reads I (.tuple ds) y u he ry
    exact SeqAt.in_tuple_reads r2 r1 (SeqAt.canLay_of_shaped se) (SeqAt.canLay_of_shaped sd) (room_in_shaped sd hu) ⟨.bl _, H, I, rfl, q⟩
theorem op_notInT (hu : X.A.units + 65 < cLine) : OpR X (compareOp .NotIn) (rInT X.K true) := by
  intro pins s σ H x y v u Q I rx ry h
  obtain ⟨d, ds, hd, he, sd, se, q⟩ := h
  obtain ⟨as, r1⟩ := Dp.reads I d x v hd rx
  rw [Bool.true_xor] at q
  rcases he with he | he
  · obtain ⟨bs, r2⟩ := Dp.reads I (.list ds) y u he ry
    exact SeqAt.notIn_list_reads r2 r1 (SeqAt.canLay_of_shaped se) (SeqAt.canLay_of_shaped sd) (room_in_shaped sd hu) ⟨.bl _, H, I, rfl, q⟩
  · obtain ⟨bs, r2⟩ := Dp.reads I (.tuple ds) y u he ry
    exact SeqAt.notIn_tuple_reads r2 r1 (SeqAt.canLay_of_shaped se) (SeqAt.canLay_of_shaped sd) (room_in_shaped sd hu) ⟨.bl _, H, I, rfl, q⟩
/-! ### l.count(x) -/
def rCntD (K : PySem.W.Frag) : V → List V → Hp → VK → Prop := fun x xs H Q => ∃ (l : Addr) (vs : List V) (y : V) (d : PyData) (ds : List PyData), x = V.ref l ∧ xs = [y] ∧ SqL K H l vs ∧ DpAll K H vs ds ∧ Dp K H y d ∧
  SeqAt.shaped (.list ds) = true ∧ SeqAt.shaped d = true ∧ Q (.int (ds.countP fun z => PyData.eqv z d : Nat)) H
theorem mt_countD (hu : X.A.units + 65 < cLine) : MtR X "list.count" (rCntD X.K) := by
  intro pins s σ H x xs v us Q I rx rxs h
  obtain ⟨l, vs, y, d, ds, rfl, rfl, hs, hl, hy, sl, sd, q⟩ := h
  cases rx
  obtain ⟨u, rfl, ru⟩ := rxs.one
  obtain ⟨bs, r1⟩ := Dp.reads I d y u hy ru
  obtain ⟨its, rv, ⟨⟨cls, dd, data, sls⟩, n, ho, hc, hdn, hdt⟩, hlen⟩ := I.list hs
  simp only at hc hdt
  subst hc hdt
  obtain ⟨as, h4⟩ := Dp.readsAll I ds _ its hl rv
  have hxs : PyData.canLayAll0 ds = true := SeqAt.canLay_of_shaped sl
  have hroom : X.A.units + 1 + min (PyData.depthAll ds) d.depth < cLine := room_in_shaped sd hu
  have hmap : its.map (SeqAt.readOf s.heap) = ds := SeqAt.readsAll_map ds its as hxs h4
  refine call_meets PySem.F.slot_list_count ⟨_, ho, rfl⟩ PySem.F.entry_list_count (PySem.F.args_list_count_2 _ _)
    (SeqAt.list_countAt l its.toArray n dd sls u (fun u => PyData.eqv (SeqAt.readOf s.heap u) d)) ⟨ho, SeqAt.items_eqAt (vs := its.toArray) (show ReadsAll s.heap its.toArray.toList ds as from h4) r1 hxs (SeqAt.canLay_of_shaped sd) hroom, ?_⟩
  have ec : its.toArray.toList.countP (fun u => PyData.eqv (SeqAt.readOf s.heap u) d) = ds.countP fun z => PyData.eqv z d := by
    rw [← hmap, List.countP_map]
    rfl
  refine ⟨.int (ds.countP fun z => PyData.eqv z d : Nat), H, I.tok _, ⟨s.toks, ?_⟩, q⟩
  show Value.int ((its.toArray.toList.countP (fun u => PyData.eqv (SeqAt.readOf s.heap u) d) : Nat) : Int) s.toks = _
  rw [ec]
/-! ### dict(pairs) -/
def rDict (K : PySem.W.Frag) : List V → Hp → VK → Prop := fun xs H Q => ∃ (a : Addr) (ps : List Addr) (kvs : List (Key × V)), xs = [.ref a] ∧ (SqL K H a (ps.map V.ref) ∨ (SqT K H a (ps.map V.ref) ∧ Pt K H a)) ∧ Paired (fun p kv => SqT K H p [kV kv.1, kv.2]) ps kvs ∧
    ∀ p, H p = none → Q (.ref p) (upd H p (.dK (mergeK [] kvs)))
theorem pairs_ofZ {pins : List (Addr × Obj)} {σ : L2.St} {H : Hp} {s : Shared} (I : L2.Inv X pins σ H s) : ∀ {ps : List Addr} {kvs : List (Key × V)}, Paired (fun p kv => SqT X.K H p [kV kv.1, kv.2]) ps kvs →
    ∃ (prs : List (Key × Value)) (pvs : List (Value × Value)), KV kvs prs ∧ prs.length = ps.length ∧ pvs.length = ps.length ∧ ∀ (j : Nat) (key v : Value), pvs[j]? = some (key, v) → ∃ k, prs[j]? = some (k, v) ∧ keyIs k key = true ∧ ps[j]? = some (ps.getD j 0) ∧ IsTup s.heap (ps.getD j 0) #[key, v]
  | _, _, .nil => ⟨[], [], .nil, rfl, rfl, fun j k v e => by simp at e⟩
  | _, _, .cons (a := p) (b := kv) h t => by
    obtain ⟨prs, pvs, r, hl, hl2, hp⟩ := pairs_ofZ I t
    obtain ⟨its, rv, ht, _⟩ := I.tuple h
    obtain ⟨u, y, ei, ru, ry⟩ := vals2 rv
    subst ei
    refine ⟨(kv.1, y) :: prs, (u, y) :: pvs, .cons ⟨rfl, ry⟩ r, by rw [List.length_cons, List.length_cons, hl], by rw [List.length_cons, List.length_cons, hl2], fun j key v e => ?_⟩
    cases j with
    | zero =>
      have e' : (u, y) = (key, v) := Option.some.inj e
      cases e'
      exact ⟨kv.1, rfl, kV_is (P := X.prog) (w := X.w) ru, rfl, ht⟩
    | succ j =>
      obtain ⟨k, e1, e2, e3, e4⟩ := hp j key v (by simpa using e)
      refine ⟨k, by simpa using e1, e2, ?_, ?_⟩
      · simpa using e3
      · simpa using e4
theorem call_dictZ (hcalm : X.calm = true) : CallR X (.type "dict") (rDict X.K) := by
  intro pins s σ H xs us Q I r q
  obtain ⟨a, ps, kvs, ex, hq, hp, q⟩ := q
  rcases hq with hq | ⟨hq, ht⟩
  · exact call_dictP hcalm pins s σ H xs us Q I r ⟨a, ps, kvs, ex, hq, hp, q⟩
  subst ex
  obtain ⟨u, eu, rx⟩ := vals1 r
  subst eu
  cases rx
  obtain ⟨its, rv, ⟨o, ho, hc, n, hdat⟩, hz⟩ := I.tuple hq
  have hod : o.dict = none := by
    rcases ht with ⟨o', u, h1, h2⟩ | ⟨o', h1, h2⟩
    · have := (I.hok a _ h1).1
      rw [ho] at this
      cases this
      exact h2
    · have := I.kIn a o' h1
      rw [ho] at this
      cases this
      exact h2
  have ei := refs_at rv
  subst ei
  rw [List.length_map] at hz
  obtain ⟨prs, pvs, rel, hl, hl2, hpr⟩ := pairs_ofZ I hp
  refine PySem.call_dict_pairs (knd := mixKind X.prog X.w) (kvs := prs) (PairArg.tuple a (ps.map Value.ref).toArray (fun j => ps.getD j 0) pvs) (I.ok.hd hcalm) ⟨⟨o, n, ho, hc, hod, hdat⟩, by simp [hl2], fun j k v e => ?_⟩ ⟨by rw [hl, hl2], fun i key v e => ?_⟩ (by rw [hl2]; exact hz) fun h' tk hd' k => ?_
  · obtain ⟨k', e1, e2, e3, e4⟩ := hpr j k v e
    refine ⟨?_, .inl e4⟩
    rw [List.getElem?_toArray, List.getElem?_map, e3]
    rfl
  · obtain ⟨k', e1, e2, _⟩ := hpr i key v e
    exact ⟨k', e1, e2⟩
  · have hm : (s.heap.objs.size == sysModules) = false := beq_eq_false_iff_ne.mpr (Nat.ne_of_gt I.big)
    have hlen : (mergeK [] kvs).length ≤ sizeLine := by
      refine Nat.le_trans (length_mergeK kvs []) ?_
      rw [List.length_nil, Nat.zero_add, rel.length, hl]
      exact hz
    exact ⟨.ref s.heap.objs.size, upd H s.heap.objs.size (.dK (mergeK [] kvs)), I.laid (t' := tk) (fun b o e => k b o (fun z => nomatch z) e) (Nat.le_refl _) (show ObjOk X.prog X.w _ _ _ (.dK (mergeK [] kvs)) from ⟨hlen, hm, merged [] prs, KV.merge rel .nil, hd'⟩), rfl, q _ (I.hok.fresh (Nat.le_refl _))⟩
/-! ### sorted(l) of data -/
def rSortD (K : PySem.W.Frag) : List V → Hp → VK → Prop := fun xs H Q => ∃ (a : Addr) (bs : List (V × D)), xs = [.ref a] ∧ SqL K H a (bs.map (·.1)) ∧ DpAll K H (bs.map (·.1)) (bs.map fun b => b.2.py) ∧
  PySem.W.AllAlike (bs.map fun b => b.2.py) ∧ PySem.W.Sortable (bs.map fun b => b.2.py) ∧ (∀ b ∈ bs, b.2.py.depth ≤ 60) ∧ ∀ l, H l = none → Q (.ref l) (upd H l (.lst ((bs.mergeSort (PySem.W.dataLe false fun b => b.2.py)).map (·.1))))
theorem each_vals : ∀ {bs : List (V × D)} {us : List Value}, Vals (bs.map (·.1)) us → PySem.W.EachIs (fun u (b : V × D) => RelV b.1 u) us bs
  | [], _, .nil => .nil
  | _ :: _, _, .cons h t => .cons h (each_vals t)
theorem vals_each : ∀ {bs : List (V × D)} {us : List Value}, PySem.W.EachIs (fun u (b : V × D) => RelV b.1 u) us bs → Vals (bs.map (·.1)) us
  | [], _, .nil => .nil
  | _ :: _, _, .cons h t => .cons h (vals_each t)
theorem cr_sortedD (hu : X.A.units + 65 < cLine) : CallR X (.builtin "sorted") (rSortD X.K) := by
  intro pins s σ H xs us Q I r q
  obtain ⟨a, bs, rfl, hq, hd, hal, hso, hdp, q⟩ := q
  obtain ⟨u, eu, rx⟩ := vals1 r
  subst eu
  cases rx
  obtain ⟨its, rv, pl, hz⟩ := I.list hq
  rw [List.length_map] at hz
  obtain ⟨as, h4⟩ := Dp.readsAll I _ _ its hd rv
  refine PySem.W.sorted_data (R := fun u (b : V × D) => RelV b.1 u) (enc := fun b : V × D => b.2.py) pl.isList (each_vals rv) (PySem.W.readsAll_each _ h4) hal hso hz (fun b hb => ?_) fun out ho eo => ?_
  · have := hdp b hb
    omega
  · obtain ⟨c, hc⟩ := sortedAll_at s.heap its out.toArray
    have rr := vals_each eo
    refine ⟨.ref (s.heap.objs.size + 1), upd H (s.heap.objs.size + 1) (.lst ((bs.mergeSort (PySem.W.dataLe false fun b => b.2.py)).map (·.1))), I.laid (t' := s.toks) (fun _ _ => sortedAll_old) (Nat.le_succ _) (show ObjOk X.prog X.w _ _ _ (.lst _) from ⟨?_, out, c, rr, hc⟩), rfl, q _ (I.hok.fresh (Nat.le_succ _))⟩
    rw [List.length_map, List.length_mergeSort]
    exact hz
end
end Mf
set_option Elab.async false
set_option linter.all false
set_option maxRecDepth 100000
set_option maxHeartbeats 1000000
namespace Mf
open PySem L2

theorem szM {n : Nat} (h : lenOk n = true) : n ≤ sizeLine := Nat.le_trans (of_decide_eq_true h) (by decide)
/-- what a call of the machine is to reach: data d of kind k, the state as it was -/
abbrev Fin {Y : Sys} (K : PySem.W.Frag) (c : Cf Y) (k : K3) (d : D) (Q : VK) : Prop := ∀ v (c' : Cf Y), c'.s = c.s → Step c c' → Ok c' → Is K c.H c' k v d → Q v c'.H

section
variable {Y : Sys} {c : Cf Y} {K : PySem.W.Frag} {Q : VK} {k : K3} {d : D}
theorem Fin.here (q : Fin K c .v d Q) (ok : Ok c) {v : V} (h : Rep K c.F v d) : Q v c.H := q v c rfl (Step.refl c) ok h
theorem Fin.tup {ds : List D} {vs : List V} (q : Fin K c .v (.tup ds) Q) (ok : Ok c) (r : Reps K c.F vs ds) : NewT c.H Q vs := fun p o hp ho =>
  q (.ref p) ⟨upd c.F p (.frz o (.tup vs)), upd c.H p (.frz o (.tup vs)), c.s⟩ rfl (Step.new ok hp _) (ok.new hp _) (Rep.tup (.inl (.inr ⟨o, upd_same⟩)) (.inl ⟨o, _, upd_same, ho⟩) (r.mono (Step.new ok hp (.frz o (.tup vs))).f))
theorem Ok.fr (ok : Ok c) {p : Addr} (hp : c.H p = none) : c.F p = none := by
  cases e : c.F p with
  | none => rfl
  | some u => rw [ok.sub _ _ e] at hp; cases hp
theorem Fin.lst {ds : List D} {vs : List V} (q : Fin K c .t (.lst ds) Q) (ok : Ok c) (r : Reps K c.F vs ds) : ∀ p, c.H p = none → Q (.ref p) (upd c.H p (.lst vs)) := fun p hp =>
  q (.ref p) ⟨c.F, upd c.H p (.lst vs), c.s⟩ rfl (Step.own ok hp _) (ok.own hp _) ⟨p, rfl, ⟨⟨vs, upd_same, r⟩, ok.fr hp, fun z => ok.has p z hp⟩, hp⟩
end

section
variable {X : Cx}
def CDivV (_ j : Int) : Prop := j ≠ 0 ∧ j.natAbs.log2 < 9000
theorem op_fdivV : OpR X (binaryOp .FloorDiv) (rI CDivV fun i j => .int (i.fdiv j)) := opI fun _ _ _ _ _ _ _ hc q => PyProof.Rows.floordiv_int hc.1 q (.inl (PyProof.noPylong_of_log2 hc.2))
def opB : Bop → Operator
  | .add => .Add | .sub => .Sub | .mul => .Mult | .fdv => .FloorDiv | .mod => .Mod
def rB (K : PySem.W.Frag) : Bop → R2
  | .add => fun x y H Q => rI0 (fun i j => .int (i + j)) x y H Q ∨ (rCatZ K x y H Q ∨ (rCat x y H Q ∨ (∃ i j, x = .str i ∧ y = .str j ∧ i.length + j.length ≤ sizeLine ∧ Q (.str (i ++ j)) H)))
  | .sub => rI0 (fun i j => .int (i - j))
  | .mul => fun x y H Q => rI CMulW (fun i j => .int (i * j)) x y H Q ∨ (rRepZ K x y H Q ∨ rRep x y H Q)
  | .fdv => rI CDivV fun i j => .int (i.fdiv j)
  | .mod => rI (fun _ j => j ≠ 0) fun i j => .int (i.fmod j)
theorem op_B (o : Bop) : OpR X (binaryOp (opB o)) (rB X.K o) := by
  cases o with
  | add => exact OpR.or op_add (OpR.or op_catZ (OpR.or op_cat op_add_str))
  | sub => exact op_sub
  | mul => exact OpR.or op_mulW (OpR.or op_repZ op_rep)
  | fdv => exact op_fdivV
  | mod => exact op_modN
end
theorem bin_use {Y : Sys} {c : Cf Y} {K : PySem.W.Frag} {H1 H2 : Hp} {k1 k2 k : K3} {x y : V} {a b d : D} {o : Bop} {Q : VK} (ok : Ok c) (hx : Is K H1 c k1 x a) (hy : Is K H2 c k2 y b) (e : binD o a b = some (k, d)) (q : Fin K c k d Q) : rB K o x y c.H Q := by
  unfold binD at e
  split at e
  · cases e
    exact .inl ⟨_, _, hx.int, hy.int, q.here ok (.int _)⟩
  · split at e
    · rename_i xs ys hl
      cases e
      obtain ⟨p, vs, rfl, h1, h1', r1⟩ := hx.tup ok
      obtain ⟨p2, vs2, rfl, h2, h2', r2⟩ := hy.tup ok
      refine .inr (.inl ⟨p, p2, vs, vs2, rfl, rfl, h1, h2, ?_, fun z => ?_, fun z => ?_, q.tup ok (r1.append r2)⟩)
      · rw [r1.length, r2.length]
        exact szM hl
      · subst z
        cases r1
        exact q.here ok (.tup h2'.1 h2'.2 r2)
      · subst z
        cases r2
        rw [List.append_nil] at q
        exact q.here ok (.tup h1'.1 h1'.2 r1)
    · cases e
  · split at e
    · rename_i xs ys hl
      cases e
      obtain ⟨p, vs, rfl, h1, r1⟩ := hx.lst ok
      obtain ⟨p2, vs2, rfl, h2, r2⟩ := hy.lst ok
      refine .inr (.inr (.inl ⟨p, p2, vs, vs2, rfl, rfl, h1, h2, ?_, q.lst ok (r1.append r2)⟩))
      rw [r1.length, r2.length]
      exact szM hl
    · cases e
  · split at e
    · rename_i xs ys hl
      cases e
      exact .inr (.inr (.inr ⟨_, _, hx.str, hy.str, szM hl, q.here ok (.str _)⟩))
    · cases e
  · cases e
    exact ⟨_, _, hx.int, hy.int, q.here ok (.int _)⟩
  · split at e
    · rename_i xs ys hl
      cases e
      exact .inl ⟨_, _, hx.int, hy.int, (of_decide_eq_true hl : xs.natAbs.log2 + ys.natAbs.log2 < 1000000), q.here ok (.int _)⟩
    · cases e
  · split at e
    · rename_i xs kk hl
      cases e
      simp only [Bool.and_eq_true, decide_eq_true_eq] at hl
      obtain ⟨⟨⟨l1, l2⟩, l3⟩, l4⟩ := hl
      obtain ⟨p, vs, rfl, h1, h1', r1⟩ := hx.tup ok
      refine .inr (.inl ⟨p, _, vs, rfl, hy.int, h1, fun z => ?_, l1, l2, ?_, q.tup ok (r1.rep _)⟩)
      · subst z
        cases r1
        cases l4
      · rw [r1.length]
        exact l3
    · cases e
  · split at e
    · rename_i xs kk hl
      cases e
      simp only [Bool.and_eq_true, decide_eq_true_eq] at hl
      obtain ⟨⟨l1, l2⟩, l3⟩ := hl
      obtain ⟨p, vs, rfl, h1, r1⟩ := hx.lst ok
      refine .inr (.inr ⟨p, _, vs, rfl, hy.int, h1, by omega, by omega, ?_, q.lst ok (r1.rep _)⟩)
      rw [r1.length]
      exact Nat.le_trans (Nat.mul_le_mul l3 (show kk.toNat ≤ 1000 by omega)) (by decide)
    · cases e
  · split at e
    · rename_i xs ys hl
      cases e
      have hl := Bool.and_eq_true_iff.mp hl
      exact ⟨_, _, hx.int, hy.int, ⟨of_decide_eq_true hl.1, of_decide_eq_true hl.2⟩, q.here ok (.int _)⟩
    · cases e
  · split at e
    · rename_i xs ys hl
      cases e
      exact ⟨_, _, hx.int, hy.int, of_decide_eq_true hl, q.here ok (.int _)⟩
    · cases e
  · cases e

/-! ### comparisons -/
theorem lookD_val {K : PySem.W.Frag} {F : Hp} {x : Str} : ∀ {kvs : List (Key × V)} {es : List (Str × D)}, RepK K F kvs es → (∀ d, lookD x es = some d → ∃ v, valV kvs (.inr x) = some v ∧ Rep K F v d) ∧ (lookD x es = none → valV kvs (.inr x) = none)
  | _, _, .nil => And.intro (fun d h => by cases h) (fun _ => rfl)
  | _, _, .cons (x := y) (v := v) (d := d) (kvs := kvs) (es := es) h r => by
    have ih := lookD_val (x := x) r
    by_cases e : y = x
    · subst e
      have e1 : lookD y ((y, d) :: es) = some d := if_pos rfl
      have e2 : valV ((Sum.inr y, v) :: kvs) (.inr y) = some v := by
        unfold valV
        rw [List.find?_cons_of_pos (by simp)]
        rfl
      exact ⟨fun d' q => by rw [e1] at q; cases q; exact ⟨v, e2, h⟩, fun q => by rw [e1] at q; cases q⟩
    · have e1 : lookD x ((y, d) :: es) = lookD x es := if_neg e
      have e2 : valV ((Sum.inr y, v) :: kvs) (.inr x) = valV kvs (.inr x) := by
        unfold valV
        rw [List.find?_cons_of_neg (by simpa using e)]
      rw [e1, e2]
      exact ih
section
variable {X : Cx}
theorem op_in_dct (hu : X.A.units + 1 < cLine) : OpR X (compareOp .In) (fun x y H Q => ∃ a o, y = .ref a ∧ DGet H a x o ∧ Q (.bl o.isSome) H) := by
  intro pins s σ H x y v u Q I rx ry h
  obtain ⟨a, o, rfl, g, q⟩ := h
  cases ry
  exact d_in hu I g rx fun s3 I3 => ⟨.bl o.isSome, H, I3, rfl, q⟩
theorem op_notin_dct (hu : X.A.units + 1 < cLine) : OpR X (compareOp .NotIn) (fun x y H Q => ∃ a o, y = .ref a ∧ DGet H a x o ∧ Q (.bl (!o.isSome)) H) := by
  intro pins s σ H x y v u Q I rx ry h
  obtain ⟨a, o, rfl, g, q⟩ := h
  cases ry
  exact d_notIn hu I g rx fun s3 I3 => ⟨.bl (!o.isSome), H, I3, rfl, q⟩
theorem hr65 {n : Nat} (hr : Room n X.A) : X.A.units + 65 < cLine := by
  have := hr.un
  omega
def opC : Cop → CmpOp
  | .eq => .Eq | .ne => .NotEq | .lt => .Lt | .le => .LtE | .gt => .Gt | .ge => .GtE | .isin => .In | .notin => .NotIn | .is => .Is | .isnot => .IsNot
def rC (K : PySem.W.Frag) : Cop → R2
  | .eq => rEqD K
  | .ne => rNeD K
  | .lt => fun x y H Q => rI0 (fun i j => .bl (decide (i < j))) x y H Q ∨ (∃ i j, x = .str i ∧ y = .str j ∧ Q (.bl (decide (i.cps.toList < j.cps.toList))) H)
  | .le => rI0 fun i j => .bl (decide (i ≤ j))
  | .gt => rI0 fun i j => .bl (decide (j < i))
  | .ge => rI0 fun i j => .bl (decide (j ≤ i))
  | .isin => fun x y H Q => rIn K false x y H Q ∨ (rInT K false x y H Q ∨ ((∃ i j, x = .str i ∧ y = .str j ∧ Q (.bl (!(Builtin.Str.occurrences j i 0 j.length 1).isEmpty)) H) ∨ ∃ a o, y = .ref a ∧ DGet H a x o ∧ Q (.bl o.isSome) H))
  | .notin => fun x y H Q => rIn K true x y H Q ∨ (rInT K true x y H Q ∨ ((∃ i j, x = .str i ∧ y = .str j ∧ Q (.bl (!(!(Builtin.Str.occurrences j i 0 j.length 1).isEmpty))) H) ∨ ∃ a o, y = .ref a ∧ DGet H a x o ∧ Q (.bl (!o.isSome)) H))
  | .is => fun x y H Q => (y = .non ∧ Q (.bl (decide (x = .non))) H) ∨ (∃ a b, x = .bl a ∧ y = .bl b ∧ Q (.bl (decide (a = b))) H)
  | .isnot => fun x y H Q => (y = .non ∧ Q (.bl (!decide (x = .non))) H) ∨ (∃ a b, x = .bl a ∧ y = .bl b ∧ Q (.bl (!decide (a = b))) H)
theorem op_C {n : Nat} (hr : Room n X.A) (o : Cop) : OpR X (compareOp (opC o)) (rC X.K o) := by
  cases o with
  | eq => exact op_eqD hr.units
  | ne => exact op_neD hr.units
  | lt => exact OpR.or op_lt op_lt_str
  | le => exact op_le
  | gt => exact op_gt
  | ge => exact op_ge
  | isin => exact OpR.or op_in_seq (OpR.or (op_inT (hr65 hr)) (OpR.or op_in_str (op_in_dct (hu_of hr))))
  | notin => exact OpR.or op_notIn_seq (OpR.or (op_notInT (hr65 hr)) (OpR.or op_notin_str (op_notin_dct (hu_of hr))))
  | is => exact OpR.or op_isN op_is_bl
  | isnot => exact OpR.or op_notN op_isnot_bl
end
theorem rep_flat {K : PySem.W.Frag} {F : Hp} {v : V} {d : D} (h : Rep K F v d) (f : flatD d = true) : flatV v = true := by
  cases h <;> first | rfl | cases f
theorem rep_eqV {K : PySem.W.Frag} {F : Hp} {v w : V} {d e : D} (h : Rep K F v d) (g : Rep K F w e) (f : flatD d = true) (f' : flatD e = true) : eqV v w = deq d e := by
  cases h <;> cases g <;> first | rfl | cases f | cases f'
theorem reps_flat {K : PySem.W.Frag} {F : Hp} : ∀ {vs : List V} {ds : List D}, Reps K F vs ds → ds.all flatD = true → vs.all flatV = true
  | _, _, .nil, _ => rfl
  | _, _, .cons h r, f => by
    have f := Bool.and_eq_true_iff.mp f
    exact Bool.and_eq_true_iff.mpr ⟨rep_flat h f.1, reps_flat r f.2⟩
theorem reps_in {K : PySem.W.Frag} {F : Hp} {x : V} {e : D} (g : Rep K F x e) (fe : flatD e = true) : ∀ {vs : List V} {ds : List D}, Reps K F vs ds → ds.all flatD = true → inV x vs = ds.any fun y => deq y e
  | _, _, .nil, _ => rfl
  | _, _, .cons h r, f => by
    have f := Bool.and_eq_true_iff.mp f
    unfold inV
    rw [List.any_cons, List.any_cons, rep_eqV h g f.1 fe, ← reps_in g fe r f.2]
    rfl
theorem Is.flat {Y : Sys} {c : Cf Y} {K : PySem.W.Frag} {H1 : Hp} {k : K3} {x : V} {a : D} (h : Is K H1 c k x a) (f : flatD a = true) : Rep K c.F x a := by
  cases k with
  | v => exact h
  | t => obtain ⟨p, _, o, _⟩ := h; cases a <;> first | exact o.1.elim | cases f
  | o => obtain ⟨p, _, o⟩ := h; cases a <;> first | exact o.1.elim | cases f
theorem shaped_lst {ds : List D} (h : shs 59 ds = true) : SeqAt.shaped (.list (pys ds)) = true := shaped_of (d := .lst ds) h
theorem any_pys {e : D} (he : e.sh 60 = true) : ∀ (ds : List D), shs 59 ds = true → ((pys ds).any fun z => PyData.eqv z e.py) = ds.any fun y => deq y e
  | [], _ => rfl
  | d :: ds, h => by
    have h := Bool.and_eq_true_iff.mp h
    show (PyData.eqv d.py e.py || (pys ds).any fun z => PyData.eqv z e.py) = (deq d e || ds.any fun y => deq y e)
    rw [py_eqv 59 60 d e h.1 he, any_pys he ds h.2]
theorem in_use {Y : Sys} {c : Cf Y} {K : PySem.W.Frag} {H1 H2 : Hp} {k1 k2 : K3} {x y : V} {a b : D} {r : Bool} (ok : Ok c) (hx : Is K H1 c k1 x a) (hy : Is K H2 c k2 y b) (e : inD a b = some r) :
    (∃ p xs, y = .ref p ∧ (SqL K c.H p xs ∨ SqT K c.H p xs) ∧ flatV x = true ∧ xs.all flatV = true ∧ inV x xs = r) ∨ (∃ d ds, Dp K c.H x d ∧ (Dp K c.H y (.list ds) ∨ Dp K c.H y (.tuple ds)) ∧ SeqAt.shaped d = true ∧ SeqAt.shaped (.list ds) = true ∧ (ds.any fun z => PyData.eqv z d) = r) ∨ (∃ i j, x = .str i ∧ y = .str j ∧ (!(Builtin.Str.occurrences j i 0 j.length 1).isEmpty) = r) ∨ ∃ p o, y = .ref p ∧ DGet c.H p x o ∧ o.isSome = r := by
  unfold inD at e
  split at e
  · split at e
    · rename_i ds hf
      cases e
      rcases Bool.or_eq_true_iff.mp hf with hf | hf
      rotate_left
      · have hf := Bool.and_eq_true_iff.mp hf
        exact .inr (.inl ⟨_, _, hx.dp ok hf.1, .inr (hy.dp ok hf.2), shaped_of hf.1, shaped_lst hf.2, any_pys hf.1 ds hf.2⟩)
      have hf := Bool.and_eq_true_iff.mp hf
      obtain ⟨p, vs, rfl, h1, h1', r1⟩ := hy.tup ok
      exact .inl ⟨p, vs, rfl, .inr h1, rep_flat (hx.flat hf.1) hf.1, reps_flat r1 hf.2, reps_in (hx.flat hf.1) hf.1 r1 hf.2⟩
    · cases e
  · split at e
    · rename_i ds hf
      cases e
      rcases Bool.or_eq_true_iff.mp hf with hf | hf
      rotate_left
      · have hf := Bool.and_eq_true_iff.mp hf
        exact .inr (.inl ⟨_, _, hx.dp ok hf.1, .inl (hy.dp ok hf.2), shaped_of hf.1, shaped_lst hf.2, any_pys hf.1 ds hf.2⟩)
      have hf := Bool.and_eq_true_iff.mp hf
      obtain ⟨p, vs, rfl, h1, r1⟩ := hy.lst ok
      exact .inl ⟨p, vs, rfl, .inl (.inl (.inl h1)), rep_flat (hx.flat hf.1) hf.1, reps_flat r1 hf.2, reps_in (hx.flat hf.1) hf.1 r1 hf.2⟩
    · cases e
  · cases e
    exact .inr (.inr (.inl ⟨_, _, hx.str, hy.str, rfl⟩))
  · rename_i x' es
    cases e
    obtain ⟨p, kvs, rfl, h1, r1⟩ := hy.dct ok
    refine .inr (.inr (.inr ⟨p, _, rfl, by rw [hx.str]; exact DGet.k (k := .inr x') h1, ?_⟩))
    have q := lookD_val (x := x') r1
    cases hl : lookD x' es with
    | none => rw [q.2 hl]; rfl
    | some d => obtain ⟨v, ev, _⟩ := q.1 d hl; rw [ev]; rfl
  · cases e
theorem is_use {Y : Sys} {c : Cf Y} {K : PySem.W.Frag} {H1 H2 : Hp} {k1 k2 : K3} {x y : V} {a b : D} {r : Bool} (hx : Is K H1 c k1 x a) (hy : Is K H2 c k2 y b) (e : isD a b = some r) :
    (y = .non ∧ decide (x = .non) = r) ∨ (∃ a b, x = .bl a ∧ y = .bl b ∧ decide (a = b) = r) := by
  unfold isD at e
  split at e
  · cases e
    exact .inl ⟨hy.non, decide_eq_true hx.non⟩
  · cases e
    exact .inr ⟨_, _, hx.bl, hy.bl, rfl⟩
  · rename_i hn
    cases e
    refine .inl ⟨hy.non, decide_eq_false fun z => ?_⟩
    subst z
    cases k1 with
    | v => cases hx with | non => exact hn rfl
    | t => obtain ⟨p, z, _⟩ := hx; cases z
    | o => obtain ⟨p, z, _⟩ := hx; cases z
  · cases e
theorem cmp_use {Y : Sys} {c : Cf Y} {K : PySem.W.Frag} {H1 H2 : Hp} {k1 k2 : K3} {x y : V} {a b : D} {o : Cop} {r : Bool} {Q : VK} (ok : Ok c) (hx : Is K H1 c k1 x a) (hy : Is K H2 c k2 y b) (e : cmpD o a b = some r) (q : Q (.bl r) c.H) : rC K o x y c.H Q := by
  have eqs : ∀ {r : Bool}, eqD a b = some r → ∃ d e, Dp K c.H x d ∧ Dp K c.H y e ∧ SeqAt.shaped d = true ∧ SeqAt.shaped e = true ∧ PyData.eqv d e = r := by
    intro r e
    unfold eqD at e
    split at e
    · rename_i h
      have h := Bool.and_eq_true_iff.mp h
      cases e
      exact ⟨_, _, hx.dp ok h.1, hy.dp ok h.2, shaped_of h.1, shaped_of h.2, py_eqv _ _ _ _ h.1 h.2⟩
    · cases e
  cases o with
  | eq =>
    obtain ⟨d, e', h1, h2, h3, h4, h5⟩ := eqs e
    exact ⟨d, e', h1, h2, h3, h4, by rw [h5]; exact q⟩
  | ne =>
    have e : (eqD a b).map (!·) = some r := e
    obtain ⟨r', e1, e2⟩ := Option.map_eq_some_iff.mp e
    obtain ⟨d, e', h1, h2, h3, h4, h5⟩ := eqs e1
    exact ⟨d, e', h1, h2, h3, h4, by rw [h5, e2]; exact q⟩
  | isin =>
    rcases in_use ok hx hy e with ⟨p, xs, h1, h2, h3, h4, h5⟩ | ⟨d, ds, h1, h2, h3, h4, h5⟩ | ⟨i, j, h1, h2, h3⟩ | ⟨p, o, h1, h2, h3⟩
    · exact .inl ⟨p, xs, h1, h2, h3, h4, by rw [if_neg Bool.false_ne_true, h5]; exact q⟩
    · exact .inr (.inl ⟨d, ds, h1, h2, h3, h4, by rw [h5, Bool.false_xor]; exact q⟩)
    · exact .inr (.inr (.inl ⟨i, j, h1, h2, by rw [h3]; exact q⟩))
    · exact .inr (.inr (.inr ⟨p, o, h1, h2, by rw [h3]; exact q⟩))
  | notin =>
    have e : (inD a b).map (!·) = some r := e
    obtain ⟨r', e1, e2⟩ := Option.map_eq_some_iff.mp e
    rcases in_use ok hx hy e1 with ⟨p, xs, h1, h2, h3, h4, h5⟩ | ⟨d, ds, h1, h2, h3, h4, h5⟩ | ⟨i, j, h1, h2, h3⟩ | ⟨p, o, h1, h2, h3⟩
    · exact .inl ⟨p, xs, h1, h2, h3, h4, by rw [if_pos rfl, h5, e2]; exact q⟩
    · exact .inr (.inl ⟨d, ds, h1, h2, h3, h4, by rw [h5, Bool.true_xor, e2]; exact q⟩)
    · exact .inr (.inr (.inl ⟨i, j, h1, h2, by rw [h3, e2]; exact q⟩))
    · exact .inr (.inr (.inr ⟨p, o, h1, h2, by rw [h3, e2]; exact q⟩))
  | is =>
    rcases is_use hx hy e with ⟨h1, h2⟩ | ⟨a', b', h1, h2, h3⟩
    · exact .inl ⟨h1, by rw [h2]; exact q⟩
    · exact .inr ⟨a', b', h1, h2, by rw [h3]; exact q⟩
  | isnot =>
    have e : (isD a b).map (!·) = some r := e
    obtain ⟨r', e1, e2⟩ := Option.map_eq_some_iff.mp e
    rcases is_use hx hy e1 with ⟨h1, h2⟩ | ⟨a', b', h1, h2, h3⟩
    · exact .inl ⟨h1, by rw [h2, e2]; exact q⟩
    · exact .inr ⟨a', b', h1, h2, by rw [h3, e2]; exact q⟩
  | lt =>
    unfold cmpD at e
    split at e <;> first | cases e | skip
    all_goals first | (exact .inl ⟨_, _, hx.int, hy.int, q⟩) | (exact .inr ⟨_, _, hx.str, hy.str, q⟩) | skip
    all_goals simp_all
  | le =>
    unfold cmpD at e
    split at e <;> first | cases e | skip
    all_goals first | (exact ⟨_, _, hx.int, hy.int, q⟩) | simp_all
  | gt =>
    unfold cmpD at e
    split at e <;> first | cases e | skip
    all_goals first | (exact ⟨_, _, hx.int, hy.int, q⟩) | simp_all
  | ge =>
    unfold cmpD at e
    split at e <;> first | cases e | skip
    all_goals first | (exact ⟨_, _, hx.int, hy.int, q⟩) | simp_all
end Mf
set_option Elab.async false
set_option linter.all false
set_option maxRecDepth 100000
set_option maxHeartbeats 1000000
namespace Mf
open PySem L2

theorem CallR.or {X : Cx} {f : Value} {r r' : List V → Hp → VK → Prop} (h : CallR X f r) (h' : CallR X f r') : CallR X f (fun vs H Q => r vs H Q ∨ r' vs H Q) := by
  intro pins s σ H vs us Q I rs q
  rcases q with q | q
  · exact h pins s σ H vs us Q I rs q
  · exact h' pins s σ H vs us Q I rs q
/-! ### subscripts -/
section
variable {X : Cx}
theorem ix_dct (hu : X.A.units + 1 < cLine) : IxR X (fun x y H Q => ∃ a v, x = .ref a ∧ DGet H a y (some v) ∧ Q v H) := by
  intro value slice pins s σ H x y v u Q I rx ry h hs
  obtain ⟨a, w', rfl, g, q⟩ := h
  cases rx
  exact PyProof.Rows.tail_any (dict_typeIs I g) PySem.F.slot_dict_getitem.lookup (d_getItem hu I g ry fun w'' s' I' r' => ⟨w', H, I', r', q⟩) hs
def rX (K : PySem.W.Frag) : R2 := fun x y H Q => rIx K x y H Q ∨ ∃ a v, x = .ref a ∧ DGet H a y (some v) ∧ Q v H
theorem ix_X {n : Nat} (hr : Room n X.A) : IxR X (rX X.K) := IxR.or ix_seq (ix_dct (hu_of hr))
end
theorem Reps.atI {K : PySem.W.Frag} {F : Hp} {vs : List V} {ds : List D} {i : Int} {d : D} (r : Reps K F vs ds) (e : L2.atI ds i = some d) : ∃ v, L2.atI vs i = some v ∧ Rep K F v d := by
  unfold L2.atI at e ⊢
  rw [r.length]
  cases h : ixN ds.length i with
  | none => rw [h] at e; cases e
  | some j =>
    rw [h] at e
    exact r.get (show ds[j]? = some d from e)
theorem ix_use {Y : Sys} {c : Cf Y} {K : PySem.W.Frag} {H1 H2 : Hp} {k1 k2 : K3} {x y : V} {a b d : D} {Q : VK} (ok : Ok c) (hx : Is K H1 c k1 x a) (hy : Is K H2 c k2 y b) (e : ixD a b = some d) (q : Fin K c .v d Q) : rX K x y c.H Q := by
  unfold ixD at e
  split at e
  · obtain ⟨p, vs, rfl, h1, h1', r1⟩ := hx.tup ok
    obtain ⟨v, e1, r2⟩ := r1.atI e
    exact .inl (.inr (.inl ⟨p, vs, _, v, rfl, hy.int, h1, e1, q.here ok r2⟩))
  · obtain ⟨p, vs, rfl, h1, r1⟩ := hx.lst ok
    obtain ⟨v, e1, r2⟩ := r1.atI e
    exact .inl (.inl ⟨p, vs, _, v, rfl, hy.int, .inl (.inl h1), e1, q.here ok r2⟩)
  · split at e
    · rename_i z i hl
      obtain ⟨cc, e1, e2⟩ := Option.map_eq_some_iff.mp e
      subst e2
      exact .inl (.inr (.inr ⟨z, i, cc, hx.str, hy.int, szM hl, e1, q.here ok (.str _)⟩))
    · cases e
  · rename_i es z
    obtain ⟨p, kvs, rfl, h1, r1⟩ := hx.dct ok
    obtain ⟨v, ev, rv⟩ := (lookD_val (x := z) r1).1 d e
    exact .inr ⟨p, v, rfl, by rw [hy.str, ← ev]; exact DGet.k (k := .inr z) h1, q.here ok rv⟩
  · cases e
/-! ### slices -/
def rS (K : PySem.W.Frag) : V → Option Int → Option Int → Hp → VK → Prop := fun x lo hi H Q => rSlZ K x lo hi H Q ∨ (rSlL K x lo hi H Q ∨ rSlS x lo hi H Q)
theorem sl_S {X : Cx} : SlR X (rS X.K) := SlR.or sl_tupZ (SlR.or sl_list sl_str)
theorem sl_use {Y : Sys} {c : Cf Y} {K : PySem.W.Frag} {H1 : Hp} {k1 k : K3} {x : V} {a d : D} {lo hi : Option Int} {Q : VK} (ok : Ok c) (hx : Is K H1 c k1 x a) (e : slD a lo hi = some (k, d)) (q : Fin K c k d Q) : rS K x lo hi c.H Q := by
  unfold slD at e
  split at e
  · rename_i ds
    cases e
    obtain ⟨p, vs, rfl, h1, h1', r1⟩ := hx.tup ok
    have rc : Reps K c.F (cutV vs lo hi) ((ds.drop (HT.sIx ds.length 0 lo)).take (HT.sIx ds.length ds.length hi - HT.sIx ds.length 0 lo)) := by
      unfold cutV
      rw [r1.length]
      exact (r1.drop _).take _
    refine .inl ⟨p, vs, rfl, h1, fun z => ?_, q.tup ok rc⟩
    rw [z] at rc
    exact q.here ok (.tup h1'.1 h1'.2 rc)
  · rename_i ds
    cases e
    obtain ⟨p, vs, rfl, h1, r1⟩ := hx.lst ok
    refine .inr (.inl ⟨p, vs, rfl, .inl (.inl h1), q.lst ok ?_⟩)
    unfold cutV
    rw [r1.length]
    exact (r1.drop _).take _
  · split at e
    · rename_i z hl
      cases e
      exact .inr (.inr ⟨z, hx.str, szM hl, q.here ok (.str _)⟩)
    · cases e
  · cases e
/-! ### built-ins of one argument -/
def nmB : B1 → Str
  | .len => "len" | .abs => "abs" | .int => "int" | .tuple => "tuple" | .list => "list" | .all => "all" | .any => "any" | .max => "max" | .dict => "dict" | .sorted => "sorted"
def vlB : B1 → Value
  | .len => .builtin "len" | .abs => .builtin "abs" | .int => .type "int" | .tuple => .type "tuple" | .list => .type "list" | .all => .builtin "all" | .any => .builtin "any" | .max => .builtin "max" | .dict => .type "dict" | .sorted => .builtin "sorted"
def r1 (K : PySem.W.Frag) : B1 → List V → Hp → VK → Prop
  | .len => fun xs H Q => ∃ x n, xs = [x] ∧ LenV K x H n ∧ Q (.int n) H
  | .abs => fun xs H Q => ∃ i, xs = [.int i] ∧ Q (.int (if i < 0 then -i else i)) H
  | .int => fun xs H Q => (∃ i, xs = [.int i] ∧ Q (.int i) H) ∨ ∃ k, xs = [.bl k] ∧ Q (.int (if k then 1 else 0)) H
  | .tuple => fun xs H Q => ∃ p ys, xs = [.ref p] ∧ ((SqL K H p ys ∧ NewT H Q ys) ∨ (SqT K H p ys ∧ Q (.ref p) H))
  | .list => fun xs H Q => ∃ p ys, xs = [.ref p] ∧ (SqL K H p ys ∨ SqT K H p ys) ∧ ∀ l, H l = none → Q (.ref l) (upd H l (.lst ys))
  | .all => rAll K
  | .any => rAny K
  | .max => rMax K
  | .dict => rDict K
  | .sorted => rSortD K
theorem call_1 {X : Cx} {n : Nat} (hr : Room n X.A) (hc : X.calm = true) (f : B1) : CallR X (vlB f) (r1 X.K f) := by
  cases f with
  | len => exact call_len
  | abs => exact call_abs
  | int => exact call_int1
  | tuple => exact call_tupleZ
  | list => exact call_list_of
  | all => exact cr_all hc
  | any => exact cr_any hc
  | max => exact cr_max hc
  | dict => exact call_dictZ hc
  | sorted => exact cr_sortedD (hr65 hr)
theorem bools_rep {K : PySem.W.Frag} {F : Hp} : ∀ {vs : List V} {ds : List D} {bs : List Bool}, Reps K F vs ds → boolsD ds = some bs → vs = bs.map V.bl
  | _, _, _, .nil, e => by cases e; rfl
  | _, _, bs, .cons (d := d) h r, e => by
    cases h <;> first | cases e | skip
    obtain ⟨b', e1, e2⟩ := Option.map_eq_some_iff.mp e
    subst e2
    rw [bools_rep r e1]
    rfl
theorem ints_rep {K : PySem.W.Frag} {F : Hp} : ∀ {vs : List V} {ds : List D} {bs : List Int}, Reps K F vs ds → intsD ds = some bs → vs = bs.map V.int
  | _, _, _, .nil, e => by cases e; rfl
  | _, _, bs, .cons (d := d) h r, e => by
    cases h <;> first | cases e | skip
    obtain ⟨b', e1, e2⟩ := Option.map_eq_some_iff.mp e
    subst e2
    rw [ints_rep r e1]
    rfl
theorem maxL_spec : ∀ (r : List Int) (m : Int), (maxL r m = m ∨ maxL r m ∈ r) ∧ m ≤ maxL r m ∧ ∀ y ∈ r, y ≤ maxL r m
  | [], m => ⟨.inl rfl, Int.le_refl _, fun _ h => nomatch h⟩
  | x :: r, m => by
    have ih := maxL_spec r (if m < x then x else m)
    have e : maxL (x :: r) m = maxL r (if m < x then x else m) := rfl
    rw [e]
    obtain ⟨i1, i2, i3⟩ := ih
    by_cases h : m < x
    · rw [if_pos h] at i1 i2 i3 ⊢
      refine ⟨.inr ?_, by omega, fun y hy => ?_⟩
      · rcases i1 with i1 | i1
        · rw [i1]; exact List.mem_cons_self
        · exact List.mem_cons_of_mem _ i1
      · rcases List.mem_cons.mp hy with z | z
        · rw [z]; exact i2
        · exact i3 y z
    · rw [if_neg h] at i1 i2 i3 ⊢
      refine ⟨?_, i2, fun y hy => ?_⟩
      · rcases i1 with i1 | i1
        · exact .inl i1
        · exact .inr (List.mem_cons_of_mem _ i1)
      · rcases List.mem_cons.mp hy with z | z
        · rw [z]; omega
        · exact i3 y z
theorem putD_any {K : PySem.W.Frag} {F : Hp} {k : Str} : ∀ {kvs : List (Key × V)} {es : List (Str × D)}, RepK K F kvs es → (kvs.any fun kv => decide (kv.1 = Sum.inr k)) = es.any fun kv => decide (kv.1 = k)
  | _, _, .nil => rfl
  | _, _, .cons (x := x) h r => by
    rw [List.any_cons, List.any_cons, putD_any r]
    congr 1
    by_cases e : x = k
    · subst e; simp
    · have : ¬ (Sum.inr x : Key) = Sum.inr k := fun z => e (Sum.inr.inj z)
      simp [e]
theorem RepK.append {K : PySem.W.Frag} {F : Hp} : ∀ {a b : List (Key × V)} {x y : List (Str × D)}, RepK K F a x → RepK K F b y → RepK K F (a ++ b) (x ++ y)
  | _, _, _, _, .nil, s => s
  | _, _, _, _, .cons h r, s => .cons h (RepK.append r s)
theorem putD_map {K : PySem.W.Frag} {F : Hp} {k : Str} {v : V} {d : D} (hv : Rep K F v d) : ∀ {kvs : List (Key × V)} {es : List (Str × D)}, RepK K F kvs es → RepK K F (kvs.map fun kv => if kv.1 = Sum.inr k then (kv.1, v) else kv) (es.map fun kv => if kv.1 = k then (kv.1, d) else kv)
  | _, _, .nil => .nil
  | _, _, .cons (x := x) h r => by
    rw [List.map_cons, List.map_cons]
    by_cases e : x = k
    · subst e
      rw [if_pos rfl, if_pos rfl]
      exact .cons hv (putD_map hv r)
    · have e' : ¬ (Sum.inr x : Key) = Sum.inr k := fun z => e (Sum.inr.inj z)
      rw [if_neg e', if_neg e]
      exact .cons h (putD_map hv r)
theorem RepK.put {K : PySem.W.Frag} {F : Hp} {kvs : List (Key × V)} {es : List (Str × D)} {k : Str} {v : V} {d : D} (r : RepK K F kvs es) (hv : Rep K F v d) : RepK K F (putK kvs (.inr k) v) (putD es k d) := by
  unfold putK putD
  rw [putD_any r]
  split
  · exact putD_map hv r
  · exact r.append (.cons hv .nil)
theorem RepK.merge {K : PySem.W.Frag} {F : Hp} : ∀ {more : List (Key × V)} {ms : List (Str × D)} {kvs : List (Key × V)} {es : List (Str × D)}, RepK K F more ms → RepK K F kvs es → RepK K F (more.foldl (fun acc kv => putK acc kv.1 kv.2) kvs) (ms.foldl (fun acc kv => putD acc kv.1 kv.2) es)
  | _, _, _, _, .nil, s => s
  | _, _, _, _, .cons h r, s => by
    rw [List.foldl_cons, List.foldl_cons]
    exact RepK.merge r (s.put h)
theorem pairs_rep {K : PySem.W.Frag} {F H : Hp} (e : Sub F H) : ∀ {vs : List V} {ds : List D} {es : List (Str × D)}, Reps K F vs ds → pairsD ds = some es → ∃ (ps : List Addr) (kvs : List (Key × V)), vs = ps.map V.ref ∧ Paired (fun p kv => SqT K H p [kV kv.1, kv.2]) ps kvs ∧ RepK K F kvs es
  | _, _, _, .nil, h => by cases h; exact ⟨[], [], rfl, .nil, .nil⟩
  | _, _, es, .cons (d := d) h r, q => by
    unfold pairsD at q
    split at q
    · rename_i heq; cases heq
    · rename_i heq
      cases heq
      obtain ⟨es', e1, e2⟩ := Option.map_eq_some_iff.mp q
      subst e2
      obtain ⟨ps, kvs, h1, h2, h3⟩ := pairs_rep e r e1
      cases h with
      | tup hs hp hr =>
        cases hr with
        | cons ha ht =>
          cases ht with
          | cons hb hn =>
            cases hn
            cases ha
            exact ⟨_ :: ps, (.inr _, _) :: kvs, by rw [h1]; rfl, .cons (sqT_sub e hs) h2, .cons hb h3⟩
    · cases q
theorem Fin.dct {Y : Sys} {c : Cf Y} {K : PySem.W.Frag} {es : List (Str × D)} {kvs : List (Key × V)} {Q : VK} (q : Fin K c .t (.dct es) Q) (ok : Ok c) (r : RepK K c.F kvs es) : ∀ p, c.H p = none → Q (.ref p) (upd c.H p (.dK kvs)) := fun p hp =>
  q (.ref p) ⟨c.F, upd c.H p (.dK kvs), c.s⟩ rfl (Step.own ok hp _) (ok.own hp _) ⟨p, rfl, ⟨⟨kvs, upd_same, r⟩, ok.fr hp, fun z => ok.has p z hp⟩, hp⟩
/-! sorting -/
theorem ins_perm (x : D) : ∀ l, (insD x l).Perm (x :: l)
  | [] => .refl _
  | y :: r => by
    unfold insD
    split
    · exact .refl _
    · exact ((ins_perm x r).cons y).trans (.swap x y r)
theorem sort_perm : ∀ l, (sortD l).Perm l
  | [] => .refl _
  | x :: r => (ins_perm x _).trans ((sort_perm r).cons x)
theorem leD_eq : leD = PySem.W.dataLe false D.py := rfl
theorem leD_total : PySem.W.TotalLe leD := PySem.W.sortLe_total (PyProof.Rows.listOrd PyProof.Rows.itemOrd) false fun b : D => PySem.W.keyToks b.py
theorem ins_sorted (x : D) : ∀ l, l.Pairwise (fun a b => leD a b = true) → (insD x l).Pairwise (fun a b => leD a b = true)
  | [], _ => List.pairwise_singleton _ _
  | y :: r, h => by
    have hc := List.pairwise_cons.mp h
    unfold insD
    split
    · rename_i hl
      refine List.pairwise_cons.mpr ⟨fun z hz => ?_, h⟩
      rcases List.mem_cons.mp hz with e | e
      · rw [e]; exact hl
      · exact leD_total.1 _ _ _ hl (hc.1 z e)
    · rename_i hl
      refine List.pairwise_cons.mpr ⟨fun z hz => ?_, ins_sorted x r hc.2⟩
      rcases List.mem_cons.mp ((ins_perm x r).mem_iff.mp hz) with e | e
      · rw [e]
        have := leD_total.2 x y
        rcases this with t | t
        · exact absurd t hl
        · exact t
      · exact hc.1 z e
theorem sort_sorted : ∀ l, (sortD l).Pairwise (fun a b => leD a b = true)
  | [] => .nil
  | x :: r => ins_sorted x _ (sort_sorted r)
theorem ins_stable (c x : D) : ∀ l, (insD x l).filter (PySem.W.sameRank leD c) = (x :: l).filter (PySem.W.sameRank leD c)
  | [] => rfl
  | y :: r => by
    unfold insD
    split
    · rfl
    · rename_i hl
      have ih := ins_stable c x r
      rw [List.filter_cons, ih]
      cases hx : PySem.W.sameRank leD c x <;> cases hy : PySem.W.sameRank leD c y <;> simp [List.filter_cons, hx, hy]
      exfalso
      unfold PySem.W.sameRank at hx hy
      rw [Bool.and_eq_true] at hx hy
      exact hl (leD_total.1 _ _ _ hx.2 hy.1)
theorem sort_stab (c : D) : ∀ l, (sortD l).filter (PySem.W.sameRank leD c) = l.filter (PySem.W.sameRank leD c)
  | [] => rfl
  | x :: r => by
    show (insD x (sortD r)).filter _ = _
    rw [ins_stable c x (sortD r), List.filter_cons, List.filter_cons, sort_stab c r]
theorem sortD_eq (l : List D) : sortD l = l.mergeSort leD := PySem.W.sort_unique leD_total (sort_sorted l) fun c => sort_stab c l
theorem Reps.zip {K : PySem.W.Frag} {F : Hp} : ∀ {vs : List V} {ds : List D}, Reps K F vs ds → (vs.zip ds).map (·.1) = vs ∧ (vs.zip ds).map (·.2) = ds
  | _, _, .nil => ⟨rfl, rfl⟩
  | _, _, .cons h r => by
    obtain ⟨a, b⟩ := Reps.zip r
    exact ⟨by rw [List.zip_cons_cons, List.map_cons, a], by rw [List.zip_cons_cons, List.map_cons, b]⟩
theorem Reps.mem {K : PySem.W.Frag} {F : Hp} : ∀ {vs : List V} {ds : List D}, Reps K F vs ds → ∀ b ∈ vs.zip ds, Rep K F b.1 b.2
  | _, _, .nil, b, h => by cases h
  | _, _, .cons h r, b, hb => by
    rw [List.zip_cons_cons] at hb
    rcases List.mem_cons.mp hb with e | e
    · rw [e]; exact h
    · exact Reps.mem r b e
theorem Reps.of {K : PySem.W.Frag} {F : Hp} : ∀ {bs : List (V × D)}, (∀ b ∈ bs, Rep K F b.1 b.2) → Reps K F (bs.map (·.1)) (bs.map (·.2))
  | [], _ => .nil
  | b :: bs, h => .cons (h b List.mem_cons_self) (Reps.of fun z hz => h z (List.mem_cons_of_mem _ hz))
theorem sort_rep {K : PySem.W.Frag} {F : Hp} {vs : List V} {ds : List D} (r : Reps K F vs ds) : Reps K F (((vs.zip ds).mergeSort (PySem.W.dataLe false fun b : V × D => b.2.py)).map (·.1)) (sortD ds) := by
  have e : sortD ds = ((vs.zip ds).mergeSort (PySem.W.dataLe false fun b : V × D => b.2.py)).map (·.2) := by
    have q := PySem.W.sort_maps (r := PySem.W.dataLe false fun b : V × D => b.2.py) (s := leD) (l := vs.zip ds) (fun b : V × D => b.2) (fun a _ b _ => rfl)
    rw [(Reps.zip r).2] at q
    rw [sortD_eq, ← q]
  rw [e]
  exact Reps.of fun b hb => Reps.mem r b (List.mem_mergeSort.mp hb)
theorem pys_map : ∀ ds : List D, pys ds = ds.map D.py
  | [] => rfl
  | d :: ds => by rw [List.map_cons, ← pys_map ds]; rfl
theorem shs_mem {n : Nat} : ∀ {ds : List D}, shs n ds = true → ∀ d ∈ ds, d.sh n = true
  | _ :: _, h, d, hd => by
    have h := Bool.and_eq_true_iff.mp h
    rcases List.mem_cons.mp hd with e | e
    · rw [e]; exact h.1
    · exact shs_mem h.2 d e
theorem sortOk_all {ds : List D} (h : sortOk ds = true) : shs 59 ds = true ∧ PySem.W.AllAlike (ds.map D.py) ∧ PySem.W.Sortable (ds.map D.py) := by
  unfold sortOk at h
  rw [Bool.and_eq_true, Bool.and_eq_true, Bool.or_eq_true] at h
  obtain ⟨⟨h1, h2⟩, h3⟩ := h
  refine ⟨h1, fun d hd d' hd' => ?_, ?_⟩
  · obtain ⟨x, hx, rfl⟩ := List.mem_map.mp hd
    obtain ⟨y, hy, rfl⟩ := List.mem_map.mp hd'
    exact List.all_eq_true.mp (List.all_eq_true.mp h2 x hx) y hy
  · rcases h3 with h3 | h3
    · refine .inl fun d hd => ?_
      obtain ⟨x, hx, rfl⟩ := List.mem_map.mp hd
      have := List.all_eq_true.mp h3 x hx
      unfold tup1 at this
      split at this
      · exact ⟨_, _, rfl⟩
      · cases this
    · refine .inr fun d hd => ?_
      obtain ⟨x, hx, rfl⟩ := List.mem_map.mp hd
      have := List.all_eq_true.mp h3 x hx
      have hsx := shs_mem h1 x hx
      cases x with
      | non => cases this
      | tup _ => cases this
      | dct _ => rw [sh_dct] at hsx; cases hsx
      | adr _ => rw [sh_adr] at hsx; cases hsx
      | scr _ => rw [sh_scr] at hsx; cases hsx
      | bl _ => exact ⟨fun z => (nomatch z), fun _ z => (nomatch z)⟩
      | int _ => exact ⟨fun z => (nomatch z), fun _ z => (nomatch z)⟩
      | str _ => exact ⟨fun z => (nomatch z), fun _ z => (nomatch z)⟩
      | lst _ => exact ⟨fun z => (nomatch z), fun _ z => (nomatch z)⟩
theorem b1_use {Y : Sys} {c : Cf Y} {K : PySem.W.Frag} {H1 : Hp} {k1 k : K3} {x : V} {a d : D} {f : B1} {Q : VK} (ok : Ok c) (hx : Is K H1 c k1 x a) (e : b1D f a = some (k, d)) (q : Fin K c k d Q) : r1 K f [x] c.H Q := by
  unfold b1D at e
  split at e
  · cases e
    obtain ⟨p, vs, rfl, h1, r⟩ := hx.lst ok
    refine ⟨_, _, rfl, .inl ⟨vs, .inl (.inl h1), rfl⟩, ?_⟩
    rw [r.length]
    exact q.here ok (.int _)
  · cases e
    obtain ⟨p, vs, rfl, h1, _, r⟩ := hx.tup ok
    refine ⟨_, _, rfl, .inr ⟨vs, h1, rfl⟩, ?_⟩
    rw [r.length]
    exact q.here ok (.int _)
  · split at e
    · rename_i hl
      cases e
      rw [hx.str]
      exact ⟨_, _, rfl, ⟨szM hl, rfl⟩, q.here ok (.int _)⟩
    · cases e
  · cases e
    exact ⟨_, by rw [hx.int], q.here ok (.int _)⟩
  · cases e
    exact .inl ⟨_, by rw [hx.int], q.here ok (.int _)⟩
  · cases e
    exact .inr ⟨_, by rw [hx.bl], q.here ok (.int _)⟩
  · cases e
    obtain ⟨p, vs, rfl, h1, r⟩ := hx.lst ok
    exact ⟨p, vs, rfl, .inl ⟨.inl (.inl h1), q.tup ok r⟩⟩
  · cases e
    obtain ⟨p, vs, rfl, h1, h1', r⟩ := hx.tup ok
    exact ⟨p, vs, rfl, .inr ⟨h1, q.here ok (.tup h1'.1 h1'.2 r)⟩⟩
  · cases e
    obtain ⟨p, vs, rfl, h1, r⟩ := hx.lst ok
    exact ⟨p, vs, rfl, .inl (.inl (.inl h1)), q.lst ok r⟩
  · cases e
    obtain ⟨p, vs, rfl, h1, h1', r⟩ := hx.tup ok
    exact ⟨p, vs, rfl, .inr h1, q.lst ok r⟩
  · obtain ⟨bs, e1, e2⟩ := Option.map_eq_some_iff.mp e
    cases e2
    obtain ⟨p, vs, rfl, h1, r⟩ := hx.lst ok
    have e3 := bools_rep r e1
    subst e3
    exact ⟨p, bs, rfl, .inl (.inl h1), q.here ok (.bl _)⟩
  · obtain ⟨bs, e1, e2⟩ := Option.map_eq_some_iff.mp e
    cases e2
    obtain ⟨p, vs, rfl, h1, r⟩ := hx.lst ok
    have e3 := bools_rep r e1
    subst e3
    exact ⟨p, bs, rfl, .inl (.inl h1), q.here ok (.bl _)⟩
  · obtain ⟨es, e1, e2⟩ := Option.map_eq_some_iff.mp e
    cases e2
    obtain ⟨p, vs, rfl, h1, r⟩ := hx.lst ok
    obtain ⟨ps, kvs, rfl, h2, h3⟩ := pairs_rep ok.sub r e1
    exact ⟨p, ps, kvs, rfl, .inl (.inl (.inl h1)), h2, q.dct ok (h3.merge .nil)⟩
  · obtain ⟨es, e1, e2⟩ := Option.map_eq_some_iff.mp e
    cases e2
    obtain ⟨p, vs, rfl, h1, h1', r⟩ := hx.tup ok
    obtain ⟨ps, kvs, rfl, h2, h3⟩ := pairs_rep ok.sub r e1
    exact ⟨p, ps, kvs, rfl, .inr ⟨h1, h1'.2.sub ok.sub⟩, h2, q.dct ok (h3.merge .nil)⟩
  · split at e
    · rename_i ds hs
      cases e
      obtain ⟨p, vs, rfl, h1, r⟩ := hx.lst ok
      obtain ⟨s1, s2, s3⟩ := sortOk_all hs
      obtain ⟨z1, z2⟩ := Reps.zip r
      have z3 : (vs.zip ds).map (fun b => b.2.py) = ds.map D.py := by
        rw [← z2, List.map_map, z2]
        rfl
      refine ⟨p, vs.zip ds, rfl, by rw [z1]; exact .inl (.inl h1), ?_, by rw [z3]; exact s2, by rw [z3]; exact s3, fun b hb => ?_, q.lst ok (sort_rep r)⟩
      · rw [z1, z3, ← pys_map]
        exact pys_dp ok.sub r s1
      · have hm : b.2 ∈ ds := by rw [← z2]; exact List.mem_map.mpr ⟨b, hb, rfl⟩
        exact Nat.le_trans (py_sh 59 b.2 (shs_mem s1 _ hm)).2 (by decide)
    · cases e
  · split at e
    · rename_i ms m r' hi
      cases e
      obtain ⟨p, vs, rfl, h1, r⟩ := hx.lst ok
      have e3 := ints_rep r hi
      subst e3
      obtain ⟨s1, s2, s3⟩ := maxL_spec r' m
      refine ⟨p, _, rfl, .inl (.inl h1), Nat.succ_pos _, fun M hM hmax => ?_⟩
      have : M = maxL r' m := by
        have l1 : maxL r' m ≤ M := by
          rcases s1 with s1 | s1
          · rw [s1]; exact hmax m List.mem_cons_self
          · exact hmax _ (List.mem_cons_of_mem _ s1)
        have l2 : M ≤ maxL r' m := by
          rcases List.mem_cons.mp hM with z | z
          · rw [z]; exact s2
          · exact s3 M z
        omega
      rw [this]
      exact q.here ok (.int _)
    · cases e
  · cases e
/-! ### methods of one argument -/
def nmM : M1 → Str
  | .sindex => "index" | .lindex => "index" | .lcount => "count"
def tyM : M1 → String
  | .sindex => "str" | .lindex => "list" | .lcount => "list"
def idM : M1 → String
  | .sindex => "str.index" | .lindex => "list.index" | .lcount => "list.count"
def rM (K : PySem.W.Frag) : M1 → V → List V → Hp → VK → Prop
  | .sindex => fun x xs H Q => ∃ a b i rest, x = .str a ∧ xs = [.str b] ∧ Builtin.Str.occurrences a b 0 a.length 1 = i :: rest ∧ Q (.int (i : Nat)) H
  | .lindex => rIndexD K
  | .lcount => rCntD K
theorem mt_M {X : Cx} {n : Nat} (hr : Room n X.A) (f : M1) : MtR X (idM f) (rM X.K f) := by
  cases f with
  | sindex => exact mt_sindex
  | lindex => exact mt_indexD (hr65 hr)
  | lcount => exact mt_countD (hr65 hr)
theorem rcv_ty {Y : Sys} {c : Cf Y} {K : PySem.W.Frag} {H1 : Hp} {k1 : K3} {x : V} {a : D} {f : M1} (ok : Ok c) (hx : Is K H1 c k1 x a) (h : rcvD f a = true) : tyV K (tyM f) x c.H := by
  unfold rcvD at h
  split at h
  · rw [hx.str]; exact rfl
  · obtain ⟨p, vs, rfl, h1, r⟩ := hx.lst ok
    exact .inl ⟨rfl, vs, .inl (.inl h1)⟩
  · obtain ⟨p, vs, rfl, h1, r⟩ := hx.lst ok
    exact .inl ⟨rfl, vs, .inl (.inl h1)⟩
  · cases h
theorem countP_pys {e : D} (he : e.sh 60 = true) : ∀ (ds : List D), shs 59 ds = true → ((pys ds).countP fun z => PyData.eqv z e.py) = ds.countP fun y => deq y e
  | [], _ => rfl
  | d :: ds, h => by
    have h := Bool.and_eq_true_iff.mp h
    show (d.py :: pys ds).countP _ = _
    rw [List.countP_cons, List.countP_cons, countP_pys he ds h.2, py_eqv 59 60 d e h.1 he]
theorem pys_get {i : Nat} {ds : List D} : (pys ds)[i]? = ds[i]?.map D.py := by rw [pys_map, List.getElem?_map]
theorem m1_use {Y : Sys} {c : Cf Y} {K : PySem.W.Frag} {H1 H2 : Hp} {k1 k2 k : K3} {x y : V} {a b d : D} {f : M1} {Q : VK} (ok : Ok c) (hx : Is K H1 c k1 x a) (hy : Is K H2 c k2 y b) (e : m1D f a b = some (k, d)) (q : Fin K c k d Q) : rM K f x [y] c.H Q := by
  unfold m1D at e
  split at e
  · split at e
    · rename_i i rest ho
      cases e
      exact ⟨_, _, _, _, hx.str, by rw [hy.str], ho, q.here ok (.int _)⟩
    · cases e
  · split at e
    · rename_i ds hs
      have hs := Bool.and_eq_true_iff.mp hs
      obtain ⟨j, e1, e2⟩ := Option.map_eq_some_iff.mp e
      cases e2
      obtain ⟨g1, g2, g3⟩ := List.findIdx?_eq_some_iff_getElem.mp e1
      have hd := hx.dp ok (show (D.lst ds).sh 60 = true from hs.2)
      obtain ⟨p, vs, rfl, h1, r⟩ := hx.lst ok
      refine ⟨p, y, _, pys ds, j, (ds[j]).py, rfl, rfl, hd, hy.dp ok hs.1, shaped_lst hs.2, shaped_of hs.1, ?_, ?_, ?_, q.here ok (.int _)⟩
      · rw [pys_get, List.getElem?_eq_getElem g1]; rfl
      · rw [py_eqv 59 60 _ _ (shs_mem hs.2 _ (List.getElem_mem g1)) hs.1]; exact g2
      · intro m z hm hz
        have hml : m < ds.length := by omega
        rw [pys_get, List.getElem?_eq_getElem hml] at hz
        cases hz
        rw [py_eqv 59 60 _ _ (shs_mem hs.2 _ (List.getElem_mem hml)) hs.1]
        have := g3 m hm
        simpa using this
    · cases e
  · split at e
    · rename_i ds hs
      have hs := Bool.and_eq_true_iff.mp hs
      cases e
      have hd := hx.dp ok (show (D.lst ds).sh 60 = true from hs.2)
      obtain ⟨p, vs, rfl, h1, r⟩ := hx.lst ok
      refine ⟨p, vs, y, _, pys ds, rfl, rfl, .inl (.inl h1), pys_dp ok.sub r hs.2, hy.dp ok hs.1, shaped_lst hs.2, shaped_of hs.1, ?_⟩
      rw [countP_pys hs.1 ds hs.2]
      exact q.here ok (.int _)
    · cases e
  · cases e
/-! ### isinstance -/
def nmT : Ty → String
  | .int => "int" | .bool => "bool" | .tuple => "tuple" | .str => "str" | .list => "list"
theorem isi_use {Y : Sys} {c : Cf Y} {K : PySem.W.Frag} {H1 : Hp} {k1 : K3} {x : V} {a : D} {t : Ty} {b : Bool} {Q : VK} (ok : Ok c) (hx : Is K H1 c k1 x a) (e : isiD t a = some b) (q : Q (.bl b) c.H) : rIsi K [x, .ty (nmT t)] c.H Q := by
  have go : ∀ {s : String}, TyX K c.H x (.type s) → kitB s (nmT t) = some b → rIsi K [x, .ty (nmT t)] c.H Q := fun h1 h2 => ⟨x, _, _, _, b, rfl, .ty _, h1, kit_ty h2, q⟩
  cases a with
  | non =>
    rw [hx.non] at go ⊢
    refine go (.base .non) ?_
    cases t <;> (cases e; first | (show _ = some true; decide +kernel) | (show _ = some false; decide +kernel))
  | bl v =>
    rw [hx.bl] at go ⊢
    refine go (.base (.bl _)) ?_
    cases t <;> (cases e; first | (show _ = some true; decide +kernel) | (show _ = some false; decide +kernel))
  | int v =>
    rw [hx.int] at go ⊢
    refine go (.base (.int _)) ?_
    cases t <;> (cases e; first | (show _ = some true; decide +kernel) | (show _ = some false; decide +kernel))
  | str v =>
    rw [hx.str] at go ⊢
    refine go (.base (.str _)) ?_
    cases t <;> (cases e; first | (show _ = some true; decide +kernel) | (show _ = some false; decide +kernel))
  | tup ds =>
    obtain ⟨p, vs, rfl, h1, h1', r⟩ := hx.tup ok
    refine go (s := "tuple") ?_ ?_
    · rcases h1 with (h | ⟨o, h⟩) | ⟨o, its, n, hk, hc, _⟩
      · exact .base (.tup h)
      · exact .fTuple h
      · exact .kTuple hk hc
    · cases t <;> (cases e; first | (show _ = some true; decide +kernel) | (show _ = some false; decide +kernel))
  | lst ds =>
    obtain ⟨p, vs, rfl, h1, r⟩ := hx.lst ok
    refine go (.base (.lst h1)) ?_
    cases t <;> (cases e; first | (show _ = some true; decide +kernel) | (show _ = some false; decide +kernel))
  | dct _ => cases t <;> cases e
  | adr _ => cases t <;> cases e
  | scr _ => cases t <;> cases e
/-! ### what is walked -/
def iSeq (K : PySem.W.Frag) (tl : TE) : TI := fun σ H R => tl σ H fun x H1 => (∃ a, x = .ref a ∧ (∃ xs, SqL K H1 a xs) ∧ R (Itl K a) H1) ∨ (∃ a, x = .ref a ∧ (∃ xs, SqT K H1 a xs) ∧ R (Itt K a) H1) ∨ ∃ z, x = .str z ∧ R (Its z) H1
theorem pi_seq {X : Cx} {tg l : Expr} {tl : TE} (hl : PE X l tl) : PI X tg l (iSeq X.K tl) := by
  refine ⟨fun pins s σ H R I h => ?_⟩
  refine thn (hl.run pins s σ H _ I h) fun v s1 ⟨x, H1, I1, r1, q1⟩ => ?_
  rcases q1 with ⟨a, e, ⟨xs, hq⟩, q⟩ | ⟨a, e, ⟨xs, hq⟩, q⟩ | ⟨z, e, q⟩
  · subst e
    cases r1
    obtain ⟨its, rv, p, hz⟩ := I1.list hq
    refine wpAny_pyIter_list p.isList ?_
    refine ⟨s1.heap.objs.size, [s1.heap.objs.size], _, _, H1, rfl, I1.kept (t' := s1.toks) fun b o e => Heap.get?_push_of_some _ e, turn_list a _, ⟨_, Heap.get?_push_size _ rfl, rfl, rfl⟩, fun b hb => ?_, q⟩
    have e : b = s1.heap.objs.size := by simpa using hb
    subst e
    exact I1.fpOk (Nat.le_refl _) (I1.hok.fresh (Nat.le_refl _))
  · subst e
    cases r1
    obtain ⟨its, rv, p, hz⟩ := I1.tuple hq
    refine wpAny_pyIter_tuple (show s1.heap.IsTuple a its.toArray from p) ?_
    refine ⟨s1.heap.objs.size, [s1.heap.objs.size], _, _, H1, rfl, I1.kept (t' := s1.toks) fun b o e => Heap.get?_push_of_some _ e, turn_tuple a _, ⟨_, Heap.get?_push_size _ rfl, rfl, rfl⟩, fun b hb => ?_, q⟩
    have e : b = s1.heap.objs.size := by simpa using hb
    subst e
    exact I1.fpOk (Nat.le_refl _) (I1.hok.fresh (Nat.le_refl _))
  · subst e
    obtain ⟨t, rfl⟩ := r1
    cases ha : z.cps.all (· < 128)
    · exact wpAny_pyIter_wide ha (pi_one (tk := s1.toks) I1 _ (turn_str _ z t "str_iterator" (.inr rfl)) ⟨_, Heap.get?_push_size _ rfl, rfl, rfl⟩ q)
    · exact wpAny_pyIter_ascii ha (pi_one (tk := s1.toks) I1 _ (turn_str _ z t "str_ascii_iterator" (.inl rfl)) ⟨_, Heap.get?_push_size _ rfl, rfl, rfl⟩ q)
end Mf
set_option Elab.async false
set_option linter.all false
set_option maxRecDepth 100000
set_option maxHeartbeats 4000000
namespace Mf
open PySem L2 PySem.Spec PyProof.Rows
/-! ### sets of ints and texts, made from a list, then sorted -/
def kOf (e : Int × Value) : Key := match e.2 with | .int k _ => .inl k | .str x _ => .inr x | _ => .inl 0
def GdK (w : World) (e : Int × Value) : Prop := ∃ k : Key, RelV (kV k) e.2 ∧ e.1 = keyH w k
theorem kOf_rel {k : Key} {h : Int} {u : Value} (r : RelV (kV k) u) : kOf (h, u) = k := by
  cases k with
  | inl i => obtain ⟨t, e⟩ := (show ∃ t, u = Value.int i t from r); subst e; rfl
  | inr x => obtain ⟨t, e⟩ := (show ∃ t, u = Value.str x t from r); subst e; rfl
def memK (ks : List Key) (j : Key) : Bool := ks.any fun x => decide (x = j)
theorem memK_iff {ks : List Key} {j : Key} : memK ks j = true ↔ j ∈ ks := by
  unfold memK
  rw [List.any_eq_true]
  exact ⟨fun ⟨x, hx, e⟩ => of_decide_eq_true e ▸ hx, fun h => ⟨j, h, decide_eq_true rfl⟩⟩
def encK : Key → PyData
  | .inl i => .int i
  | .inr x => .str x
def SetM (w : World) (h : Heap) (a : Addr) (S : Key → Bool) (n : Nat) : Prop :=
  ∃ o es ep t, h.get? a = some o ∧ o.ExactSet ∧ o.data = .set es ep t ∧ (∀ e ∈ es.toList, GdK w e) ∧ (es.toList.map kOf).Nodup ∧ (∀ k, S k = true ↔ k ∈ es.toList.map kOf) ∧
    es.size < scanBound ∧ t.fits es.size = true ∧ es.size = n ∧ Ris t.place.toList ∧ (w.params.followText "set-order" = true ∨ t.led = true)
section
variable {P : Program} {w : World} {h h' : Heap} {a : Addr} {S : Key → Bool} {n : Nat}
theorem SetM.at (R : SetM w h a S n) (k : ∀ o, h.get? a = some o → h'.get? a = some o) : SetM w h' a S n := let ⟨o, es, ep, t, ho, r⟩ := R; ⟨o, es, ep, t, k o ho, r⟩
theorem SetM.congr {S' : Key → Bool} (R : SetM w h a S n) (e : ∀ k, S' k = S k) : SetM w h a S' n := by
  rw [show S' = S from funext e]; exact R
theorem gd_elems {l : List (Int × Value)} (g : ∀ e ∈ l, GdK w e) : ElemsOf (mixKind P w) l := fun e he => by
  obtain ⟨k, h1, h2⟩ := g e he
  exact ⟨⟨k, kV_is h1, h2⟩, key_scan h1⟩
theorem gd_is {e : Int × Value} (g : GdK w e) (k : Key) : (mixKind P w).is k e.2 = true ↔ kOf e = k := by
  obtain ⟨h0, u⟩ := e
  obtain ⟨k0, h1, _⟩ := g
  rw [kOf_rel h1]
  constructor
  · intro z
    exact (mixKind P w).inj u k0 k (kV_is h1) z
  · intro z; subst z; exact kV_is h1
theorem gd_mem {l : List (Int × Value)} (g : ∀ e ∈ l, GdK w e) (k : Key) : k ∈ l.map kOf ↔ ∃ e ∈ l, (mixKind P w).is k e.2 = true := by
  rw [List.mem_map]
  exact ⟨fun ⟨e, he, q⟩ => ⟨e, he, (gd_is (g e he) k).2 q⟩, fun ⟨e, he, q⟩ => ⟨e, he, (gd_is (g e he) k).1 q⟩⟩
end
section
variable {P : Program} {w : World} {A : Around} {E : Value → Shared → Prop} {s : Shared} {a : Addr} {S : Key → Bool} {n : Nat}
theorem setM_tail {g : Bool → PySem.Sem Unit} (hg : ∀ (b : Bool) (s₁ : Shared) (Q' : Unit → Shared → Prop), Q' () s₁ → wpAny (model P w) A (g b) Q' E s₁)
    {o : Obj} {es : Array (Int × Value)} {ep : Nat} {t : SetTable} (ho : s.heap.get? a = some o) (hex : o.ExactSet) (hd : o.data = .set es ep t)
    {es1 : Array (Int × Value)} {t2 : SetTable} {S' : Key → Bool} (g1 : ∀ e ∈ es1.toList, GdK w e) (nd1 : (es1.toList.map kOf).Nodup) (m1 : ∀ k, S' k = true ↔ k ∈ es1.toList.map kOf)
    (hb1 : es1.size < scanBound) (hf2 : t2.fits es1.size = true) (hr : Ris t2.place.toList) (hl : w.params.followText "set-order" = true ∨ t2.led = true) {wasD : Bool} {R : Option Bool → Shared → Prop}
    (hR : ∀ h', Heap.SameBut a s.heap h' → SetM w h' a S' es1.size → R (some true) { s with heap := h' }) :
    wpAny (model P w) A (do
        storeSet a es1 t2
        if (!wasD && t2.tooFull) = true then do
            g (relayAll t2 es1 (SetTable.grown es1.size)).2.2; storeSet a (relayAll t2 es1 (SetTable.grown es1.size)).1 (relayAll t2 es1 (SetTable.grown es1.size)).2.1
            pure (some true)
          else pure (some true)) R E s := by
  refine wpAny_bind (wpAny_storeSet_of ho hd ?_ (fits_of_scanBound hb1))
  have ho1 := store_at (es' := es1) (t' := t2) ho hd
  have sb1 := Heap.SameBut.update s.heap a (Obj.putSet es1 t2)
  split
  · have q1 := relayAll_perm t2 es1 (SetTable.grown es1.size)
    have q2 := relayAll_fits t2 es1 (SetTable.grown es1.size)
    have q3 := relayAll_ris t2 es1 (SetTable.grown es1.size)
    have q4 := relayAll_led t2 es1 (SetTable.grown es1.size)
    generalize relayAll t2 es1 (SetTable.grown es1.size) = Z at q1 q2 q3 q4 ⊢
    obtain ⟨es2, t3, gv⟩ := Z
    dsimp only at q1 q2 q3 q4 ⊢
    have hsz : es2.size = es1.size := by rw [← Array.length_toList, q1.length_eq, Array.length_toList]
    have hb2 : es2.size < scanBound := hsz ▸ hb1
    refine wpAny_bind (hg _ _ _ (wpAny_bind (wpAny_storeSet_of ho1 rfl (wpAny_pure (hR _ (sb1.trans (Heap.SameBut.update _ a _)) ?_)) (fits_of_scanBound hb2))))
    exact ⟨_, es2, _, t3, store_at (es' := es2) (t' := t3) ho1 rfl, hex, rfl, fun e he => g1 e (q1.mem_iff.mp he), (q1.map kOf).nodup_iff.mpr nd1, fun k => (m1 k).trans (q1.map kOf).mem_iff.symm, hb2, q2, hsz, q3, hl.imp id fun z => by rw [q4]; exact z⟩
  · exact wpAny_pure (hR _ sb1 ⟨_, es1, _, t2, ho1, hex, rfl, g1, nd1, m1, hb1, hf2, rfl, hr, hl⟩)
theorem setM_add {k : Key} {u : Value} (ru : RelV (kV k) u) {Q : Bool → Shared → Prop} (R : SetM w s.heap a S n) (room : n + 1 < scanBound)
    (hQ : ∀ h', Heap.SameBut a s.heap h' → SetM w h' a (fun j => S j || decide (j = k)) (if S k = true then n else n + 1) → Q (!S k) { s with heap := h' }) :
    wpAny (model P w) A (setAddHashed a u ((mixKind P w).hash k)) Q E s := by
  obtain ⟨o, es, ep, t, ho, hex, hd, g, nd, hm, hb, hf, hn, hr, hl⟩ := R
  have hsc : u.scannable = true := key_scan ru
  have hel : ElemsOf (mixKind P w) es.toList := gd_elems g
  unfold setAddHashed setAddHashedIn
  refine wpAny_holding (wpAny_bind (wpAny_setState_of ho hd hf ?_))
  dsimp only
  rw [byScan_of hsc hb hel]
  simp only [↓reduceIte]
  unfold setAddByScan
  refine wpAny_bind (wpAny_bind (wpAny_rule (wpAny_bind (wpAny_setScan_of (kV_is (P := P) ru) ho hd hf hel ?_))))
  cases hfi : List.findIdx? (fun e => (mixKind P w).is k e.2) es.toList with
  | some j =>
    dsimp only
    obtain ⟨hj, pj, _⟩ := List.findIdx?_eq_some_iff_getElem.mp hfi
    have hSk : S k = true := (hm k).2 ((gd_mem (P := P) (w := w) g k).2 ⟨es.toList[j], List.getElem_mem hj, pj⟩)
    have q := hQ s.heap (Heap.SameBut.refl a s.heap) ⟨o, es, ep, t, ho, hex, hd, g, nd, fun i => by
      rw [Bool.or_eq_true, decide_eq_true_eq, ← hm i]; exact ⟨fun z => z.elim id (fun e => e ▸ hSk), .inl⟩, hb, hf, by rw [if_pos hSk]; exact hn, hr, hl⟩
    rw [hSk] at q
    exact wpAny_pure (wpAny_pure q)
  | none =>
    dsimp only
    have hnk : k ∉ es.toList.map kOf := fun z => by
      obtain ⟨e, he, q⟩ := (gd_mem (P := P) (w := w) g k).1 z
      have c := List.findIdx?_eq_none_iff.mp hfi e he
      rw [q] at c; cases c
    have hSk : S k = false := by
      cases q : S k with
      | false => rfl
      | true => exact absurd ((hm k).1 q) hnk
    have hgw : ∀ (b : Bool) {s₁ : Shared} {Q' : Unit → Shared → Prop}, Q' () s₁ → wpAny (model P w) A (match b with | true => rule "set.scan.the-table-gave-way" | false => pure ()) Q' E s₁ := fun b s₁ Q' q => by
      cases b
      · exact wpAny_pure q
      · exact wpAny_rule q
    have q1 := layNew_perm t es ((mixKind P w).hash k) u
    have q2 := layNew_fits t es ((mixKind P w).hash k) u
    have q3 := layNew_ris t es ((mixKind P w).hash k) u hr
    have q4 := layNew_led t es ((mixKind P w).hash k) u
    generalize layNew t es ((mixKind P w).hash k) u = Z at q1 q2 q3 q4 ⊢
    obtain ⟨es1, t1, wd, gv⟩ := Z
    dsimp only at q1 q2 q3 q4 ⊢
    rw [Array.toList_push] at q1
    have pc : es1.toList.Perm (((mixKind P w).hash k, u) :: es.toList) := q1.trans (List.perm_append_singleton _ _)
    have pk : (es1.toList.map kOf).Perm (k :: es.toList.map kOf) := by
      have := pc.map kOf
      rwa [List.map_cons, kOf_rel ru] at this
    have g1 : ∀ e ∈ es1.toList, GdK w e := fun e he => by
      rcases List.mem_cons.mp (pc.mem_iff.mp he) with z | z
      · rw [z]; exact ⟨k, ru, rfl⟩
      · exact g e z
    have nd1 : (es1.toList.map kOf).Nodup := pk.nodup_iff.mpr (List.nodup_cons.mpr ⟨hnk, nd⟩)
    have m1 : ∀ i, (S i || decide (i = k)) = true ↔ i ∈ es1.toList.map kOf := fun i => by
      rw [Bool.or_eq_true, decide_eq_true_eq, hm i, pk.mem_iff, List.mem_cons]; exact Or.comm
    have hsz : es1.size = n + 1 := by rw [← Array.length_toList, pc.length_eq, List.length_cons, Array.length_toList, hn]
    have hb1 : es1.size < scanBound := hsz ▸ room
    have hled : w.params.followText "set-order" = true ∨ t1.led = true := hl.imp id fun z => by rw [q4]; exact z
    have fin : ∀ h', Heap.SameBut a s.heap h' → SetM w h' a (fun j => S j || decide (j = k)) es1.size → Q true { s with heap := h' } := fun h' sb r => by
      have q := hQ h' sb
      rw [hSk] at q; rw [hsz] at r
      exact q r
    refine wpAny_bind (hgw _ ?_)
    have hg2 : ∀ (b : Bool) (s₁ : Shared) (Q' : Unit → Shared → Prop), Q' () s₁ → wpAny (model P w) A (match b with | true => rule "set.scan.the-table-gave-way" | false => pure ()) Q' E s₁ := fun b s₁ Q' q => hgw b q
    split
    · refine wpAny_bind ?_
      rw [hashByValue_scannable 8 hsc]
      refine wpAny_pure (setM_tail ?_ ho hex hd g1 nd1 m1 hb1 ?_ ?_ ?_ ?_)
      · intro b s₁ Q' q; cases b <;> first | exact wpAny_pure q | exact wpAny_rule q
      · first | (split <;> first | exact q2 | exact SetTable.fits_plain_off q2) | exact q2
      · first | (split <;> exact q3) | exact q3
      · first | (split <;> exact hled) | exact hled
      · intro h' sb r; dsimp only; exact wpAny_pure (fin h' sb r)
    · refine wpAny_bind (wpAny_pure ?_)
      simp only [↓reduceIte]
      refine setM_tail ?_ ho hex hd g1 nd1 m1 hb1 q2 q3 hled ?_
      · intro b s₁ Q' q; cases b <;> first | exact wpAny_pure q | exact wpAny_rule q
      · intro h' sb r; dsimp only; exact wpAny_pure (fin h' sb r)
/-- the loop of set(l) -/
theorem setM_loop {I : Addr} {fp wr : List Addr} {G : Array GenState → Array GenState → Prop} {n : Nat} {Pv : Nat → Value → Prop} {St : Nat → Shared → Prop} {R : Result → Shared → Prop}
    (W : WalksS P w A.in1 I fp wr G n Pv St) (D : Addr) (hSf : D ∉ fp) (ks : List Key) (hn : n = ks.length) (hb : ks.length + 1 < scanBound) (hval : ∀ i v, Pv i v → ∃ k, ks[i]? = some k ∧ RelV (kV k) v) :
    ∀ (k i : Nat) (s : Shared), n - i = k → i ≤ n → St i s → (∃ c, c ≤ i ∧ SetM w s.heap D (memK (ks.take i)) c) →
      (∀ s' c, Moved (D :: wr) G s s' → c ≤ n → SetM w s'.heap D (memK ks) c → R (.ok (.ret .none)) s') → codeAny (model P w) A (.builtin "set.update.loop" ⟨[.ref D, .ref I], []⟩) R s := by
  have hSw : D ∉ wr := fun h => hSf (W.sub _ h)
  have hsub : ∀ b ∈ wr, b ∈ D :: wr := fun b hb => List.mem_cons_of_mem _ hb
  intro k
  induction k with
  | zero =>
    intro i s hk' hi hst ⟨c, hc, hS⟩ hR
    obtain rfl : i = n := by omega
    refine codeAny_builtin F.entry_set_update_loop ?_
    rw [Around.under_plainId F.plain_set_update_loop _]
    show wpAny _ A.in1 (pyNext (.ref I) >>= _) _ _ s
    refine wpAny_bind (W.done s _ _ hst fun s' hm => ?_)
    show wpAny _ A.in1 (ret Value.none) _ _ s'
    rw [show ks.take i = ks from List.take_of_length_le (by omega)] at hS
    exact wpAny_pure (hR s' c (hm.mono hsub) hc (hS.at fun o e => hm.heap D o hSw e))
  | succ k ih =>
    intro i s hk' hi hst ⟨c, hc, hS⟩ hR
    have hlt : i < n := by omega
    refine codeAny_builtin F.entry_set_update_loop ?_
    rw [Around.under_plainId F.plain_set_update_loop _]
    show wpAny _ A.in1 (pyNext (.ref I) >>= _) _ _ s
    refine wpAny_bind (W.item i s _ _ hlt hst fun v s' hP hst' hm => ?_)
    obtain ⟨z, hz, rv⟩ := hval i v hP
    have hS' : SetM w s'.heap D (memK (ks.take i)) c := hS.at fun o e => hm.heap D o hSw e
    show wpAny _ A.in1 (holding [v] (setAdd D v) >>= _) _ _ s'
    refine wpAny_bind (wpAny_holding ?_)
    unfold setAdd
    refine wpAny_holding (wpAny_bind ((mixKind P w).pyHash (k := z) (kV_is rv) ?_))
    refine setM_add (s := { s' with toks := s'.toks + 1 }) rv hS' (by omega) fun h' hsb hS2 => ?_
    have hS3 : SetM w h' D (memK (ks.take (i + 1))) (if memK (ks.take i) z = true then c else c + 1) := hS2.congr fun j => by
      unfold memK
      rw [List.take_add_one, hz, List.any_append]
      simp [eq_comm]
    have hc3 : (if memK (ks.take i) z = true then c else c + 1) ≤ i + 1 := by split <;> omega
    refine wpAny_pure ⟨plainId_quiet F.plain_set_update_loop _, ih (i + 1) _ (by omega) hlt (W.frame _ s' _ _ hst' (Nat.le_succ _) fun b hb o e => (hsb.2 b (fun h : b = D => hSf (h ▸ hb))).trans e) ⟨_, hc3, hS3⟩ fun s'' c2 hm'' hc'' hS'' => ?_⟩
    exact hR s'' c2 (Moved.trans W.gtrans ((hm.mono hsub).then_heap (Nat.le_succ _) fun b o hb e => (hsb.2 b (fun h : b = D => hb (h ▸ List.mem_cons_self))).trans e) hm'') hc'' hS''
theorem setM_new {h : Heap} {ks : List Key} (ho : h.get? a = some { cls := .type "set", dict := none, data := .set #[] 0 (.fresh 0 0 (!w.params.followText "set-order")) }) : SetM w h a (memK (ks.take 0)) 0 := by
  refine ⟨_, #[], 0, _, ho, ⟨rfl, rfl, rfl⟩, rfl, (fun e he => by simp at he), (by simp), (fun k => by simp [memK]), (by decide), (by rfl), rfl, List.Pairwise.nil, ?_⟩
  show _ ∨ (!w.params.followText "set-order") = true
  cases w.params.followText "set-order" <;> simp
/-- set(l) -/
theorem setM_call {l : Addr} {items : Array Value} (ks : List Key) {Q : Value → Shared → Prop} (hh : A.handled = none) (hl : s.heap.IsList l items) (hit : Vals (ks.map kV) items.toList) (hb : ks.length + 1 < scanBound)
    (h : ∀ (h' : Heap) (tk c : Nat), SetM w h' s.heap.objs.size (memK ks) c → c ≤ ks.length → (∀ b o, s.heap.get? b = some o → h'.get? b = some o) → Q (.ref s.heap.objs.size) { s with heap := h', toks := tk }) :
    wpAny (model P w) A (call (.type "set") [.ref l]) Q E s := by
  have hisz : items.size = ks.length := by
    have q := hit.length
    rw [List.length_map, Array.length_toList] at q
    exact q.symm
  obtain ⟨c, tl, hmro⟩ := F.called_set.mro
  have hmade := F.called_set.made
  have hsub := F.called_set.sub
  refine wpAny_call (codeAny_of_tree ?_)
  show wpAny _ _ (callAny (.type "set") _) _ _ _
  refine wpAny_pure ⟨Code.quiet_builtin _ (by decide +kernel), codeAny_builtin F.entry_type_call ?_⟩
  rw [Around.under_plain (weight_type_call_type "set" [.ref l] []) rfl]
  have h1 := F.called_set.notType
  have h2 := F.called_set.canCreate
  have hct := F.typeCall_set_1 (.ref l)
  repeat (any_goals (first | assumption | wp_step))
  refine codeAny_mono (code_set_led1 (.ref l) (E := E) (Q₁ := fun obj s₁ => obj = .ref s.heap.objs.size ∧ s₁ = { s with heap := s.heap.push { cls := .type "set", dict := none, data := .set #[] 0 (.fresh 0 0 (!w.params.followText "set-order")) } }) ⟨rfl, rfl⟩) fun r s₁ hr => ?_
  cases r with
  | error e => exact hr
  | ok fl =>
    cases fl with
    | ret obj =>
      obtain ⟨rfl, rfl⟩ := hr
      have hNw : (s.heap.push { cls := .type "set", dict := none, data := .set #[] 0 (.fresh 0 0 (!w.params.followText "set-order")) }).get? s.heap.objs.size = some { cls := .type "set", dict := none, data := .set #[] 0 (.fresh 0 0 (!w.params.followText "set-order")) } := Heap.get?_push_size _ rfl
      have hTy : Shared.TypeIs { s with heap := s.heap.push { cls := .type "set", dict := none, data := .set #[] 0 (.fresh 0 0 (!w.params.followText "set-order")) } } (.ref s.heap.objs.size) "set" := ⟨_, hNw, rfl⟩
      have hli := F.called_set.init.lookup
      have hbi := F.called_set.init.bind (.ref s.heap.objs.size)
      repeat (any_goals (first | assumption | wp_step))
      refine codeAny_mono (codeAny_call_builtin (R := wants (fun r s₂ => r = .none ∧ ∃ h' tk c, s₂ = { s with heap := h', toks := tk } ∧ SetM w h' s.heap.objs.size (memK ks) c ∧ c ≤ ks.length ∧ (∀ b o, s.heap.get? b = some o → h'.get? b = some o)) E) F.called_set.init.plain F.entry_set_init (check_set_init_1 hTy ?_)) fun r₂ s₂ hr₂ => ?_
      · obtain ⟨⟨ocls, odict, odata, oslots⟩, hol, hcl, nl, hdl⟩ := hl
        simp only at hcl hdl
        subst hcl; subst hdl
        have hol' : (s.heap.push { cls := .type "set", dict := none, data := .set #[] 0 (.fresh 0 0 (!w.params.followText "set-order")) }).get? l = some { cls := .type "list", dict := odict, data := .seq items nl, slots := oslots } := Heap.get?_push_of_some _ hol
        have hsls := PySem.F.sub_list_set
        have hslf := PySem.F.sub_list_frozenset
        have hne : (Value.type "list" == Value.type "dict") = false := by decide
        have hl1 : (s.heap.push { cls := .type "set", dict := none, data := .set #[] 0 (.fresh 0 0 (!w.params.followText "set-order")) }).IsList l items := ⟨_, hol', rfl, nl, rfl⟩
        unfold Builtin.«set.__init__» noKeywords Builtin.Frozenset.updateFrom
        generalize hPI : pyIter = PI
        wp_walk
        subst hPI
        refine wpAny_pyIter_list hl1 ?_
        refine wpAny_bind (wpAny_runValue ?_)
        have hlS : l < s.heap.objs.size := Heap.lt_size hol
        have hh3 : A.in1.in1.in1.handled = none := by simp [hh]
        have hneI : l ≠ (s.heap.push { cls := .type "set", dict := none, data := .set #[] 0 (.fresh 0 0 (!w.params.followText "set-order")) }).objs.size := by rw [Heap.size_push]; exact Nat.ne_of_lt (Nat.lt_succ_of_lt hlS)
        have hSf : s.heap.objs.size ∉ [(s.heap.push { cls := .type "set", dict := none, data := .set #[] 0 (.fresh 0 0 (!w.params.followText "set-order")) }).objs.size, l] := by
          rw [Heap.size_push]; simp only [List.mem_cons, List.mem_singleton, List.not_mem_nil, or_false, not_or]
          exact ⟨Nat.ne_of_lt (Nat.lt_succ_self _), Nat.ne_of_gt hlS⟩
        have hval : ∀ (i : Nat) (v : Value), items[i]? = some v → ∃ k, ks[i]? = some k ∧ RelV (kV k) v := fun i v hv => by
          have hi : i < ks.length := by rw [← hisz]; exact (Array.getElem?_eq_some_iff.mp hv).1
          obtain ⟨u, hu, ru⟩ := hit.get (i := i) (x := kV ks[i]) (by simp [hi])
          refine ⟨ks[i], List.getElem?_eq_getElem hi, ?_⟩
          rw [Array.getElem?_toList, hv] at hu
          exact (Option.some.inj hu) ▸ ru
        refine setM_loop ((Walks.list hh3 _ l hneI items).toS) s.heap.objs.size hSf ks hisz hb hval (items.size - 0) 0 _ (by omega) (Nat.zero_le _) ⟨⟨_, Heap.get?_push_size _ rfl, rfl, rfl⟩, (hl1.push _)⟩ ?hS0 ?hR
        case hS0 => exact ⟨0, Nat.le_refl 0, setM_new (Heap.get?_push_of_some _ hNw)⟩
        case hR =>
          intro s' c' hm hc' hS'
          obtain ⟨h', g2, d', tk', os'⟩ := s'
          obtain rfl : g2 = s.gens := hm.gens
          obtain rfl : d' = s.drawn := hm.drawn
          obtain rfl : os' = s.os := hm.os
          show wpAny _ _ _ _ _ _
          refine wpAny_pure ?_
          show wpAny _ _ (ret Value.none) _ _ _
          refine wpAny_pure ⟨rfl, h', tk', c', rfl, hS', by omega, fun b o e => ?_⟩
          have hb0 : b < s.heap.objs.size := Heap.lt_size e
          exact hm.heap b o (fun z => by
            rw [Heap.size_push] at z
            rcases List.mem_cons.mp z with z | z
            · exact absurd z (Nat.ne_of_lt hb0)
            · exact absurd (List.mem_singleton.mp z) (Nat.ne_of_lt (Nat.lt_succ_of_lt hb0))) (Heap.get?_push_of_some _ (Heap.get?_push_of_some _ e))
      · cases r₂ with
        | error e => exact hr₂
        | ok fl₂ =>
          cases fl₂ with
          | ret r =>
            obtain ⟨rfl, h', tk, c', rfl, hS', hc', hk'⟩ := hr₂
            repeat (any_goals (first | assumption | wp_step))
            exact h _ _ _ hS' hc' hk'
          | _ => exact hr₂.elim
    | _ => exact hr.elim
/-- sorted of such a set -/
theorem setM_sorted {k0 : Bool} {Q : Value → Shared → Prop} (R : SetM w s.heap a S n) (hh : A.handled = none) (hs : ∀ k, S k = true → k.isLeft = k0) (hz : n ≤ 1000) (hu : A.units + 65 < cLine)
    (hQ : ∀ s' p (out : List Value) (c : Nat) (bs : List Key), (∀ b o, s.heap.get? b = some o → s'.heap.get? b = some o) → s'.gens = s.gens → s'.os = s.os → s.heap.objs.size ≤ p →
      s'.heap.get? p = some (seqObj "list" out.toArray c) → Vals (bs.map kV) out → bs.Nodup → (∀ k, k ∈ bs ↔ S k = true) → bs.Pairwise (fun x y => PySem.W.dataLe false encK x y = true) → Q (.ref p) s') :
    wpAny (model P w) A (call (.builtin "sorted") [.ref a]) Q E s := by
  obtain ⟨o, es, ep, t, ho, hex, hd, g, nd, hm, hb, hf, hn, hr, hl⟩ := R
  refine Calls.call_function_entry kind_sorted plain_sorted entry_sorted (args_sorted1 _) ?_
  unfold Builtin.«sorted»
  refine wpAny_bind (m := checkCount "sorted" 1 1 _) (wpAny_pure ?_)
  refine wpAny_bind (collect_set (A := A.in1) hh ⟨o, ho, hex.1, hd⟩ hf hb hr hl fun s1 vs k1 hz1 g1 o1 pm => ?_)
  have hvl : vs.length = n := by rw [pm.length_eq, List.length_map, Array.length_toList]; exact hn
  let bs := vs.map fun v => kOf (0, v)
  have hvals : Vals (bs.map kV) vs := by
    have : ∀ l : List Value, (∀ v ∈ l, ∃ k : Key, RelV (kV k) v) → Vals ((l.map fun v => kOf (0, v)).map kV) l := by
      intro l
      induction l with
      | nil => intro _; exact .nil
      | cons v l ih =>
        intro hv
        obtain ⟨k, rk⟩ := hv v List.mem_cons_self
        refine .cons ?_ (ih fun u hu => hv u (List.mem_cons_of_mem _ hu))
        show RelV (kV (kOf (0, v))) v
        rw [kOf_rel rk]
        exact rk
    refine this vs fun v hv => ?_
    obtain ⟨e, he, q⟩ := List.mem_map.mp (pm.mem_iff.mp hv)
    obtain ⟨k, rk, _⟩ := g e he
    exact ⟨k, q ▸ rk⟩
  have pk : bs.Perm (es.toList.map kOf) := by
    have q := pm.map fun v => kOf (0, v)
    rw [List.map_map] at q
    exact q
  have hmem : ∀ k, k ∈ bs ↔ S k = true := fun k => by rw [pk.mem_iff, ← hm k]
  refine wpAny_bind (wpAny_newList ?_ (by rw [hvl, sizeLine_eq]; omega))
  have hoL : (s1.heap.push (seqObj "list" vs.toArray 0)).get? s1.heap.objs.size = some (seqObj "list" vs.toArray 0) := Heap.get?_push_size _ rfl
  have each : ∀ {ks : List Key} {us : List Value}, Vals (ks.map kV) us → PySem.W.EachIs (fun u (k : Key) => RelV (kV k) u) us ks := fun {ks} => by
    induction ks with
    | nil => intro us h; cases h; exact .nil
    | cons k ks ih => intro us h; cases h with | cons h1 h2 => exact .cons h1 (ih h2)
  have unea : ∀ {ks : List Key} {us : List Value}, PySem.W.EachIs (fun u (k : Key) => RelV (kV k) u) us ks → Vals (ks.map kV) us := fun {ks} => by
    induction ks with
    | nil => intro us h; cases h; exact .nil
    | cons k ks ih => intro us h; cases h with | cons h1 h2 => exact .cons h1 (ih h2)
  have hal : PySem.W.AllAlike (bs.map encK) := fun d hd d' hd' => by
    obtain ⟨x, hx, rfl⟩ := List.mem_map.mp hd
    obtain ⟨y, hy, rfl⟩ := List.mem_map.mp hd'
    have ex := hs x ((hmem x).mp hx)
    have ey := hs y ((hmem y).mp hy)
    cases x <;> cases y <;> first | rfl | (rw [← ex] at ey; cases ey)
  have hso : PySem.W.Sortable (bs.map encK) := .inr fun d hd => by
    obtain ⟨x, hx, rfl⟩ := List.mem_map.mp hd
    cases x <;> exact ⟨fun z => (nomatch z), fun _ z => (nomatch z)⟩
  have er : PySem.W.EachIs (fun v k => ∃ as, Reads (s1.heap.push (seqObj "list" vs.toArray 0)) v (encK k) as ∧ s1.heap.objs.size ∉ as) vs bs := by
    refine (each hvals).mono fun v k rk => ?_
    cases k with
    | inl i => obtain ⟨t, e⟩ := (show ∃ t, v = Value.int i t from rk); subst e; exact ⟨[], .int _ _, fun z => (nomatch z)⟩
    | inr x => obtain ⟨t, e⟩ := (show ∃ t, v = Value.str x t from rk); subst e; exact ⟨[], .str _ _, fun z => (nomatch z)⟩
  have hbl : bs.length = n := by rw [List.length_map, hvl]
  refine wpAny_bind (wpAny_holding (PySem.W.list_sort_data (R := fun u (k : Key) => RelV (kV k) u) (enc := encK) hoL (each hvals) er hal hso (by rw [hbl, sizeLine_eq]; omega) (fun b _ => ?_) fun out ho' eo => ?_))
  · have : (encK b).depth = 0 := by cases b <;> rfl
    rw [this]
    show A.units + 1 + 1 + 0 < cLine
    omega
  · obtain ⟨c, hc⟩ := sortedHeap_at (vs := vs) (out := out.toArray) hoL
    have pms : (bs.mergeSort (PySem.W.dataLe false encK)).Perm bs := List.mergeSort_perm _ _
    refine wpAny_pure ⟨_, rfl, hQ { s1 with heap := sortedHeap (s1.heap.push (seqObj "list" vs.toArray 0)) s1.heap.objs.size vs out.toArray } s1.heap.objs.size out c (bs.mergeSort (PySem.W.dataLe false encK)) (fun b u e => ?_) g1 o1 hz1 hc (unea eo) (pms.nodup_iff.mpr (pk.nodup_iff.mpr nd)) (fun k => by rw [pms.mem_iff]; exact hmem k) ?_⟩
    · have q := k1 b u e
      have hlt := Heap.lt_size q
      show (sortedHeap (s1.heap.push (seqObj "list" vs.toArray 0)) s1.heap.objs.size vs out.toArray).get? b = some u
      rw [sortedHeap_old (Nat.ne_of_lt hlt) (by rw [size_push']; exact Nat.lt_succ_of_lt hlt)]
      exact Heap.get?_push_of_some _ q
    · have tot := PySem.W.sortLe_total (PyProof.Rows.listOrd PyProof.Rows.itemOrd) false fun k : Key => PySem.W.keyToks (encK k)
      exact List.pairwise_mergeSort (le := PySem.W.dataLe false encK) (fun a b c h1 h2 => tot.trans a b c h1 h2) (fun a b => by rcases tot.total a b with z | z <;> (rw [Bool.or_eq_true]; first | exact .inl z | exact .inr z)) _
end
end Mf
set_option Elab.async false
set_option linter.all false
set_option maxRecDepth 100000
set_option maxHeartbeats 1000000
namespace Mf
open PySem L2

/-! ### readings by the evaluator -/
section
variable {Y : Sys} (K : PySem.W.Frag) (mg : Str → Option Value) (W : WX)
def Post {α β : Type} (σ : L2.St) (c : Cf Y) (J : β → Cf Y → α → Prop) (Q : β → Hp → Prop) : Res Y.S α → Prop
  | .ok a s' => ∀ b (c' : Cf Y), c'.s = s' → Step c c' → Ok c' → J b c' a → Q b c'.H
  | .ex x s' => ∀ C (c' : Cf Y), mg x = some (.ref C) → c'.s = s' → Step c c' → Ok c' → W (.ref C) none σ c'.H
  | .er => False
def tR {α β : Type} (J : Cf Y → β → Cf Y → α → Prop) (f : List SV → Y.S → Res Y.S α) : L2.St → Hp → (β → Hp → Prop) → Prop :=
  fun σ H Q => ∃ (c : Cf Y) (H0 : Hp) (ρ : List SV), c.H = H ∧ Ok c ∧ Rel K H0 c σ ρ ∧ Post mg W σ c (J c) Q (f ρ c.s)
def JE (c : Cf Y) (v : V) (c' : Cf Y) (a : K3 × D) : Prop := Is K c.H c' a.1 v a.2
def JB (_ : Cf Y) (b : Bool) (_ : Cf Y) (a : Bool) : Prop := b = a
def JA (_ : Cf Y) (vs : List V) (c' : Cf Y) (ds : List D) : Prop := Reps K c'.F vs ds
/-- an item: data, or (of a zip, to be taken apart at once) a tuple of data -/
def RepW (z : Bool) (F : Hp) (v : V) (d : D) : Prop := Rep K F v d ∨ (z = true ∧ ∃ a vs ds, v = .ref a ∧ d = .tup ds ∧ SqT K F a vs ∧ Reps K F vs ds)
def zipI {S : Type} : CI S → Bool
  | .zip _ _ => true
  | _ => false
def Gd (z : Bool) (J : It) (G : Cf Y → Prop) (ds : List D) : Prop :=
  ∀ c : Cf Y, G c → Ok c → ∀ i : Nat, (ds.length ≤ i → J.stop i c.H) ∧
    ∀ d, ds[i]? = some d → J.go i c.H ∧ ∀ x H', J.yld i c.H x H' → ∃ c' : Cf Y, c'.H = H' ∧ c'.s = c.s ∧ Step c c' ∧ Ok c' ∧ RepW K z c'.F x d
def JI (st z : Bool) (_ : Cf Y) (J : It) (c' : Cf Y) (ds : List D) : Prop := ∃ G : Cf Y → Prop, Gd K z J G ds ∧ ∀ c'', (if st = true then Sub c'.F c''.F else Step c' c'') → G c''
abbrev tE (e : CE Y.S) : TE := tR K mg W (JE K) (ev e)
abbrev tT (e : CE Y.S) : TT := tR K mg W JB (fun ρ s => (ev e ρ s).bind tru)
abbrev tA (es : CA Y.S) : TA := tR K mg W (JA K) (evA es)
abbrev tI (st : Bool) (it : CI Y.S) : TI := tR K mg W (JI K st (zipI it)) (evI st it)
end
section
variable {Y : Sys} {K : PySem.W.Frag} {mg : Str → Option Value} {W : WX} {α β γ δ : Type} {σ : L2.St} {c c' : Cf Y} {H0 : Hp} {ρ : List SV}
theorem Post.shift {J J' : β → Cf Y → α → Prop} {Q : β → Hp → Prop} {r : Res Y.S α} (h : Post mg W σ c J Q r) (t : Step c c') (ok : Ok c') (hJ : ∀ b c'' a, J' b c'' a → J b c'' a) : Post mg W σ c' J' Q r := by
  cases r with
  | ok a s' => exact fun b c'' e t' ok'' j => h b c'' e (t.trans ok t') ok'' (hJ b c'' a j)
  | ex x s' => exact fun C c'' m e t' ok'' => h C c'' m e (t.trans ok t') ok''
  | er => exact h
theorem JE.back (t : Step c c') (ok : Ok c') (v : V) (c'' : Cf Y) (a : K3 × D) (h : JE K c' v c'' a) : JE K c v c'' a := Is.back h fun _ z => t.back ok z
theorem Post.shiftE {Q : VK} {r : Res Y.S (K3 × D)} (h : Post mg W σ c (JE K c) Q r) (t : Step c c') (ok : Ok c') : Post mg W σ c' (JE K c') Q r := h.shift t ok (JE.back t ok)
theorem tR.bind {J : Cf Y → β → Cf Y → α → Prop} {f : List SV → Y.S → Res Y.S α} {J' : γ → Cf Y → δ → Prop} {Q' : γ → Hp → Prop} {R : α → Y.S → Res Y.S δ} {Qa : β → Hp → Prop}
    (ok : Ok c) (rel : Rel K H0 c σ ρ) (h : Post mg W σ c J' Q' ((f ρ c.s).bind R))
    (k : ∀ b (c' : Cf Y) a, f ρ c.s = .ok a c'.s → Step c c' → Ok c' → Rel K H0 c' σ ρ → J c b c' a → Post mg W σ c J' Q' (R a c'.s) → Qa b c'.H) : tR K mg W J f σ c.H Qa := by
  refine ⟨c, H0, ρ, rfl, ok, rel, ?_⟩
  cases e : f ρ c.s with
  | ok a s' =>
    rw [e] at h
    intro b c' es t ok' j
    subst es
    exact k b c' a e t ok' (rel.step t) j h
  | ex x s' => rw [e] at h; exact h
  | er => rw [e] at h; exact h
theorem Post.fin {J : β → Cf Y → α → Prop} {Q : β → Hp → Prop} {a : α} {b : β} (h : Post mg W σ c J Q (.ok a c.s)) (ok : Ok c) (j : J b c a) : Q b c.H := h b c rfl (Step.refl c) ok j
/-- the machine's step behind the operands -/
theorem Post.fi {Q : VK} {k : K3} {d : D} (h : Post mg W σ c (JE K c) Q (.ok (k, d) c.s))   : Mf.Fin K c k d Q := fun v c' e t ok i => h v c' e t ok i
theorem Post.lift {Q : VK} {o : Option (K3 × D)} (h : Post mg W σ c (JE K c) Q (liftO c.s o)) : ∃ k d, o = some (k, d) ∧ Mf.Fin K c k d Q := by
  cases o with
  | none => exact h.elim
  | some x => exact ⟨x.1, x.2, rfl, h.fi⟩
theorem Post.kd {Q : VK} {o : Option D} (h : Post mg W σ c (JE K c) Q (kd c.s o)) : ∃ d, o = some d ∧ Mf.Fin K c .v d Q := by
  cases o with
  | none => exact h.elim
  | some x => exact ⟨x, rfl, h.fi⟩
theorem Post.tru {J : β → Cf Y → α → Prop} {Q : β → Hp → Prop} {R : Bool → Y.S → Res Y.S α} {x : K3 × D} {s : Y.S} (h : Post mg W σ c J Q ((Mf.tru x s).bind R)) : ∃ b, x.2 = .bl b ∧ Post mg W σ c J Q (R b s) := by
  obtain ⟨k, d⟩ := x
  cases d with
  | bl b => exact ⟨b, rfl, h⟩
  | _ => exact h.elim
theorem Post.int {J : β → Cf Y → α → Prop} {Q : β → Hp → Prop} {R : Int → Y.S → Res Y.S α} {x : K3 × D} {s : Y.S} (h : Post mg W σ c J Q ((intOf x s).bind R)) : ∃ b, x.2 = .int b ∧ Post mg W σ c J Q (R b s) := by
  obtain ⟨k, d⟩ := x
  cases d with
  | int b => exact ⟨b, rfl, h⟩
  | _ => exact h.elim
theorem Post.dat {J : β → Cf Y → α → Prop} {Q : β → Hp → Prop} {R : D → Y.S → Res Y.S α} {x : K3 × D} {s : Y.S} (h : Post mg W σ c J Q ((Mf.dat x s).bind R)) : x.1 ≠ .o ∧ Post mg W σ c J Q (R x.2 s) := by
  obtain ⟨k, d⟩ := x
  cases k with
  | v => exact ⟨fun z => (nomatch z), h⟩
  | t => exact ⟨fun z => (nomatch z), h⟩
  | o => exact h.elim
theorem Post.stk {J : β → Cf Y → α → Prop} {Q : β → Hp → Prop} {st : Bool} {R : K3 × D → Y.S → Res Y.S α} {x : K3 × D} {s : Y.S} (h : Post mg W σ c J Q ((Mf.stk st x s).bind R)) : (st = true → x.1 ≠ .o) ∧ Post mg W σ c J Q (R x s) := by
  obtain ⟨k, d⟩ := x
  cases st with
  | false => exact ⟨fun z => (nomatch z), h⟩
  | true =>
    cases k with
    | v => exact ⟨fun _ z => (nomatch z), h⟩
    | t => exact ⟨fun _ z => (nomatch z), h⟩
    | o => exact h.elim
end
theorem _root_.L2.PE.weak {X : Cx} {e : Expr} {t t' : TE} (h : PE X e t) (k : ∀ σ H Q, t' σ H Q → t σ H Q) : PE X e t' := ⟨fun pins s σ H Q I q => h.run pins s σ H Q I (k σ H Q q)⟩
theorem _root_.L2.PT.weak {X : Cx} {e : Expr} {t t' : TT} (h : PT X e t) (k : ∀ σ H Q, t' σ H Q → t σ H Q) : PT X e t' := ⟨fun pins s σ H Q I q => h.run pins s σ H Q I (k σ H Q q)⟩
theorem _root_.L2.PW.weak {X : Cx} {e : Expr} {t t' : TT} (h : PW X e t) (k : ∀ σ H Q, t' σ H Q → t σ H Q) : PW X e t' := ⟨fun w pins s σ H Q I q => h.run w pins s σ H Q I (k σ H Q q)⟩
theorem _root_.L2.PA.weak {X : Cx} {es : List Expr} {t t' : TA} (h : PA X es t) (k : ∀ σ H Q, t' σ H Q → t σ H Q) : PA X es t' := ⟨fun pos pins s σ H Q I q => h.run pos pins s σ H Q I (k σ H Q q)⟩
theorem _root_.L2.PI.weak {X : Cx} {tg e : Expr} {t t' : TI} (h : PI X tg e t) (k : ∀ σ H Q, t' σ H Q → t σ H Q) : PI X tg e t' := ⟨fun pins s σ H Q I q => h.run pins s σ H Q I (k σ H Q q)⟩

/-! ### the checker -/
def bltNames : List Str := ["len", "abs", "int", "tuple", "list", "all", "any", "max", "isinstance", "bool", "str", "range", "zip", "sorted", "set", "dict", "enumerate"]
def visB (sc : Scope) (x : Str) : Bool := (match sc.names.lookup x with | some .local => true | some .cell => true | some .free => true | _ => false) && !(x == ("__debug__" : Str)) && !(x == ("__classdict__" : Str))
def glB (sc : Scope) (x : Str) : Bool := (match sc.names.lookup x with | some .globalImplicit => true | _ => false) && !(x == ("__debug__" : Str)) && !(x == ("__name__" : Str))
def notStar : Expr → Bool
  | .Starred _ _ => false
  | _ => true
def notSet : Expr → Bool
  | .Set _ _ _ => false
  | _ => true
def notSlice : Expr → Bool
  | .Slice _ _ _ _ => false
  | _ => true
def notComp : Expr → Bool
  | .ListComp _ _ _ _ => false
  | .SetComp _ _ _ _ => false
  | .DictComp _ _ _ _ _ => false
  | _ => true
def isBO : Expr → Bool
  | .BoolOp _ _ _ => true
  | _ => false
/-- may stand as a test -/
def tstP : Expr → Bool
  | .Name _ _ => true
  | .Call _ _ _ _ => true
  | .Subscript _ _ _ => true
  | _ => false
def tstOk : Expr → Bool
  | .BoolOp _ _ _ => true
  | .Compare _ _ _ _ => true
  | .UnaryOp .Not _ _ => true
  | e => tstP e
def opEq : Bop → Operator → Bool
  | .add, .Add => true | .sub, .Sub => true | .mul, .Mult => true | .fdv, .FloorDiv => true | .mod, .Mod => true | _, _ => false
def cmpEq : Cop → CmpOp → Bool
  | .eq, .Eq => true | .ne, .NotEq => true | .lt, .Lt => true | .le, .LtE => true | .gt, .Gt => true | .ge, .GtE => true | .isin, .In => true | .notin, .NotIn => true | .is, .Is => true | .isnot, .IsNot => true | _, _ => false
def conEq : D → Const → Bool
  | .int i, .int j => decide (i = j)
  | .str x, .str y => x == y
  | .bl a, .bool b => a == b
  | .non, .none => true
  | _, _ => false
def lenTg : Tg → Nat
  | .cons _ r => lenTg r + 1
  | _ => 0
def slots : Tg → List Nat
  | .nm i => [i]
  | .nil => []
  | .cons t r => slots t ++ slots r
/-- fns: the names whose cells are made here -/
def chkTs (N : List Str) (sc : Scope) (fns : Str → Bool) : Tg → List Expr → Bool
  | .nil, [] => true
  | .cons (.nm i) r, .Name x _ :: es => (N[i]? == some x) && (match sc.names.lookup x with | some .local => true | some .cell => fns x | _ => false) && chkTs N sc fns r es
  | .cons (.cons t' r') r, .Tuple es' _ _ :: es => chkTs N sc fns (.cons t' r') es' && chkTs N sc fns r es
  | _, _ => false
def chkT (N : List Str) (sc : Scope) (fns : Str → Bool) (t : Tg) (e : Expr) : Bool := chkTs N sc fns (.cons t .nil) [e]
def rcvE : Expr → Bool
  | .Name _ _ => true
  | .Constant _ _ _ => true
  | _ => false
def isTupE : Expr → Bool
  | .Tuple _ _ _ => true
  | _ => false
mutual
def chkE {S : Type} (N : List Str) : Scope → CE S → Expr → Bool
  | sc, .var i, e0 => match e0 with
    | .Name x _ => (N[i]? == some x) && visB sc x
    | _ => false
  | _, .con d, e0 => match e0 with
    | .Constant k _ _ => conEq d k
    | _ => false
  | sc, .glb x _, e0 => match e0 with
    | .Name y _ => (y == x) && glB sc y
    | _ => false
  | sc, .tup es, e0 => match e0 with
    | .Tuple xs _ _ => chkA N sc es xs
    | _ => false
  | sc, .lst es, e0 => match e0 with
    | .List xs _ => chkA N sc es xs
    | _ => false
  | sc, .bin o a b, e0 => match e0 with
    | .BinOp a' o' b' _ => opEq o o' && chkE N sc a a' && chkE N sc b b'
    | _ => false
  | sc, .neg a, e0 => match e0 with
    | .UnaryOp .USub a' _ => chkE N sc a a'
    | _ => false
  | sc, .not a, e0 => match e0 with
    | .UnaryOp .Not a' _ => chkE N sc a a' && tstOk a'
    | _ => false
  | sc, .cmp o a b, e0 => match e0 with
    | .Compare a' [o'] [b'] _ => cmpEq o o' && notSet b' && chkE N sc a a' && chkE N sc b b'
    | _ => false
  | sc, .chn o p a b c, e0 => match e0 with
    | .Compare a' [o', p'] [b', c'] _ => cmpEq o o' && cmpEq p p' && notSet c' && chkE N sc a a' && chkE N sc b b' && chkE N sc c c'
    | _ => false
  | sc, .and a b, e0 => match e0 with
    | .BoolOp .And (a' :: b' :: r) pos => tstOk a' && chkE N sc a a' && chkE N sc b (.BoolOp .And (b' :: r) pos)
    | _ => false
  | sc, .or a b, e0 => match e0 with
    | .BoolOp .Or (a' :: b' :: r) pos => tstOk a' && chkE N sc a a' && chkE N sc b (.BoolOp .Or (b' :: r) pos)
    | _ => false
  | sc, .one a, e0 => match e0 with
    | .BoolOp _ [a'] _ => tstOk a' && chkE N sc a a'
    | _ => false
  | sc, .ife t a b, e0 => match e0 with
    | .IfExp t' a' b' _ => tstOk t' && chkE N sc t t' && chkE N sc a a' && chkE N sc b b'
    | _ => false
  | sc, .ix a i, e0 => match e0 with
    | .Subscript a' i' _ => notSlice i' && chkE N sc a a' && chkE N sc i i'
    | _ => false
  | sc, .slL a lo, e0 => match e0 with
    | .Subscript a' (.Slice (some lo') none none _) _ => chkE N sc a a' && chkE N sc lo lo'
    | _ => false
  | sc, .slH a hi, e0 => match e0 with
    | .Subscript a' (.Slice none (some hi') none _) _ => chkE N sc a a' && chkE N sc hi hi'
    | _ => false
  | sc, .slB a lo hi, e0 => match e0 with
    | .Subscript a' (.Slice (some lo') (some hi') none _) _ => chkE N sc a a' && chkE N sc lo lo' && chkE N sc hi hi'
    | _ => false
  | sc, .call x _ _ es, e0 => match e0 with
    | .Call (.Name y _) xs [] _ => (y == x) && glB sc y && chkA N sc es xs
    | _ => false
  | sc, .b1 f e, e0 => match e0 with
    | .Call (.Name y _) [e'] [] _ => (y == nmB f) && glB sc y && notStar e' && chkE N sc e e'
    | _ => false
  | sc, .m1 f a b, e0 => match e0 with
    | .Call (.Attribute a' m apos) [b'] [] cpos => (m == nmM f) && rcvE a' && notStar b' && (apos.endLine == cpos.line) && chkE N sc a a' && chkE N sc b b'
    | _ => false
  | sc, .isi e t, e0 => match e0 with
    | .Call (.Name y _) [e', .Name z _] [] _ => (y == ("isinstance" : Str)) && glB sc y && (z == (Str.ofString (nmT t))) && glB sc z && notStar e' && chkE N sc e e'
    | _ => false
  | sc, .lc it tg ifs elt vs, e0 => match e0 with
    | .ListComp elt' [⟨tg', iter', ifs', 0⟩] scope _ =>
      chkI N sc it iter' tg' && notSet iter' && blkC N sc scope (vs.map fun i => (N.getD i "", i)) && (slots tg).all (fun i => vs.contains i) &&
      chkT N (relS scope sc) (fun x => scope.names.lookup x == some .cell) tg tg' && chkC N (relS scope sc) ifs ifs' && chkE N (relS scope sc) elt elt'
    | _ => false
  | sc, .sset e, e0 => match e0 with
    | .Call (.Name y _) [.Call (.Name z _) [e'] [] _] [] _ => (y == ("sorted" : Str)) && glB sc y && (z == ("set" : Str)) && glB sc z && notStar e' && chkE N sc e e'
    | _ => false
  | sc, .lc2 it tg it1 tg1 elt vs vs1, e0 => match e0 with
    | .ListComp elt' [⟨tg', iter', [], 0⟩, ⟨tg1', iter1', [], 0⟩] scope _ =>
      chkI N sc it iter' tg' && notSet iter' && blkC N sc scope (vs.map fun i => (N.getD i "", i)) && (slots tg).all (fun i => vs.contains i) && chkT N (relS scope sc) (fun x => scope.names.lookup x == some .cell) tg tg' &&
      (chkI N (relS scope sc) it1 iter1' tg1' && notSet iter1' && (slots tg1).all (fun i => vs1.contains i) && chkT N (relS scope sc) (fun x => scope.names.lookup x == some .cell) tg1 tg1' && vs1.all (fun i => vs.contains i) && chkE N (relS scope sc) elt elt')
    | _ => false
def chkA {S : Type} (N : List Str) : Scope → CA S → List Expr → Bool
  | _, .nil, [] => true
  | sc, .cons e es, x :: xs => notStar x && chkE N sc e x && chkA N sc es xs
  | _, _, _ => false
def chkC {S : Type} (N : List Str) : Scope → CA S → List Expr → Bool
  | _, .nil, [] => true
  | sc, .cons e .nil, [x] => tstOk x && chkE N sc e x
  | _, _, _ => false
def chkI {S : Type} (N : List Str) : Scope → CI S → Expr → Expr → Bool
  | sc, .seq e, x, _ => chkE N sc e x
  | sc, .rng e, x, _ => match x with
    | .Call (.Name y _) [x] [] _ => (y == ("range" : Str)) && glB sc y && notStar x && chkE N sc e x
    | _ => false
  | sc, .zip a b, x, tg => match x with
    | .Call (.Name y _) [x, z] [] _ => (y == ("zip" : Str)) && glB sc y && notStar x && notStar z && isTupE tg && chkE N sc a x && chkE N sc b z
    | _ => false
end
/-! ### what the names stand for -/
mutual
def needE {S : Type} (P : Str → Nat → Sem S → Prop) (G : Str → D → Prop) : CE S → Prop
  | .glb x d => G x d
  | .tup es => needA P G es
  | .lst es => needA P G es
  | .bin _ a b => needE P G a ∧ needE P G b
  | .neg a => needE P G a
  | .not a => needE P G a
  | .cmp _ a b => needE P G a ∧ needE P G b
  | .chn _ _ a b c => needE P G a ∧ needE P G b ∧ needE P G c
  | .and a b => needE P G a ∧ needE P G b
  | .or a b => needE P G a ∧ needE P G b
  | .one a => needE P G a
  | .ife t a b => needE P G t ∧ needE P G a ∧ needE P G b
  | .ix a i => needE P G a ∧ needE P G i
  | .slL a i => needE P G a ∧ needE P G i
  | .slH a i => needE P G a ∧ needE P G i
  | .slB a i j => needE P G a ∧ needE P G i ∧ needE P G j
  | .call x n g es => P x n g ∧ needA P G es
  | .b1 _ e => needE P G e
  | .m1 _ a b => needE P G a ∧ needE P G b
  | .isi e _ => needE P G e
  | .lc it _ ifs elt _ => needI P G it ∧ needA P G ifs ∧ needE P G elt
  | .sset e => needE P G e
  | .lc2 it _ it1 _ elt _ _ => needI P G it ∧ needI P G it1 ∧ needE P G elt
  | _ => True
def needA {S : Type} (P : Str → Nat → Sem S → Prop) (G : Str → D → Prop) : CA S → Prop
  | .nil => True
  | .cons e es => needE P G e ∧ needA P G es
def needI {S : Type} (P : Str → Nat → Sem S → Prop) (G : Str → D → Prop) : CI S → Prop
  | .seq e => needE P G e
  | .rng e => needE P G e
  | .zip a b => needE P G a ∧ needE P G b
end
/-- a def's promise: data to data -/
def spOf {Y : Sys} (K : PySem.W.Frag) (mg : Str → Option Value) (m : Nat) (g : Sem Y.S) : Sp := fun vs H Q E => ∃ (c : Cf Y) (ds : List D), c.H = H ∧ Ok c ∧ Reps K c.F vs ds ∧ vs.length = m ∧
  match g ds c.s with
  | .ok d s' => ∀ v (c' : Cf Y), c'.s = s' → Step c c' → Ok c' → Rep K c'.F v d → Q v c'.H
  | .ex x s' => ∀ C (c' : Cf Y), mg x = some (.ref C) → c'.s = s' → Step c c' → Ok c' → E (.ref C) none c'.H
  | .er => False
structure Has (P : Program) (w : World) (K : PySem.W.Frag) (mg : Str → Option Value) (base : Heap) (Y : Sys) (n : Nat) (x : Str) (m : Nat) (g : Sem Y.S) : Prop where
  has : ∃ (f : Addr) (fd : FuncData) (ps : List Str), ps.length = m ∧ FnOk P w K mg base (L2.CX P w) n f fd ps (spOf (Y := Y) K mg m g) ∧ mg x = some (.ref f) ∧ PySem.W.keepIn K (.ref f) = true ∧ Binds K fd ps []
def Glb (K : PySem.W.Frag) (mg : Str → Option Value) (x : Str) (d : D) : Prop := ∃ u v, mg x = some u ∧ RelV v u ∧ ∀ F, Rep K F v d
structure Cxt (X : Cx) (W : WX) (n : Nat) (N : List Str) (sc : Scope) : Prop where
  hN : X.N = N
  hs : X.env.scope = sc
  nd : N.Nodup
  calm : X.calm = true
  room : Room n X.A
  tk : Takes X W
  we : ∃ E : XK, W = fun cls d _ H => E cls d H
  blt : ∀ x ∈ bltNames, X.mg x = none
end Mf
set_option Elab.async false
set_option linter.all false
set_option maxRecDepth 100000
set_option maxHeartbeats 1000000
namespace Mf
open PySem L2

/-! ### side conditions from the checker -/
theorem visB_ok {sc : Scope} {x : Str} (h : visB sc x = true) : Vis sc x ∧ (x == ("__debug__" : Str)) = false ∧ (x == ("__classdict__" : Str)) = false := by
  unfold visB at h
  simp only [Bool.and_eq_true, Bool.not_eq_true'] at h
  obtain ⟨⟨h1, h2⟩, h3⟩ := h
  refine ⟨?_, h2, h3⟩
  unfold Vis
  split at h1
  · exact .inl (by assumption)
  · exact .inr (.inl (by assumption))
  · exact .inr (.inr (by assumption))
  · cases h1
theorem glB_ok {sc : Scope} {x : Str} (h : glB sc x = true) : sc.names.lookup x = some .globalImplicit ∧ (x == ("__debug__" : Str)) = false ∧ x ≠ "__name__" := by
  unfold glB at h
  simp only [Bool.and_eq_true, Bool.not_eq_true'] at h
  obtain ⟨⟨h1, h2⟩, h3⟩ := h
  refine ⟨?_, h2, beq_eq_false_iff_ne.mp h3⟩
  split at h1
  · assumption
  · cases h1
theorem star_cons {e : Expr} (h : notStar e = true) (es : List Expr) (env : Env) : starEach (e :: es) env = (false, eval e env) :: starEach es env := by
  cases e <;> first | rfl | cases h
theorem star_none {pos : Pos} {env : Env} : ∀ {S : Type} {N : List Str} {sc : Scope} {cs : CA S} {es : List Expr}, chkA N sc cs es = true → (backTo pos (starEach es env)).any (·.1) = false := by
  have key : ∀ {es : List Expr}, (∀ e ∈ es, notStar e = true) → (backTo pos (starEach es env)).any (·.1) = false := by
    intro es h
    have e : ∀ {es : List Expr}, (∀ e ∈ es, notStar e = true) → ∀ p ∈ starEach es env, p.1 = false := by
      intro es
      induction es with
      | nil => intro _ p hp; cases hp
      | cons x xs ih =>
        intro h p hp
        rw [star_cons (h x List.mem_cons_self)] at hp
        rcases List.mem_cons.mp hp with z | z
        · rw [z]
        · exact ih (fun e he => h e (List.mem_cons_of_mem _ he)) p z
    have e2 := e h
    rw [List.any_eq_false]
    intro p hp
    unfold backTo at hp
    simp only [List.mem_map] at hp
    obtain ⟨q, hq, rfl⟩ := hp
    simpa using e2 q hq
  intro S N sc cs es h
  refine key ?_
  revert cs
  induction es with
  | nil => intro _ _ e he; cases he
  | cons x xs ih =>
    intro cs h e he
    cases cs with
    | nil => cases h
    | cons c cs =>
      unfold chkA at h
      simp only [Bool.and_eq_true] at h
      rcases List.mem_cons.mp he with z | z
      · rw [z]; exact h.1.1
      · exact ih h.2 e z
theorem marks_ok {op : CmpOp} {b : Expr} (h : notSet b = true) : behindInMarks op b = false := by
  cases b <;> first | rfl | cases h
theorem set_ok {e : Expr} {env : Env} (h : notSet e = true) : ∀ x, foldedSetIterable e env x = pure x := by
  intro x
  cases e <;> first | rfl | cases h
theorem plain_ok {b : Expr} (h : notSlice b = true) : PlainIx b := by
  intro o i
  cases b <;> first | rfl | cases h
theorem test_ok {e : Expr} {env : Env} (h : tstP e = true) : ∀ whole, isTrue e env whole = (do let v ← whole; standAt e.pos; holding [v] (truthy v)) := by
  intro whole
  cases e <;> first | rfl | cases h
theorem opEq_ok {o : Bop} {o' : Operator} (h : opEq o o' = true) : o' = opB o := by
  cases o <;> cases o' <;> first | rfl | cases h
theorem cmpEq_ok {o : Cop} {o' : CmpOp} (h : cmpEq o o' = true) : o' = opC o := by
  cases o <;> cases o' <;> first | rfl | cases h

/-! ### tests by values -/
section
variable {Y : Sys} {K : PySem.W.Frag} {mg : Str → Option Value} {W : WX}
theorem tT_tE {e : CE Y.S} {σ : L2.St} {H : Hp} {Q : Bool → Hp → Prop} (h : tT K mg W e σ H Q) : tE K mg W e σ H (fun v H1 => ∃ k, v = .bl k ∧ Q k H1) := by
  obtain ⟨c, H0, ρ, rfl, ok, rel, p⟩ := h
  refine tR.bind ok rel p fun b c' a ea t ok' rel' j p' => ?_
  have p' : Post mg W σ c (JB c) Q ((tru a c'.s).bind fun b s => .ok b s) := by
    cases e2 : tru a c'.s <;> (rw [e2] at p'; exact p')
  obtain ⟨k, ek, p2⟩ := p'.tru
  obtain ⟨k3, d⟩ := a
  have ek : d = .bl k := ek
  subst ek
  exact ⟨k, Is.bl j, p2 k c' rfl t ok' rfl⟩
end
end Mf
set_option Elab.async false
set_option linter.all false
set_option maxRecDepth 100000
set_option maxHeartbeats 1000000
namespace Mf
open PySem L2

section
variable {X : Cx} {Y : Sys} {W : WX} {n : Nat} {N : List Str} {sc : Scope} {pos : Pos} {a' b' c' : Expr} {a b e : CE Y.S}
theorem se_var {i : Nat} {x : Str} (C : Cxt X W n N sc) (h1 : (N[i]? == some x) = true) (h2 : visB sc x = true) : PE X (.Name x pos) (tE (Y := Y) X.K X.mg W (.var i)) := by
  obtain ⟨v1, v2, v3⟩ := visB_ok h2
  refine (pe_var (X := X) (i := i) (x := x) (pos := pos) (by rw [C.hN]; exact beq_iff_eq.mp h1) (by rw [C.hs]; exact v1) v2 v3).weak fun σ H Q h => ?_
  obtain ⟨c, H0, ρ, rfl, ok, rel, p⟩ := h
  have p : Post X.mg W σ c (JE X.K c) Q (match ρ[i]? with | some (.va d) => .ok (.v, d) c.s | some (.ow d) => .ok (.o, d) c.s | _ => .er) := p
  split at p
  · rename_i d er
    obtain ⟨v, es, r⟩ := rel.va i d er
    exact ⟨v, es, p.fin ok r⟩
  · rename_i d er
    obtain ⟨q, es, r, _⟩ := rel.ow i d er
    exact ⟨.ref q, es, p.fin ok ⟨q, rfl, r⟩⟩
  · exact p.elim
theorem se_con {d : D} {k : Const} {j : Nat} (h : conEq d k = true) : PE X (.Constant k j pos) (tE (Y := Y) X.K X.mg W (.con d)) := by
  have go : ∀ {v : V}, PE X (.Constant k j pos) (tC v) → (∀ F, Rep X.K F v d) → PE X (.Constant k j pos) (tE (Y := Y) X.K X.mg W (.con d)) := fun {v} h1 h2 => h1.weak fun σ H Q h => by
    obtain ⟨c, H0, ρ, rfl, ok, rel, p⟩ := h
    have p : Post X.mg W σ c (JE X.K c) Q (.ok (.v, d) c.s) := p
    exact p.fin ok (h2 c.F)
  cases d <;> cases k <;> first | cases h | skip
  · exact go pe_non fun _ => .non
  · exact go (pe_bl) fun _ => by rw [show _ = _ from beq_iff_eq.mp h]; exact .bl _
  · exact go (pe_int) fun _ => by rw [of_decide_eq_true h]; exact .int _
  · exact go (pe_str) fun _ => by rw [show _ = _ from beq_iff_eq.mp h]; exact .str _
theorem se_glb {x : Str} {d : D} (C : Cxt X W n N sc) (h2 : glB sc x = true) (g : Glb X.K X.mg x d) : PE X (.Name x pos) (tE (Y := Y) X.K X.mg W (.glb x d)) := by
  obtain ⟨v1, v2, v3⟩ := glB_ok h2
  obtain ⟨u, v, e1, e2, e3⟩ := g
  refine (pe_glob (X := X) (x := x) (pos := pos) (by unfold Gl Env.kindOf; rw [C.hs]; exact v1) e1 e2 v2).weak fun σ H Q h => ?_
  obtain ⟨c, H0, ρ, rfl, ok, rel, p⟩ := h
  have p : Post X.mg W σ c (JE X.K c) Q (.ok (.v, d) c.s) := p
  exact p.fin ok (e3 c.F)
theorem se_bin {o : Bop} (ha : PE X a' (tE X.K X.mg W a)) (hb : PE X b' (tE X.K X.mg W b)) : PE X (.BinOp a' (opB o) b' pos) (tE X.K X.mg W (.bin o a b)) := by
  refine (pe_op (op_B o) ha hb).weak fun σ H Q h => ?_
  obtain ⟨c, H0, ρ, rfl, ok, rel, p⟩ := h
  have p : Post X.mg W σ c (JE X.K c) Q ((ev a ρ c.s).bind fun x s => (ev b ρ s).bind fun y s => liftO s (binD o x.2 y.2)) := p
  refine tR.bind ok rel p fun x c1 xa ea t1 ok1 rel1 j1 p1 => ?_
  refine tR.bind ok1 rel1 (p1.shiftE t1 ok1) fun y c2 xb eb t2 ok2 rel2 j2 p2 => ?_
  obtain ⟨k, d, e, q⟩ := (p2.shiftE t2 ok2).lift
  exact bin_use ok2 (Is.step j1 t2) j2 e q
theorem se_neg (ha : PE X a' (tE X.K X.mg W a)) : PE X (.UnaryOp .USub a' pos) (tE X.K X.mg W (.neg a)) := by
  refine (pe_un un_neg ha).weak fun σ H Q h => ?_
  obtain ⟨c, H0, ρ, rfl, ok, rel, p⟩ := h
  have p : Post X.mg W σ c (JE X.K c) Q ((ev a ρ c.s).bind fun x s => (intOf x s).bind fun i s => .ok (.v, .int (-i)) s) := p
  refine tR.bind ok rel p fun x c1 xa ea t1 ok1 rel1 j1 p1 => ?_
  obtain ⟨i, ei, q⟩ := (p1.shiftE t1 ok1).int
  obtain ⟨k, d⟩ := xa
  have ei : d = .int i := ei
  subst ei
  exact ⟨i, Is.int j1, q.fin ok1 (Rep.int (-i))⟩
theorem se_notE (ha : PE X a' (tE X.K X.mg W a)) : PE X (.UnaryOp .Not a' pos) (tE X.K X.mg W (.not a)) := by
  refine (pe_not ha).weak fun σ H Q h => ?_
  obtain ⟨c, H0, ρ, rfl, ok, rel, p⟩ := h
  have p : Post X.mg W σ c (JE X.K c) Q ((ev a ρ c.s).bind fun x s => (tru x s).bind fun b s => .ok (.v, .bl (!b)) s) := p
  refine tR.bind ok rel p fun x c1 xa ea t1 ok1 rel1 j1 p1 => ?_
  obtain ⟨i, ei, q⟩ := (p1.shiftE t1 ok1).tru
  obtain ⟨k, d⟩ := xa
  have ei : d = .bl i := ei
  subst ei
  exact ⟨i, Is.bl j1, q.fin ok1 (Rep.bl (!i))⟩
theorem bind_tru_tru {S : Type} (r : Res S (K3 × D)) : (r.bind fun x s => (tru x s).bind fun b s => (Res.ok (K3.v, D.bl (!b)) s : Res S (K3 × D))).bind tru = (r.bind tru).bind fun b s => .ok (!b) s := by
  cases r with
  | ok x s =>
    obtain ⟨k, d⟩ := x
    cases d <;> rfl
  | _ => rfl
theorem se_notT (ha : PT X a' (tT X.K X.mg W a)) : PT X (.UnaryOp .Not a' pos) (tT X.K X.mg W (.not a)) := by
  refine (pt_not ha).weak fun σ H Q h => ?_
  obtain ⟨c, H0, ρ, rfl, ok, rel, p⟩ := h
  have p : Post X.mg W σ c (JB c) Q (((ev a ρ c.s).bind fun x s => (tru x s).bind fun b s => .ok (.v, .bl (!b)) s).bind tru) := p
  rw [bind_tru_tru] at p
  refine tR.bind (f := fun ρ s => (ev a ρ s).bind tru) ok rel p fun x c1 xa ea t1 ok1 rel1 j1 p1 => ?_
  have j1 : x = xa := j1
  subst j1
  exact p1 (!x) c1 rfl t1 ok1 rfl
theorem se_cmpE {o : Cop} (C : Cxt X W n N sc) (hs : notSet b' = true) (ha : PE X a' (tE X.K X.mg W a)) (hb : PE X b' (tE X.K X.mg W b)) : PE X (.Compare a' [opC o] [b'] pos) (tE X.K X.mg W (.cmp o a b)) ∧ PT X (.Compare a' [opC o] [b'] pos) (tT X.K X.mg W (.cmp o a b)) := by
  have go : ∀ σ H Q, tE X.K X.mg W (.cmp o a b) σ H Q → tOp (rC X.K o) (tE X.K X.mg W a) (tE X.K X.mg W b) σ H Q := fun σ H Q h => by
    obtain ⟨c, H0, ρ, rfl, ok, rel, p⟩ := h
    have p : Post X.mg W σ c (JE X.K c) Q ((ev a ρ c.s).bind fun x s => (ev b ρ s).bind fun y s => kd s ((cmpD o x.2 y.2).map .bl)) := p
    refine tR.bind ok rel p fun x c1 xa ea t1 ok1 rel1 j1 p1 => ?_
    refine tR.bind ok1 rel1 (p1.shiftE t1 ok1) fun y c2 xb eb t2 ok2 rel2 j2 p2 => ?_
    obtain ⟨d, e, q⟩ := (p2.shiftE t2 ok2).kd
    obtain ⟨r, e1, e2⟩ := Option.map_eq_some_iff.mp e
    subst e2
    exact cmp_use ok2 (Is.step j1 t2) j2 e1 (q.here ok2 (.bl r))
  exact ⟨(pe_cmpR (op_C C.room o) ha hb (marks_ok hs)).weak go, (pt_cmpR (op_C C.room o) ha hb (marks_ok hs)).weak fun σ H Q h => go σ H _ (tT_tE h)⟩
theorem se_chn {o o2 : Cop} {c3 : CE Y.S} (C : Cxt X W n N sc) (hs : notSet c' = true) (ha : PE X a' (tE X.K X.mg W a)) (hb : PE X b' (tE X.K X.mg W b)) (hc : PE X c' (tE X.K X.mg W c3)) :
    PE X (.Compare a' [opC o, opC o2] [b', c'] pos) (tE X.K X.mg W (.chn o o2 a b c3)) ∧ PT X (.Compare a' [opC o, opC o2] [b', c'] pos) (tT X.K X.mg W (.chn o o2 a b c3)) := by
  have hm : lastMarks [opC o, opC o2] [b', c'] = false := marks_ok hs
  have go : ∀ σ H Q, tE X.K X.mg W (.chn o o2 a b c3) σ H Q → tChain (rC X.K o) (rC X.K o2) (tE X.K X.mg W a) (tE X.K X.mg W b) (tE X.K X.mg W c3) σ H Q := fun σ H Q h => by
    obtain ⟨c, H0, ρ, rfl, ok, rel, p⟩ := h
    have p : Post X.mg W σ c (JE X.K c) Q ((ev a ρ c.s).bind fun x s => (ev b ρ s).bind fun y s => (liftO s (cmpD o x.2 y.2)).bind fun k s =>
      if k then (ev c3 ρ s).bind fun z s => kd s ((cmpD o2 y.2 z.2).map .bl) else .ok (.v, .bl false) s) := p
    refine tR.bind ok rel p fun x c1 xa ea t1 ok1 rel1 j1 p1 => ?_
    refine tR.bind ok1 rel1 (p1.shiftE t1 ok1) fun y c2 xb eb t2 ok2 rel2 j2 p2 => ?_
    have p2 := p2.shiftE t2 ok2
    cases e : cmpD o xa.2 xb.2 with
    | none => rw [e] at p2; exact p2.elim
    | some k =>
      rw [e] at p2
      refine cmp_use ok2 (Is.step j1 t2) j2 e ⟨k, rfl, ?_⟩
      cases k with
      | false => exact iteF (p2.fin ok2 (Rep.bl false))
      | true =>
        refine iteT ?_
        have p2 : Post X.mg W σ c2 (JE X.K c2) Q ((ev c3 ρ c2.s).bind fun z s => kd s ((cmpD o2 xb.2 z.2).map .bl)) := p2
        refine tR.bind ok2 rel2 p2 fun z c3 xc ec t3 ok3 rel3 j3 p3 => ?_
        obtain ⟨d, e, q⟩ := (p3.shiftE t3 ok3).kd
        obtain ⟨r, e1, e2⟩ := Option.map_eq_some_iff.mp e
        subst e2
        exact cmp_use ok3 (Is.step j2 t3) j3 e1 (q.here ok3 (.bl r))
  exact ⟨(pe_chain (op_C C.room o) (op_C C.room o2) ha hb hc hm).weak go, (pt_chain (op_C C.room o) (op_C C.room o2) ha hb hc hm).weak fun σ H Q h => go σ H _ (tT_tE h)⟩
theorem se_andE {r : List Expr} (ha : PE X a' (tE X.K X.mg W a)) (hb : PE X (.BoolOp .And (b' :: r) pos) (tE X.K X.mg W b)) : PE X (.BoolOp .And (a' :: b' :: r) pos) (tE X.K X.mg W (.and a b)) := by
  refine (pe_and ha hb).weak fun σ H Q h => ?_
  obtain ⟨c, H0, ρ, rfl, ok, rel, p⟩ := h
  have p : Post X.mg W σ c (JE X.K c) Q ((ev a ρ c.s).bind fun x s => (tru x s).bind fun k s => if k then ev b ρ s else .ok (.v, .bl false) s) := p
  refine tR.bind ok rel p fun x c1 xa ea t1 ok1 rel1 j1 p1 => ?_
  obtain ⟨i, ei, q⟩ := (p1.shiftE t1 ok1).tru
  obtain ⟨k, d⟩ := xa
  have ei : d = .bl i := ei
  subst ei
  refine ⟨i, Is.bl j1, ?_⟩
  cases i with
  | false => exact iteF (q.fin ok1 (Rep.bl false))
  | true => exact iteT ⟨c1, H0, ρ, rfl, ok1, rel1, q⟩
theorem se_orE {r : List Expr} (ha : PE X a' (tE X.K X.mg W a)) (hb : PE X (.BoolOp .Or (b' :: r) pos) (tE X.K X.mg W b)) : PE X (.BoolOp .Or (a' :: b' :: r) pos) (tE X.K X.mg W (.or a b)) := by
  refine (pe_or ha hb).weak fun σ H Q h => ?_
  obtain ⟨c, H0, ρ, rfl, ok, rel, p⟩ := h
  have p : Post X.mg W σ c (JE X.K c) Q ((ev a ρ c.s).bind fun x s => (tru x s).bind fun k s => if k then .ok (.v, .bl true) s else ev b ρ s) := p
  refine tR.bind ok rel p fun x c1 xa ea t1 ok1 rel1 j1 p1 => ?_
  obtain ⟨i, ei, q⟩ := (p1.shiftE t1 ok1).tru
  obtain ⟨k, d⟩ := xa
  have ei : d = .bl i := ei
  subst ei
  refine ⟨i, Is.bl j1, ?_⟩
  cases i with
  | true => exact iteT (q.fin ok1 (Rep.bl true))
  | false => exact iteF ⟨c1, H0, ρ, rfl, ok1, rel1, q⟩
theorem bind_and {S : Type} (r : Res S (K3 × D)) (f : S → Res S (K3 × D)) : (r.bind fun x s => (tru x s).bind fun k s => if k then f s else .ok (K3.v, D.bl false) s).bind tru = (r.bind tru).bind fun k s => if k then (f s).bind tru else .ok false s := by
  cases r with
  | ok x s =>
    obtain ⟨k, d⟩ := x
    cases d with
    | bl b => cases b <;> rfl
    | _ => rfl
  | _ => rfl
theorem bind_or {S : Type} (r : Res S (K3 × D)) (f : S → Res S (K3 × D)) : (r.bind fun x s => (tru x s).bind fun k s => if k then .ok (K3.v, D.bl true) s else f s).bind tru = (r.bind tru).bind fun k s => if k then .ok true s else (f s).bind tru := by
  cases r with
  | ok x s =>
    obtain ⟨k, d⟩ := x
    cases d with
    | bl b => cases b <;> rfl
    | _ => rfl
  | _ => rfl
theorem se_andT {r : List Expr} (ha : PT X a' (tT X.K X.mg W a)) (hb : PW X (.BoolOp .And (b' :: r) pos) (tT X.K X.mg W b)) : PW X (.BoolOp .And (a' :: b' :: r) pos) (tT X.K X.mg W (.and a b)) := by
  refine (pw_and ha hb).weak fun σ H Q h => ?_
  obtain ⟨c, H0, ρ, rfl, ok, rel, p⟩ := h
  have p : Post X.mg W σ c (JB c) Q (((ev a ρ c.s).bind fun x s => (tru x s).bind fun k s => if k then ev b ρ s else .ok (.v, .bl false) s).bind tru) := p
  rw [bind_and] at p
  refine tR.bind (f := fun ρ s => (ev a ρ s).bind tru) ok rel p fun x c1 xa ea t1 ok1 rel1 j1 p1 => ?_
  have j1 : x = xa := j1
  subst j1
  have p1 := p1.shift (J' := JB c1) t1 ok1 fun _ _ _ z => z
  cases x with
  | false => exact iteF (p1.fin ok1 rfl)
  | true => exact iteT ⟨c1, H0, ρ, rfl, ok1, rel1, p1⟩
theorem se_orT {r : List Expr} (ha : PT X a' (tT X.K X.mg W a)) (hb : PW X (.BoolOp .Or (b' :: r) pos) (tT X.K X.mg W b)) : PW X (.BoolOp .Or (a' :: b' :: r) pos) (tT X.K X.mg W (.or a b)) := by
  refine (pw_or ha hb).weak fun σ H Q h => ?_
  obtain ⟨c, H0, ρ, rfl, ok, rel, p⟩ := h
  have p : Post X.mg W σ c (JB c) Q (((ev a ρ c.s).bind fun x s => (tru x s).bind fun k s => if k then .ok (.v, .bl true) s else ev b ρ s).bind tru) := p
  rw [bind_or] at p
  refine tR.bind (f := fun ρ s => (ev a ρ s).bind tru) ok rel p fun x c1 xa ea t1 ok1 rel1 j1 p1 => ?_
  have j1 : x = xa := j1
  subst j1
  have p1 := p1.shift (J' := JB c1) t1 ok1 fun _ _ _ z => z
  cases x with
  | true => exact iteT (p1.fin ok1 rfl)
  | false => exact iteF ⟨c1, H0, ρ, rfl, ok1, rel1, p1⟩
theorem bind_asso {S α β γ : Type} (r : Res S α) (f : α → S → Res S β) (g : β → S → Res S γ) : (r.bind f).bind g = r.bind fun a s => (f a s).bind g := by
  cases r <;> rfl
theorem se_ife {t' : Expr} {t : CE Y.S} (ht : PT X t' (tT X.K X.mg W t)) (ha : PE X a' (tE X.K X.mg W a)) (hb : PE X b' (tE X.K X.mg W b)) : PE X (.IfExp t' a' b' pos) (tE X.K X.mg W (.ife t a b)) := by
  refine (pe_ifExp ht ha hb).weak fun σ H Q h => ?_
  obtain ⟨c, H0, ρ, rfl, ok, rel, p⟩ := h
  have p : Post X.mg W σ c (JE X.K c) Q ((ev t ρ c.s).bind fun x s => (tru x s).bind fun k s => if k then ev a ρ s else ev b ρ s) := p
  rw [← bind_asso] at p
  refine tR.bind (f := fun ρ s => (ev t ρ s).bind tru) ok rel p fun x c1 xa ea t1 ok1 rel1 j1 p1 => ?_
  have j1 : x = xa := j1
  subst j1
  have p1 := p1.shiftE t1 ok1
  cases x with
  | true => exact iteT ⟨c1, H0, ρ, rfl, ok1, rel1, p1⟩
  | false => exact iteF ⟨c1, H0, ρ, rfl, ok1, rel1, p1⟩
theorem se_ix (C : Cxt X W n N sc) (hs : notSlice b' = true) (ha : PE X a' (tE X.K X.mg W a)) (hb : PE X b' (tE X.K X.mg W b)) : PE X (.Subscript a' b' pos) (tE X.K X.mg W (.ix a b)) := by
  refine (pe_ix (ix_X C.room) ha hb (plain_ok hs)).weak fun σ H Q h => ?_
  obtain ⟨c, H0, ρ, rfl, ok, rel, p⟩ := h
  have p : Post X.mg W σ c (JE X.K c) Q ((ev a ρ c.s).bind fun x s => (ev b ρ s).bind fun y s => kd s (ixD x.2 y.2)) := p
  refine tR.bind ok rel p fun x c1 xa ea t1 ok1 rel1 j1 p1 => ?_
  refine tR.bind ok1 rel1 (p1.shiftE t1 ok1) fun y c2 xb eb t2 ok2 rel2 j2 p2 => ?_
  obtain ⟨d, e, q⟩ := (p2.shiftE t2 ok2).kd
  exact ix_use ok2 (Is.step j1 t2) j2 e q
theorem se_slL {p2 : Pos} (ha : PE X a' (tE X.K X.mg W a)) (hb : PE X b' (tE X.K X.mg W b)) : PE X (.Subscript a' (.Slice (some b') none none p2) pos) (tE X.K X.mg W (.slL a b)) := by
  refine (pe_slice sl_S ha (po_some hb) po_none).weak fun σ H Q h => ?_
  obtain ⟨c, H0, ρ, rfl, ok, rel, p⟩ := h
  have p : Post X.mg W σ c (JE X.K c) Q ((ev a ρ c.s).bind fun x s => (ev b ρ s).bind fun y s => (intOf y s).bind fun i s => liftO s (slD x.2 (some i) none)) := p
  refine tR.bind ok rel p fun x c1 xa ea t1 ok1 rel1 j1 p1 => ?_
  refine tR.bind ok1 rel1 (p1.shiftE t1 ok1) fun y c2 xb eb t2 ok2 rel2 j2 p2 => ?_
  obtain ⟨i, ei, q⟩ := (p2.shiftE t2 ok2).int
  obtain ⟨k, d⟩ := xb
  have ei : d = .int i := ei
  subst ei
  obtain ⟨k, d, e, q⟩ := q.lift
  exact ⟨i, Is.int j2, sl_use ok2 (Is.step j1 t2) e q⟩
theorem se_slH {p2 : Pos} (ha : PE X a' (tE X.K X.mg W a)) (hb : PE X b' (tE X.K X.mg W b)) : PE X (.Subscript a' (.Slice none (some b') none p2) pos) (tE X.K X.mg W (.slH a b)) := by
  refine (pe_slice sl_S ha po_none (po_some hb)).weak fun σ H Q h => ?_
  obtain ⟨c, H0, ρ, rfl, ok, rel, p⟩ := h
  have p : Post X.mg W σ c (JE X.K c) Q ((ev a ρ c.s).bind fun x s => (ev b ρ s).bind fun y s => (intOf y s).bind fun i s => liftO s (slD x.2 none (some i))) := p
  refine tR.bind ok rel p fun x c1 xa ea t1 ok1 rel1 j1 p1 => ?_
  refine tR.bind ok1 rel1 (p1.shiftE t1 ok1) fun y c2 xb eb t2 ok2 rel2 j2 p2 => ?_
  obtain ⟨i, ei, q⟩ := (p2.shiftE t2 ok2).int
  obtain ⟨k, d⟩ := xb
  have ei : d = .int i := ei
  subst ei
  obtain ⟨k, d, e, q⟩ := q.lift
  exact ⟨i, Is.int j2, sl_use ok2 (Is.step j1 t2) e q⟩
theorem se_slB {p2 : Pos} {h' : Expr} {hi : CE Y.S} (ha : PE X a' (tE X.K X.mg W a)) (hb : PE X b' (tE X.K X.mg W b)) (hh : PE X h' (tE X.K X.mg W hi)) : PE X (.Subscript a' (.Slice (some b') (some h') none p2) pos) (tE X.K X.mg W (.slB a b hi)) := by
  refine (pe_slice sl_S ha (po_some hb) (po_some hh)).weak fun σ H Q h => ?_
  obtain ⟨c, H0, ρ, rfl, ok, rel, p⟩ := h
  have p : Post X.mg W σ c (JE X.K c) Q ((ev a ρ c.s).bind fun x s => (ev b ρ s).bind fun y s => (intOf y s).bind fun i s => (ev hi ρ s).bind fun z s => (intOf z s).bind fun j s => liftO s (slD x.2 (some i) (some j))) := p
  refine tR.bind ok rel p fun x c1 xa ea t1 ok1 rel1 j1 p1 => ?_
  refine tR.bind ok1 rel1 (p1.shiftE t1 ok1) fun y c2 xb eb t2 ok2 rel2 j2 p2 => ?_
  obtain ⟨i, ei, q⟩ := (p2.shiftE t2 ok2).int
  obtain ⟨k, d⟩ := xb
  have ei : d = .int i := ei
  subst ei
  refine ⟨i, Is.int j2, tR.bind ok2 rel2 q fun z c3 xc ec t3 ok3 rel3 j3 p3 => ?_⟩
  obtain ⟨j, ej, q⟩ := (p3.shiftE t3 ok3).int
  obtain ⟨k, d⟩ := xc
  have ej : d = .int j := ej
  subst ej
  obtain ⟨k, d, e, q⟩ := q.lift
  exact ⟨j, Is.int j3, sl_use ok3 (Is.step (Is.step j1 t2) t3) e q⟩
theorem se_tup {es : List Expr} {cs : CA Y.S} {k : Nat} (ha : PA X es (tA X.K X.mg W cs)) : PE X (.Tuple es k pos) (tE X.K X.mg W (.tup cs)) := by
  refine (pe_tupZ ha).weak fun σ H Q h => ?_
  obtain ⟨c, H0, ρ, rfl, ok, rel, p⟩ := h
  have p : Post X.mg W σ c (JE X.K c) Q ((evA cs ρ c.s).bind fun ds s => if lenOk ds.length then .ok (.v, .tup ds) s else .er) := p
  refine tR.bind ok rel p fun xs c1 ds ea t1 ok1 rel1 j1 p1 => ?_
  have j1 : Reps X.K c1.F xs ds := j1
  have p1 := p1.shiftE t1 ok1
  split at p1
  · rename_i hl
    exact ⟨by rw [j1.length]; exact szM hl, p1.fi.tup ok1 j1⟩
  · exact p1.elim
theorem se_lst {es : List Expr} {cs : CA Y.S} (ha : PA X es (tA X.K X.mg W cs)) : PE X (.List es pos) (tE X.K X.mg W (.lst cs)) := by
  refine (pe_lst ha).weak fun σ H Q h => ?_
  obtain ⟨c, H0, ρ, rfl, ok, rel, p⟩ := h
  have p : Post X.mg W σ c (JE X.K c) Q ((evA cs ρ c.s).bind fun ds s => if lenOk ds.length then .ok (.t, .lst ds) s else .er) := p
  refine tR.bind ok rel p fun xs c1 ds ea t1 ok1 rel1 j1 p1 => ?_
  have j1 : Reps X.K c1.F xs ds := j1
  have p1 := p1.shiftE t1 ok1
  split at p1
  · rename_i hl
    exact ⟨by rw [j1.length]; exact szM hl, p1.fi.lst ok1 j1⟩
  · exact p1.elim
theorem sa_nil : PA X [] (tA (Y := Y) X.K X.mg W .nil) := by
  refine pa_nil.weak fun σ H Q h => ?_
  obtain ⟨c, H0, ρ, rfl, ok, rel, p⟩ := h
  have p : Post X.mg W σ c (JA X.K c) Q (.ok [] c.s) := p
  exact p.fin ok Reps.nil
theorem sa_cons {es : List Expr} {cs : CA Y.S} (hs : notStar a' = true) (ha : PE X a' (tE X.K X.mg W a)) (hr : PA X es (tA X.K X.mg W cs)) : PA X (a' :: es) (tA X.K X.mg W (.cons a cs)) := by
  refine (pa_cons ha hr (star_cons hs _ _)).weak fun σ H Q h => ?_
  obtain ⟨c, H0, ρ, rfl, ok, rel, p⟩ := h
  have p : Post X.mg W σ c (JA X.K c) Q ((ev a ρ c.s).bind fun x s => (dat x s).bind fun d s => (evA cs ρ s).bind fun ds s => .ok (d :: ds) s) := p
  refine tR.bind ok rel p fun x c1 xa ea t1 ok1 rel1 j1 p1 => ?_
  obtain ⟨ko, p1⟩ := p1.dat
  obtain ⟨c2, es2, eh2, t2, ok2, r2⟩ := Is.data j1 ko t1 ok1
  rw [← eh2]
  rw [← es2] at p1
  have rel2 := rel.step t2
  have p1 := p1.shift (J' := JA X.K c2) t2 ok2 fun _ _ _ z => z
  refine tR.bind ok2 rel2 p1 fun vs c3 ds ea3 t3 ok3 rel3 j3 p3 => ?_
  have j3 : Reps X.K c3.F vs ds := j3
  exact (p3.shift (J' := JA X.K c3) t3 ok3 fun _ _ _ z => z).fin ok3 (Reps.cons (r2.mono t3.f) j3)
end
end Mf
set_option Elab.async false
set_option linter.all false
set_option maxRecDepth 100000
set_option maxHeartbeats 1000000
namespace Mf
open PySem L2 PySem.Spec PyProof.Rows
/-! ### zip of any two of list, tuple, text -/
inductive Zk where
  | lst (l : Addr) | tup (l : Addr) | str (x : Str) (t : Tok)
def Zk.val : Zk → Value
  | .lst l => .ref l | .tup l => .ref l | .str x t => .str x t
def Zk.it (h : Heap) (a : Addr) (i : Nat) : Zk → Prop
  | .lst l => h.IsListIter a l i | .tup l => h.IsTupleIter a l i | .str x t => h.IsStrIter a "str_ascii_iterator" x t i
def Zk.ne (a : Addr) : Zk → Prop
  | .lst l => l ≠ a | .tup l => l ≠ a | .str _ _ => True
/-- an i-th item with P -/
def Zk.has (h : Heap) (i : Nat) (P : Value → Prop) : Zk → Prop
  | .lst l => ∃ its u, h.IsList l its ∧ its[i]? = some u ∧ P u
  | .tup l => ∃ its u, h.IsTuple l its ∧ its[i]? = some u ∧ P u
  | .str x _ => ∃ c, x.cps[i]? = some c ∧ ∀ t, P (.str ⟨#[c]⟩ t)
def Zk.over (h : Heap) (i : Nat) : Zk → Prop
  | .lst l => ∃ its, h.IsList l its ∧ its[i]? = none
  | .tup l => ∃ its, h.IsTuple l its ∧ its[i]? = none
  | .str x _ => x.cps[i]? = none
def Zk.here (h : Heap) : Zk → Prop
  | .lst l => ∃ its, h.IsList l its
  | .tup l => ∃ its, h.IsTuple l its
  | .str x _ => x.cps.all (· < 128) = true
section
variable {h h' : Heap} {a b : Addr} {i : Nat} {P : Value → Prop} {c : Zk}
theorem Zk.it_ext (e : c.it h a i) (hs : Heap.ExtBut b h h') (hab : a ≠ b) : c.it h' a i := by
  cases c with
  | lst l => exact Heap.IsListIter.extBut e hs hab
  | tup l => exact Heap.IsTupleIter.extBut e hs hab
  | str x t => exact Heap.IsStrIter.extBut e hs hab
theorem Zk.it_at (e : c.it h a i) (k : ∀ o, h.get? a = some o → h'.get? a = some o) : c.it h' a i := by
  cases c with
  | lst l => exact Heap.IsListIter.at e k
  | tup l => exact Heap.IsTupleIter.at e k
  | str x t => obtain ⟨o, ho, r⟩ := e; exact ⟨o, k o ho, r⟩
theorem Zk.it_obj (e : c.it h a i) : ∃ o, h.get? a = some o ∧ ∀ v, o.data ≠ .cell v := by
  cases c with
  | lst l => obtain ⟨o, ho, _, d⟩ := e; exact ⟨o, ho, fun v q => by rw [d] at q; cases q⟩
  | tup l => obtain ⟨o, ho, _, d⟩ := e; exact ⟨o, ho, fun v q => by rw [d] at q; cases q⟩
  | str x t => obtain ⟨o, ho, _, d⟩ := e; exact ⟨o, ho, fun v q => by rw [d] at q; cases q⟩
theorem Zk.has_ext (e : c.has h i P) (hs : Heap.ExtBut b h h') (hab : c.ne b) : c.has h' i P := by
  cases c with
  | lst l => obtain ⟨its, u, h1, h2⟩ := e; exact ⟨its, u, h1.extBut hs hab, h2⟩
  | tup l => obtain ⟨its, u, h1, h2⟩ := e; exact ⟨its, u, h1.extBut hs hab, h2⟩
  | str x t => exact e
theorem Zk.over_ext (e : c.over h i) (hs : Heap.ExtBut b h h') (hab : c.ne b) : c.over h' i := by
  cases c with
  | lst l => obtain ⟨its, h1, h2⟩ := e; exact ⟨its, h1.extBut hs hab, h2⟩
  | tup l => obtain ⟨its, h1, h2⟩ := e; exact ⟨its, h1.extBut hs hab, h2⟩
  | str x t => exact e
end
section
variable {prog : Program} {w : World} {A : Around} {E : Value → Shared → Prop} {s : Shared} {c c1 c2 : Zk} {i : Nat}
theorem Zk.next {a : Addr} {P : Value → Prop} {Q : Value → Shared → Prop} (e : c.it s.heap a i) (hx : c.has s.heap i P) (hQ : ∀ u h' tk, P u → c.it h' a (i + 1) → Heap.SameBut a s.heap h' → Q u { s with heap := h', toks := tk }) :
    wpAny (model prog w) A (Builtin.SmallTypes.nextOf (.ref a)) Q E s := by
  cases c with
  | lst l => obtain ⟨its, u, h1, h2, h3⟩ := hx; exact wpAny_nextOf_list_item e h1 h2 fun h' k1 k2 => hQ u h' s.toks h3 k1 k2
  | tup l => obtain ⟨its, u, h1, h2, h3⟩ := hx; exact RZ.nextOf_tuple_item e h1 h2 fun h' k1 k2 => hQ u h' s.toks h3 k1 k2
  | str x t => obtain ⟨ch, h1, h2⟩ := hx; exact wpAny_nextOf_ascii_item e h1 fun h' k1 k2 => hQ _ h' (s.toks + 1) (h2 _) k1 k2
theorem Zk.stop {a : Addr} {Q : Value → Shared → Prop} (hh : A.handled = none) (e : c.it s.heap a i) (hx : c.over s.heap i)
    (hE : ∀ h' e, Heap.ExtBut a s.heap h' → (∃ o, h'.get? e = some o ∧ o.cls = .type "StopIteration") → E (.ref e) { s with heap := h' }) : wpAny (model prog w) A (Builtin.SmallTypes.nextOf (.ref a)) Q E s := by
  cases c with
  | lst l => obtain ⟨its, h1, h2⟩ := hx; exact wpAny_nextOf_list_end hh e h1 h2 hE
  | tup l => obtain ⟨its, h1, h2⟩ := hx; exact RZ.nextOf_tuple_end hh e h1 h2 hE
  | str x t => exact wpAny_nextOf_ascii_end hh e hx hE
structure Zap (z TI TO i1 i2 : Addr) : Prop where
  a1 : TI ≠ z
  a2 : TO ≠ z
  a3 : i1 ≠ z
  a4 : i2 ≠ z
  a5 : TI ≠ TO
  a6 : TI ≠ i1
  a7 : TI ≠ i2
  a8 : TO ≠ i1
  a9 : TO ≠ i2
  a0 : i1 ≠ i2
variable {z TI TO i1 i2 : Addr}
abbrev Zst (h : Heap) (z TI TO i1 i2 : Addr) (c1 c2 : Zk) (i : Nat) : Prop := IsZip h z TI TO .none ∧ IsPair h TI (.ref i1) (.ref i2) ∧ (∃ x y, IsPair h TO x y) ∧ c1.it h i1 i ∧ c2.it h i2 i
theorem zk_item {P1 P2 : Value → Prop} {Q : Value → Shared → Prop} (D : Zap z TI TO i1 i2) (st : Zst s.heap z TI TO i1 i2 c1 c2 i) (n1 : c1.ne z) (n2 : c2.ne z ∧ c2.ne i1 ∧ c2.ne TO) (hx : c1.has s.heap i P1) (hy : c2.has s.heap i P2)
    (hQ : ∀ h' tk x y, P1 x → P2 y → IsZip h' z TI TO (rawInt s.heap.objs.size) → IsPair h' TO x y → c1.it h' i1 (i + 1) → c2.it h' i2 (i + 1) → IsPair h' s.heap.objs.size x y →
      (∀ c o, c ≠ z → c ≠ TO → c ≠ i1 → c ≠ i2 → s.heap.get? c = some o → h'.get? c = some o) → Q (.ref s.heap.objs.size) { s with heap := h', toks := tk }) :
    wpAny (model prog w) A (Builtin.«zip.__next__» ⟨[.ref z], []⟩) (fun fin s' => ∃ v, fin = .done (.ret v) ∧ Q v s') E s := by
  obtain ⟨hz, hTI, ⟨a, b, hTO⟩, h1, h2⟩ := st
  show wpAny _ _ (field (.ref z) 2 >>= _) _ _ _
  refine wpAny_bind (wpAny_field hz rfl (x := .bool false) rfl ?_); show wpAny _ _ (field (.ref z) 3 >>= _) _ _ _
  refine wpAny_bind (wpAny_field hz rfl (x := .ref TI) rfl (wpAny_bind (wpAny_seqItems hTI rfl ?_)))
  show wpAny _ _ (Builtin.SmallTypes.ownedTupleIsFree (.ref z) >>= _) _ _ _
  refine wpAny_bind ?_
  unfold Builtin.SmallTypes.ownedTupleIsFree
  refine wpAny_bind (wpAny_field hz rfl (x := .none) rfl (wpAny_pure ?_))
  simp only [if_true]
  refine wpAny_bind (wpAny_rule (wpAny_bind (wpAny_field hz rfl (x := .ref TO) rfl (wpAny_bind (wpAny_setField_rec hz (by simp) fun g1 z1 e1 => ?_)))))
  replace z1 : IsZip g1 z TI TO .ellipsis := z1
  refine wpAny_bind ?_
  simp only [List.zipIdx_cons, List.zipIdx_nil, List.forIn_cons, List.forIn_nil]
  refine wpAny_bind (wpAny_bind (wpAny_onRaise ?_)); show wpAny _ _ (Builtin.SmallTypes.nextOf (.ref i1) >>= _) _ _ _
  refine wpAny_bind (Zk.next (Zk.it_ext h1 e1.extBut D.a3) (Zk.has_ext hx e1.extBut n1) fun x g2 t2 px q2 e2 => wpAny_pure ?_)
  have T2 : IsPair g2 TO a b := e2.extBut _ _ D.a8 (e1.extBut _ _ D.a2 hTO)
  refine wpAny_bind (wpAny_seqItems T2 rfl (wpAny_bind (wpAny_updateSeq_pair T2 fun g3 T3 e3 => wpAny_bind (wpAny_letGo (wpAny_pure ?_)))))
  replace T3 : IsPair g3 TO x b := T3
  refine wpAny_bind (wpAny_bind (wpAny_onRaise ?_)); show wpAny _ _ (Builtin.SmallTypes.nextOf (.ref i2) >>= _) _ _ _
  refine wpAny_bind (Zk.next (Zk.it_ext (Zk.it_ext (Zk.it_ext h2 e1.extBut D.a4) e2.extBut D.a0.symm) e3.extBut D.a9.symm) (Zk.has_ext (Zk.has_ext (Zk.has_ext hy e1.extBut n2.1) e2.extBut n2.2.1) e3.extBut n2.2.2) fun y g4 t4 py q4 e4 => wpAny_pure ?_)
  have T4 : IsPair g4 TO x b := e4.extBut _ _ D.a9 T3
  refine wpAny_bind (wpAny_seqItems T4 rfl (wpAny_bind (wpAny_updateSeq_pair T4 fun g5 T5 e5 => wpAny_bind (wpAny_letGo (wpAny_pure (wpAny_pure ?_))))))
  replace T5 : IsPair g5 TO x y := T5
  refine wpAny_bind (wpAny_seqItems T5 rfl (wpAny_bind (wpAny_newTuple ?_)))
  have hsz : g5.objs.size = s.heap.objs.size := by rw [e5.1, e4.1, e3.1, e2.1, e1.1]
  have z5 : IsZip g5 z TI TO .ellipsis := e5.extBut _ _ D.a2.symm (e4.extBut _ _ D.a4.symm (e3.extBut _ _ D.a2.symm (e2.extBut _ _ D.a3.symm z1)))
  have k5 : ∀ c o, c ≠ z → c ≠ TO → c ≠ i1 → c ≠ i2 → s.heap.get? c = some o → g5.get? c = some o := fun c o b1 b2 b3 b4 e => e5.extBut _ _ b2 (e4.extBut _ _ b4 (e3.extBut _ _ b2 (e2.extBut _ _ b3 (e1.extBut _ _ b1 e))))
  have r1 : c1.it g5 i1 (i + 1) := Zk.it_ext (Zk.it_ext (Zk.it_ext q2 e3.extBut D.a8.symm) e4.extBut D.a0) e5.extBut D.a8.symm
  have r2 : c2.it g5 i2 (i + 1) := Zk.it_ext q4 e5.extBut D.a9.symm
  have zlt : z < g5.objs.size := Heap.lt_size z5
  show wpAny _ _ (Builtin.SmallTypes.ownedTupleHandOut (.ref z) (.ref g5.objs.size) >>= _) _ _ _
  refine wpAny_bind ?_
  unfold Builtin.SmallTypes.ownedTupleHandOut
  have z6 : IsZip (g5.push { cls := .type "tuple", data := .seq #[x, y] }) z TI TO .ellipsis := Heap.get?_push_of_some _ z5
  refine wpAny_bind (wpAny_setField_rec z6 (by simp) fun g7 z7 e7 => ?_)
  replace z7 : IsZip g7 z TI TO (rawInt g5.objs.size) := z7
  refine wpAny_setField_rec z7 (by simp) fun g8 z8 e8 => ?_
  replace z8 : IsZip g8 z TI TO (rawInt g5.objs.size) := z8
  have up : ∀ c o, c ≠ z → g5.get? c = some o → g8.get? c = some o := fun c o b1 e => e8.extBut _ _ b1 (e7.extBut _ _ b1 (Heap.get?_push_of_some _ e))
  have T8 : IsPair g8 g5.objs.size x y := e8.extBut _ _ (Nat.ne_of_gt zlt) (e7.extBut _ _ (Nat.ne_of_gt zlt) (Heap.get?_push_size _ rfl))
  rw [hsz] at z8 T8
  refine wpAny_pure ⟨_, rfl, ?_⟩
  show Q (.ref g5.objs.size) _
  rw [hsz]
  exact hQ g8 _ x y px py z8 (up _ _ D.a2 T5) (Zk.it_at r1 fun o e => up _ o D.a3 e) (Zk.it_at r2 fun o e => up _ o D.a4 e) T8 fun c o b1 b2 b3 b4 e => up c o b1 (k5 c o b1 b2 b3 b4 e)
theorem zk_end {Q : PySem.Fin → Shared → Prop} (hh : A.handled = none) (D : Zap z TI TO i1 i2) (st : Zst s.heap z TI TO i1 i2 c1 c2 i) (n1 : c1.ne z) (n2 : c2.ne z ∧ c2.ne i1 ∧ c2.ne TO)
    (he : c1.over s.heap i ∨ (c1.has s.heap i (fun _ => True) ∧ c2.over s.heap i))
    (hE : ∀ h' e tk, (∀ c o, c ≠ z → c ≠ TO → c ≠ i1 → c ≠ i2 → s.heap.get? c = some o → h'.get? c = some o) → (∃ o, h'.get? e = some o ∧ o.cls = .type "StopIteration") → E (.ref e) { s with heap := h', toks := tk }) :
    wpAny (model prog w) A (Builtin.«zip.__next__» ⟨[.ref z], []⟩) Q E s := by
  obtain ⟨hz, hTI, ⟨a, b, hTO⟩, h1, h2⟩ := st
  show wpAny _ _ (field (.ref z) 2 >>= _) _ _ _
  refine wpAny_bind (wpAny_field hz rfl (x := .bool false) rfl ?_); show wpAny _ _ (field (.ref z) 3 >>= _) _ _ _
  refine wpAny_bind (wpAny_field hz rfl (x := .ref TI) rfl (wpAny_bind (wpAny_seqItems hTI rfl ?_)))
  show wpAny _ _ (Builtin.SmallTypes.ownedTupleIsFree (.ref z) >>= _) _ _ _
  refine wpAny_bind ?_
  unfold Builtin.SmallTypes.ownedTupleIsFree
  refine wpAny_bind (wpAny_field hz rfl (x := .none) rfl (wpAny_pure ?_))
  simp only [if_true]
  refine wpAny_bind (wpAny_rule (wpAny_bind (wpAny_field hz rfl (x := .ref TO) rfl (wpAny_bind (wpAny_setField_rec hz (by simp) fun g1 z1 e1 => ?_)))))
  replace z1 : IsZip g1 z TI TO .ellipsis := z1
  refine wpAny_bind ?_
  simp only [List.zipIdx_cons, List.zipIdx_nil, List.forIn_cons, List.forIn_nil]
  refine wpAny_bind (wpAny_bind (wpAny_onRaise ?_)); show wpAny _ _ (Builtin.SmallTypes.nextOf (.ref i1) >>= _) _ _ _
  rcases he with he | ⟨hx, he⟩
  · refine wpAny_bind (Zk.stop hh (Zk.it_ext h1 e1.extBut D.a3) (Zk.over_ext he e1.extBut n1) fun g2 e e2 ho => ?_)
    obtain ⟨oe, hoe, hce⟩ := ho
    have z2 : IsZip g2 z TI TO .ellipsis := e2 _ _ D.a3.symm z1
    have hez : e ≠ z := fun x => by subst x; rw [z2] at hoe; cases hoe; simp at hce
    exact wpAny_setField_rec z2 (by simp) fun g3 _ e3 => hE g3 e s.toks (fun c o b1 _ b3 _ x => e3.extBut _ _ b1 (e2 _ _ b3 (e1.extBut _ _ b1 x))) ⟨oe, e3.extBut _ _ hez hoe, hce⟩
  · refine wpAny_bind (Zk.next (Zk.it_ext h1 e1.extBut D.a3) (Zk.has_ext hx e1.extBut n1) fun x g2 t2 px q2 e2 => wpAny_pure ?_)
    have T2 : IsPair g2 TO a b := e2.extBut _ _ D.a8 (e1.extBut _ _ D.a2 hTO)
    refine wpAny_bind (wpAny_seqItems T2 rfl (wpAny_bind (wpAny_updateSeq_pair T2 fun g3 T3 e3 => wpAny_bind (wpAny_letGo (wpAny_pure ?_)))))
    refine wpAny_bind (wpAny_bind (wpAny_onRaise ?_)); show wpAny _ _ (Builtin.SmallTypes.nextOf (.ref i2) >>= _) _ _ _
    refine wpAny_bind (Zk.stop hh (Zk.it_ext (Zk.it_ext (Zk.it_ext h2 e1.extBut D.a4) e2.extBut D.a0.symm) e3.extBut D.a9.symm) (Zk.over_ext (Zk.over_ext (Zk.over_ext he e1.extBut n2.1) e2.extBut n2.2.1) e3.extBut n2.2.2) fun g4 e e4 ho => ?_)
    obtain ⟨oe, hoe, hce⟩ := ho
    have z4 : IsZip g4 z TI TO .ellipsis := e4 _ _ D.a4.symm (e3.extBut _ _ D.a2.symm (e2.extBut _ _ D.a3.symm z1))
    have hez : e ≠ z := fun x => by subst x; rw [z4] at hoe; cases hoe; simp at hce
    exact wpAny_setField_rec z4 (by simp) fun g5 _ e5 => hE g5 e _ (fun c o b1 b2 b3 b4 x => e5.extBut _ _ b1 (e4 _ _ b4 (e3.extBut _ _ b2 (e2.extBut _ _ b3 (e1.extBut _ _ b1 x))))) ⟨oe, e5.extBut _ _ hez hoe, hce⟩
theorem zk_next {P1 P2 : Value → Prop} {Q : Option Value → Shared → Prop} (D : Zap z TI TO i1 i2) (st : Zst s.heap z TI TO i1 i2 c1 c2 i) (n1 : c1.ne z) (n2 : c2.ne z ∧ c2.ne i1 ∧ c2.ne TO) (hx : c1.has s.heap i P1) (hy : c2.has s.heap i P2)
    (hQ : ∀ h' tk x y, P1 x → P2 y → IsZip h' z TI TO (rawInt s.heap.objs.size) → IsPair h' TO x y → c1.it h' i1 (i + 1) → c2.it h' i2 (i + 1) → IsPair h' s.heap.objs.size x y →
      (∀ c o, c ≠ z → c ≠ TO → c ≠ i1 → c ≠ i2 → s.heap.get? c = some o → h'.get? c = some o) → Q (some (.ref s.heap.objs.size)) { s with heap := h', toks := tk }) : wpAny (model prog w) A (pyNext (.ref z)) Q E s := by
  have hT : s.TypeIs (.ref z) "zip" := ⟨_, st.1, rfl⟩
  unfold pyNext
  exact wpAny_bind (wpAny_attempt (wpAny_callSpecial?_slot (name := Str.ofString "__next__") hT F.slot_zip_next (wpAny_call_entry F.slot_zip_next hT F.entry_zip_next (zk_item D st n1 n2 hx hy fun h' tk x y b1 b2 b3 b4 b5 b6 b7 b8 => wpAny_pure (hQ h' tk x y b1 b2 b3 b4 b5 b6 b7 b8)) (F.args_zip_next_1 _))))
theorem zk_done {Q : Option Value → Shared → Prop} (hh : A.handled = none) (D : Zap z TI TO i1 i2) (st : Zst s.heap z TI TO i1 i2 c1 c2 i) (n1 : c1.ne z) (n2 : c2.ne z ∧ c2.ne i1 ∧ c2.ne TO)
    (he : c1.over s.heap i ∨ (c1.has s.heap i (fun _ => True) ∧ c2.over s.heap i))
    (hQ : ∀ h' tk, (∀ c o, c ≠ z → c ≠ TO → c ≠ i1 → c ≠ i2 → s.heap.get? c = some o → h'.get? c = some o) → Q none { s with heap := h', toks := tk }) : wpAny (model prog w) A (pyNext (.ref z)) Q E s := by
  have hT : s.TypeIs (.ref z) "zip" := ⟨_, st.1, rfl⟩
  unfold pyNext
  refine wpAny_bind (wpAny_attempt (wpAny_callSpecial?_slot (name := Str.ofString "__next__") hT F.slot_zip_next (wpAny_call_entry F.slot_zip_next hT F.entry_zip_next (zk_end hh D st n1 n2 he fun h' e tk hk ho => ?_) (F.args_zip_next_1 _))))
  obtain ⟨o, ho, hc⟩ := ho
  exact wpAny_bind (wpAny_isInstance (T := "StopIteration") (b := true) ⟨o, ho, hc⟩ isSubtype_stop (wpAny_pure (hQ _ tk hk)))
def Zk.obj : Zk → Obj
  | .lst l => { cls := .type "list_iterator", data := .fields #[.ref l, .int 0 0] }
  | .tup l => { cls := .type "tuple_iterator", data := .fields #[.ref l, .int 0 0] }
  | .str x t => { cls := .type "str_ascii_iterator", data := .fields #[.str x t, .int 0 0] }
theorem Zk.iter {Q : Value → Shared → Prop} (hc : c.here s.heap) (hQ : Q (.ref s.heap.objs.size) { s with heap := s.heap.push c.obj }) : wpAny (model prog w) A (pyIter c.val) Q E s := by
  cases c with
  | lst l => obtain ⟨its, h⟩ := hc; exact wpAny_pyIter_list h hQ
  | tup l => obtain ⟨its, h⟩ := hc; exact wpAny_pyIter_tuple h hQ
  | str x t => exact wpAny_pyIter_ascii hc hQ
theorem Zk.here_push {h : Heap} {o : Obj} (e : c.here h) : c.here (h.push o) := by
  cases c with
  | lst l => obtain ⟨its, h⟩ := e; exact ⟨its, h.push _⟩
  | tup l => obtain ⟨its, h⟩ := e; exact ⟨its, h.push _⟩
  | str x t => exact e
abbrev zk3 (h : Heap) (c1 c2 : Zk) : Heap := ((h.push c1.obj).push c2.obj).push { cls := .type "tuple", data := .seq #[.ref h.objs.size, .ref (h.push c1.obj).objs.size] }
abbrev zk4 (h : Heap) (c1 c2 : Zk) : Heap := (zk3 h c1 c2).push { cls := .type "tuple", data := .seq #[.none, .none] }
abbrev zk5 (h : Heap) (c1 c2 : Zk) : Heap := (zk4 h c1 c2).push { cls := .type "zip", data := .fields #[.none, .bool false, .bool false, .ref ((h.push c1.obj).push c2.obj).objs.size, .ref (zk3 h c1 c2).objs.size] }
end
theorem zk_new (c1 c2 : Zk) : Meets (Builtin.«zip.__new__» ⟨[.type "zip", c1.val, c2.val], []⟩) (fun _ R s => c1.here s.heap ∧ c2.here s.heap ∧
      R (.ok (.ret (.ref (zk4 s.heap c1 c2).objs.size))) { s with heap := zk5 s.heap c1 c2 }) :=
  .of_wp fun prog w A R s h => by
    obtain ⟨hp, g, d, tk, os⟩ := s; obtain ⟨hl1, hl2, h⟩ := h
    have hsub := PySem.sub_zip
    have hL1 : c1.here (Shared.heap ⟨hp, g, d, tk, os⟩) := hl1
    have hL2 : c2.here (Shared.heap ⟨hp.push c1.obj, g, d, tk, os⟩) := Zk.here_push hl2
    wp_walk using Zk.iter hL1, Zk.iter hL2
    exact ⟨_, rfl, h⟩
section
variable {prog : Program} {w : World} {A : Around} {E : Value → Shared → Prop} {s : Shared}
theorem Zk.it_new {h : Heap} {c : Zk} {a : Addr} (e : h.get? a = some c.obj) : c.it h a 0 := by
  cases c with
  | lst l => exact ⟨_, e, rfl, rfl⟩
  | tup l => exact ⟨_, e, rfl, rfl⟩
  | str x t => exact ⟨_, e, rfl, rfl⟩
theorem Zk.alive (c : Zk) : c.obj.isFreed = false := by cases c <;> rfl
theorem zk_call (c1 c2 : Zk) {Q : Value → Shared → Prop} (hl1 : c1.here s.heap) (hl2 : c2.here s.heap)
    (h : ∀ h', Zst h' (s.heap.objs.size + 4) (s.heap.objs.size + 2) (s.heap.objs.size + 3) s.heap.objs.size (s.heap.objs.size + 1) c1 c2 0 →
      (∀ c o, s.heap.get? c = some o → h'.get? c = some o) → Q (.ref (s.heap.objs.size + 4)) { s with heap := h' }) :
    wpAny (model prog w) A (call (.type "zip") [c1.val, c2.val]) Q E s := by
  refine callType_new F.called_zip (by decide) (F.typeCall_zip_2 _ _) (F.newCall_zip_2 _ _) (fun obj => F.args_object_init_3 obj _ _) F.entry_zip_new (zk_new c1 c2) ⟨hl1, hl2, ?_⟩
  have y1 : (s.heap.push c1.obj).objs.size = s.heap.objs.size + 1 := Heap.size_push ..
  have y2 : ((s.heap.push c1.obj).push c2.obj).objs.size = s.heap.objs.size + 2 := by rw [Heap.size_push, y1]
  have y3 : (zk3 s.heap c1 c2).objs.size = s.heap.objs.size + 3 := by rw [Heap.size_push, y2]
  have y4 : (zk4 s.heap c1 c2).objs.size = s.heap.objs.size + 4 := by rw [Heap.size_push, y3]
  have x5 : (zk5 s.heap c1 c2).get? (zk4 s.heap c1 c2).objs.size = some _ := Heap.get?_push_size _ rfl
  have x4 : (zk5 s.heap c1 c2).get? (zk3 s.heap c1 c2).objs.size = some _ := Heap.get?_push_of_some _ (Heap.get?_push_size _ rfl)
  have x3 : (zk5 s.heap c1 c2).get? ((s.heap.push c1.obj).push c2.obj).objs.size = some _ := Heap.get?_push_of_some _ (Heap.get?_push_of_some _ (Heap.get?_push_size _ rfl))
  have x2 : (zk5 s.heap c1 c2).get? (s.heap.push c1.obj).objs.size = some _ := Heap.get?_push_of_some _ (Heap.get?_push_of_some _ (Heap.get?_push_of_some _ (Heap.get?_push_size _ c2.alive)))
  have x1 : (zk5 s.heap c1 c2).get? s.heap.objs.size = some _ := Heap.get?_push_of_some _ (Heap.get?_push_of_some _ (Heap.get?_push_of_some _ (Heap.get?_push_of_some _ (Heap.get?_push_size _ c1.alive))))
  show _ ∧ _
  rw [y2, y3, y4] at x5
  rw [y1, y2] at x3
  rw [y3] at x4
  rw [y1] at x2
  rw [y4]
  exact ⟨⟨_, x5, rfl⟩, h _ ⟨x5, x3, ⟨_, _, x4⟩, Zk.it_new x1, Zk.it_new x2⟩ fun c o x => Heap.get?_push_of_some _ (Heap.get?_push_of_some _ (Heap.get?_push_of_some _ (Heap.get?_push_of_some _ (Heap.get?_push_of_some _ x))))⟩
end
/-! at the layer's level -/
def Zk.vs (K : PySem.W.Frag) (H : Hp) (xs : List V) : Zk → Prop
  | .lst l => SqL K H l xs
  | .tup l => SqT K H l xs
  | .str x _ => x.cps.all (· < 128) = true ∧ xs = x.cps.toList.map fun c => V.str ⟨#[c]⟩
section
variable {X : Cx} {pins : List (Addr × Obj)} {σ : L2.St} {H : Hp} {s : Shared} {c : Zk} {xs ys : List V} {i : Nat} {x : V}
theorem Zk.has_of (I : Inv X pins σ H s) (h : c.vs X.K H xs) (hx : xs[i]? = some x) : c.has s.heap i (RelV x) := by
  cases c with
  | lst l =>
    obtain ⟨its, rv, p, _⟩ := I.list h
    obtain ⟨u, hu, ru⟩ := rv.get hx
    exact ⟨its.toArray, u, p.isList, by simpa using hu, ru⟩
  | tup l =>
    obtain ⟨its, rv, p, _⟩ := I.tuple h
    obtain ⟨u, hu, ru⟩ := rv.get hx
    exact ⟨its.toArray, u, p, by simpa using hu, ru⟩
  | str z t =>
    obtain ⟨_, rfl⟩ := h
    rw [List.getElem?_map] at hx
    obtain ⟨ch, h1, rfl⟩ := Option.map_eq_some_iff.mp hx
    exact ⟨ch, by simpa using h1, fun t => ⟨t, rfl⟩⟩
theorem Zk.over_of (I : Inv X pins σ H s) (h : c.vs X.K H xs) (hx : xs.length ≤ i) : c.over s.heap i := by
  cases c with
  | lst l =>
    obtain ⟨its, rv, p, _⟩ := I.list h
    have := rv.length
    exact ⟨its.toArray, p.isList, by simp; omega⟩
  | tup l =>
    obtain ⟨its, rv, p, _⟩ := I.tuple h
    have := rv.length
    exact ⟨its.toArray, p, by simp; omega⟩
  | str z t =>
    obtain ⟨_, rfl⟩ := h
    rw [List.length_map, Array.length_toList] at hx
    exact Array.getElem?_eq_none hx
theorem Zk.here_of (I : Inv X pins σ H s) (h : c.vs X.K H xs) : c.here s.heap := by
  cases c with
  | lst l => obtain ⟨its, rv, p, _⟩ := I.list h; exact ⟨its.toArray, p.isList⟩
  | tup l => obtain ⟨its, rv, p, _⟩ := I.tuple h; exact ⟨its.toArray, p⟩
  | str z t => exact h.1
theorem Zk.vs_inj (I : Inv X pins σ H s) (h : c.vs X.K H xs) (h' : c.vs X.K H ys) : xs = ys := by
  cases c with
  | lst l => exact I.list_inj h h'
  | tup l => exact I.tuple_inj h h'
  | str z t => rw [h.2, h'.2]
theorem Zk.lt_of (I : Inv X pins σ H s) (h : c.vs X.K H xs) {a : Addr} (ha : s.heap.objs.size ≤ a) : c.ne a := by
  cases c with
  | lst l =>
    obtain ⟨its, rv, p, _⟩ := I.list h
    have := p.lt
    show l ≠ a
    exact Nat.ne_of_lt (Nat.lt_of_lt_of_le this ha)
  | tup l =>
    obtain ⟨its, rv, p, _⟩ := I.tuple h
    obtain ⟨o, ho, _⟩ := p
    show l ≠ a
    exact Nat.ne_of_lt (Nat.lt_of_lt_of_le (Heap.lt_size ho) ha)
  | str z t => exact True.intro
end
def Itk (K : PySem.W.Frag) (c1 c2 : Zk) : It :=
  ⟨fun i H => ∃ (xs ys : List V) (x y : V), c1.vs K H xs ∧ c2.vs K H ys ∧ xs[i]? = some x ∧ ys[i]? = some y,
    fun i H v H' => ∃ T x y, v = .ref T ∧ H T = none ∧ H' = upd H T (.tup [x, y]) ∧ (∀ xs, c1.vs K H xs → xs[i]? = some x) ∧ ∀ ys, c2.vs K H ys → ys[i]? = some y,
    fun i H => ∃ xs ys : List V, c1.vs K H xs ∧ c2.vs K H ys ∧ (xs.length ≤ i ∨ ys.length ≤ i)⟩
theorem turn_zk {P : Program} {w : World} {K : PySem.W.Frag} {elts : List Expr} {kk : Nat} {tpos : Pos} {z TI TO i1 i2 : Addr} {c1 c2 : Zk} (D : Zap z TI TO i1 i2) (n1 : c1.ne z) (n2 : c2.ne z ∧ c2.ne i1 ∧ c2.ne TO) :
    Turn P w K (.Tuple elts kk tpos) (Itk K c1 c2) [z, TI, TO, i1, i2] z (fun i h => Zst h z TI TO i1 i2 c1 c2 i) where
  mem := by simp
  obj := fun i h st c hc => by
    obtain ⟨hz, hTI, ⟨x, y, hTO⟩, q1, q2⟩ := st
    simp only [List.mem_cons, List.not_mem_nil, or_false] at hc
    rcases hc with rfl | rfl | rfl | rfl | rfl
    · exact ⟨_, hz, fun v q => nomatch q⟩
    · exact ⟨_, hTI, fun v q => nomatch q⟩
    · exact ⟨_, hTO, fun v q => nomatch q⟩
    · exact Zk.it_obj q1
    · exact Zk.it_obj q2
  keep := fun i h h' st k => by
    obtain ⟨hz, hTI, ⟨x, y, hTO⟩, h1, h2⟩ := st
    exact ⟨k z (by simp) _ hz, k TI (by simp) _ hTI, ⟨x, y, k TO (by simp) _ hTO⟩, Zk.it_at h1 fun o q => k i1 (by simp) o q, Zk.it_at h2 fun o q => k i2 (by simp) o q⟩
  item := by
    intro X hP hw hK hc i pins s σ H E I hf st hg
    subst hP hw hK
    obtain ⟨xs, ys, x, y, hqx, hqy, hx, hy⟩ := hg
    have hzl : z < s.heap.objs.size := Heap.lt_size st.1
    have hTI := st.2.1
    have hlt : ∀ c ∈ [z, TI, TO, i1, i2], c < s.heap.objs.size := fun c hcm => by
      obtain ⟨hz, hTI, ⟨x, y, hTO⟩, q1, q2⟩ := st
      simp only [List.mem_cons, List.not_mem_nil, or_false] at hcm
      rcases hcm with rfl | rfl | rfl | rfl | rfl
      · exact hzl
      · exact Heap.lt_size hTI
      · exact Heap.lt_size hTO
      · obtain ⟨_, e1, _⟩ := Zk.it_obj q1; exact Heap.lt_size e1
      · obtain ⟨_, e2, _⟩ := Zk.it_obj q2; exact Heap.lt_size e2
    refine zk_next D st n1 n2 (Zk.has_of I hqx hx) (Zk.has_of I hqy hy) fun h' tk u u2 ru ru2 z' TO' h1' h2' hT hk => ?_
    refine ⟨_, rfl, wpAny_letOwnedTupleGo_zip (s := { s with heap := h', toks := tk }) z' fun h'' z'' sb => ?_⟩
    have hT2 : h''.get? s.heap.objs.size = some { cls := .type "tuple", data := .seq #[u, u2] } := (sb.2 _ (Nat.ne_of_gt hzl)).trans hT
    have new : ObjOk X.prog X.w (upd H s.heap.objs.size (.tup [x, y])) h'' s.heap.objs.size (.tup [x, y]) := ⟨by show 2 ≤ sizeLine; decide, [u, u2], .cons ru (.cons ru2 .nil), ⟨_, hT2, rfl, _, rfl⟩⟩
    have I1 : Inv X pins σ (upd H s.heap.objs.size (.tup [x, y])) { s with heap := h'', toks := tk } :=
      I.turnedNew (t' := tk) (ch := [z, TI, TO, i1, i2]) (fun c o hb q => (sb.2 c (fun q' => hb (by simp [q']))).trans (hk c o (fun q' => hb (by simp [q'])) (fun q' => hb (by simp [q'])) (fun q' => hb (by simp [q'])) (fun q' => hb (by simp [q'])) q)) hf (Nat.le_refl _) new
    refine ⟨.ref s.heap.objs.size, _, I1, rfl, ⟨_, x, y, rfl, I.hok.fresh (Nat.le_refl _), rfl, fun l hl => by rw [Zk.vs_inj I hl hqx]; exact hx, fun l hl => by rw [Zk.vs_inj I hl hqy]; exact hy⟩, ⟨z'', ?_, ⟨u, u2, (sb.2 _ D.a2).trans TO'⟩, Zk.it_at h1' fun o q => (sb.2 _ D.a3).trans q, Zk.it_at h2' fun o q => (sb.2 _ D.a4).trans q⟩, fun c hcm => ?_⟩
    · exact (sb.2 _ D.a1).trans (hk _ _ D.a1 D.a5 D.a6 D.a7 hTI)
    · rw [upd_ne (Nat.ne_of_lt (hlt c hcm))]
      exact (hf c hcm).1
  done := by
    intro X hP hw hK hc i pins s σ H E I hf st hg
    subst hP hw hK
    obtain ⟨xs, ys, hqx, hqy, hend⟩ := hg
    have he : c1.over s.heap i ∨ (c1.has s.heap i (fun _ => True) ∧ c2.over s.heap i) := by
      by_cases hx : xs.length ≤ i
      · exact .inl (Zk.over_of I hqx hx)
      · have hx : i < xs.length := by omega
        have q := Zk.has_of I hqx (List.getElem?_eq_getElem hx)
        refine .inr ⟨?_, Zk.over_of I hqy (by omega)⟩
        cases c1 with
        | lst l => obtain ⟨a, b, e1, e2, _⟩ := q; exact ⟨a, b, e1, e2, trivial⟩
        | tup l => obtain ⟨a, b, e1, e2, _⟩ := q; exact ⟨a, b, e1, e2, trivial⟩
        | str x t => obtain ⟨a, e1, _⟩ := q; exact ⟨a, e1, fun _ => trivial⟩
    exact zk_done (I.ok.hd hc) D st n1 n2 he fun h' tk hk => ⟨rfl, I.turnedL (t' := tk) (ch := [z, TI, TO, i1, i2]) (fun c o hb q => hk c o (fun q' => hb (by simp [q'])) (fun q' => hb (by simp [q'])) (fun q' => hb (by simp [q'])) (fun q' => hb (by simp [q'])) q) hf⟩
  self := fun A i s Q E st h => wpAny_pyIter_zip st.1 h
/-- the value v is of this kind -/
def Zk.isV (v : V) : Zk → Prop
  | .lst l => v = .ref l
  | .tup l => v = .ref l
  | .str x _ => v = .str x
inductive Zv where
  | lst | tup | str
def Zv.of : Zv → V → Tok → Zk
  | .lst, .ref l, _ => .lst l
  | .tup, .ref l, _ => .tup l
  | _, .str x, t => .str x t
  | _, _, t => .str ⟨#[]⟩ t
def iZk (K : PySem.W.Frag) (ta : TA) : TI := fun σ H R => ta σ H fun vs H1 => ∃ (a b : V) (k1 k2 : Zv), vs = [a, b] ∧ ((∀ l, a = .ref l → k1 ≠ .str) ∧ (∀ l, b = .ref l → k2 ≠ .str) ∧ ((∃ l, a = .ref l) ∨ ∃ x, a = .str x) ∧ ((∃ l, b = .ref l) ∨ ∃ x, b = .str x)) ∧
  ∃ xs ys, (∀ t, (k1.of a t).vs K H1 xs) ∧ (∀ t, (k2.of b t).vs K H1 ys) ∧ ∀ t t', R (Itk K (k1.of a t) (k2.of b t')) H1
theorem zv_val {k : Zv} {a : V} {u : Value} (h1 : ∀ l, a = .ref l → k ≠ .str) (h2 : (∃ l, a = .ref l) ∨ ∃ x, a = .str x) (r : RelV a u) : ∃ t, (k.of a t).val = u := by
  rcases h2 with ⟨l, rfl⟩ | ⟨x, rfl⟩
  · cases r
    cases k with
    | lst => exact ⟨0, rfl⟩
    | tup => exact ⟨0, rfl⟩
    | str => exact absurd rfl (h1 l rfl)
  · obtain ⟨t, rfl⟩ := r
    exact ⟨t, by cases k <;> rfl⟩
theorem pi_zk {X : Cx} {e e2 : Expr} {ta : TA} {p pos tpos : Pos} {elts : List Expr} {kk : Nat} (hg : Gl X "zip") (hm : X.mg "zip" = none) (ha : PA X [e, e2] ta)
    (hs : starEach [e, e2] X.env = (false, eval e X.env) :: starEach [e2] X.env) (hpl : (backTo pos (starEach [e2] X.env)).any (·.1) = false) :
    PI X (.Tuple elts kk tpos) (.Call (.Name "zip" p) [e, e2] [] pos) (iZk X.K ta) := by
  refine ⟨fun pins s σ H R I h => Call_ (ld_blt I hg hm PyProof.Rows.boot_zip (PyProof.Rows.callWith_type1 (thn (ha.run pos pins s σ H _ I h) fun us s1 ⟨vs, H1, I1, r1, q1⟩ => ?_) hs hpl))⟩
  obtain ⟨a, b, k1, k2, rfl, ⟨w1, w2, w3, w4⟩, xs, ys, hx, hy, q⟩ := q1
  cases r1 with
  | cons r rr =>
    cases rr with
    | cons r' rr =>
      cases rr
      obtain ⟨t, rfl⟩ := zv_val w1 w3 r
      obtain ⟨t', rfl⟩ := zv_val w2 w4 r'
      have fresh5 : ∀ c, c ∈ [s1.heap.objs.size + 4, s1.heap.objs.size + 2, s1.heap.objs.size + 3, s1.heap.objs.size, s1.heap.objs.size + 1] → FpOk X pins H1 c := fun c hcm => by
        have hle : s1.heap.objs.size ≤ c := by
          simp only [List.mem_cons, List.not_mem_nil, or_false] at hcm
          rcases hcm with z | z | z | z | z <;> (rw [z]; first | exact Nat.le_add_right _ _ | exact Nat.le_refl _)
        exact I1.fpOk hle (I1.hok.fresh hle)
      refine zk_call (k1.of a t) (k2.of b t') (Zk.here_of I1 (hx t)) (Zk.here_of I1 (hy t')) fun h' st hk => wpAny_pyIter_zip st.1 ?_
      have I2 : Inv X pins σ H1 { s1 with heap := h' } := I1.kept (t' := s1.toks) hk
      refine ⟨s1.heap.objs.size + 4, [s1.heap.objs.size + 4, s1.heap.objs.size + 2, s1.heap.objs.size + 3, s1.heap.objs.size, s1.heap.objs.size + 1], _, _, H1, rfl, I2, turn_zk ?_ (Zk.lt_of I1 (hx t) (Nat.le_add_right _ _)) ⟨Zk.lt_of I1 (hy t') (Nat.le_add_right _ _), Zk.lt_of I1 (hy t') (Nat.le_refl _), Zk.lt_of I1 (hy t') (Nat.le_add_right _ _)⟩, st, fresh5, q t t'⟩
      constructor <;> (intro z; have z : (_ : Nat) = _ := z; omega)
end Mf
set_option Elab.async false
set_option linter.all false
set_option maxRecDepth 100000
set_option maxHeartbeats 1000000
namespace Mf
open PySem L2

section
variable {X : Cx} {Y : Sys} {W : WX} {n : Nat} {N : List Str} {sc : Scope} {pos p p2 : Pos} {a' b' c' : Expr} {a b e : CE Y.S}
theorem Cxt.gl (C : Cxt X W n N sc) {x : Str} (h : glB sc x = true) : Gl X x := by
  unfold Gl Env.kindOf
  rw [C.hs]
  exact (glB_ok h).1
theorem Cxt.bltn (C : Cxt X W n N sc) {x : Str} (h : bltNames.contains x = true) : X.mg x = none := C.blt x (List.contains_iff_mem.mp h)
theorem se_call {x : Str} {m : Nat} {g : Sem Y.S} {es : List Expr} {cs : CA Y.S} (C : Cxt X W n N sc) (hg : glB sc x = true) (hx : Has X.prog X.w X.K X.mg X.base Y n x m g) (hc : chkA N sc cs es = true) (ha : PA X es (tA X.K X.mg W cs)) : PE X (.Call (.Name x p) es [] pos) (tE X.K X.mg W (.call x m g cs)) := by
  obtain ⟨f, fd, ps, hl, F, hm, hk, hb⟩ := hx.has
  obtain ⟨E, hE⟩ := C.we
  have tk : Takes X (fun cls d _ H => E cls d H) := by rw [← hE]; exact C.tk
  have ps' : Passes (L2.CX X.prog X.w) X E := passes_call tk fun _ _ _ _ z => z
  have hdb := (glB_ok hg).2.1
  have go : ∀ σ H Q, tE X.K X.mg W (.call x m g cs) σ H Q → tCall (spOf (Y := Y) X.K X.mg m g) [] E (tA X.K X.mg W cs) σ H Q := fun σ H Q h => by
    obtain ⟨c, H0, ρ, rfl, ok, rel, p⟩ := h
    have p : Post X.mg W σ c (JE X.K c) Q ((evA cs ρ c.s).bind fun ds s => if ds.length = m then (g ds s).bind fun d s => .ok (.v, d) s else .er) := p
    refine tR.bind ok rel p fun vs c1 ds ea t1 ok1 rel1 j1 p1 => ?_
    have j1 : Reps X.K c1.F vs ds := j1
    have p1 := p1.shiftE t1 ok1
    split at p1
    · rename_i hd
      rw [List.append_nil]
      refine ⟨c1, ds, rfl, ok1, j1, by rw [j1.length]; exact hd, ?_⟩
      cases er : g ds c1.s with
      | ok d s' =>
        rw [er] at p1
        exact fun v c2 es t2 ok2 r2 => p1 v c2 es t2 ok2 r2
      | ex y s' =>
        rw [er] at p1
        intro C' c2 e1 e2 t2 ok2
        have q := p1 C' c2 e1 e2 t2 ok2
        rw [hE] at q
        exact q
      | er => rw [er] at p1; exact p1
    · exact p1.elim
  cases es with
  | nil =>
    cases cs with
    | nil =>
      refine (pe_call0 F C.room (C.gl hg) hm hk hb .nil ps' hdb).weak fun σ H Q h => ?_
      obtain ⟨c, H0, ρ, rfl, ok, rel, p⟩ := h
      have p : Post X.mg W σ c (JE X.K c) Q (if ([] : List D).length = m then (g [] c.s).bind fun d s => .ok (.v, d) s else .er) := p
      split at p
      · rename_i hd
        refine ⟨c, [], rfl, ok, .nil, hd, ?_⟩
        cases er : g [] c.s with
        | ok d s' =>
          rw [er] at p
          exact fun v c2 es t2 ok2 r2 => p v c2 es t2 ok2 r2
        | ex y s' =>
          rw [er] at p
          intro C' c2 e1 e2 t2 ok2
          have q := p C' c2 e1 e2 t2 ok2
          rw [hE] at q
          exact q
        | er => rw [er] at p; exact p
      · exact p.elim
    | cons _ _ => cases hc
  | cons e1 es =>
    cases cs with
    | nil => cases hc
    | cons k ks =>
      unfold chkA at hc
      simp only [Bool.and_eq_true] at hc
      exact (pe_call F C.room (C.gl hg) hm hk hb .nil ps' ha hdb (star_cons hc.1.1 _ _) (star_none hc.2)).weak go
theorem pe_call1 {x : Str} {u : Value} {r : List V → Hp → VK → Prop} {t : TA} (hc : CallR X u r) (hu : (∃ id, u = .builtin id) ∨ ∃ T, u = .type T) (hg : Gl X x) (hm : X.mg x = none) (hv : bootBuiltins x = some u) (hn : x ≠ "__name__") (hdb : (x == ("__debug__" : Str)) = false) {es : List Expr} (ha : PA X (a' :: es) t) (hs : notStar a' = true)
    (hp : (backTo pos (starEach es X.env)).any (·.1) = false) : PE X (.Call (.Name x p) (a' :: es) [] pos) (tCB r t) := by
  rcases hu with ⟨id, rfl⟩ | ⟨T, rfl⟩
  · exact pe_callB hc hg hm hv ha hn hdb (star_cons hs _ _) hp
  · exact pe_callTy hc hg hm hv ha hn hdb (star_cons hs _ _) hp
theorem vlB_or (f : B1) : (∃ id, vlB f = .builtin id) ∨ ∃ T, vlB f = .type T := by
  cases f <;> first | exact .inl ⟨_, rfl⟩ | exact .inr ⟨_, rfl⟩
theorem boot_1 (f : B1) : bootBuiltins (nmB f) = some (vlB f) := by
  cases f <;> decide +kernel
theorem in_1 (f : B1) : bltNames.contains (nmB f) = true := by
  cases f <;> decide +kernel
theorem se_b1 {f : B1} (C : Cxt X W n N sc) (hg : glB sc (nmB f) = true) (hs : notStar a' = true) (ha : PE X a' (tE X.K X.mg W a)) : PE X (.Call (.Name (nmB f) p) [a'] [] pos) (tE X.K X.mg W (.b1 f a)) := by
  refine (pe_call1 (call_1 C.room C.calm f) (vlB_or f) (C.gl hg) (C.bltn (in_1 f)) (boot_1 f) (glB_ok hg).2.2 (glB_ok hg).2.1 (pa_cons ha pa_nil (star_cons hs _ _)) hs rfl).weak fun σ H Q h => ?_
  obtain ⟨c, H0, ρ, rfl, ok, rel, p⟩ := h
  have p : Post X.mg W σ c (JE X.K c) Q ((ev a ρ c.s).bind fun x s => liftO s (b1D f x.2)) := p
  refine tR.bind ok rel p fun x c1 xa ea t1 ok1 rel1 j1 p1 => ?_
  obtain ⟨k, d, e, q⟩ := (p1.shiftE t1 ok1).lift
  exact b1_use ok1 j1 e q
theorem few_ok {cpos : Pos} {e' : Expr} (hs : notStar e' = true) : ((backTo cpos (starEach [e'] X.env)).all (fun x => !x.1) && (backToKw cpos (keywordEach [] X.env)).all (fun x => x.1.isSome) && decide ([e'].length + ([] : List Keyword).length + (if ([] : List Keyword).isEmpty then 0 else 1) < 30)) = true := by
  rw [star_cons hs]
  rfl
theorem rcv_base {o : Expr} {m : Str} (h : rcvE o = true) : attributeBase o m X.env (eval o X.env) = eval o X.env := by
  cases o <;> first | rfl | cases h
theorem pe_bmM (f : M1) {o : Expr} {apos cpos : Pos} {to : TE} {t : TA} {r : V → List V → Hp → VK → Prop} (hm : MtR X (idM f) r) (ho : PE X o to) (ha : PA X [a'] t) (hr : rcvE o = true) (hs : notStar a' = true) (hl : (apos.endLine == cpos.line) = true) :
    PE X (.Call (.Attribute o (nmM f) apos) [a'] [] cpos) (tBM X.K (tyM f) r to t) := by
  cases f with
  | sindex => exact pe_bm PySem.F.plainAttrs_str PySem.F.slot_str_index PySem.F.type_str_index hm ho ha (rcv_base hr) (few_ok hs) hl (star_cons hs _ _) rfl
  | lindex => exact pe_bm PySem.F.plainAttrs_list PySem.F.slot_list_index PySem.F.type_list_index hm ho ha (rcv_base hr) (few_ok hs) hl (star_cons hs _ _) rfl
  | lcount => exact pe_bm PySem.F.plainAttrs_list PySem.F.slot_list_count PySem.F.type_list_count hm ho ha (rcv_base hr) (few_ok hs) hl (star_cons hs _ _) rfl
theorem se_m1 {f : M1} {apos cpos : Pos} (C : Cxt X W n N sc) (hr : rcvE a' = true) (hs : notStar b' = true) (hl : (apos.endLine == cpos.line) = true) (ha : PE X a' (tE X.K X.mg W a)) (hb : PE X b' (tE X.K X.mg W b)) :
    PE X (.Call (.Attribute a' (nmM f) apos) [b'] [] cpos) (tE X.K X.mg W (.m1 f a b)) := by
  refine (pe_bmM f (mt_M C.room f) ha (pa_cons hb pa_nil (star_cons hs _ _)) hr hs hl).weak fun σ H Q h => ?_
  obtain ⟨c, H0, ρ, rfl, ok, rel, p⟩ := h
  have p : Post X.mg W σ c (JE X.K c) Q ((ev a ρ c.s).bind fun x s => if rcvD f x.2 then (ev b ρ s).bind fun y s => liftO s (m1D f x.2 y.2) else .er) := p
  refine tR.bind ok rel p fun x c1 xa ea t1 ok1 rel1 j1 p1 => ?_
  have p1 := p1.shiftE t1 ok1
  split at p1
  · rename_i hrc
    refine ⟨rcv_ty ok1 j1 hrc, ?_⟩
    refine tR.bind ok1 rel1 p1 fun y c2 xb eb t2 ok2 rel2 j2 p2 => ?_
    obtain ⟨k, d, e, q⟩ := (p2.shiftE t2 ok2).lift
    exact m1_use ok2 (Is.step j1 t2) j2 e q
  · exact p1.elim
theorem boot_T (t : Ty) : bootBuiltins (Str.ofString (nmT t)) = some (.type (nmT t)) := by
  cases t <;> decide +kernel
theorem in_T (t : Ty) : bltNames.contains (Str.ofString (nmT t)) = true := by
  cases t <;> decide +kernel
theorem se_isi {t : Ty} {p3 : Pos} (C : Cxt X W n N sc) (hg : glB sc "isinstance" = true) (hg2 : glB sc (Str.ofString (nmT t)) = true) (hs : notStar a' = true) (ha : PE X a' (tE X.K X.mg W a)) : PE X (.Call (.Name "isinstance" p) [a', .Name (Str.ofString (nmT t)) p2] [] pos) (tE X.K X.mg W (.isi a t)) := by
  have hT : PE X (.Name (Str.ofString (nmT t)) p2) (tC (.ty (nmT t))) := pe_bltn (C.gl hg2) (C.bltn (in_T t)) (boot_T t) rfl (glB_ok hg2).2.2 (glB_ok hg2).2.1
  refine (pe_call1 call_isi (.inl ⟨_, rfl⟩) (C.gl hg) (C.bltn (by decide +kernel)) (by decide +kernel) (glB_ok hg).2.2 (glB_ok hg).2.1 (pa_cons ha (pa_cons hT pa_nil) (star_cons hs _ _)) hs rfl).weak fun σ H Q h => ?_
  obtain ⟨c, H0, ρ, rfl, ok, rel, p⟩ := h
  have p : Post X.mg W σ c (JE X.K c) Q ((ev a ρ c.s).bind fun x s => kd s ((isiD t x.2).map .bl)) := p
  refine tR.bind ok rel p fun x c1 xa ea t1 ok1 rel1 j1 p1 => ?_
  obtain ⟨d, e, q⟩ := (p1.shiftE t1 ok1).kd
  obtain ⟨r, e1, e2⟩ := Option.map_eq_some_iff.mp e
  subst e2
  exact isi_use ok1 j1 e1 (q.here ok1 (.bl r))
end

/-! ### what is walked -/
section
variable {Y : Sys} {K : PySem.W.Frag} {G : Cf Y → Prop} {z : Bool}
theorem gd_lst {q : Addr} {ds : List D} (h : ∀ c, G c → Ok c → ∃ vs, c.H q = some (.lst vs) ∧ Reps K c.F vs ds) : Gd K z (Itl K q) G ds := by
  intro c hG ok i
  obtain ⟨vs, e, r⟩ := h c hG ok
  refine ⟨fun hi => ⟨vs, .inl (.inl e), by rw [r.length]; exact hi⟩, fun d hd => ?_⟩
  obtain ⟨v, hv, rv⟩ := r.get hd
  refine ⟨⟨vs, v, .inl (.inl e), hv⟩, fun x H' hy => ?_⟩
  obtain ⟨rfl, hy⟩ := hy
  have ex : x = v := Option.some.inj ((hy vs (.inl (.inl e))).symm.trans hv)
  subst ex
  exact ⟨c, rfl, rfl, Step.refl c, ok, .inl rv⟩
theorem gd_tup {q : Addr} {ds : List D} (h : ∀ c, G c → Ok c → ∃ vs, SqT K c.H q vs ∧ Reps K c.F vs ds) : Gd K z (Itt K q) G ds := by
  intro c hG ok i
  obtain ⟨vs, e, r⟩ := h c hG ok
  refine ⟨fun hi => ⟨vs, e, by rw [r.length]; exact hi⟩, fun d hd => ?_⟩
  obtain ⟨v, hv, rv⟩ := r.get hd
  refine ⟨⟨vs, v, e, hv⟩, fun x H' hy => ?_⟩
  obtain ⟨rfl, hy⟩ := hy
  have ex : x = v := Option.some.inj ((hy vs e).symm.trans hv)
  subst ex
  exact ⟨c, rfl, rfl, Step.refl c, ok, .inl rv⟩
theorem gd_str {y : Str} : Gd K z (Its y) G (y.cps.toList.map fun c => .str ⟨#[c]⟩) := by
  intro c hG ok i
  refine ⟨fun hi => ?_, fun d hd => ?_⟩
  · rw [List.length_map, Array.length_toList] at hi
    exact hi
  · rw [List.getElem?_map, Array.getElem?_toList] at hd
    obtain ⟨cc, e1, e2⟩ := Option.map_eq_some_iff.mp hd
    refine ⟨(Array.getElem?_eq_some_iff.mp e1).1, fun x H' hy => ?_⟩
    obtain ⟨rfl, c2, e3, rfl⟩ := hy
    rw [e1] at e3
    cases e3
    subst e2
    exact ⟨c, rfl, rfl, Step.refl c, ok, .inl (.str _)⟩
theorem gd_rng {k : Nat} : Gd K z (Itr 0 k) G (rngD k) := by
  intro c hG ok i
  unfold rngD
  refine ⟨fun hi => ?_, fun d hd => ?_⟩
  · rw [List.length_map, List.length_range] at hi
    exact hi
  · rw [List.getElem?_map] at hd
    obtain ⟨j, e1, e2⟩ := Option.map_eq_some_iff.mp hd
    obtain ⟨hj, e3⟩ := List.getElem?_eq_some_iff.mp e1
    rw [List.getElem_range] at e3
    subst e3
    rw [List.length_range] at hj
    refine ⟨hj, fun x H' hy => ?_⟩
    obtain ⟨rfl, rfl⟩ := hy
    subst e2
    rw [Int.zero_add]
    exact ⟨c, rfl, rfl, Step.refl c, ok, .inl (.int _)⟩
theorem zipD_get : ∀ {xs ys : List D} {i : Nat} {d : D}, (zipD xs ys)[i]? = some d → ∃ x y, xs[i]? = some x ∧ ys[i]? = some y ∧ d = .tup [x, y]
  | [], _, i, d, h => by simp [zipD] at h
  | _ :: _, [], i, d, h => by simp [zipD] at h
  | x :: xs, y :: ys, 0, d, h => by
    simp [zipD] at h
    exact ⟨x, y, rfl, rfl, h.symm⟩
  | x :: xs, y :: ys, i + 1, d, h => by
    simp [zipD] at h
    obtain ⟨a, b, h1, h2, h3⟩ := zipD_get h
    exact ⟨a, b, by simpa using h1, by simpa using h2, h3⟩
theorem zipD_len : ∀ (xs ys : List D), (zipD xs ys).length = min xs.length ys.length
  | [], _ => by simp [zipD]
  | _ :: _, [] => by simp [zipD]
  | x :: xs, y :: ys => by
    simp [zipD, zipD_len xs ys]
theorem gd_pair {c : Cf Y} (ok : Ok c) {T : Addr} {x y : V} {d e : D} (hT : c.H T = none) (hx : Rep K c.F x d) (hy : Rep K c.F y e) :
    ∃ c' : Cf Y, c'.H = upd c.H T (.tup [x, y]) ∧ c'.s = c.s ∧ Step c c' ∧ Ok c' ∧ RepW K true c'.F (.ref T) (.tup [d, e]) :=
  ⟨⟨upd c.F T (.tup [x, y]), upd c.H T (.tup [x, y]), c.s⟩, rfl, rfl, Step.new ok hT _, ok.new hT _, .inr ⟨rfl, T, _, _, rfl, rfl, .inl (.inl upd_same), .cons (hx.mono (Step.new ok hT (.tup [x, y])).f) (.cons (hy.mono (Step.new ok hT (.tup [x, y])).f) .nil)⟩⟩
theorem gd_zk {k1 k2 : Zk} {ds es : List D} (h : ∀ c, G c → Ok c → ∃ vs, k1.vs K c.H vs ∧ Reps K c.F vs ds) (h2 : ∀ c, G c → Ok c → ∃ vs, k2.vs K c.H vs ∧ Reps K c.F vs es) : Gd K true (Itk K k1 k2) G (zipD ds es) := by
  intro c hG ok i
  obtain ⟨vs, e, r⟩ := h c hG ok
  obtain ⟨vs2, e2, r2⟩ := h2 c hG ok
  refine ⟨fun hi => ⟨vs, vs2, e, e2, ?_⟩, fun d hd => ?_⟩
  · rw [zipD_len] at hi
    rw [r.length, r2.length]
    omega
  · obtain ⟨dx, dy, g1, g2, rfl⟩ := zipD_get hd
    obtain ⟨v, hv, rv⟩ := r.get g1
    obtain ⟨v2, hv2, rv2⟩ := r2.get g2
    refine ⟨⟨vs, vs2, v, v2, e, e2, hv, hv2⟩, fun x H' hy => ?_⟩
    obtain ⟨T, x1, x2, rfl, hT, rfl, f1, f2⟩ := hy
    have ex : x1 = v := Option.some.inj ((f1 vs e).symm.trans hv)
    have ex2 : x2 = v2 := Option.some.inj ((f2 vs2 e2).symm.trans hv2)
    subst ex ex2
    exact gd_pair ok hT rv rv2
def zvOf : D → Zv
  | .lst _ => .lst
  | .tup _ => .tup
  | _ => .str
theorem reps_signs {F : Hp} : ∀ l : List Nat, Reps K F (l.map fun c => V.str ⟨#[c]⟩) (l.map fun c => D.str ⟨#[c]⟩)
  | [] => .nil
  | _ :: l => .cons (.str _) (reps_signs l)
theorem zv_is {Hs : Hp} {c : Cf Y} {k : K3} {v : V} {d : D} {xs : List D} (e : seqD d = some xs) (h : Is K Hs c k v d) (ok : Ok c) :
    (∀ l, v = .ref l → zvOf d ≠ .str) ∧ ((∃ l, v = .ref l) ∨ ∃ x, v = .str x) ∧ ∃ vs, Reps K c.F vs xs ∧ ∀ t, ((zvOf d).of v t).vs K c.H vs := by
  unfold seqD at e
  split at e
  · cases e
    obtain ⟨q, vs, rfl, h1, r1⟩ := Is.lst h ok
    exact ⟨fun _ _ z => (nomatch z), .inl ⟨q, rfl⟩, vs, r1, fun t => .inl (.inl h1)⟩
  · cases e
    obtain ⟨q, vs, rfl, h1, _, r1⟩ := Is.tup h ok
    exact ⟨fun _ _ z => (nomatch z), .inl ⟨q, rfl⟩, vs, r1, fun t => h1⟩
  · split at e
    · rename_i z hz
      cases e
      rw [Is.str h]
      exact ⟨fun _ z => (nomatch z), .inr ⟨z, rfl⟩, _, reps_signs z.cps.toList, fun t => ⟨hz, rfl⟩⟩
    · cases e
  · cases e
/-- an operand that is walked: in a for it is given up first -/
theorem walk_of {st : Bool} {c c1 : Cf Y} {x : V} {k : K3} {d : D} (hk : st = true → k ≠ .o) (j : Is K c.H c1 k x d) (t : Step c c1) (ok : Ok c1) :
    ∃ c2 : Cf Y, ∃ k2 : K3, c2.s = c1.s ∧ c2.H = c1.H ∧ Step c c2 ∧ Ok c2 ∧ Is K c.H c2 k2 x d ∧ (st = true → k2 = .v) := by
  cases st with
  | false => exact ⟨c1, k, rfl, rfl, t, ok, j, fun z => nomatch z⟩
  | true =>
    obtain ⟨c2, e1, e2, t2, ok2, r⟩ := Is.data j (hk rfl) t ok
    exact ⟨c2, .v, e1, e2, t2, ok2, r, fun _ => rfl⟩
theorem Is.later {st : Bool} {Hs : Hp} {c c2 : Cf Y} {x : V} {k : K3} {d : D} (j : Is K Hs c k x d) (hk : st = true → k = .v) (h : if st = true then Sub c.F c2.F else Step c c2) : Is K Hs c2 k x d := by
  cases st with
  | false => exact Is.step j h
  | true =>
    have hk := hk rfl
    subst hk
    exact Rep.mono h j
end
section
variable {X : Cx} {Y : Sys} {W : WX} {n : Nat} {N : List Str} {sc : Scope} {pos p p2 : Pos} {a' b' c' tg : Expr} {a b e : CE Y.S} {st : Bool}
theorem si_seq (ha : PE X a' (tE X.K X.mg W a)) : PI X tg a' (tI X.K X.mg W st (.seq a)) := by
  refine (pi_seq ha).weak fun σ H R h => ?_
  obtain ⟨c, H0, ρ, rfl, ok, rel, p⟩ := h
  have p : Post X.mg W σ c (JI X.K st false c) R ((ev a ρ c.s).bind fun x s => (stk st x s).bind fun x s => liftO s (itemsD x.2)) := p
  refine tR.bind ok rel p fun x c1 xa ea t1 ok1 rel1 j1 p1 => ?_
  obtain ⟨hk, p1⟩ := p1.stk
  obtain ⟨k, d⟩ := xa
  obtain ⟨c2, k2, e1, e2, t2, ok2, j2, hv⟩ := walk_of hk j1 t1 ok1
  have p1 : Post X.mg W σ c (JI X.K st false c) R (liftO c1.s (itemsD d)) := p1
  have fin : ∀ {J : It} {ds : List D}, itemsD d = some ds → Gd X.K false J (fun c'' : Cf Y => Is X.K c.H c'' k2 x d) ds → R J c1.H := fun {J ds} ed g => by
    rw [ed] at p1
    rw [← e2]
    exact p1 J c2 e1 t2 ok2 ⟨_, g, fun c'' h => Is.later j2 hv h⟩
  cases d with
  | lst ds =>
    obtain ⟨q, vs, rfl, h1, r1⟩ := Is.lst j1 ok1
    refine .inl ⟨q, rfl, ⟨vs, .inl (.inl h1)⟩, fin rfl (gd_lst fun c'' g ok'' => ?_)⟩
    obtain ⟨q', vs', e3, h3, r3⟩ := Is.lst g ok''
    cases e3
    exact ⟨vs', h3, r3⟩
  | tup ds =>
    obtain ⟨q, vs, rfl, h1, _, r1⟩ := Is.tup j1 ok1
    refine .inr (.inl ⟨q, rfl, ⟨vs, h1⟩, fin rfl (gd_tup fun c'' g ok'' => ?_)⟩)
    obtain ⟨q', vs', e3, h3, _, r3⟩ := Is.tup g ok''
    cases e3
    exact ⟨vs', h3, r3⟩
  | str z => exact .inr (.inr ⟨z, Is.str j1, fin rfl gd_str⟩)
  | _ => exact p1.elim
theorem si_rng (C : Cxt X W n N sc) (hg : glB sc "range" = true) (hs : notStar a' = true) (ha : PE X a' (tE X.K X.mg W a)) : PI X tg (.Call (.Name "range" p) [a'] [] pos) (tI X.K X.mg W st (.rng a)) := by
  refine (pi_range1 (C.gl hg) (C.bltn (by decide +kernel)) (pa_cons ha pa_nil (star_cons hs _ _)) (star_cons hs _ _)).weak fun σ H R h => ?_
  obtain ⟨c, H0, ρ, rfl, ok, rel, p⟩ := h
  have p : Post X.mg W σ c (JI X.K st false c) R ((ev a ρ c.s).bind fun x s => (intOf x s).bind fun n s => if decide (-1000000 ≤ n) && decide (n ≤ 1000000) then .ok (rngD n.toNat) s else .er) := p
  refine tR.bind ok rel p fun x c1 xa ea t1 ok1 rel1 j1 p1 => ?_
  obtain ⟨i, ei, q⟩ := p1.int
  obtain ⟨k, d⟩ := xa
  have ei : d = .int i := ei
  subst ei
  split at q
  · rename_i hb
    simp only [Bool.and_eq_true, decide_eq_true_eq] at hb
    exact ⟨i, by rw [Is.int j1], by omega, by omega, q _ c1 rfl t1 ok1 ⟨fun _ => True, gd_rng, fun _ _ => trivial⟩⟩
  · exact q.elim
theorem si_zip (C : Cxt X W n N sc) (hg : glB sc "zip" = true) (hs : notStar a' = true) (hs2 : notStar b' = true) (ht : isTupE tg = true) (ha : PE X a' (tE X.K X.mg W a)) (hb : PE X b' (tE X.K X.mg W b)) : PI X tg (.Call (.Name "zip" p) [a', b'] [] pos) (tI X.K X.mg W st (.zip a b)) := by
  cases tg <;> first | cases ht | skip
  refine (pi_zk (C.gl hg) (C.bltn (by decide +kernel)) (pa_cons ha (pa_cons hb pa_nil (star_cons hs2 _ _)) (star_cons hs _ _)) (star_cons hs _ _) (by rw [star_cons hs2]; rfl)).weak fun σ H R h => ?_
  obtain ⟨c, H0, ρ, rfl, ok, rel, p⟩ := h
  have p : Post X.mg W σ c (JI X.K st true c) R ((ev a ρ c.s).bind fun x s => (stk st x s).bind fun x s => (ev b ρ s).bind fun y s => (stk st y s).bind fun y s => liftO s (zipK x.2 y.2)) := p
  refine tR.bind ok rel p fun x c1 xa ea t1 ok1 rel1 j1 p1 => ?_
  obtain ⟨hk, p1⟩ := p1.stk
  obtain ⟨k, d⟩ := xa
  obtain ⟨c2, k2, e1, e2, t2, ok2, j2, hv⟩ := walk_of hk j1 t1 ok1
  rw [← e2]
  rw [← e1] at p1
  have p1 := p1.shift (J' := JI X.K st true c2) t2 ok2 fun _ _ _ z => z
  refine tR.bind ok2 (rel.step t2) p1 fun y c3 ya eb t3 ok3 rel3 j3 p3 => ?_
  obtain ⟨hk3, p3⟩ := p3.stk
  obtain ⟨k3, d3⟩ := ya
  obtain ⟨c4, k4, e3, e4, t4, ok4, j4, hv4⟩ := walk_of hk3 j3 t3 ok3
  have p3 : Post X.mg W σ c2 (JI X.K st true c2) R (liftO c3.s (zipK d d3)) := p3
  have fin : ∀ {J : It} {ds : List D}, zipK d d3 = some ds → Gd X.K true J (fun c'' : Cf Y => Is X.K c.H c'' k2 x d ∧ Is X.K c2.H c'' k4 y d3) ds → R J c3.H := fun {J ds} ed g => by
    rw [ed] at p3
    rw [← e4]
    refine p3 J c4 e3 t4 ok4 ⟨_, g, fun c'' h => ⟨?_, Is.later j4 hv4 h⟩⟩
    exact Is.later (Is.step j2 t4) hv h
  have j3' := Is.step j2 t3
  cases eds : seqD d with
  | none => unfold zipK at p3; rw [eds] at p3; exact p3.elim
  | some ds =>
    cases ees : seqD d3 with
    | none => unfold zipK at p3; rw [eds, ees] at p3; exact p3.elim
    | some es =>
      have ez : zipK d d3 = some (zipD ds es) := by unfold zipK; rw [eds, ees]
      obtain ⟨u1, u2, vs, r1, u3⟩ := zv_is eds j3' ok3
      obtain ⟨w1, w2, vs2, r2, w3⟩ := zv_is ees j3 ok3
      refine ⟨x, y, zvOf d, zvOf d3, rfl, ⟨u1, w1, u2, w2⟩, vs, vs2, u3, w3, fun t t' => fin ez (gd_zk (fun c'' g ok'' => ?_) fun c'' g ok'' => ?_)⟩
      · obtain ⟨_, _, vs', r', u'⟩ := zv_is eds g.1 ok''
        exact ⟨vs', u' t, r'⟩
      · obtain ⟨_, _, vs', r', u'⟩ := zv_is ees g.2 ok''
        exact ⟨vs', u' t', r'⟩
end
end Mf
set_option Elab.async false
set_option linter.all false
set_option maxRecDepth 100000
set_option maxHeartbeats 1000000
namespace Mf
open PySem L2

/-! ### slots -/
section
variable {Y : Sys} {K : PySem.W.Frag} {H0 : Hp} {c : Cf Y} {σ : L2.St} {ρ : List SV}
theorem Rel.set (r : Rel K H0 c σ ρ) {i : Nat} {v : V} {d : D} (h : Rep K c.F v d) (hi : i < ρ.length) : Rel K H0 c (σ.set i (some v)) (ρ.set i (.va d)) where
  len := by rw [List.length_set, List.length_set]; exact r.len
  va := fun j e hj => by
    by_cases q : i = j
    · subst q
      rw [List.getElem?_set_self hi] at hj
      cases hj
      exact ⟨v, List.getElem?_set_self (by rw [← r.len]; exact hi), h⟩
    · rw [List.getElem?_set_ne q] at hj
      obtain ⟨v', h1, h2⟩ := r.va j e hj
      exact ⟨v', by rw [List.getElem?_set_ne q]; exact h1, h2⟩
  ow := fun j e hj => by
    by_cases q : i = j
    · subst q
      rw [List.getElem?_set_self hi] at hj
      cases hj
    · rw [List.getElem?_set_ne q] at hj
      obtain ⟨v', h1, h2⟩ := r.ow j e hj
      exact ⟨v', by rw [List.getElem?_set_ne q]; exact h1, h2⟩
  ap := fun j k e e' p hjk hj hk hp => by
    by_cases q : i = j
    · subst q
      rw [List.getElem?_set_self hi] at hj
      cases hj
    · by_cases q' : i = k
      · subst q'
        rw [List.getElem?_set_self hi] at hk
        cases hk
      · rw [List.getElem?_set_ne q] at hj hp
        rw [List.getElem?_set_ne q'] at hk ⊢
        exact r.ap j k e e' p hjk hj hk hp
theorem Rel.unset (r : Rel K H0 c σ ρ) (i : Nat) (x : Option V) : Rel K H0 c (σ.set i x) (ρ.set i .no) where
  len := by rw [List.length_set, List.length_set]; exact r.len
  va := fun j e hj => by
    by_cases q : i = j
    · subst q
      by_cases hi : i < ρ.length
      · rw [List.getElem?_set_self hi] at hj; cases hj
      · rw [List.getElem?_eq_none (by rw [List.length_set]; omega)] at hj; cases hj
    · rw [List.getElem?_set_ne q] at hj
      obtain ⟨v', h1, h2⟩ := r.va j e hj
      exact ⟨v', by rw [List.getElem?_set_ne q]; exact h1, h2⟩
  ow := fun j e hj => by
    by_cases q : i = j
    · subst q
      by_cases hi : i < ρ.length
      · rw [List.getElem?_set_self hi] at hj; cases hj
      · rw [List.getElem?_eq_none (by rw [List.length_set]; omega)] at hj; cases hj
    · rw [List.getElem?_set_ne q] at hj
      obtain ⟨v', h1, h2⟩ := r.ow j e hj
      exact ⟨v', by rw [List.getElem?_set_ne q]; exact h1, h2⟩
  ap := fun j k e e' p hjk hj hk hp => by
    have no : ∀ {m : Nat} {e : D}, (ρ.set i .no)[m]? = some (SV.ow e) → i ≠ m := fun {m e} h q => by
      subst q
      by_cases hi : i < ρ.length
      · rw [List.getElem?_set_self hi] at h; cases h
      · rw [List.getElem?_eq_none (by rw [List.length_set]; omega)] at h; cases h
    have q := no hj
    have q' := no hk
    rw [List.getElem?_set_ne q] at hj hp
    rw [List.getElem?_set_ne q'] at hk ⊢
    exact r.ap j k e e' p hjk hj hk hp
theorem Rel.wipe (r : Rel K H0 c σ ρ) : ∀ vs : List Nat, Rel K H0 c (L2.wipe σ vs) (wipeR ρ vs)
  | [] => r
  | v :: vs => (Rel.wipe r vs).unset v none
end
theorem wipe_in {σ : L2.St} {i : Nat} : ∀ {vs : List Nat}, i ∈ vs → i < σ.length → (wipe σ vs)[i]? = some none
  | v :: vs, h, hi => by
    unfold wipe
    by_cases q : v = i
    · subst q
      exact List.getElem?_set_self (by rw [wipe_length]; exact hi)
    · rw [List.getElem?_set_ne q]
      exact wipe_in ((List.mem_cons.mp h).resolve_left fun z => q z.symm) hi
theorem wipe_ext {σ τ : L2.St} {vs : List Nat} (hl : σ.length = τ.length) (h : ∀ i, i ∉ vs → σ[i]? = τ[i]?) : wipe σ vs = wipe τ vs := by
  apply List.ext_getElem?
  intro i
  by_cases q : i ∈ vs
  · by_cases hi : i < σ.length
    · rw [wipe_in q hi, wipe_in q (by omega)]
    · rw [List.getElem?_eq_none (by rw [wipe_length]; omega), List.getElem?_eq_none (by rw [wipe_length]; omega)]
  · rw [wipe_out q, wipe_out q]
    exact h i q
theorem wipe_set {σ : L2.St} {i : Nat} {x : Option V} {vs : List Nat} (h : i ∈ vs) : wipe (σ.set i x) vs = wipe σ vs :=
  wipe_ext (by rw [List.length_set]) fun j hj => List.getElem?_set_ne (show i ≠ j from fun q => hj (q ▸ h))
theorem wipe_wipe {σ : L2.St} {vs : List Nat} : wipe (wipe σ vs) vs = wipe σ vs := wipe_ext (wipe_length _ _) fun i hi => wipe_out hi

/-! ### targets -/
def gL (K : PySem.W.Frag) : Tg → TGs
  | .nm _ => fun _ _ _ _ => False
  | .nil => gNil
  | .cons t r => gCons (match t with | .nm i => gName i | .nil => fun _ _ _ _ => False | .cons t' r' => gTup K (lenTg (.cons t' r')) (gL K (.cons t' r'))) (gL K r)
def gT (K : PySem.W.Frag) : Tg → TG
  | .nm i => gName i
  | .nil => fun _ _ _ _ => False
  | .cons t' r' => gTup K (lenTg (.cons t' r')) (gL K (.cons t' r'))
theorem asgL_len : ∀ {t : Tg} {ds : List D} {ρ ρ' : List SV}, asgL t ds ρ = some ρ' → ds.length = lenTg t
  | .nm _, _, _, _, h => by cases h
  | .nil, [], _, _, h => rfl
  | .nil, _ :: _, _, _, h => by cases h
  | .cons _ _, [], _, _, h => by cases h
  | .cons t r, d :: ds, ρ, ρ', h => by
    show ds.length + 1 = lenTg r + 1
    unfold asgL at h
    cases t with
    | nm i =>
      simp only at h
      split at h
      · rw [asgL_len h]
      · cases h
    | nil => cases h
    | cons t' r' =>
      simp only at h
      split at h
      · obtain ⟨ρ1, h1, h2⟩ := Option.bind_eq_some_iff.mp h
        rw [asgL_len h2]
      · cases h
theorem gL_use {Y : Sys} {K : PySem.W.Frag} {H0 : Hp} {c : Cf Y} (ok : Ok c) : ∀ {t : Tg} {ds : List D} {ρ ρ' : List SV} {σ : L2.St} {vs : List V} {Q : L2.St → Hp → Prop}, asgL t ds ρ = some ρ' → Rel K H0 c σ ρ → Reps K c.F vs ds →
    (∀ σ', Rel K H0 c σ' ρ' → σ'.length = σ.length → (∀ i, i ∉ slots t → σ'[i]? = σ[i]?) → Q σ' c.H) → gL K t vs σ c.H Q
  | .nm _, _, _, _, _, _, _, h, _, _, _ => by cases h
  | .nil, [], _, _, _, _, _, h, r, rv, q => by
    cases h
    cases rv
    exact ⟨rfl, q _ r rfl fun _ _ => rfl⟩
  | .nil, _ :: _, _, _, _, _, _, h, _, _, _ => by cases h
  | .cons _ _, [], _, _, _, _, _, h, _, _, _ => by cases h
  | .cons t r, d :: ds, ρ, ρ', σ, vs, Q, h, rel, rv, q => by
    cases rv with
    | cons rd rr =>
      rename_i v vr
      unfold gL
      refine ⟨v, vr, rfl, ?_⟩
      unfold asgL at h
      cases t with
      | nm i =>
        simp only at h
        split at h
        · rename_i hi
          refine gL_use ok h (rel.set rd hi) rr fun σ' r' l' s' => q σ' r' (by rw [l', List.length_set]) fun j hj => ?_
          rw [s' j fun z => hj (List.mem_append_right _ z)]
          exact List.getElem?_set_ne (show i ≠ j from fun z => hj (List.mem_append_left _ (by rw [← z]; exact List.mem_singleton_self _)))
        · cases h
      | nil =>
        cases h
      | cons t' r' =>
        simp only at h
        split at h
        · rename_i es
          obtain ⟨ρ1, h1, h2⟩ := Option.bind_eq_some_iff.mp h
          cases rd with
          | tup hq _ re =>
            refine ⟨_, _, rfl, sqT_sub ok.sub hq, by rw [re.length, asgL_len h1], ?_⟩
            refine gL_use ok h1 rel re fun σ1 rel1 l1 s1 => gL_use ok h2 rel1 rr fun σ' rel' l' s' => q σ' rel' (by rw [l', l1]) fun j hj => ?_
            rw [s' j fun z => hj (List.mem_append_right _ z)]
            exact s1 j fun z => hj (List.mem_append_left _ z)
        · cases h

/-- a tuple's target: what is in it alone counts -/
theorem gT_useW {Y : Sys} {K : PySem.W.Frag} {H0 : Hp} {c : Cf Y} (ok : Ok c) {t r : Tg} {ds : List D} {ρ ρ' : List SV} {σ : L2.St} {a : Addr} {vs : List V} {Q : L2.St → Hp → Prop} (h : asgT (.cons t r) (.tup ds) ρ = some ρ') (rel : Rel K H0 c σ ρ) (hq : SqT K c.F a vs) (rv : Reps K c.F vs ds)
    (q : ∀ σ', Rel K H0 c σ' ρ' → σ'.length = σ.length → (∀ i, i ∉ slots (.cons t r) → σ'[i]? = σ[i]?) → Q σ' c.H) : gT K (.cons t r) (.ref a) σ c.H Q := by
  unfold asgT asgL at h
  obtain ⟨ρ1, h1, h2⟩ := Option.bind_eq_some_iff.mp h
  cases h2
  exact ⟨a, vs, rfl, sqT_sub ok.sub hq, by rw [rv.length, asgL_len h1], gL_use ok h1 rel rv q⟩
theorem gT_use {Y : Sys} {K : PySem.W.Frag} {H0 : Hp} {c : Cf Y} (ok : Ok c) {t : Tg} {d : D} {ρ ρ' : List SV} {σ : L2.St} {v : V} {Q : L2.St → Hp → Prop} (h : asgT t d ρ = some ρ') (rel : Rel K H0 c σ ρ) (rv : Rep K c.F v d)
    (q : ∀ σ', Rel K H0 c σ' ρ' → σ'.length = σ.length → (∀ i, i ∉ slots t → σ'[i]? = σ[i]?) → Q σ' c.H) : gT K t v σ c.H Q := by
  have g := gL_use (Q := Q) ok h rel (Reps.cons rv .nil) fun σ' r' l' s' => q σ' r' l' fun i hi => s' i fun z => by
    rcases List.mem_append.mp z with z | z
    · exact hi z
    · cases z
  unfold gL at g
  obtain ⟨v', r', e, g⟩ := g
  cases e
  have fin : ∀ {σ : L2.St} {H : Hp}, gL K .nil [] σ H Q → Q σ H := fun g => by
    unfold gL at g
    exact g.2
  cases t with
  | nm i => exact fin g
  | nil => exact g
  | cons t' r' =>
    obtain ⟨a, xs, e1, e2, e3, g⟩ := g
    refine ⟨a, xs, e1, e2, e3, ?_⟩
    have mono : ∀ {t : Tg} {vs : List V} {σ : L2.St} {H : Hp} {Q Q' : L2.St → Hp → Prop}, (∀ σ H, Q σ H → Q' σ H) → gL K t vs σ H Q → gL K t vs σ H Q' := by
      intro t
      induction t with
      | nm i => intro vs σ H Q Q' _ h; exact h
      | nil => intro vs σ H Q Q' hq h; unfold gL at h ⊢; exact ⟨h.1, hq _ _ h.2⟩
      | cons t r iht ihr =>
        intro vs σ H Q Q' hq h
        unfold gL at h ⊢
        obtain ⟨v, rr, e, h⟩ := h
        refine ⟨v, rr, e, ?_⟩
        cases t with
        | nm i => exact ihr hq h
        | nil => exact h
        | cons t' r' =>
          obtain ⟨a, xs, f1, f2, f3, h⟩ := h
          exact ⟨a, xs, f1, f2, f3, iht (fun _ _ z => ihr hq z) h⟩
    exact mono (fun _ _ z => fin z) g
def consT : Tg → Bool
  | .cons _ _ => true
  | _ => false
theorem gT_any {Y : Sys} {K : PySem.W.Frag} {H0 : Hp} {c : Cf Y} {z : Bool} (ok : Ok c) {t : Tg} {d : D} {ρ ρ' : List SV} {σ : L2.St} {v : V} {Q : L2.St → Hp → Prop} (hz : z = true → consT t = true) (h : asgT t d ρ = some ρ') (rel : Rel K H0 c σ ρ) (rv : RepW K z c.F v d)
    (q : ∀ σ', Rel K H0 c σ' ρ' → σ'.length = σ.length → (∀ i, i ∉ slots t → σ'[i]? = σ[i]?) → Q σ' c.H) : gT K t v σ c.H Q := by
  rcases rv with rv | ⟨e, a, vs, ds, rfl, rfl, hq, rs⟩
  · exact gT_use ok h rel rv q
  · cases t with
    | cons t r => exact gT_useW ok h rel hq rs q
    | _ => cases hz e
section
variable {X : Cx} {N : List Str} {sc : Scope} {fns : Str → Bool}
theorem each_ok {env : Env} : ∀ {t : Tg} {es : List Expr}, chkTs N sc fns t es = true → (assignEach es env).length = lenTg t ∧ ∀ p ∈ assignEach es env, p.1 = false
  | .nm _, es, h => by cases es <;> cases h
  | .nil, [], _ => ⟨rfl, fun p hp => by cases hp⟩
  | .nil, _ :: _, h => by cases h
  | .cons t r, [], h => by cases t <;> cases h
  | .cons t r, e :: es, h => by
    cases t with
    | nm i =>
      cases e <;> first | cases h | skip
      unfold chkTs at h
      simp only [Bool.and_eq_true] at h
      obtain ⟨h1, h2⟩ := each_ok (env := env) h.2
      refine ⟨congrArg (· + 1) h1, fun p hp => ?_⟩
      rcases List.mem_cons.mp hp with z | z
      · rw [z]
      · exact h2 p z
    | nil => cases e <;> cases h
    | cons t' r' =>
      cases e <;> first | cases h | skip
      unfold chkTs at h
      simp only [Bool.and_eq_true] at h
      obtain ⟨h1, h2⟩ := each_ok (env := env) h.2
      refine ⟨congrArg (· + 1) h1, fun p hp => ?_⟩
      rcases List.mem_cons.mp hp with z | z
      · rw [z]
      · exact h2 p z
theorem pgs_ok (hN : X.N = N) (hs : X.env.scope = sc) (nd : N.Nodup) (hc : X.calm = true) (hf : X.fn = fns) : ∀ {t : Tg} {es : List Expr}, chkTs N sc fns t es = true → PGs X es (gL X.K t)
  | .nm _, es, h => by cases es <;> cases h
  | .nil, [], _ => by unfold gL; exact pgs_nil
  | .nil, _ :: _, h => by cases h
  | .cons t r, [], h => by cases t <;> cases h
  | .cons t r, e :: es, h => by
    cases t with
    | nm i =>
      cases e <;> first | cases h | skip
      rename_i x pos
      unfold chkTs at h
      simp only [Bool.and_eq_true] at h
      obtain ⟨⟨h1, h2⟩, h3⟩ := h
      unfold gL
      refine pgs_cons (pg_name (by rw [hN]; exact nd) (by rw [hN]; exact beq_iff_eq.mp h1) ?_ ?_) (pgs_ok hN hs nd hc hf h3) rfl
      · unfold L2.Loc
        rw [hs]
        split at h2
        · exact .inl (by assumption)
        · exact .inr (by assumption)
        · cases h2
      · rw [hf, hs]
        split at h2
        · exact .inr (by assumption)
        · exact .inl h2
        · cases h2
    | nil => cases e <;> cases h
    | cons t' r' =>
      cases e <;> first | cases h | skip
      rename_i es' kk pos
      unfold chkTs at h
      simp only [Bool.and_eq_true] at h
      unfold gL
      obtain ⟨e1, e2⟩ := each_ok (env := X.env) h.1
      refine pgs_cons (pg_tup hc (pgs_ok hN hs nd hc hf h.1) e1 ?_) (pgs_ok hN hs nd hc hf h.2) rfl
      rw [List.findIdx?_eq_none_iff]
      exact fun p hp => by simpa using e2 p hp
theorem pg_ok (hN : X.N = N) (hs : X.env.scope = sc) (nd : N.Nodup) (hc : X.calm = true) (hf : X.fn = fns) {t : Tg} {e : Expr} (h : chkT N sc fns t e = true) : PG X e (gT X.K t) := by
  unfold chkT at h
  cases t with
  | nm i =>
    cases e <;> first | cases h | skip
    rename_i x pos
    unfold chkTs at h
    simp only [Bool.and_eq_true] at h
    obtain ⟨⟨h1, h2⟩, h3⟩ := h
    refine pg_name (by rw [hN]; exact nd) (by rw [hN]; exact beq_iff_eq.mp h1) ?_ ?_
    · unfold L2.Loc
      rw [hs]
      split at h2
      · exact .inl (by assumption)
      · exact .inr (by assumption)
      · cases h2
    · rw [hf, hs]
      split at h2
      · exact .inr (by assumption)
      · exact .inl h2
      · cases h2
  | nil => cases e <;> cases h
  | cons t' r' =>
    cases e <;> first | cases h | skip
    rename_i es' kk pos
    unfold chkTs at h
    simp only [Bool.and_eq_true] at h
    obtain ⟨e1, e2⟩ := each_ok (env := X.env) h.1
    refine pg_tup hc (pgs_ok hN hs nd hc hf h.1) e1 ?_
    rw [List.findIdx?_eq_none_iff]
    exact fun p hp => by simpa using e2 p hp
end
end Mf
set_option Elab.async false
set_option linter.all false
set_option maxRecDepth 100000
set_option maxHeartbeats 1000000
namespace Mf
open PySem L2

abbrev W0 : WX := fun _ _ _ _ => False
/-- a comprehension's turn -/
def lcF {S : Type} (tg : Tg) (ifs : CA S) (elt : CE S) (ρ : List SV) : D → S → Res S (Option D) := fun d s => match asgT tg d ρ with
  | none => .er
  | some ρ' => (noEx (evT ifs ρ' s)).bind fun k s => if k then (noEx (ev elt ρ' s)).bind fun y s => (dat y s).bind fun e s => .ok (some e) s else .ok none s
theorem noEx_ok {S α : Type} {r : Res S α} {a : α} {s : S} (h : noEx r = .ok a s) : r = .ok a s := by
  cases r with
  | ok b t => exact h
  | _ => cases h
theorem bind_ok {S α β : Type} {r : Res S α} {f : α → S → Res S β} {b : β} {s : S} (h : r.bind f = .ok b s) : ∃ a t, r = .ok a t ∧ f a t = .ok b s := by
  cases r with
  | ok a t => exact ⟨a, t, rfl, h⟩
  | _ => cases h
theorem dat_ok {S : Type} {x : K3 × D} {s t : S} {d : D} (h : dat x s = .ok d t) : x.1 ≠ .o ∧ d = x.2 ∧ t = s := by
  obtain ⟨k, e⟩ := x
  cases k <;> cases h
  · exact ⟨fun z => (nomatch z), rfl, rfl⟩
  · exact ⟨fun z => (nomatch z), rfl, rfl⟩
theorem lcF_ok {S : Type} {tg : Tg} {ifs : CA S} {elt : CE S} {ρ : List SV} {d : D} {s s' : S} {o : Option D} (h : lcF tg ifs elt ρ d s = .ok o s') : ∃ ρ' k s1, asgT tg d ρ = some ρ' ∧ evT ifs ρ' s = .ok k s1 ∧
    ((k = true ∧ ∃ y, ev elt ρ' s1 = .ok y s' ∧ y.1 ≠ .o ∧ o = some y.2) ∨ (k = false ∧ o = none ∧ s' = s1)) := by
  unfold lcF at h
  split at h
  · cases h
  · rename_i ρ' e
    obtain ⟨k, s1, h1, h2⟩ := bind_ok h
    refine ⟨ρ', k, s1, e, noEx_ok h1, ?_⟩
    cases k with
    | true =>
      obtain ⟨y, s2, h3, h4⟩ := bind_ok (show (noEx (ev elt ρ' s1)).bind _ = _ from h2)
      obtain ⟨e', s3, h5, h6⟩ := bind_ok h4
      obtain ⟨h7, h8, h9⟩ := dat_ok h5
      subst h8 h9
      cases h6
      exact .inl ⟨rfl, y, noEx_ok h3, h7, rfl⟩
    | false =>
      have h2 : Res.ok none s1 = Res.ok o s' := h2
      cases h2
      exact .inr ⟨rfl, rfl, rfl⟩
theorem lcF_ex {S : Type} {tg : Tg} {ifs : CA S} {elt : CE S} {ρ : List SV} {d : D} {s s' : S} {x : Str} : lcF tg ifs elt ρ d s ≠ .ex x s' := by
  unfold lcF
  split
  · exact fun z => nomatch z
  · rename_i ρ' e
    cases evT ifs ρ' s with
    | ok k s1 =>
      cases k with
      | true =>
        show ((noEx (ev elt ρ' s1)).bind fun y s => (dat y s).bind fun e s => .ok (some e) s) ≠ _
        cases ev elt ρ' s1 with
        | ok y s2 =>
          obtain ⟨k3, dd⟩ := y
          cases k3 <;> exact fun z => nomatch z
        | _ => exact fun z => nomatch z
      | false => exact fun z => nomatch z
    | _ => exact fun z => nomatch z
theorem walkR_ex {S : Type} {f : D → S → Res S (Option D)} (hf : ∀ d s x s', f d s ≠ .ex x s') : ∀ (ds : List D) (s : S) (x : Str) (s' : S), walkR f ds s ≠ .ex x s'
  | [], _, _, _ => fun z => nomatch z
  | d :: ds, s, x, s' => by
    unfold walkR
    cases e : f d s with
    | ok o s1 =>
      show ((walkR f ds s1).bind _) ≠ _
      cases e2 : walkR f ds s1 with
      | ok r s2 => exact fun z => nomatch z
      | ex y s2 => exact absurd e2 (walkR_ex hf ds s1 y s2)
      | er => exact fun z => nomatch z
    | ex y s2 => exact absurd e (hf d s y s2)
    | er => exact fun z => nomatch z
theorem walkR_cons {S : Type} {f : D → S → Res S (Option D)} {d : D} {ds : List D} {s s' : S} {r : List D} (h : walkR f (d :: ds) s = .ok r s') : ∃ o s1 r', f d s = .ok o s1 ∧ walkR f ds s1 = .ok r' s' ∧ r = o.toList ++ r' := by
  unfold walkR at h
  obtain ⟨o, s1, h1, h2⟩ := bind_ok h
  obtain ⟨r', s2, h3, h4⟩ := bind_ok h2
  cases h4
  exact ⟨o, s1, r', h1, h3, rfl⟩
section
variable {Y : Sys} {K : PySem.W.Frag} {mg : Str → Option Value} {W : WX}
abbrev tTs (K : PySem.W.Frag) (mg : Str → Option Value) (W : WX) (ifs : CA Y.S) : TT := tR K mg W JB (evT ifs)
theorem lc_use {it : CI Y.S} {tg : Tg} {ifs : CA Y.S} {elt : CE Y.S} {vs : List Nat} (hz : zipI it = true → consT tg = true) (hsl : ∀ i ∈ slots tg, i ∈ vs) {σ : L2.St} {H : Hp} {Q : VK} (h : tE K mg W (.lc it tg ifs elt vs) σ H Q) :
    tLc (tI K mg W false it) (gT K tg) (tTs K mg W0 ifs) (tE K mg W0 elt) vs σ H Q := by
  obtain ⟨c, H0, ρ, rfl, ok, rel, p⟩ := h
  have p : Post mg W σ c (JE K c) Q ((evI false it ρ c.s).bind fun ds s => if !lenOk ds.length then .er else (walkR (lcF tg ifs elt (wipeR ρ vs)) ds s).bind fun r s => .ok (.t, .lst r) s) := p
  refine tR.bind ok rel p fun J c1 ds ea t1 ok1 rel1 j1 p1 => ?_
  obtain ⟨G, gd, hG⟩ := j1
  intro L hL
  have p1 := p1.shiftE t1 ok1
  split at p1
  · exact p1.elim
  rename_i hlen
  have hlen : lenOk ds.length = true := by simpa using hlen
  cases ew : walkR (lcF tg ifs elt (wipeR ρ vs)) ds c1.s with
  | er => rw [ew] at p1; exact p1.elim
  | ex x s' => exact absurd ew (walkR_ex (fun _ _ _ _ => lcF_ex) _ _ _ _)
  | ok r s' =>
    rw [ew] at p1
    have p1 : ∀ v (c' : Cf Y), c'.s = s' → Step c1 c' → Ok c' → Is K c1.H c' .t v (.lst r) → Q v c'.H := p1
    refine ⟨fun i m H => m = ds.length - i ∧ i ≤ ds.length ∧ ∃ (cc : Cf Y) (acc : List V) (done rest : List D), cc.H = H ∧ Ok cc ∧ Step c1 cc ∧ cc.H L = some (.lst acc) ∧ cc.F L = none ∧ ¬ Y.dm cc.s L ∧ Reps K cc.F acc done ∧ acc.length ≤ i ∧
      walkR (lcF tg ifs elt (wipeR ρ vs)) (ds.drop i) cc.s = .ok rest s' ∧ done ++ rest = r,
      ⟨ds.length, rfl, Nat.zero_le _, ⟨c1.F, upd c1.H L (.lst []), c1.s⟩, [], [], r, rfl, ok1.own hL _, Step.own ok1 hL _, upd_same, ok1.fr hL, fun z => ok1.has L z hL, .nil, Nat.le_refl _, ew, rfl⟩, fun i m H hW => ?_⟩
    obtain ⟨rfl, hi, cc, acc, done, rest, rfl, okc, tc, hacc, hF, hnd, racc, hal, hw, hr⟩ := hW
    by_cases hlt : i < ds.length
    · have hd : ds[i]? = some ds[i] := List.getElem?_eq_getElem hlt
      have edrop : ds.drop i = ds[i] :: ds.drop (i + 1) := List.drop_eq_getElem_cons hlt
      rw [edrop] at hw
      obtain ⟨o, s1, r', w1, w2, w3⟩ := walkR_cons hw
      obtain ⟨ρ', k, s2, a1, a2, a3⟩ := lcF_ok w1
      obtain ⟨go, yl⟩ := (gd cc (hG cc (by rw [if_neg Bool.false_ne_true]; exact tc)) okc i).2 _ hd
      refine .inr ⟨go, fun H' => ds.length - (i + 1) = ds.length - (i + 1) ∧ i + 1 ≤ ds.length ∧ ∃ (cc : Cf Y) (acc : List V) (done rest : List D), cc.H = H' ∧ Ok cc ∧ Step c1 cc ∧ cc.H L = some (.lst acc) ∧ cc.F L = none ∧ ¬ Y.dm cc.s L ∧ Reps K cc.F acc done ∧ acc.length ≤ i + 1 ∧
        walkR (lcF tg ifs elt (wipeR ρ vs)) (ds.drop (i + 1)) cc.s = .ok rest s' ∧ done ++ rest = r, fun H' hN => ⟨ds.length - (i + 1), by omega, hN⟩, fun x H' hy => ?_⟩
      obtain ⟨c2, rfl, es2, t2, ok2, rx⟩ := yl x H' hy
      have rel2 : Rel K H0 c2 (wipe σ vs) (wipeR ρ vs) := (rel1.step (tc.trans okc t2)).wipe vs
      refine gT_any ok2 hz a1 rel2 rx fun σ' rel' l' s' => ⟨?_, ?_⟩
      · rw [← wipe_wipe (σ := σ) (vs := vs)]
        exact wipe_ext l' fun j hj => s' j fun z => hj (hsl j z)
      · refine ⟨c2, H0, ρ', rfl, ok2, rel', ?_⟩
        rw [es2, a2]
        intro b c3 es3 t3 ok3 hb
        have hb : b = k := hb
        subst hb
        have obL : cc.H L ≠ none := by rw [hacc]; exact fun z => nomatch z
        rcases a3 with ⟨rfl, y, a4, a5, a6⟩ | ⟨rfl, a4, a5⟩
        · refine iteT ⟨c3, H0, ρ', rfl, ok3, rel'.step t3, ?_⟩
          rw [es3, a4]
          intro v c4 es4 t4 ok4 j4
          obtain ⟨c5, es5, eh5, t5, ok5, r5⟩ := Is.data j4 a5 t4 ok4
          have T : Step cc c5 := t2.trans ok2 (t3.trans ok3 t5)
          have hacc5 : c5.H L = some (.lst acc) := T.h L _ hacc hnd
          have hF5 : c5.F L = none := T.n L obL hF
          have hnd5 : ¬ Y.dm c5.s L := fun z => hnd (T.g L obL z)
          rw [← eh5]
          refine ⟨acc, hacc5, ?_, rfl, hlt, ⟨c5.F, upd c5.H L (.lst (acc ++ [v])), c5.s⟩, acc ++ [v], done ++ [y.2], r', rfl, ok5.mut hF5 hnd5 _, (tc.trans okc T).mut hL _, upd_same, hF5, hnd5, (racc.mono T.f).append (.cons r5 .nil), ?_, ?_, ?_⟩
          · have := of_decide_eq_true hlen
            have e : sizeLine = 16777216 := by decide
            omega
          · rw [List.length_append, List.length_singleton]
            omega
          · rw [es5, es4]
            exact w2
          · rw [← hr, w3, a6, List.append_assoc]
            rfl
        · refine iteF ⟨rfl, hlt, c3, acc, done, r', rfl, ok3, ?_⟩
          have T : Step cc c3 := t2.trans ok2 t3
          refine ⟨tc.trans okc T, T.h L _ hacc hnd, T.n L obL hF, fun z => hnd (T.g L obL z), racc.mono T.f, by omega, ?_, ?_⟩
          · rw [es3, ← a5]
            exact w2
          · rw [← hr, w3, a4]
            rfl
    · have ei : i = ds.length := by omega
      subst ei
      rw [List.drop_length] at hw
      cases hw
      rw [List.append_nil] at hr
      subst hr
      have st := (gd cc (hG cc (by rw [if_neg Bool.false_ne_true]; exact tc)) okc ds.length).1 (Nat.le_refl _)
      exact .inl ⟨st, p1 (.ref L) cc rfl tc okc ⟨L, rfl, ⟨⟨acc, hacc, racc⟩, hF, hnd⟩, hL⟩⟩
end
section
variable {X : Cx} {Y : Sys} {W : WX} {n : Nat} {N : List Str} {sc scope : Scope} {pos spos py : Pos} {tg' iter' elt' : Expr} {ifs' : List Expr} {it : CI Y.S} {tg : Tg} {ifs : CA Y.S} {elt : CE Y.S} {vs : List Nat}
theorem Cxt.blk (C : Cxt X W n N sc) (s : Shared) (H : Hp) (L : Addr) (cl : List (Str × Addr)) (fp : List Addr) : Cxt (X.blk s H scope (compEnvC scope cl L X.env) fp) W0 n N (relS scope sc) where
  hN := C.hN
  hs := by rw [← C.hs]; rfl
  nd := C.nd
  calm := C.calm
  room := C.room
  tk := takes0
  we := ⟨fun _ _ _ => False, rfl⟩
  blt := C.blt
theorem own_snd : (vs.map fun i => ((N.getD i "" : Str), i)).map (·.2) = vs := by
  rw [List.map_map]
  exact List.map_id _
theorem se_lc (C : Cxt X W n N sc) (hz : zipI it = true → consT tg = true) (hI : PI X tg' iter' (tI X.K X.mg W false it)) (hset : notSet iter' = true) (hblk : blkC N sc scope (vs.map fun i => (N.getD i "", i)) = true) (hsl : (slots tg).all (fun i => vs.contains i) = true)
    (hT : chkT N (relS scope sc) (fun x => scope.names.lookup x == some .cell) tg tg' = true)
    (hC : ∀ X' : Cx, X'.prog = X.prog → X'.w = X.w → X'.K = X.K → X'.mg = X.mg → X'.base = X.base → Cxt X' W0 n N (relS scope sc) → PTs X' ifs' (tTs X.K X.mg W0 ifs))
    (hE : ∀ X' : Cx, X'.prog = X.prog → X'.w = X.w → X'.K = X.K → X'.mg = X.mg → X'.base = X.base → Cxt X' W0 n N (relS scope sc) → PE X' elt' (tE X.K X.mg W0 elt)) :
    PE X (.ListComp elt' [⟨tg', iter', ifs', 0⟩] scope pos) (tE X.K X.mg W (.lc it tg ifs elt vs)) ∧
    (∀ {i : Nat} {y : Str}, N[i]? = some y → sc.names.lookup y = some .local → swapsWith (.ListComp elt' [⟨tg', iter', ifs', 0⟩] scope pos) (some (.Name y py)) spos.line X.env = pure true →
      PS X (.Assign [.Name y py] (.ListComp elt' [⟨tg', iter', ifs', 0⟩] scope pos) spos) (tAsg (tE X.K X.mg W (.lc it tg ifs elt vs)) (gName i))) := by
  have hsl' : ∀ i ∈ slots tg, i ∈ vs := fun i hi => List.contains_iff_mem.mp (List.all_eq_true.mp hsl i hi)
  have ok : BlkOk X.N X.env.scope scope (vs.map fun i => (N.getD i "", i)) := by
    rw [C.hN, C.hs]
    exact blkOk_by hblk
  have hg : ∀ (s : Shared) (H : Hp) (L : Addr) (cl : List (Str × Addr)) (fp : List Addr), PG (X.blk s H scope (compEnvC scope cl L X.env) fp) tg' (gT X.K tg) := fun s H L cl fp =>
    pg_ok (X := X.blk s H scope (compEnvC scope cl L X.env) fp) C.hN (C.blk s H L cl fp).hs C.nd C.calm rfl hT
  refine ⟨?_, fun {i y} hi hl hsw => ?_⟩
  · refine (pe_lc (own := vs.map fun i => (N.getD i "", i)) C.calm (by rw [C.hN]; exact C.nd) hI ok hg (fun s H L cl fp => hC _ rfl rfl rfl rfl rfl (C.blk s H L cl fp)) (fun s H L cl fp => hE _ rfl rfl rfl rfl rfl (C.blk s H L cl fp)) (set_ok hset)).weak fun σ H Q h => ?_
    rw [own_snd]
    exact lc_use hz hsl' h
  · have q := ps_setLc (i := i) (y := y) (py := py) (pos := pos) (spos := spos) (own := vs.map fun i => (N.getD i "", i)) C.calm (by rw [C.hN]; exact C.nd) (by rw [C.hN]; exact hi) (by rw [C.hs]; exact hl) hsw hI ok hg (fun s H L cl fp => hC _ rfl rfl rfl rfl rfl (C.blk s H L cl fp)) (fun s H L cl fp => hE _ rfl rfl rfl rfl rfl (C.blk s H L cl fp)) (set_ok hset)
    rw [own_snd] at q
    exact ⟨fun pins s σ H D I h => q.run pins s σ H D I (lc_use hz hsl' h)⟩
end

/-! ### two for in a comprehension -/
theorem Rel.hide {Y : Sys} {K : PySem.W.Frag} {H0 : Hp} {c : Cf Y} {σ : L2.St} {ρ : List SV} (r : Rel K H0 c σ ρ) : Rel K H0 c σ (hideR ρ) where
  len := by unfold hideR; rw [List.length_map]; exact r.len
  va := fun i d e => by
    unfold hideR at e
    rw [List.getElem?_map] at e
    obtain ⟨x, h1, h2⟩ := Option.map_eq_some_iff.mp e
    cases x <;> first | cases h2 | skip
    exact r.va i d h1
  ow := fun i d e => by
    unfold hideR at e
    rw [List.getElem?_map] at e
    obtain ⟨x, h1, h2⟩ := Option.map_eq_some_iff.mp e
    cases x <;> cases h2
  ap := fun i j d e p _ h => by
    unfold hideR at h
    rw [List.getElem?_map] at h
    obtain ⟨x, h1, h2⟩ := Option.map_eq_some_iff.mp h
    cases x <;> cases h2
theorem hide_no {ρ : List SV} {i : Nat} {d : D} : (hideR ρ)[i]? ≠ some (.ow d) := by
  unfold hideR
  rw [List.getElem?_map]
  intro e
  obtain ⟨x, h1, h2⟩ := Option.map_eq_some_iff.mp e
  cases x <;> cases h2
theorem Rel.free {Y : Sys} {K : PySem.W.Frag} {H0 : Hp} {c c' : Cf Y} {σ : L2.St} {ρ : List SV} (r : Rel K H0 c σ (hideR ρ)) (f : Sub c.F c'.F) : Rel K H0 c' σ (hideR ρ) where
  len := r.len
  va := fun i d e => let ⟨v, h, q⟩ := r.va i d e; ⟨v, h, q.mono f⟩
  ow := fun i d e => absurd e hide_no
  ap := fun i j d e p _ h => absurd h hide_no
def lc2F {S : Type} (tg : Tg) (it1 : CI S) (tg1 : Tg) (elt : CE S) (vs1 : List Nat) (ρ : List SV) : D → S → Res S (List D) := fun d s => match asgT tg d ρ with
  | none => .er
  | some ρ' => (noEx (evI true it1 (hideR ρ') s)).bind fun ds1 s => walkR (lcF tg1 .nil elt (wipeR (hideR ρ') vs1)) ds1 s
theorem lcF_nil {S : Type} {tg : Tg} {elt : CE S} {ρ : List SV} : lcF tg .nil elt ρ = fun d s => match asgT tg d ρ with
    | none => .er
    | some ρ2 => (noEx (ev elt ρ2 s)).bind fun y s => (dat y s).bind fun e s => .ok (some e) s := by
  funext d s
  unfold lcF
  split <;> rfl
theorem ev_lc2 {S : Type} (it : CI S) (tg : Tg) (it1 : CI S) (tg1 : Tg) (elt : CE S) (vs vs1 : List Nat) (ρ : List SV) (s : S) : ev (.lc2 it tg it1 tg1 elt vs vs1) ρ s =
    (evI false it ρ s).bind fun ds s => if !lenOk ds.length then .er else (walkL (lc2F tg it1 tg1 elt vs1 (wipeR (hideR ρ) vs)) ds s).bind fun r s => if lenOk r.length then .ok (.t, .lst r) s else .er := by
  have e : lc2F tg it1 tg1 elt vs1 (wipeR (hideR ρ) vs) = fun d s => match asgT tg d (wipeR (hideR ρ) vs) with
      | none => .er
      | some ρ' => (noEx (evI true it1 (hideR ρ') s)).bind fun ds1 s => walkR (fun d1 s => match asgT tg1 d1 (wipeR (hideR ρ') vs1) with
        | none => .er
        | some ρ2 => (noEx (ev elt ρ2 s)).bind fun y s => (dat y s).bind fun e s => .ok (some e) s) ds1 s := by
    funext d s
    unfold lc2F
    simp only [lcF_nil]
  first
    | (rw [ev, e]; done)
    | (rw [ev, e]; rfl)
theorem walkL_cons {S : Type} {f : D → S → Res S (List D)} {d : D} {ds : List D} {s s' : S} {r : List D} (h : walkL f (d :: ds) s = .ok r s') : ∃ o s1 r', f d s = .ok o s1 ∧ walkL f ds s1 = .ok r' s' ∧ r = o ++ r' := by
  unfold walkL at h
  obtain ⟨o, s1, h1, h2⟩ := bind_ok h
  obtain ⟨r', s2, h3, h4⟩ := bind_ok h2
  cases h4
  exact ⟨o, s1, r', h1, h3, rfl⟩
theorem walkL_ex {S : Type} {f : D → S → Res S (List D)} (hf : ∀ d s x s', f d s ≠ .ex x s') : ∀ (ds : List D) (s : S) (x : Str) (s' : S), walkL f ds s ≠ .ex x s'
  | [], _, _, _ => fun z => nomatch z
  | d :: ds, s, x, s' => by
    unfold walkL
    cases e : f d s with
    | ok o s1 =>
      show ((walkL f ds s1).bind _) ≠ _
      cases e2 : walkL f ds s1 with
      | ok r s2 => exact fun z => nomatch z
      | ex y s2 => exact absurd e2 (walkL_ex hf ds s1 y s2)
      | er => exact fun z => nomatch z
    | ex y s2 => exact absurd e (hf d s y s2)
    | er => exact fun z => nomatch z
theorem lc2F_ex {S : Type} {tg : Tg} {it1 : CI S} {tg1 : Tg} {elt : CE S} {vs1 : List Nat} {ρ : List SV} {d : D} {s s' : S} {x : Str} : lc2F tg it1 tg1 elt vs1 ρ d s ≠ .ex x s' := by
  unfold lc2F
  split
  · exact fun z => nomatch z
  · rename_i ρ' e
    cases evI true it1 (hideR ρ') s with
    | ok ds1 s1 => exact walkR_ex (fun _ _ _ _ => lcF_ex) _ _ _ _
    | _ => exact fun z => nomatch z
theorem lc2F_ok {S : Type} {tg : Tg} {it1 : CI S} {tg1 : Tg} {elt : CE S} {vs1 : List Nat} {ρ : List SV} {d : D} {s s' : S} {o : List D} (h : lc2F tg it1 tg1 elt vs1 ρ d s = .ok o s') :
    ∃ ρ' ds1 s1, asgT tg d ρ = some ρ' ∧ evI true it1 (hideR ρ') s = .ok ds1 s1 ∧ walkR (lcF tg1 .nil elt (wipeR (hideR ρ') vs1)) ds1 s1 = .ok o s' := by
  unfold lc2F at h
  split at h
  · cases h
  · rename_i ρ' e
    obtain ⟨ds1, s1, h1, h2⟩ := bind_ok h
    exact ⟨ρ', ds1, s1, e, noEx_ok h1, h2⟩
section
variable {Y : Sys} {K : PySem.W.Frag} {mg : Str → Option Value} {W : WX}
theorem lc2_use {it it1 : CI Y.S} {tg tg1 : Tg} {elt : CE Y.S} {vs vs1 : List Nat} (hz : zipI it = true → consT tg = true) (hz1 : zipI it1 = true → consT tg1 = true) (hsl : ∀ i ∈ slots tg, i ∈ vs) (hsl1 : ∀ i ∈ slots tg1, i ∈ vs1) {σ : L2.St} {H : Hp} {Q : VK} (h : tE K mg W (.lc2 it tg it1 tg1 elt vs vs1) σ H Q) :
    tLc2 (tI K mg W false it) (gT K tg) (tTs (Y := Y) K mg W0 .nil) (tI K mg W0 true it1) (gT K tg1) (tTs (Y := Y) K mg W0 .nil) (tE K mg W0 elt) vs vs1 σ H Q := by
  obtain ⟨c, H0, ρ, rfl, ok, rel, p⟩ := h
  rw [ev_lc2] at p
  refine tR.bind ok rel p fun J c1 ds ea t1 ok1 rel1 j1 p1 => ?_
  obtain ⟨G, gd, hG⟩ := j1
  intro L hL
  have p1 := p1.shiftE t1 ok1
  split at p1
  · exact p1.elim
  rename_i hlen
  cases ew : walkL (lc2F tg it1 tg1 elt vs1 (wipeR (hideR ρ) vs)) ds c1.s with
  | er => rw [ew] at p1; exact p1.elim
  | ex x s' => exact absurd ew (walkL_ex (fun _ _ _ _ => lc2F_ex) _ _ _ _)
  | ok r s' =>
    rw [ew] at p1
    have p1 : Post mg W σ c1 (JE K c1) Q (if lenOk r.length then .ok (.t, .lst r) s' else .er) := p1
    split at p1
    case isFalse => exact p1.elim
    rename_i hrl
    have hrl : r.length ≤ 1000000 := of_decide_eq_true hrl
    have p1 : ∀ v (c' : Cf Y), c'.s = s' → Step c1 c' → Ok c' → Is K c1.H c' .t v (.lst r) → Q v c'.H := p1
    refine ⟨fun i m H => m = ds.length - i ∧ i ≤ ds.length ∧ ∃ (cc : Cf Y) (acc : List V) (done rest : List D), cc.H = H ∧ Ok cc ∧ Step c1 cc ∧ cc.H L = some (.lst acc) ∧ cc.F L = none ∧ ¬ Y.dm cc.s L ∧ Reps K cc.F acc done ∧
      walkL (lc2F tg it1 tg1 elt vs1 (wipeR (hideR ρ) vs)) (ds.drop i) cc.s = .ok rest s' ∧ done ++ rest = r,
      ⟨ds.length, rfl, Nat.zero_le _, ⟨c1.F, upd c1.H L (.lst []), c1.s⟩, [], [], r, rfl, ok1.own hL _, Step.own ok1 hL _, upd_same, ok1.fr hL, fun z => ok1.has L z hL, .nil, ew, rfl⟩, fun i m H hW => ?_⟩
    obtain ⟨rfl, hi, cc, acc, done, rest, rfl, okc, tc, hacc, hF, hnd, racc, hw, hr⟩ := hW
    by_cases hlt : i < ds.length
    · have hd : ds[i]? = some ds[i] := List.getElem?_eq_getElem hlt
      have edrop : ds.drop i = ds[i] :: ds.drop (i + 1) := List.drop_eq_getElem_cons hlt
      rw [edrop] at hw
      obtain ⟨o, s1, r', w1, w2, w3⟩ := walkL_cons hw
      obtain ⟨ρ', ds1, s2, a1, a2, a3⟩ := lc2F_ok w1
      obtain ⟨go, yl⟩ := (gd cc (hG cc (by rw [if_neg Bool.false_ne_true]; exact tc)) okc i).2 _ hd
      refine .inr ⟨go, fun H' => ds.length - (i + 1) = ds.length - (i + 1) ∧ i + 1 ≤ ds.length ∧ ∃ (cc : Cf Y) (acc : List V) (done rest : List D), cc.H = H' ∧ Ok cc ∧ Step c1 cc ∧ cc.H L = some (.lst acc) ∧ cc.F L = none ∧ ¬ Y.dm cc.s L ∧ Reps K cc.F acc done ∧
        walkL (lc2F tg it1 tg1 elt vs1 (wipeR (hideR ρ) vs)) (ds.drop (i + 1)) cc.s = .ok rest s' ∧ done ++ rest = r, fun H' hN => ⟨ds.length - (i + 1), by omega, hN⟩, fun x H' hy => ?_⟩
      obtain ⟨c2, rfl, es2, t2, ok2, rx⟩ := yl x H' hy
      have rel2 : Rel K H0 c2 (wipe σ vs) (wipeR (hideR ρ) vs) := (rel1.step (tc.trans okc t2)).hide.wipe vs
      have obL : cc.H L ≠ none := by rw [hacc]; exact fun z => nomatch z
      refine gT_any ok2 hz a1 rel2 rx fun σ' rel' l' s' => ⟨?_, ?_⟩
      · rw [← wipe_wipe (σ := σ) (vs := vs)]
        exact wipe_ext l' fun j hj => s' j fun z => hj (hsl j z)
      · refine ⟨c2, H0, ρ', rfl, ok2, rel', ?_⟩
        show Post mg W0 σ' c2 (JB c2) _ (.ok true c2.s)
        intro b c3 es3 t3 ok3 hb
        have hb : b = true := hb
        subst hb
        refine iteT ⟨c3, H0, hideR ρ', rfl, ok3, (rel'.step t3).hide, ?_⟩
        rw [es3, es2, a2]
        intro J1 c4 es4 t4 ok4 j4
        obtain ⟨G1, gd1, hG1⟩ := j4
        have rel4 : Rel K H0 c4 σ' (hideR ρ') := ((rel'.step t3).step t4).hide
        have T4 : Step cc c4 := t2.trans ok2 (t3.trans ok3 t4)
        refine ⟨fun j k H => k = ds1.length - j ∧ j ≤ ds1.length ∧ ∃ (cd : Cf Y) (acc : List V) (done rest1 : List D), cd.H = H ∧ Ok cd ∧ Step c1 cd ∧ Sub c4.F cd.F ∧ cd.H L = some (.lst acc) ∧ cd.F L = none ∧ ¬ Y.dm cd.s L ∧ Reps K cd.F acc done ∧
          walkR (lcF tg1 .nil elt (wipeR (hideR ρ') vs1)) (ds1.drop j) cd.s = .ok rest1 s1 ∧ done ++ (rest1 ++ r') = r,
          ⟨ds1.length, rfl, Nat.zero_le _, c4, acc, done, o, rfl, ok4, tc.trans okc T4, Sub.refl _, T4.h L _ hacc hnd, T4.n L obL hF, fun z => hnd (T4.g L obL z), racc.mono T4.f, by rw [List.drop_zero, es4]; exact a3, by rw [← w3]; exact hr⟩, fun j k H hW1 => ?_⟩
        obtain ⟨rfl, hj, cd, acc, done, rest1, rfl, okd, td, fd, hacc, hF, hnd, racc, hw1, hr1⟩ := hW1
        have hGd : G1 cd := hG1 cd (by rw [if_pos rfl]; exact fd)
        by_cases hlt1 : j < ds1.length
        · have hd1 : ds1[j]? = some ds1[j] := List.getElem?_eq_getElem hlt1
          have edrop1 : ds1.drop j = ds1[j] :: ds1.drop (j + 1) := List.drop_eq_getElem_cons hlt1
          rw [edrop1] at hw1
          obtain ⟨o1, s5, r1', v1, v2, v3⟩ := walkR_cons hw1
          obtain ⟨ρ2, kk, s6, b1, b2, b3⟩ := lcF_ok v1
          obtain ⟨go1, yl1⟩ := (gd1 cd hGd okd j).2 _ hd1
          refine .inr ⟨go1, fun H' => ds1.length - (j + 1) = ds1.length - (j + 1) ∧ j + 1 ≤ ds1.length ∧ ∃ (cd : Cf Y) (acc : List V) (done rest1 : List D), cd.H = H' ∧ Ok cd ∧ Step c1 cd ∧ Sub c4.F cd.F ∧ cd.H L = some (.lst acc) ∧ cd.F L = none ∧ ¬ Y.dm cd.s L ∧ Reps K cd.F acc done ∧
            walkR (lcF tg1 .nil elt (wipeR (hideR ρ') vs1)) (ds1.drop (j + 1)) cd.s = .ok rest1 s1 ∧ done ++ (rest1 ++ r') = r, fun H' hN => ⟨ds1.length - (j + 1), by omega, hN⟩, fun x1 H1' hy1 => ?_⟩
          obtain ⟨c5, rfl, es5, t5, ok5, rx1⟩ := yl1 x1 H1' hy1
          have rel5 : Rel K H0 c5 (wipe σ' vs1) (wipeR (hideR ρ') vs1) := (rel4.free (fd.trans t5.f)).wipe vs1
          have obL1 : cd.H L ≠ none := by rw [hacc]; exact fun z => nomatch z
          refine gT_any ok5 hz1 b1 rel5 rx1 fun σ3 rel3 l3 s3 => ⟨?_, ?_⟩
          · rw [← wipe_wipe (σ := σ') (vs := vs1)]
            exact wipe_ext l3 fun q hq => s3 q fun z => hq (hsl1 q z)
          · refine ⟨c5, H0, ρ2, rfl, ok5, rel3, ?_⟩
            rw [es5, b2]
            intro b c6 es6 t6 ok6 hb
            have hb : b = kk := hb
            subst hb
            have b2' : Res.ok true cd.s = Res.ok b s6 := b2
            cases b2'
            rcases b3 with ⟨_, y, b4, b5, b6⟩ | ⟨b4, _⟩
            · refine iteT ⟨c6, H0, ρ2, rfl, ok6, rel3.step t6, ?_⟩
              rw [es6, b4]
              intro v c7 es7 t7 ok7 j7
              obtain ⟨c8, es8, eh8, t8, ok8, r8⟩ := Is.data j7 b5 t7 ok7
              have T : Step cd c8 := t5.trans ok5 (t6.trans ok6 t8)
              have hacc8 : c8.H L = some (.lst acc) := T.h L _ hacc hnd
              have hF8 : c8.F L = none := T.n L obL1 hF
              have hnd8 : ¬ Y.dm c8.s L := fun z => hnd (T.g L obL1 z)
              rw [← eh8]
              have hal : acc.length ≤ r.length := by
                rw [racc.length, ← hr1, List.length_append]
                omega
              refine ⟨acc, hacc8, ?_, rfl, hlt1, ⟨c8.F, upd c8.H L (.lst (acc ++ [v])), c8.s⟩, acc ++ [v], done ++ [y.2], r1', rfl, ok8.mut hF8 hnd8 _, (td.trans okd T).mut hL _, fd.trans T.f, upd_same, hF8, hnd8, (racc.mono T.f).append (.cons r8 .nil), ?_, ?_⟩
              · have e : sizeLine = 16777216 := by decide
                omega
              · rw [es8, es7]
                exact v2
              · rw [← hr1, v3, b6]
                simp
            · cases b4
        · have ej : j = ds1.length := by omega
          subst ej
          rw [List.drop_length] at hw1
          cases hw1
          have st1 := (gd1 cd hGd okd ds1.length).1 (Nat.le_refl _)
          exact .inl ⟨st1, rfl, by omega, cd, acc, done, r', rfl, okd, td, hacc, hF, hnd, racc, w2, hr1⟩
    · have ei : i = ds.length := by omega
      subst ei
      rw [List.drop_length] at hw
      cases hw
      rw [List.append_nil] at hr
      subst hr
      have st := (gd cc (hG cc (by rw [if_neg Bool.false_ne_true]; exact tc)) okc ds.length).1 (Nat.le_refl _)
      exact .inl ⟨st, p1 (.ref L) cc rfl tc okc ⟨L, rfl, ⟨⟨acc, hacc, racc⟩, hF, hnd⟩, hL⟩⟩
end
section
variable {X : Cx} {Y : Sys} {W : WX} {n : Nat} {N : List Str} {sc scope : Scope} {pos spos py : Pos} {tg' iter' elt' tg1' iter1' : Expr} {it it1 : CI Y.S} {tg tg1 : Tg} {elt : CE Y.S} {vs vs1 : List Nat}
theorem se_lc2 (C : Cxt X W n N sc) (hz : zipI it = true → consT tg = true) (hz1 : zipI it1 = true → consT tg1 = true) (hI : PI X tg' iter' (tI X.K X.mg W false it)) (hset : notSet iter' = true) (hset1 : notSet iter1' = true) (hblk : blkC N sc scope (vs.map fun i => (N.getD i "", i)) = true) (hsl : (slots tg).all (fun i => vs.contains i) = true) (hsl1 : (slots tg1).all (fun i => vs1.contains i) = true) (hv : vs1.all (fun i => vs.contains i) = true)
    (hT : chkT N (relS scope sc) (fun x => scope.names.lookup x == some .cell) tg tg' = true) (hT1 : chkT N (relS scope sc) (fun x => scope.names.lookup x == some .cell) tg1 tg1' = true)
    (hN1 : ∀ X' : Cx, X'.prog = X.prog → X'.w = X.w → X'.K = X.K → X'.mg = X.mg → X'.base = X.base → Cxt X' W0 n N (relS scope sc) → PTs X' [] (tTs (Y := Y) X.K X.mg W0 .nil))
    (hI1 : ∀ X' : Cx, X'.prog = X.prog → X'.w = X.w → X'.K = X.K → X'.mg = X.mg → X'.base = X.base → Cxt X' W0 n N (relS scope sc) → PI X' tg1' iter1' (tI X.K X.mg W0 true it1))
    (hE : ∀ X' : Cx, X'.prog = X.prog → X'.w = X.w → X'.K = X.K → X'.mg = X.mg → X'.base = X.base → Cxt X' W0 n N (relS scope sc) → PE X' elt' (tE X.K X.mg W0 elt)) :
    PE X (.ListComp elt' [⟨tg', iter', [], 0⟩, ⟨tg1', iter1', [], 0⟩] scope pos) (tE X.K X.mg W (.lc2 it tg it1 tg1 elt vs vs1)) ∧
    (∀ {i : Nat} {y : Str}, N[i]? = some y → sc.names.lookup y = some .local → swapsWith (.ListComp elt' [⟨tg', iter', [], 0⟩, ⟨tg1', iter1', [], 0⟩] scope pos) (some (.Name y py)) spos.line X.env = pure true →
      PS X (.Assign [.Name y py] (.ListComp elt' [⟨tg', iter', [], 0⟩, ⟨tg1', iter1', [], 0⟩] scope pos) spos) (tAsg (tE X.K X.mg W (.lc2 it tg it1 tg1 elt vs vs1)) (gName i))) := by
  have hsl' : ∀ i ∈ slots tg, i ∈ vs := fun i hi => List.contains_iff_mem.mp (List.all_eq_true.mp hsl i hi)
  have hsl1' : ∀ i ∈ slots tg1, i ∈ vs1 := fun i hi => List.contains_iff_mem.mp (List.all_eq_true.mp hsl1 i hi)
  have hv' : ∀ i ∈ vs1, i ∈ (vs.map fun i => ((N.getD i "" : Str), i)).map (·.2) := fun i hi => by
    rw [own_snd]
    exact List.contains_iff_mem.mp (List.all_eq_true.mp hv i hi)
  have ok : BlkOk X.N X.env.scope scope (vs.map fun i => (N.getD i "", i)) := by
    rw [C.hN, C.hs]
    exact blkOk_by hblk
  have hg : ∀ {t : Tg} {t' : Expr}, chkT N (relS scope sc) (fun x => scope.names.lookup x == some .cell) t t' = true → ∀ (s : Shared) (H : Hp) (L : Addr) (cl : List (Str × Addr)) (fp : List Addr), PG (X.blk s H scope (compEnvC scope cl L X.env) fp) t' (gT X.K t) := fun hT s H L cl fp =>
    pg_ok (X := X.blk s H scope (compEnvC scope cl L X.env) fp) C.hN (C.blk s H L cl fp).hs C.nd C.calm rfl hT
  refine ⟨?_, fun {i y} hi hl hsw => ?_⟩
  · refine (pe_lc2 (own := vs.map fun i => (N.getD i "", i)) (vs1 := vs1) C.calm (by rw [C.hN]; exact C.nd) hI ok hv' (hg hT) (fun s H L cl fp => hN1 _ rfl rfl rfl rfl rfl (C.blk s H L cl fp)) (fun s H L cl fp => hI1 _ rfl rfl rfl rfl rfl (C.blk s H L cl fp)) (hg hT1) (fun s H L cl fp => hN1 _ rfl rfl rfl rfl rfl (C.blk s H L cl fp)) (fun s H L cl fp => hE _ rfl rfl rfl rfl rfl (C.blk s H L cl fp)) (set_ok hset) (fun _ => set_ok hset1)).weak fun σ H Q h => ?_
    rw [own_snd]
    exact lc2_use hz hz1 hsl' hsl1' h
  · have q := ps_setLc2 (i := i) (y := y) (py := py) (pos := pos) (spos := spos) (own := vs.map fun i => (N.getD i "", i)) (vs1 := vs1) C.calm (by rw [C.hN]; exact C.nd) (by rw [C.hN]; exact hi) (by rw [C.hs]; exact hl) hsw hI ok hv' (hg hT) (fun s H L cl fp => hN1 _ rfl rfl rfl rfl rfl (C.blk s H L cl fp)) (fun s H L cl fp => hI1 _ rfl rfl rfl rfl rfl (C.blk s H L cl fp)) (hg hT1) (fun s H L cl fp => hN1 _ rfl rfl rfl rfl rfl (C.blk s H L cl fp)) (fun s H L cl fp => hE _ rfl rfl rfl rfl rfl (C.blk s H L cl fp)) (set_ok hset) (fun _ => set_ok hset1)
    rw [own_snd] at q
    exact ⟨fun pins s σ H D I h => q.run pins s σ H D I (lc2_use hz hz1 hsl' hsl1' h)⟩
end
end Mf
set_option Elab.async false
set_option linter.all false
set_option maxRecDepth 100000
set_option maxHeartbeats 1000000
namespace Mf
open PySem L2
/-! ### sorted(set(l)) -/
theorem keys_dK : ∀ {ds : List D} {ks : List Key}, keysD ds = some ks → ds = ks.map dK
  | [], ks, h => by cases h; rfl
  | d :: ds, ks, h => by
    unfold keysD at h
    split at h
    · rename_i k ks' h1 h2
      cases h
      rw [List.map_cons, ← keys_dK h2]
      congr 1
      cases d <;> cases h1 <;> rfl
    · cases h
theorem reps_keys {K : PySem.W.Frag} {F : Hp} : ∀ {ks : List Key} {vs : List V}, Reps K F vs (ks.map dK) → vs = ks.map kV
  | [], _, .nil => rfl
  | k :: ks, _, .cons h r => by
    rw [List.map_cons, ← reps_keys r]
    congr 1
    cases k <;> cases h <;> rfl
theorem rep_keys {K : PySem.W.Frag} {F : Hp} : ∀ ks : List Key, Reps K F (ks.map kV) (ks.map dK)
  | [] => .nil
  | k :: ks => .cons (by cases k <;> constructor) (rep_keys ks)
theorem mem_ded {k : Key} : ∀ {ks : List Key}, k ∈ dedK ks ↔ k ∈ ks
  | [] => Iff.rfl
  | x :: ks => by
    unfold dedK
    split
    · rename_i h
      rw [mem_ded, List.mem_cons]
      refine ⟨.inr, fun z => z.elim (fun e => ?_) id⟩
      obtain ⟨y, hy, e'⟩ := List.any_eq_true.mp h
      have := of_decide_eq_true e'
      subst this e
      exact hy
    · rw [List.mem_cons, mem_ded, List.mem_cons]
theorem nd_ded : ∀ ks : List Key, (dedK ks).Nodup
  | [] => .nil
  | x :: ks => by
    unfold dedK
    split
    · exact nd_ded ks
    · rename_i h
      refine List.nodup_cons.mpr ⟨fun z => h ?_, nd_ded ks⟩
      exact List.any_eq_true.mpr ⟨x, mem_ded.mp z, decide_eq_true rfl⟩
theorem py_dK (k : Key) : (dK k).py = encK k := by cases k <;> rfl
theorem leK_anti {a b : Key} (h : a.isLeft = b.isLeft) (h1 : PySem.W.dataLe false encK a b = true) (h2 : PySem.W.dataLe false encK b a = true) : a = b := by
  cases a with
  | inl i => cases b with
    | inl j =>
      have e := fun x y => congrFun (congrFun (PySem.W.dataLe_int (fun k : Int => k)) x) y
      have q1 : PySem.W.dataLe false (fun k : Int => PyData.int k) i j = true := h1
      have q2 : PySem.W.dataLe false (fun k : Int => PyData.int k) j i = true := h2
      rw [e] at q1 q2
      have := of_decide_eq_true q1
      have := of_decide_eq_true q2
      rw [show i = j by omega]
    | inr y => cases h
  | inr x => cases b with
    | inl j => cases h
    | inr y =>
      have e := fun x y => congrFun (congrFun (PySem.W.dataLe_str (fun k : Str => k)) x) y
      have q1 : PySem.W.dataLe false (fun k : Str => PyData.str k) x y = true := h1
      have q2 : PySem.W.dataLe false (fun k : Str => PyData.str k) y x = true := h2
      rw [e] at q1 q2
      have a1 := of_decide_eq_true q1
      have a2 := of_decide_eq_true q2
      have : x.cps.toList = y.cps.toList := List.le_antisymm a1 a2
      have : x.cps = y.cps := by rw [← Array.toArray_toList (xs := x.cps), this, Array.toArray_toList]
      cases x; cases y
      cases this
      rfl
/-- the answer is the only one -/
theorem sset_one {ks bs : List Key} {b : Bool} (hb : ∀ k ∈ ks, k.isLeft = b) (nd : bs.Nodup) (hm : ∀ k, k ∈ bs ↔ k ∈ ks) (hs : bs.Pairwise (fun x y => PySem.W.dataLe false encK x y = true)) : bs.map dK = sortD ((dedK ks).map dK) := by
  rw [sortD_eq]
  have e0 : leD = fun x y => PySem.W.dataLe false D.py x y := rfl
  have pm : (bs.map dK).Perm (((dedK ks).map dK).mergeSort leD) := by
    refine ((List.perm_ext_iff_of_nodup nd (nd_ded ks)).mpr fun k => ?_).map dK |>.trans (List.mergeSort_perm _ _).symm
    rw [hm, mem_ded]
  have leq : ∀ x y : Key, leD (dK x) (dK y) = PySem.W.dataLe false encK x y := fun x y => by
    show PySem.W.dataLe false D.py (dK x) (dK y) = _
    show (!PySem.W.dataLt (dK y).py (dK x).py) = !PySem.W.dataLt (encK y) (encK x)
    rw [py_dK, py_dK]
  refine List.Perm.eq_of_pairwise (le := fun x y => leD x y = true) (fun a c ha hc h1 h2 => ?_) ?_ ?_ pm
  · obtain ⟨x, hx, rfl⟩ := List.mem_map.mp ha
    have hc' := (List.mergeSort_perm _ _).mem_iff.mp hc
    obtain ⟨y, hy, rfl⟩ := List.mem_map.mp hc'
    rw [leq] at h1 h2
    rw [leK_anti (by rw [hb x ((hm x).mp hx), hb y (mem_ded.mp hy)]) h1 h2]
  · refine List.pairwise_map.mpr (hs.imp fun {x y} h => ?_)
    rw [leq]; exact h
  · exact List.pairwise_mergeSort (le := leD) (fun a b c h1 h2 => leD_total.trans a b c h1 h2) (fun a b => by
      rw [Bool.or_eq_true]; exact leD_total.total a b) _
def tSset (K : PySem.W.Frag) (ta : TE) : TE := fun σ H Q => ta σ H fun x H1 => ∃ (l : Addr) (ks : List Key) (b : Bool), x = .ref l ∧ SqL K H1 l (ks.map kV) ∧ (∀ k ∈ ks, k.isLeft = b) ∧ ks.length ≤ 1000 ∧
  ∀ (p : Addr) (bs : List Key), H1 p = none → bs.Nodup → (∀ k, k ∈ bs ↔ k ∈ ks) → bs.Pairwise (fun x y => PySem.W.dataLe false encK x y = true) → Q (.ref p) (upd H1 p (.lst (bs.map kV)))
section
variable {X : Cx}
theorem pe_sset {a : Expr} {ta : TE} {p p2 q pos : Pos} (hc : X.calm = true) (hu : X.A.units + 65 < cLine) (hg : Gl X "sorted") (hm : X.mg "sorted" = none) (hg2 : Gl X "set") (hm2 : X.mg "set" = none) (ha : PE X a ta)
    (na : starEach [a] X.env = (false, eval a X.env) :: starEach [] X.env) : PE X (.Call (.Name "sorted" p) [.Call (.Name "set" p2) [a] [] q] [] pos) (tSset X.K ta) := by
  refine ⟨fun pins s σ H Q I h => PyProof.Rows.Call_ (ld_blt I hg hm PyProof.Rows.boot_sorted ?_)⟩
  refine PyProof.Rows.callWith_builtin1 (PyProof.Rows.args_cons ?_ rfl) rfl rfl
  refine PyProof.Rows.Call_ (ld_blt I hg2 hm2 PyProof.Rows.boot_set (PyProof.Rows.callWith_type1 (PyProof.Rows.args_cons (thn (ha.run pins s σ H _ I h) fun v s1 ⟨x, H1, I1, r1, q1⟩ => PyProof.Rows.args_nil ?_) na) na rfl))
  obtain ⟨l, ks, b, rfl, hq, hb, hl, q1⟩ := q1
  cases r1
  obtain ⟨its, r, pl, hz⟩ := I1.list hq
  refine setM_call ks (I1.ok.hd hc) pl.isList (by simpa using r) (by unfold scanBound; omega) fun h' tk c hS hcl hk => PyProof.Rows.args_nil ?_
  have I2 : Inv X pins σ H1 { s1 with heap := h', toks := tk } := I1.kept fun b o e => hk b o e
  have hd2 := I1.ok.hd hc
  have hS : SetM X.w ({ s1 with heap := h', toks := tk } : Shared).heap s1.heap.objs.size (memK ks) c := hS
  generalize ({ s1 with heap := h', toks := tk } : Shared) = s2 at I2 hS ⊢
  refine setM_sorted hS hd2 (fun k hk => hb k (memK_iff.mp hk)) (by omega) hu fun s' p out c bs k1 g1 o1 hp hgt vals nd mem srt => ?_
  have hn : H1 p = none := I2.hok.fresh hp
  have hlen : (bs.map kV).length ≤ sizeLine := by
    have h2 : bs.length ≤ ks.length := by
      have sub : bs ⊆ ks := fun k hk => memK_iff.mp ((mem k).mp hk)
      exact List.Nodup.length_le_of_subset nd sub
    have e : sizeLine = 16777216 := by decide
    rw [List.length_map]
    omega
  have J : Inv X pins σ (upd H1 p (.lst (bs.map kV))) { s2 with heap := s'.heap, gens := s'.gens, drawn := s'.drawn, toks := s'.toks } :=
    I2.call (ch := []) (Un.laid k1 hp hn) (I2.hok.laid k1 hp ⟨hlen, out, c, vals, hgt⟩) (by rw [g1]; exact I2.bare) (fun _ z => nomatch z)
  have e : s' = { s2 with heap := s'.heap, gens := s'.gens, drawn := s'.drawn, toks := s'.toks } := by
    cases s'; cases s2; cases o1; rfl
  rw [e]
  exact ⟨.ref p, _, J, rfl, q1 p bs hn nd (fun k => by rw [mem k, memK_iff]) srt⟩
end
section
variable {X : Cx} {Y : Sys} {W : WX} {n : Nat} {N : List Str} {sc : Scope} {a : CE Y.S} {a' : Expr} {p p2 q pos : Pos}
theorem se_sset (C : Cxt X W n N sc) (hg : glB sc "sorted" = true) (hg2 : glB sc "set" = true) (hs : notStar a' = true) (ha : PE X a' (tE X.K X.mg W a)) : PE X (.Call (.Name "sorted" p) [.Call (.Name "set" p2) [a'] [] q] [] pos) (tE X.K X.mg W (.sset a)) := by
  refine (pe_sset C.calm (hr65 C.room) (C.gl hg) (C.blt _ (by decide +kernel)) (C.gl hg2) (C.blt _ (by decide +kernel)) ha (star_cons hs _ _)).weak fun σ H Q h => ?_
  obtain ⟨c, H0, ρ, rfl, ok, rel, p⟩ := h
  have p : Post X.mg W σ c (JE X.K c) Q ((ev a ρ c.s).bind fun x s => liftO s (ssetD x.2)) := p
  refine tR.bind ok rel p fun x c1 xa ea t1 ok1 rel1 j1 p1 => ?_
  obtain ⟨k, d, e, q⟩ := (p1.shiftE t1 ok1).lift
  obtain ⟨k1, a1⟩ := xa
  unfold ssetD at e
  split at e
  · rename_i ds heq
    have heq : a1 = .lst ds := heq
    subst heq
    split at e
    · rename_i ks hk
      split at e
      · rename_i hc
        cases e
        simp only [Bool.and_eq_true, Bool.or_eq_true, decide_eq_true_eq, List.all_eq_true, beq_iff_eq] at hc
        have hb : ∃ b, ∀ k ∈ ks, k.isLeft = b := hc.2.elim (fun z => ⟨true, z⟩) (fun z => ⟨false, z⟩)
        obtain ⟨b, hb⟩ := hb
        have hx : Is X.K c.H c1 k1 x (.lst ds) := j1
        obtain ⟨pp, vs, rfl, h1, r⟩ := hx.lst ok1
        rw [keys_dK hk] at r
        have ev := reps_keys r
        subst ev
        refine ⟨pp, ks, b, rfl, .inl (.inl h1), hb, hc.1, fun p' bs hp nd hm hs => ?_⟩
        have e2 := sset_one hb nd hm hs
        rw [← e2] at q
        exact q.lst ok1 (rep_keys bs) p' hp
      · cases e
    · cases e
  · cases e
end
end Mf
set_option Elab.async false
set_option linter.all false
set_option maxRecDepth 100000
set_option maxHeartbeats 4000000
namespace Mf
open PySem L2

/-- an expression, as a value, as a test, as part of and | or -/
structure SE (X : Cx) {Y : Sys} (W : WX) (e : CE Y.S) (x : Expr) : Prop where
  pe : PE X x (tE X.K X.mg W e)
  pt : tstOk x = true → PT X x (tT X.K X.mg W e)
  pw : isBO x = true → PW X x (tT X.K X.mg W e)
section
variable {X : Cx} {Y : Sys} {W : WX} {n : Nat} {N : List Str} {sc : Scope}
theorem zip_cons {it : CI Y.S} {x tg' : Expr} {tg : Tg} {fns : Str → Bool} {sc' : Scope} (h : chkI N sc it x tg' = true) (hT : chkT N sc' fns tg tg' = true) : zipI it = true → consT tg = true := fun z => by
  cases it <;> first | cases z | skip
  unfold chkI at h
  split at h
  · simp only [Bool.and_eq_true] at h
    have ht := h.1.1.2
    cases tg' <;> first | cases ht | skip
    cases tg with
    | cons _ _ => rfl
    | _ => unfold chkT chkTs at hT; cases hT
  · cases h
theorem SE.plain {e : CE Y.S} {x : Expr} (h : PE X x (tE X.K X.mg W e)) (hb : isBO x = false) (ht : tstOk x = true → tstP x = true) : SE X W e x :=
  ⟨h, fun z => (pt_val h (test_ok (ht z))).weak fun σ H Q q => tT_tE q, fun z => by rw [hb] at z; cases z⟩
abbrev Pn (X : Cx) (Y : Sys) (n : Nat) : Str → Nat → Sem Y.S → Prop := fun x m g => Has X.prog X.w X.K X.mg X.base Y n x m g
theorem pts_noIf {Y : Sys} (X' : Cx) (K : PySem.W.Frag) (mg : Str → Option Value) : PTs X' [] (tTs (Y := Y) K mg W0 .nil) := by
  refine ⟨fun pins s σ H Q I q => pts_nil.run pins s σ H Q I ?_⟩
  obtain ⟨c, H0, ρ, rfl, ok, rel, p⟩ := q
  have p : Post mg W0 σ c (JB c) Q (.ok true c.s) := p
  exact p.fin ok rfl
mutual
theorem sound {X : Cx} {W : WX} {sc : Scope} (C : Cxt X W n N sc) : ∀ (e : CE Y.S) (x : Expr), chkE N sc e x = true → needE (Pn X Y n) (Glb X.K X.mg) e → SE X W e x
  | .var i, x, h, _ => by
    cases x <;> first | cases h | skip
    have h := Bool.and_eq_true_iff.mp h
    exact .plain (se_var C h.1 h.2) rfl fun z => z
  | .con d, x, h, _ => by
    cases x <;> first | cases h | skip
    exact .plain (se_con h) rfl fun z => z
  | .glb y d, x, h, g => by
    cases x <;> first | cases h | skip
    have h := Bool.and_eq_true_iff.mp h
    have e := beq_iff_eq.mp h.1
    subst e
    exact .plain (se_glb C h.2 g) rfl fun z => z
  | .tup es, x, h, g => by
    cases x <;> first | cases h | skip
    exact .plain (se_tup (soundA C es _ h g)) rfl fun z => z
  | .lst es, x, h, g => by
    cases x <;> first | cases h | skip
    exact .plain (se_lst (soundA C es _ h g)) rfl fun z => z
  | .bin o a b, x, h, g => by
    cases x <;> first | cases h | skip
    unfold chkE at h
    simp only [Bool.and_eq_true] at h
    rw [opEq_ok h.1.1]
    exact .plain (se_bin (sound C a _ h.1.2 g.1).pe (sound C b _ h.2 g.2).pe) rfl fun z => z
  | .neg a, x, h, g => by
    cases x <;> first | cases h | skip
    rename_i op _ _
    cases op <;> first | cases h | skip
    exact .plain (se_neg (sound C a _ h g).pe) rfl fun z => z
  | .not a, x, h, g => by
    cases x <;> first | cases h | skip
    rename_i op _ _
    cases op <;> first | cases h | skip
    unfold chkE at h
    simp only [Bool.and_eq_true] at h
    have s := sound C a _ h.1 g
    exact ⟨se_notE s.pe, fun _ => se_notT (s.pt h.2), fun z => nomatch z⟩
  | .cmp o a b, x, h, g => by
    unfold chkE at h
    split at h
    · rename_i a' o' b' pos
      simp only [Bool.and_eq_true] at h
      obtain ⟨⟨⟨h1, h2⟩, h3⟩, h4⟩ := h
      rw [cmpEq_ok h1]
      have s := se_cmpE (o := o) (pos := pos) C h2 (sound C a _ h3 g.1).pe (sound C b _ h4 g.2).pe
      exact ⟨s.1, fun _ => s.2, fun z => nomatch z⟩
    · cases h
  | .chn o p a b c, x, h, g => by
    unfold chkE at h
    split at h
    · rename_i a' o' p' b' c' pos
      simp only [Bool.and_eq_true] at h
      obtain ⟨⟨⟨⟨⟨h1, h2⟩, h3⟩, h4⟩, h5⟩, h6⟩ := h
      rw [cmpEq_ok h1, cmpEq_ok h2]
      have s := se_chn (o := o) (o2 := p) (pos := pos) C h3 (sound C a _ h4 g.1).pe (sound C b _ h5 g.2.1).pe (sound C c _ h6 g.2.2).pe
      exact ⟨s.1, fun _ => s.2, fun z => nomatch z⟩
    · cases h
  | .and a b, x, h, g => by
    unfold chkE at h
    split at h
    · rename_i a' b' r pos
      simp only [Bool.and_eq_true] at h
      obtain ⟨⟨h1, h2⟩, h3⟩ := h
      have s1 := sound C a _ h2 g.1
      have s2 := sound C b _ h3 g.2
      have w := se_andT (s1.pt h1) (s2.pw rfl)
      exact ⟨se_andE s1.pe s2.pe, fun _ => w.pt, fun _ => w⟩
    · cases h
  | .or a b, x, h, g => by
    unfold chkE at h
    split at h
    · rename_i a' b' r pos
      simp only [Bool.and_eq_true] at h
      obtain ⟨⟨h1, h2⟩, h3⟩ := h
      have s1 := sound C a _ h2 g.1
      have s2 := sound C b _ h3 g.2
      have w := se_orT (s1.pt h1) (s2.pw rfl)
      exact ⟨se_orE s1.pe s2.pe, fun _ => w.pt, fun _ => w⟩
    · cases h
  | .one a, x, h, g => by
    unfold chkE at h
    split at h
    · rename_i op a' pos
      simp only [Bool.and_eq_true] at h
      have s := sound C a _ h.2 g
      have w : PW X (.BoolOp op [a'] pos) (tT X.K X.mg W a) := by
        cases op with
        | And => exact pw_and1 (s.pt h.1)
        | Or => exact pw_or1 (s.pt h.1)
      have w2 : PW X (.BoolOp op [a'] pos) (tT X.K X.mg W (.one a)) := w.weak fun σ H Q q => q
      exact ⟨(pe_one s.pe).weak fun σ H Q q => q, fun _ => w2.pt, fun _ => w2⟩
    · cases h
  | .ife t a b, x, h, g => by
    unfold chkE at h
    split at h
    · rename_i t' a' b' pos
      simp only [Bool.and_eq_true] at h
      obtain ⟨⟨⟨h1, h2⟩, h3⟩, h4⟩ := h
      exact .plain (se_ife ((sound C t _ h2 g.1).pt h1) (sound C a _ h3 g.2.1).pe (sound C b _ h4 g.2.2).pe) rfl fun z => z
    · cases h
  | .ix a i, x, h, g => by
    unfold chkE at h
    split at h
    · rename_i a' i' pos
      simp only [Bool.and_eq_true] at h
      obtain ⟨⟨h1, h2⟩, h3⟩ := h
      exact .plain (se_ix C h1 (sound C a _ h2 g.1).pe (sound C i _ h3 g.2).pe) rfl fun z => z
    · cases h
  | .slL a lo, x, h, g => by
    unfold chkE at h
    split at h
    · simp only [Bool.and_eq_true] at h
      exact .plain (se_slL (sound C a _ h.1 g.1).pe (sound C lo _ h.2 g.2).pe) rfl fun z => z
    · cases h
  | .slH a hi, x, h, g => by
    unfold chkE at h
    split at h
    · simp only [Bool.and_eq_true] at h
      exact .plain (se_slH (sound C a _ h.1 g.1).pe (sound C hi _ h.2 g.2).pe) rfl fun z => z
    · cases h
  | .slB a lo hi, x, h, g => by
    unfold chkE at h
    split at h
    · simp only [Bool.and_eq_true] at h
      exact .plain (se_slB (sound C a _ h.1.1 g.1).pe (sound C lo _ h.1.2 g.2.1).pe (sound C hi _ h.2 g.2.2).pe) rfl fun z => z
    · cases h
  | .call y m gg es, x, h, g => by
    unfold chkE at h
    split at h
    · simp only [Bool.and_eq_true] at h
      obtain ⟨⟨h1, h2⟩, h3⟩ := h
      have e := beq_iff_eq.mp h1
      subst e
      exact .plain (se_call C h2 g.1 h3 (soundA C es _ h3 g.2)) rfl fun z => z
    · cases h
  | .b1 f e, x, h, g => by
    unfold chkE at h
    split at h
    · simp only [Bool.and_eq_true] at h
      obtain ⟨⟨⟨h1, h2⟩, h3⟩, h4⟩ := h
      have e := beq_iff_eq.mp h1
      subst e
      exact .plain (se_b1 C h2 h3 (sound C _ _ h4 g).pe) rfl fun z => z
    · cases h
  | .m1 f a b, x, h, g => by
    unfold chkE at h
    split at h
    · simp only [Bool.and_eq_true] at h
      obtain ⟨⟨⟨⟨⟨h1, h2⟩, h3⟩, h4⟩, h5⟩, h6⟩ := h
      have e1 := beq_iff_eq.mp h1
      subst e1
      exact .plain (se_m1 C h2 h3 h4 (sound C _ _ h5 g.1).pe (sound C _ _ h6 g.2).pe) rfl fun z => z
    · cases h
  | .isi e t, x, h, g => by
    unfold chkE at h
    split at h
    · simp only [Bool.and_eq_true] at h
      obtain ⟨⟨⟨⟨⟨h1, h2⟩, h3⟩, h4⟩, h5⟩, h6⟩ := h
      have e1 := beq_iff_eq.mp h1
      have e2 := beq_iff_eq.mp h3
      subst e1 e2
      exact .plain (se_isi (p3 := ⟨0, 0, 0, 0⟩) C h2 h4 h5 (sound C _ _ h6 g).pe) rfl fun z => z
    · cases h
  | .lc it tg ifs elt vs, x, h, g => by
    unfold chkE at h
    split at h
    · rename_i elt' tg' iter' ifs' scope pos
      simp only [Bool.and_eq_true] at h
      obtain ⟨⟨⟨⟨⟨⟨h1, h2⟩, h3⟩, h4⟩, h5⟩, h6⟩, h7⟩ := h
      refine .plain (se_lc (py := ⟨0, 0, 0, 0⟩) (spos := ⟨0, 0, 0, 0⟩) C (zip_cons h1 h5) (soundI C false it _ _ h1 g.1) h2 h3 h4 h5 (fun X' a1 a2 a3 a4 a5 C' => ?_) (fun X' a1 a2 a3 a4 a5 C' => ?_)).1 rfl fun z => z
      · have q := soundC C' ifs _ h6 (by unfold Pn; rw [a1, a2, a3, a4, a5]; exact g.2.1)
        rw [a3, a4] at q
        exact q
      · have q := (sound C' elt _ h7 (by unfold Pn; rw [a1, a2, a3, a4, a5]; exact g.2.2)).pe
        rw [a3, a4] at q
        exact q
    · cases h
  | .sset e, x, h, g => by
    unfold chkE at h
    split at h
    · rename_i y p1 z p2 e' p3 p4
      simp only [Bool.and_eq_true] at h
      obtain ⟨⟨⟨⟨⟨h1, h2⟩, h3⟩, h4⟩, h5⟩, h6⟩ := h
      have e1 := beq_iff_eq.mp h1
      have e2 := beq_iff_eq.mp h3
      subst e1 e2
      exact .plain (se_sset C h2 h4 h5 (sound C _ _ h6 g).pe) rfl fun z => z
    · cases h
  | .lc2 it tg it1 tg1 elt vs vs1, x, h, g => by
    unfold chkE at h
    split at h
    · rename_i elt' tg' iter' tg1' iter1' scope pos
      simp only [Bool.and_eq_true] at h
      obtain ⟨⟨⟨⟨⟨h1, h2⟩, h3⟩, h4⟩, h5⟩, ⟨⟨⟨⟨⟨k1, k2⟩, k3⟩, k4⟩, k5⟩, k6⟩⟩ := h
      refine .plain (se_lc2 (py := ⟨0, 0, 0, 0⟩) (spos := ⟨0, 0, 0, 0⟩) C (zip_cons h1 h5) (zip_cons k1 k4) (soundI C false it _ _ h1 g.1) h2 k2 h3 h4 k3 k5 h5 k4 (fun X' a1 a2 a3 a4 a5 C' => ?_) (fun X' a1 a2 a3 a4 a5 C' => ?_) (fun X' a1 a2 a3 a4 a5 C' => ?_)).1 rfl fun z => z
      · exact pts_noIf X' X.K X.mg
      · have q := soundI C' true it1 _ _ k1 (by unfold Pn; rw [a1, a2, a3, a4, a5]; exact g.2.1)
        rw [a3, a4] at q
        exact q
      · have q := (sound C' elt _ k6 (by unfold Pn; rw [a1, a2, a3, a4, a5]; exact g.2.2)).pe
        rw [a3, a4] at q
        exact q
    · cases h
theorem soundA {X : Cx} {W : WX} {sc : Scope} (C : Cxt X W n N sc) : ∀ (es : CA Y.S) (xs : List Expr), chkA N sc es xs = true → needA (Pn X Y n) (Glb X.K X.mg) es → PA X xs (tA X.K X.mg W es)
  | .nil, xs, h, _ => by
    cases xs <;> first | cases h | skip
    exact sa_nil
  | .cons e es, xs, h, g => by
    cases xs <;> first | cases h | skip
    unfold chkA at h
    simp only [Bool.and_eq_true] at h
    exact sa_cons h.1.1 (sound C e _ h.1.2 g.1).pe (soundA C es _ h.2 g.2)
theorem soundC {X : Cx} {W : WX} {sc : Scope} (C : Cxt X W n N sc) : ∀ (es : CA Y.S) (xs : List Expr), chkC N sc es xs = true → needA (Pn X Y n) (Glb X.K X.mg) es → PTs X xs (tTs X.K X.mg W es)
  | .nil, xs, h, _ => by
    cases xs with
    | nil =>
      refine ⟨fun pins s σ H Q I q => pts_nil.run pins s σ H Q I ?_⟩
      obtain ⟨c, H0, ρ, rfl, ok, rel, p⟩ := q
      have p : Post X.mg W σ c (JB c) Q (.ok true c.s) := p
      exact p.fin ok rfl
    | cons _ _ => unfold chkC at h; cases h
  | .cons e es, xs, h, g => by
    unfold chkC at h
    split at h
    · cases ‹CA.cons e es = _›
    · rename_i e1 x1 he
      cases he
      simp only [Bool.and_eq_true] at h
      have s := (sound C e _ h.2 g.1).pt h.1
      exact ⟨fun pins s' σ H Q I q => (pts_one s).run pins s' σ H Q I q⟩
    · cases h
theorem soundI {X : Cx} {W : WX} {sc : Scope} (C : Cxt X W n N sc) (st : Bool) : ∀ (it : CI Y.S) (x tg : Expr), chkI N sc it x tg = true → needI (Pn X Y n) (Glb X.K X.mg) it → PI X tg x (tI X.K X.mg W st it)
  | .seq e, x, tg, h, g => si_seq (sound C e x h g).pe
  | .rng e, x, tg, h, g => by
    unfold chkI at h
    split at h
    · simp only [Bool.and_eq_true] at h
      obtain ⟨⟨⟨h1, h2⟩, h3⟩, h4⟩ := h
      have e := beq_iff_eq.mp h1
      subst e
      exact si_rng C h2 h3 (sound C _ _ h4 g).pe
    · cases h
  | .zip a b, x, tg, h, g => by
    unfold chkI at h
    split at h
    · simp only [Bool.and_eq_true] at h
      obtain ⟨⟨⟨⟨⟨⟨h1, h2⟩, h3⟩, h4⟩, h5⟩, h6⟩, h7⟩ := h
      have e := beq_iff_eq.mp h1
      subst e
      exact si_zip C h2 h3 h4 h5 (sound C _ _ h6 g.1).pe (sound C _ _ h7 g.2).pe
    · cases h
end
end
end Mf
set_option Elab.async false
set_option linter.all false
set_option maxRecDepth 100000
set_option maxHeartbeats 1000000
namespace Mf
open PySem L2

/-! ### statements -/
mutual
inductive CS (S : Type) : Type where
  | asg (own : Bool) (i : Nat) (e : CE S)
  | asgT (tg : Tg) (e : CE S) | asgU (tg : Tg) (e : CE S)
  | par (oi oj : Bool) (i j : Nat) (a b : CE S)
  | ret (e : CE S) | retN | expr (e : CE S) | never
  | ife (t : CE S) (a b : CSs S)
  | forr (tg : Tg) (it : CI S) (body : CSs S)
  | whl (t : CE S) (body : CSs S) (fuel : List SV → S → Nat)
  | app (i : Nat) (e : CE S) | ext (i : Nat) (e : CE S) | rem (i : Nat) (e : CE S) | seti (i : Nat) (k e : CE S)
  | frz (i : Nat) (c : CS S)
inductive CSs (S : Type) : Type where
  | nil | cons (c : CS S) (cs : CSs S)
end
inductive Out (S : Type) where
  | nx (ρ : List SV) (s : S) | rt (d : D) (s : S) | ex (x : Str) (s : S) | er
def Res.ob {S α : Type} : Res S α → (α → S → Out S) → Out S
  | .ok a s, f => f a s
  | .ex x s, _ => .ex x s
  | .er, _ => .er
def Out.sq {S : Type} : Out S → (List SV → S → Out S) → Out S
  | .nx ρ s, f => f ρ s
  | o, _ => o
/-- into a slot: owned or plain -/
def stow : Bool → K3 × D → Option SV
  | true, (.t, d) => some (.ow d)
  | false, (.v, d) => some (.va d)
  | false, (.t, d) => some (.va d)
  | _, _ => none
def put (ρ : List SV) (i : Nat) (x : SV) : Option (List SV) := if i < ρ.length then some (ρ.set i x) else none
def onO {S α : Type} (o : Option α) (f : α → Out S) : Out S := match o with | some a => f a | none => .er
def forR {S : Type} (f : D → List SV → S → Out S) : List D → List SV → S → Out S
  | [], ρ, s => .nx ρ s
  | d :: ds, ρ, s => (f d ρ s).sq (forR f ds)
def whlR {S : Type} (t : List SV → S → Res S Bool) (b : List SV → S → Out S) : Nat → List SV → S → Out S
  | 0, _, _ => .er
  | n + 1, ρ, s => (t ρ s).ob fun k s1 => if k then (b ρ s1).sq (whlR t b n) else .nx ρ s1
def ownL (ρ : List SV) (i : Nat) : Option (List D) := match ρ[i]? with | some (.ow (.lst ds)) => some ds | _ => none
/-- into an owned thing -/
def setD : SV → D → D → Option SV
  | .ow (.lst ds), .int k, v => (ixN ds.length k).map fun j => .ow (.lst (ds.set j v))
  | .ow (.dct es), .str k, v => if lenOk (es.length + 1) then some (.ow (.dct (putD es k v))) else none
  | _, _, _ => none
def isOw : Option SV → Bool
  | some (.ow _) => true
  | _ => false
mutual
def run {S : Type} : CS S → List SV → S → Out S
  | .asg own i e, ρ, s => (ev e ρ s).ob fun x s => onO (stow own x) fun v => onO (put ρ i v) fun ρ' => .nx ρ' s
  | .asgT tg e, ρ, s => (ev e ρ s).ob fun x s => (dat x s).ob fun d s => onO (asgT tg d ρ) fun ρ' => .nx ρ' s
  | .asgU tg e, ρ, s => (ev e ρ s).ob fun x s => match x.2 with | .lst ds => onO (asgL tg ds ρ) fun ρ' => .nx ρ' s | _ => .er
  | .par oi oj i j a b, ρ, s => (ev a ρ s).ob fun x s => onO (stow oi x) fun u => (ev b ρ s).ob fun y s => onO (stow oj y) fun v => onO (put ρ i u) fun ρ1 => onO (put ρ1 j v) fun ρ2 => .nx ρ2 s
  | .ret e, ρ, s => (ev e ρ s).ob fun x s => (dat x s).ob fun d s => .rt d s
  | .retN, _, s => .rt .non s
  | .expr e, ρ, s => (ev e ρ s).ob fun _ s => .nx ρ s
  | .never, _, _ => .er
  | .ife t a b, ρ, s => ((ev t ρ s).bind tru).ob fun k s => if k then runs a ρ s else runs b ρ s
  | .forr tg it body, ρ, s => (evI true it ρ s).ob fun ds s => forR (fun d ρ s => onO (asgT tg d ρ) fun ρ' => runs body ρ' s) ds ρ s
  | .whl t body fuel, ρ, s => whlR (fun ρ s => (ev t ρ s).bind tru) (runs body) (fuel ρ s) ρ s
  | .app i e, ρ, s => onO (ownL ρ i) fun ds => (ev e ρ s).ob fun x s => (dat x s).ob fun d s => if lenOk (ds.length + 1) then .nx (ρ.set i (.ow (.lst (ds ++ [d])))) s else .er
  | .ext i e, ρ, s => onO (ownL ρ i) fun ds => (ev e ρ s).ob fun x s => match x.2 with | .lst es => if lenOk (ds.length + es.length) then .nx (ρ.set i (.ow (.lst (ds ++ es)))) s else .er | _ => .er
  | .rem i e, ρ, s => onO (ownL ρ i) fun ds => (ev e ρ s).ob fun x s => if x.2.sh 60 && shs 59 ds then onO (ds.findIdx? fun z => deq z x.2) fun j => .nx (ρ.set i (.ow (.lst (ds.eraseIdx j)))) s else .er
  | .seti i k e, ρ, s => (ev e ρ s).ob fun x s => (dat x s).ob fun d s => if isOw ρ[i]? then (ev k ρ s).ob fun y s => onO ((ρ[i]?).bind fun o => setD o y.2 d) fun o => .nx (ρ.set i o) s else .er
  | .frz i c, ρ, s => match ρ[i]? with | some (.ow d) => run c (ρ.set i (.va d)) s | _ => run c ρ s
def runs {S : Type} : CSs S → List SV → S → Out S
  | .nil, ρ, s => .nx ρ s
  | .cons c cs, ρ, s => (run c ρ s).sq (runs cs)
end
/-- a def -/
def fnR {S : Type} (n : Nat) (body : CSs S) : Sem S := fun ds s => match runs body (ds.map SV.va ++ List.replicate (n - ds.length) .no) s with
  | .nx _ s => .ok .non s
  | .rt d s => .ok d s
  | .ex x s => .ex x s
  | .er => .er

/-! ### the checker -/
def swB (sc : Scope) (y : Str) (py : Pos) (e : Expr) : Bool := match e with
  | .ListComp _ _ scope pos => decide (sc.names.lookup y = some .local) && (py.line == pos.line) && !(scope.names.any fun (n, k) => n == y && (k == .local || k == .cell))
  | _ => false
def locB (sc : Scope) (x : Str) : Bool := match sc.names.lookup x with | some .local => true | some .cell => true | _ => false
def isLc : Expr → Bool
  | .ListComp _ _ _ _ => true
  | _ => false
def noSC : Expr → Bool
  | .SetComp _ _ _ _ => false
  | .DictComp _ _ _ _ _ => false
  | _ => true
def isTup : Expr → Bool
  | .Tuple _ _ _ => true
  | _ => false
/-- a, b = e: the pair is made and taken apart -/
def noSwap (sc : Scope) (ts : List Expr) : Expr → Bool
  | .Tuple vs _ _ => vs.all (foldedForSure 8) || ts.any fun | .Name x _ => !(decide (sc.names.lookup x = some .local)) | _ => true
  | _ => true
def swapB (sc : Scope) (x y : Str) (px py : Pos) (a b : Expr) : Bool :=
  decide (sc.names.lookup x = some .local) && decide (sc.names.lookup y = some .local) && (py.line == px.line) && !(x == y) && notStar a && notStar b && !([a, b].all (foldedForSure 8)) && !([a, b].all (constantsAlone 8))
mutual
def chkS {S : Type} (N : List Str) (sc : Scope) : CS S → Stmt → Bool
  | .asg _ i e, st => match st with
    | .Assign [.Name x px] e' _ => (N[i]? == some x) && locB sc x && noSC e' && chkE N sc e e' && (!(isLc e') || swB sc x px e' || !(decide (sc.names.lookup x = some .local)))
    | _ => false
  | .asgT tg e, st => match st with
    | .Assign [.Tuple ts k p] e' _ => chkT N sc (fun _ => true) tg (.Tuple ts k p) && noSC e' && notComp e' && noSwap sc ts e' && chkE N sc e e'
    | _ => false
  | .asgU tg e, st => match st with
    | .Assign [.Tuple ts k p] e' _ => chkT N sc (fun _ => true) tg (.Tuple ts k p) && noSC e' && notComp e' && noSwap sc ts e' && chkE N sc e e'
    | _ => false
  | .par _ _ i j a b, st => match st with
    | .Assign [.Tuple [.Name x px, .Name y py] _ _] (.Tuple [a', b'] _ _) _ => (N[i]? == some x) && (N[j]? == some y) && swapB sc x y px py a' b' && chkE N sc a a' && chkE N sc b b'
    | _ => false
  | .ret e, st => match st with
    | .Return (some e') _ => chkE N sc e e'
    | _ => false
  | .retN, st => match st with
    | .Return none _ => true
    | _ => false
  | .expr e, st => match st with
    | .Expr e' _ => notComp e' && chkE N sc e e'
    | _ => false
  | .never, _ => true
  | .ife t a b, st => match st with
    | .If t' a' b' _ => tstOk t' && chkE N sc t t' && chkSs N sc a a' && chkSs N sc b b'
    | _ => false
  | .forr tg it body, st => match st with
    | .For tg' it' body' [] _ => chkT N sc (fun _ => true) tg tg' && notSet it' && chkI N sc it it' tg' && chkSs N sc body body'
    | _ => false
  | .whl t body _, st => match st with
    | .While t' body' [] _ => tstOk t' && chkE N sc t t' && chkSs N sc body body'
    | _ => false
  | .app i e, st => match st with
    | .Expr (.Call (.Attribute (.Name x p) m apos) [e'] [] cpos) _ => (N[i]? == some x) && visB sc x && (m == ("append" : Str)) && notStar e' && (apos.endLine == cpos.line) && chkE N sc e e'
    | _ => false
  | .ext i e, st => match st with
    | .Expr (.Call (.Attribute (.Name x p) m apos) [e'] [] cpos) _ => (N[i]? == some x) && visB sc x && (m == ("extend" : Str)) && notStar e' && (apos.endLine == cpos.line) && chkE N sc e e'
    | _ => false
  | .rem i e, st => match st with
    | .Expr (.Call (.Attribute (.Name x p) m apos) [e'] [] cpos) _ => (N[i]? == some x) && visB sc x && (m == ("remove" : Str)) && notStar e' && (apos.endLine == cpos.line) && chkE N sc e e'
    | _ => false
  | .seti i k e, st => match st with
    | .Assign [.Subscript (.Name x _) k' _] e' _ => (N[i]? == some x) && visB sc x && notSlice k' && notComp e' && chkE N sc k k' && chkE N sc e e'
    | _ => false
  | .frz _ c, st => chkS N sc c st
def chkSs {S : Type} (N : List Str) (sc : Scope) : CSs S → List Stmt → Bool
  | .nil, l => match l with
    | [] => true
    | _ => false
  | .cons c cs, l => match l with
    | st :: sts => chkS N sc c st && chkSs N sc cs sts
    | _ => false
end
mutual
def needS {S : Type} (P : Str → Nat → Sem S → Prop) (G : Str → D → Prop) : CS S → Prop
  | .asg _ _ e => needE P G e
  | .asgT _ e => needE P G e
  | .asgU _ e => needE P G e
  | .par _ _ _ _ a b => needE P G a ∧ needE P G b
  | .ret e => needE P G e
  | .retN => True
  | .expr e => needE P G e
  | .never => True
  | .ife t a b => needE P G t ∧ needSs P G a ∧ needSs P G b
  | .forr _ it b => needI P G it ∧ needSs P G b
  | .whl t b _ => needE P G t ∧ needSs P G b
  | .app _ e => needE P G e
  | .ext _ e => needE P G e
  | .rem _ e => needE P G e
  | .seti _ k e => needE P G k ∧ needE P G e
  | .frz _ c => needS P G c
def needSs {S : Type} (P : Str → Nat → Sem S → Prop) (G : Str → D → Prop) : CSs S → Prop
  | .nil => True
  | .cons c cs => needS P G c ∧ needSs P G cs
end
/-! ### readings -/
section
variable {Y : Sys} (K : PySem.W.Frag) (mg : Str → Option Value) (E : XK)
abbrev WofE : WX := fun cls d _ H => E cls d H
def PostS (c0 : Cf Y) (F0 : Hp) (D : Ends) : Out Y.S → Prop
  | .nx ρ' s' => ∀ σ' (c' : Cf Y), c'.s = s' → Step c0 c' → Sub F0 c'.F → Ok c' → Rel K c0.H c' σ' ρ' → D.nx σ' c'.H
  | .rt d s' => ∀ v (c' : Cf Y), c'.s = s' → Step c0 c' → Ok c' → Rep K c'.F v d → D.rt v c'.H
  | .ex x s' => ∀ C (c' : Cf Y), mg x = some (.ref C) → c'.s = s' → Step c0 c' → Ok c' → E (.ref C) none c'.H
  | .er => False
def tS (r : List SV → Y.S → Out Y.S) : TS := fun D σ H => ∃ (c0 : Cf Y) (F0 : Hp) (c : Cf Y) (ρ : List SV), c.H = H ∧ Step c0 c ∧ Sub F0 c.F ∧ Ok c ∧ Rel K c0.H c σ ρ ∧ PostS K mg E c0 F0 D (r ρ c.s)
end
theorem _root_.L2.PS.weak {X : Cx} {e : Stmt} {t t' : TS} (h : PS X e t) (k : ∀ D σ H, t' D σ H → t D σ H) : PS X e t' := ⟨fun pins s σ H D I q => h.run pins s σ H D I (k D σ H q)⟩
theorem _root_.L2.PSs.weak {X : Cx} {e : List Stmt} {t t' : TS} (h : PSs X e t) (k : ∀ D σ H, t' D σ H → t D σ H) : PSs X e t' := ⟨fun pins s σ H D I q => h.run pins s σ H D I (k D σ H q)⟩
structure SCxt (X : Cx) (E : XK) (n : Nat) (N : List Str) (sc : Scope) : Prop extends Cxt X (WofE E) n N sc where
  po : PassesOwn (model X.prog X.w) X.A X.env X.xe
  fn : X.fn = fun _ => true
  kd : sc.kind = .function
section
variable {Y : Sys} {K : PySem.W.Frag} {mg : Str → Option Value} {E : XK} {α β : Type} {σ : L2.St} {c0 c : Cf Y} {F0 : Hp} {ρ : List SV} {D : Ends}
/-- an expression ahead of the rest of a statement -/
theorem tR.ob {J : Cf Y → β → Cf Y → α → Prop} {f : List SV → Y.S → Res Y.S α} {R : α → Y.S → Out Y.S} {Qa : β → Hp → Prop}
    (t0 : Step c0 c) (ok : Ok c) (rel : Rel K c0.H c σ ρ) (h : PostS K mg E c0 F0 D ((f ρ c.s).ob R))
    (k : ∀ b (c' : Cf Y) a, Step c c' → Ok c' → Rel K c0.H c' σ ρ → J c b c' a → PostS K mg E c0 F0 D (R a c'.s) → Qa b c'.H) : tR K mg (WofE E) J f σ c.H Qa := by
  refine ⟨c, c0.H, ρ, rfl, ok, rel, ?_⟩
  cases e : f ρ c.s with
  | ok a s' =>
    rw [e] at h
    intro b c' es t ok' j
    subst es
    exact k b c' a t ok' (rel.step t) j h
  | ex x s' =>
    rw [e] at h
    intro C c' e1 e2 t ok'
    exact h C c' e1 e2 (t0.trans ok t) ok'
  | er => rw [e] at h; exact h
theorem PostS.onO {γ : Type} {o : Option γ} {f : γ → Out Y.S} (h : PostS K mg E c0 F0 D (Mf.onO o f)) : ∃ a, o = some a ∧ PostS K mg E c0 F0 D (f a) := by
  cases o with
  | none => exact h.elim
  | some a => exact ⟨a, rfl, h⟩
theorem PostS.dat {x : K3 × Mf.D} {s : Y.S} {f : Mf.D → Y.S → Out Y.S} (h : PostS K mg E c0 F0 D ((Mf.dat x s).ob f)) : x.1 ≠ .o ∧ PostS K mg E c0 F0 D (f x.2 s) := by
  obtain ⟨k, d⟩ := x
  cases k with
  | v => exact ⟨fun z => (nomatch z), h⟩
  | t => exact ⟨fun z => (nomatch z), h⟩
  | o => exact h.elim
theorem Rel.setO {H0 : Hp} (r : Rel K H0 c σ ρ) {i : Nat} {p : Addr} {d : Mf.D} (o : Own K c p d) (h0 : H0 p = none) (hi : i < ρ.length) (hne : ∀ (m : Nat) (e : Mf.D), m ≠ i → ρ[m]? = some (SV.ow e) → σ[m]? ≠ some (some (V.ref p))) : Rel K H0 c (σ.set i (some (.ref p))) (ρ.set i (.ow d)) where
  len := by rw [List.length_set, List.length_set]; exact r.len
  va := fun j e hj => by
    by_cases q : i = j
    · subst q
      rw [List.getElem?_set_self hi] at hj
      cases hj
    · rw [List.getElem?_set_ne q] at hj
      obtain ⟨v', h1, h2⟩ := r.va j e hj
      exact ⟨v', by rw [List.getElem?_set_ne q]; exact h1, h2⟩
  ow := fun j e hj => by
    by_cases q : i = j
    · subst q
      rw [List.getElem?_set_self hi] at hj
      cases hj
      exact ⟨p, List.getElem?_set_self (by rw [← r.len]; exact hi), o, h0⟩
    · rw [List.getElem?_set_ne q] at hj
      obtain ⟨v', h1, h2⟩ := r.ow j e hj
      exact ⟨v', by rw [List.getElem?_set_ne q]; exact h1, h2⟩
  ap := fun j k e e' p' hjk hj hk hp => by
    by_cases q : i = j
    · subst q
      rw [List.getElem?_set_self (by rw [← r.len]; exact hi)] at hp
      cases hp
      have hjk' : k ≠ i := fun z => hjk z.symm
      rw [List.getElem?_set_ne hjk] at hk ⊢
      exact hne k e' hjk' hk
    · rw [List.getElem?_set_ne q] at hj hp
      by_cases q' : i = k
      · subst q'
        rw [List.getElem?_set_self (by rw [← r.len]; exact hi)]
        intro z
        cases z
        exact hne j e (fun z => q z.symm) hj hp
      · rw [List.getElem?_set_ne q'] at hk ⊢
        exact r.ap j k e e' p' hjk hj hk hp
/-- a value on its way into a slot: cs the state ahead of its making -/
def Hold (K : PySem.W.Frag) (cs c : Cf Y) : Bool → V → Mf.D → Prop
  | false, v, d => Rep K c.F v d
  | true, v, d => ∃ p, v = .ref p ∧ Own K c p d ∧ cs.H p = none
theorem Hold.step {cs c c1 : Cf Y} {own : Bool} {v : V} {d : Mf.D} (h : Hold K cs c own v d) (t : Step c c1) : Hold K cs c1 own v d := by
  cases own with
  | false => exact Rep.mono t.f h
  | true => obtain ⟨p, e, o, z⟩ := h; exact ⟨p, e, o.step t, z⟩
theorem hold_of {c1 : Cf Y} {own : Bool} {x : K3 × Mf.D} {v : V} {u : SV} (hs : stow own x = some u) (t1 : Step c c1) (ok1 : Ok c1) (j : Is K c.H c1 x.1 v x.2) :
    u = (if own = true then .ow x.2 else .va x.2) ∧ ∃ c2 : Cf Y, c2.s = c1.s ∧ c2.H = c1.H ∧ Step c c2 ∧ Ok c2 ∧ Hold K c c2 own v x.2 := by
  obtain ⟨k, d⟩ := x
  have j : Is K c.H c1 k v d := j
  cases own with
  | false =>
    have hk : k ≠ .o ∧ u = .va d := by
      cases k <;> cases hs
      · exact ⟨fun z => (nomatch z), rfl⟩
      · exact ⟨fun z => (nomatch z), rfl⟩
    obtain ⟨c2, e1, e2, t2, ok2, r⟩ := Is.data j hk.1 t1 ok1
    exact ⟨by rw [if_neg Bool.false_ne_true]; exact hk.2, c2, e1, e2, t2, ok2, r⟩
  | true =>
    have hk : k = .t ∧ u = .ow d := by
      cases k <;> cases hs
      exact ⟨rfl, rfl⟩
    obtain ⟨rfl, rfl⟩ := hk
    exact ⟨by rw [if_pos rfl], c1, rfl, rfl, t1, ok1, j⟩
theorem Rel.hold {H0 : Hp} {cs : Cf Y} {own : Bool} {i : Nat} {v : V} {d : Mf.D} {ρ' : List SV} (r : Rel K H0 c σ ρ) (h : Hold K cs c own v d) (ex : ∀ (m : Nat) (e : Mf.D) (q : Addr), ρ[m]? = some (SV.ow e) → σ[m]? = some (some (V.ref q)) → cs.H q ≠ none) (h0 : ∀ q, cs.H q = none → H0 q = none)
    (hp : put ρ i (if own = true then .ow d else .va d) = some ρ') : Rel K H0 c (σ.set i (some v)) ρ' := by
  unfold put at hp
  split at hp
  · rename_i hi
    cases hp
    cases own with
    | false => exact r.set h hi
    | true =>
      obtain ⟨p, rfl, o, z⟩ := h
      exact r.setO o (h0 p z) hi fun m e hm he hp => ex m e p he hp z
  · cases hp
theorem Rel.ex {H0 : Hp} (r : Rel K H0 c σ ρ) (m : Nat) (e : Mf.D) (q : Addr) (h : ρ[m]? = some (SV.ow e)) (hq : σ[m]? = some (some (V.ref q))) : c.H q ≠ none := by
  obtain ⟨p', e1, o', _⟩ := r.ow m e h
  rw [hq] at e1
  cases e1
  exact o'.obj
/-- an owned thing changes -/
theorem Rel.mut {H0 : Hp} (r : Rel K H0 c σ ρ) {i : Nat} {p : Addr} {d d' : Mf.D} {o : HO} (hi : ρ[i]? = some (.ow d)) (hσ : σ[i]? = some (some (.ref p))) (ho : Own K (⟨c.F, upd c.H p o, c.s⟩ : Cf Y) p d') : Rel K H0 (⟨c.F, upd c.H p o, c.s⟩ : Cf Y) σ (ρ.set i (.ow d')) where
  len := by rw [List.length_set]; exact r.len
  va := fun j e hj => by
    by_cases q : i = j
    · subst q
      rw [List.getElem?_set_self (List.getElem?_eq_some_iff.mp hi).1] at hj
      cases hj
    · rw [List.getElem?_set_ne q] at hj
      exact r.va j e hj
  ow := fun j e hj => by
    by_cases q : i = j
    · subst q
      rw [List.getElem?_set_self (List.getElem?_eq_some_iff.mp hi).1] at hj
      cases hj
      obtain ⟨p', e1, _, z⟩ := r.ow i d hi
      rw [hσ] at e1
      cases e1
      exact ⟨p, hσ, ho, z⟩
    · rw [List.getElem?_set_ne q] at hj
      obtain ⟨p', e1, o', z⟩ := r.ow j e hj
      refine ⟨p', e1, o'.other (fun z => ?_) o, z⟩
      subst z
      exact r.ap i j d e p' q hi hj hσ e1
  ap := fun j k e e' p' hjk hj hk hp => by
    have tr : ∀ {m : Nat} {e : Mf.D}, (ρ.set i (.ow d'))[m]? = some (SV.ow e) → ∃ e', ρ[m]? = some (SV.ow e') := fun {m e} h => by
      by_cases q : i = m
      · subst q
        exact ⟨d, hi⟩
      · rw [List.getElem?_set_ne q] at h
        exact ⟨e, h⟩
    obtain ⟨e1, h1⟩ := tr hj
    obtain ⟨e2, h2⟩ := tr hk
    exact r.ap j k e1 e2 p' hjk h1 h2 hp
/-- an owned thing is given up -/
theorem Rel.frz {H0 : Hp} (r : Rel K H0 c σ ρ) (ok : Ok c) (t0 : Step c0 c) (e0 : H0 = c0.H) {i : Nat} {d : Mf.D} (hi : ρ[i]? = some (.ow d)) : ∃ c2 : Cf Y, c2.s = c.s ∧ c2.H = c.H ∧ Step c0 c2 ∧ Ok c2 ∧ Sub c.F c2.F ∧ Rel K H0 c2 σ (ρ.set i (.va d)) := by
  obtain ⟨p, hσ, o, z⟩ := r.ow i d hi
  obtain ⟨ob, hp, ok2, rp, sb⟩ := o.frz ok
  have hl := (List.getElem?_eq_some_iff.mp hi).1
  refine ⟨⟨upd c.F p ob, c.H, c.s⟩, rfl, rfl, t0.frz o.2.1 (by rw [← e0]; exact z) ob, ok2, sb, ?_⟩
  exact {
    len := by rw [List.length_set]; exact r.len
    va := fun j e hj => by
      by_cases q : i = j
      · subst q
        rw [List.getElem?_set_self hl] at hj
        cases hj
        exact ⟨.ref p, hσ, rp⟩
      · rw [List.getElem?_set_ne q] at hj
        obtain ⟨v, h1, h2⟩ := r.va j e hj
        exact ⟨v, h1, h2.mono sb⟩
    ow := fun j e hj => by
      by_cases q : i = j
      · subst q
        rw [List.getElem?_set_self hl] at hj
        cases hj
      · rw [List.getElem?_set_ne q] at hj
        obtain ⟨p', h1, h2, h3⟩ := r.ow j e hj
        exact ⟨p', h1, h2.frzo (fun z => r.ap i j d e p q hi hj hσ (by rw [h1, z])) o.2.1, h3⟩
    ap := fun j k e e' p' hjk hj hk hp => by
      have tr : ∀ {m : Nat} {e : Mf.D}, (ρ.set i (.va d))[m]? = some (SV.ow e) → ρ[m]? = some (SV.ow e) := fun {m e} h => by
        by_cases q : i = m
        · subst q
          rw [List.getElem?_set_self hl] at h
          cases h
        · rw [List.getElem?_set_ne q] at h
          exact h
      exact r.ap j k e e' p' hjk (tr hj) (tr hk) hp }
end
end Mf
set_option Elab.async false
set_option linter.all false
set_option maxRecDepth 100000
set_option maxHeartbeats 2000000
namespace Mf
open PySem L2

section
variable {X : Cx} {Y : Sys} {E : XK} {n : Nat} {N : List Str} {sc : Scope} {pos : Pos} {a' b' e' t' : Expr} {a b e t : CE Y.S}
theorem ss_ret (he : PE X e' (tE X.K X.mg (WofE E) e)) : PS X (.Return (some e') pos) (tS (Y := Y) X.K X.mg E (run (.ret e))) := by
  refine (ps_ret he).weak fun D σ H h => ?_
  obtain ⟨c0, F0, c, ρ, rfl, t0, sb, ok, rel, p⟩ := h
  have p : PostS X.K X.mg E c0 F0 D ((ev e ρ c.s).ob fun x s => (dat x s).ob fun d s => .rt d s) := p
  refine tR.ob t0 ok rel p fun v c1 x t1 ok1 rel1 j1 p1 => ?_
  obtain ⟨hk, p1⟩ := p1.dat
  obtain ⟨c2, e1, e2, t2, ok2, r⟩ := Is.data j1 hk t1 ok1
  rw [← e2]
  exact p1 v c2 e1 (t0.trans ok t2) ok2 r
theorem ss_retN : PS X (.Return none pos) (tS (Y := Y) X.K X.mg E (run .retN)) := by
  refine ps_retN.weak fun D σ H h => ?_
  obtain ⟨c0, F0, c, ρ, rfl, t0, sb, ok, rel, p⟩ := h
  have p : PostS X.K X.mg E c0 F0 D (.rt .non c.s) := p
  exact p .non c rfl t0 ok .non
theorem swNone {line : Nat} {env : Env} (h : notComp e' = true) : swapsWith e' none line env = pure false := by
  cases e' <;> first | rfl | cases h
theorem ss_expr (hc : notComp e' = true) (he : PE X e' (tE X.K X.mg (WofE E) e)) : PS X (.Expr e' pos) (tS (Y := Y) X.K X.mg E (run (.expr e))) := by
  refine (ps_expr he (swNone hc)).weak fun D σ H h => ?_
  obtain ⟨c0, F0, c, ρ, rfl, t0, sb, ok, rel, p⟩ := h
  have p : PostS X.K X.mg E c0 F0 D ((ev e ρ c.s).ob fun _ s => .nx ρ s) := p
  refine tR.ob t0 ok rel p fun v c1 x t1 ok1 rel1 j1 p1 => ?_
  exact p1 σ c1 rfl (t0.trans ok t1) (sb.trans t1.f) ok1 rel1
theorem ss_never {st : Stmt} : PS X st (tS (Y := Y) X.K X.mg E (run .never)) := by
  refine ps_never.weak fun D σ H h => ?_
  obtain ⟨c0, F0, c, ρ, rfl, t0, sb, ok, rel, p⟩ := h
  exact p
theorem asg_use {own : Bool} {i : Nat} {D : Ends} {σ : L2.St} {H : Hp} (h : tS (Y := Y) X.K X.mg E (run (.asg own i e)) D σ H) : tAsg (tE X.K X.mg (WofE E) e) (gName i) D σ H := by
  obtain ⟨c0, F0, c, ρ, rfl, t0, sb, ok, rel, p⟩ := h
  have p : PostS X.K X.mg E c0 F0 D ((ev e ρ c.s).ob fun x s => onO (stow own x) fun v => onO (put ρ i v) fun ρ' => .nx ρ' s) := p
  refine tR.ob t0 ok rel p fun v c1 x t1 ok1 rel1 j1 p1 => ?_
  obtain ⟨u, hu, p1⟩ := p1.onO
  obtain ⟨ρ', hp, p1⟩ := p1.onO
  obtain ⟨eu, c2, e1, e2, t2, ok2, hd⟩ := hold_of hu t1 ok1 j1
  rw [eu] at hp
  rw [← e2]
  exact p1 _ c2 e1 (t0.trans ok t2) (sb.trans t2.f) ok2 ((rel.step t2).hold hd (fun m e q h1 h2 => rel.ex m e q h1 h2) (fun q z => t0.back ok z) hp)
theorem loc_ok {x : Str} (C : SCxt X E n N sc) (h : locB sc x = true) : L2.Loc X.env.scope x := by
  unfold locB at h
  unfold L2.Loc
  rw [C.hs]
  split at h
  · exact .inl (by assumption)
  · exact .inr (by assumption)
  · cases h
theorem sw_lc {elt : Expr} {gs : List Comprehension} {scope : Scope} {p1 py : Pos} {y : Str} {line : Nat} (C : SCxt X E n N sc) (h : swB sc y py (.ListComp elt gs scope p1) = true) : swapsWith (.ListComp elt gs scope p1) (some (.Name y py)) line X.env = pure true := by
  unfold swB at h
  simp only [Bool.and_eq_true, decide_eq_true_eq] at h
  exact sw_true (by rw [C.hs]; exact C.kd) (by rw [C.hs]; exact h.1.1) h.1.2 (by simpa using h.2)
theorem sw_no {y : Str} {py : Pos} {line : Nat} (C : SCxt X E n N sc) (h1 : noSC e' = true) (h2 : (!(isLc e') || !(decide (sc.names.lookup y = some .local))) = true) : swapsWith e' (some (.Name y py)) line X.env = pure false := by
  cases e' <;> first | rfl | cases h1 | skip
  have h2 : sc.names.lookup y ≠ some .local := by simpa [isLc] using h2
  have hk : X.env.kindOf y ≠ some .local := by
    unfold Env.kindOf
    rw [C.hs]
    exact h2
  have hk2 : (X.env.kindOf y == some .local) = false := beq_eq_false_iff_ne.mpr hk
  unfold swapsWith
  simp only [hk2, Bool.and_false, Bool.false_and]
theorem ss_asg {own : Bool} {i : Nat} {x : Str} {px : Pos} (C : SCxt X E n N sc) (hi : (N[i]? == some x) = true) (hl : locB sc x = true) (h1 : noSC e' = true) (h2 : (!(isLc e') || !(decide (sc.names.lookup x = some .local))) = true) (he : PE X e' (tE X.K X.mg (WofE E) e)) : PS X (.Assign [.Name x px] e' pos) (tS (Y := Y) X.K X.mg E (run (.asg own i e))) :=
  (ps_set (i := i) (by rw [C.hN]; exact C.nd) (by rw [C.hN]; exact beq_iff_eq.mp hi) (loc_ok C hl) he (sw_no C h1 h2) (.inl (by rw [C.fn]))).weak fun _ _ _ h => asg_use h
theorem filterMap_lt {α β : Type} {f : α → Option β} : ∀ {l : List α}, (∃ t ∈ l, f t = none) → (l.filterMap f).length < l.length
  | [], h => by obtain ⟨t, h, _⟩ := h; cases h
  | x :: l, h => by
    rw [List.filterMap_cons]
    cases e : f x with
    | none => exact Nat.lt_succ_of_le (List.length_filterMap_le f l)
    | some y =>
      obtain ⟨t, ht, hn⟩ := h
      rcases List.mem_cons.mp ht with z | z
      · rw [z, e] at hn; cases hn
      · exact Nat.succ_lt_succ (filterMap_lt ⟨t, z, hn⟩)
theorem noSwap_ok {ts : List Expr} {k : Nat} {p : Pos} (C : SCxt X E n N sc) (h : noSwap sc ts e' = true) : swappedStores [.Tuple ts k p] e' X.env = pure none := by
  cases e' <;> first | rfl | skip
  rename_i vs k2 p2
  have h := Bool.or_eq_true_iff.mp h
  unfold swappedStores
  dsimp only
  split
  · rfl
  split
  · rfl
  split
  · rfl
  rename_i h3
  rcases h with h | h
  · rw [if_pos h]
  · exfalso
    apply h3
    refine Bool.or_eq_true_iff.mpr (.inl ?_)
    rw [bne_iff_ne]
    intro hl
    obtain ⟨t, ht, hn⟩ := List.any_eq_true.mp h
    refine absurd hl (Nat.ne_of_lt (filterMap_lt ⟨t, ht, ?_⟩))
    cases t <;> first | rfl | skip
    rename_i x px
    have hk : X.env.kindOf x ≠ some .local := by
      unfold Env.kindOf
      rw [C.hs]
      simpa using hn
    have hk2 : (X.env.kindOf x == some .local) = false := beq_eq_false_iff_ne.mpr hk
    simp only [hk2, Bool.false_and, Bool.false_eq_true, if_false]
theorem ss_asgT {tg : Tg} {ts : List Expr} {k : Nat} {p : Pos} (C : SCxt X E n N sc) (hT : chkT N sc (fun _ => true) tg (.Tuple ts k p) = true) (h1 : notComp e' = true) (h2 : noSwap sc ts e' = true) (he : PE X e' (tE X.K X.mg (WofE E) e)) : PS X (.Assign [.Tuple ts k p] e' pos) (tS (Y := Y) X.K X.mg E (run (.asgT tg e))) := by
  have hs : swapsWithSole [.Tuple ts k p] e' pos.line X.env = pure false := by
    cases e' <;> first | rfl | cases h1
  have hw : swappedStores [.Tuple ts k p] e' X.env = pure none := noSwap_ok C h2
  refine (ps_asg he (pg_ok C.hN C.hs C.nd C.calm C.fn hT) hs hw rfl).weak fun D σ H h => ?_
  obtain ⟨c0, F0, c, ρ, rfl, t0, sb, ok, rel, p⟩ := h
  have p : PostS X.K X.mg E c0 F0 D ((ev e ρ c.s).ob fun x s => (dat x s).ob fun d s => onO (asgT tg d ρ) fun ρ' => .nx ρ' s) := p
  refine tR.ob t0 ok rel p fun v c1 x t1 ok1 rel1 j1 p1 => ?_
  obtain ⟨hk, p1⟩ := p1.dat
  obtain ⟨ρ', ha, p1⟩ := p1.onO
  obtain ⟨c2, e1, e2, t2, ok2, r⟩ := Is.data j1 hk t1 ok1
  rw [← e2]
  exact gT_use ok2 ha (rel.step t2) r fun σ' r' _ _ => p1 σ' c2 e1 (t0.trans ok t2) (sb.trans t2.f) ok2 r'
theorem ss_asgU {tg : Tg} {ts : List Expr} {k : Nat} {p : Pos} (C : SCxt X E n N sc) (hT : chkT N sc (fun _ => true) tg (.Tuple ts k p) = true) (h1 : notComp e' = true) (h2 : noSwap sc ts e' = true) (he : PE X e' (tE X.K X.mg (WofE E) e)) : PS X (.Assign [.Tuple ts k p] e' pos) (tS (Y := Y) X.K X.mg E (run (.asgU tg e))) := by
  have hs : swapsWithSole [.Tuple ts k p] e' pos.line X.env = pure false := by
    cases e' <;> first | rfl | cases h1
  have hw : swappedStores [.Tuple ts k p] e' X.env = pure none := noSwap_ok C h2
  unfold chkT at hT
  cases tg with
  | nm i => cases hT
  | nil => cases hT
  | cons t' r' =>
    unfold chkTs at hT
    simp only [Bool.and_eq_true] at hT
    obtain ⟨e1, e2⟩ := each_ok (env := X.env) hT.1
    have pg : PG X (.Tuple ts k p) (gUnl X.K (lenTg (.cons t' r')) (gL X.K (.cons t' r'))) := pg_unl C.calm (pgs_ok C.hN C.hs C.nd C.calm C.fn hT.1) e1 (by
      rw [List.findIdx?_eq_none_iff]
      exact fun p hp => by simpa using e2 p hp)
    refine (ps_asg he pg hs hw rfl).weak fun D σ H h => ?_
    obtain ⟨c0, F0, c, ρ, rfl, t0, sb, ok, rel, p⟩ := h
    have p : PostS X.K X.mg E c0 F0 D ((ev e ρ c.s).ob fun x s => match x.2 with | .lst ds => onO (asgL (.cons t' r') ds ρ) fun ρ' => .nx ρ' s | _ => .er) := p
    refine tR.ob t0 ok rel p fun v c1 x t1 ok1 rel1 j1 p1 => ?_
    obtain ⟨k1, d1⟩ := x
    dsimp only at p1
    split at p1
    · rename_i ds
      obtain ⟨ρ', ha, p1⟩ := p1.onO
      have j1 : Is X.K c.H c1 k1 v (.lst ds) := j1
      obtain ⟨pp, vs, rfl, hq, rs⟩ := j1.lst ok1
      exact ⟨pp, vs, rfl, .inl (.inl hq), by rw [rs.length]; exact asgL_len ha, gL_use ok1 ha rel1 rs fun σ' r' _ _ => p1 σ' c1 rfl (t0.trans ok t1) (sb.trans t1.f) ok1 r'⟩
    · exact p1.elim
theorem swap_ok {x y : Str} {px py pt p2 : Pos} {kt k2 : Nat} (C : SCxt X E n N sc) (h : swapB sc x y px py a' b' = true) : swappedStores [.Tuple [.Name x px, .Name y py] kt pt] (.Tuple [a', b'] k2 p2) X.env = pure (some [x, y]) := by
  unfold swapB at h
  simp only [Bool.and_eq_true, decide_eq_true_eq, Bool.not_eq_true'] at h
  obtain ⟨⟨⟨⟨⟨⟨⟨h1, h2⟩, h3⟩, h4⟩, h5⟩, h6⟩, h7⟩, h8⟩ := h
  have kx : X.env.kindOf x = some .local := by unfold Env.kindOf; rw [C.hs]; exact h1
  have ky : X.env.kindOf y = some .local := by unfold Env.kindOf; rw [C.hs]; exact h2
  have hb : X.env.blockKind = .function := by
    have : X.env.scope.kind = .function := by rw [C.hs]; exact C.kd
    unfold Env.blockKind
    rw [this]
    rfl
  have hst : ([a', b'].any fun | .Starred .. => true | _ => false) = false := by
    have s1 : ∀ {q : Expr}, notStar q = true → (match q with | .Starred .. => true | _ => false) = false := fun {q} hq => by cases q <;> first | rfl | cases hq
    simp only [List.any_cons, List.any_nil, s1 h5, s1 h6, Bool.or_false]
  have hne : (x == y) = false := h4
  have hxy : ([x, y] : List Str).eraseDups.length = 2 := by
    simp [List.eraseDups_cons, hne, bne, show (y == x) = false from by rw [beq_eq_false_iff_ne] at hne ⊢; exact fun z => hne z.symm]
  have hl : (py.line == px.line) = true := h3
  unfold swappedStores
  simp only [List.length_cons, List.length_nil, hb, kx, ky, hst, List.head?_cons, Option.map_some, Option.getD_some, Expr.pos, List.filterMap_cons, List.filterMap_nil, hl, h7, h8, hxy, beq_self_eq_true, Bool.and_self, Bool.and_true, if_true]
  refine Eq.trans (if_neg (by decide)) ?_
  refine Eq.trans (if_neg (by rw [Bool.not_eq_true]; exact hst)) ?_
  rfl
end
end Mf
set_option Elab.async false
set_option linter.all false
set_option maxRecDepth 100000
set_option maxHeartbeats 2000000
namespace Mf
open PySem L2

section
variable {X : Cx} {Y : Sys} {E : XK} {n : Nat} {N : List Str} {sc : Scope} {pos : Pos} {a' b' e' t' : Expr} {a b e t : CE Y.S}
theorem ss_par {oi oj : Bool} {i j : Nat} {x y : Str} {px py pt p2 : Pos} {kt k2 : Nat} (C : SCxt X E n N sc) (hi : (N[i]? == some x) = true) (hj : (N[j]? == some y) = true) (hsw : swapB sc x y px py a' b' = true)
    (ha : PE X a' (tE X.K X.mg (WofE E) a)) (hb : PE X b' (tE X.K X.mg (WofE E) b)) : PS X (.Assign [.Tuple [.Name x px, .Name y py] kt pt] (.Tuple [a', b'] k2 p2) pos) (tS (Y := Y) X.K X.mg E (run (.par oi oj i j a b))) := by
  have hi := beq_iff_eq.mp hi
  have hj := beq_iff_eq.mp hj
  have sw := hsw
  unfold swapB at hsw
  simp only [Bool.and_eq_true, decide_eq_true_eq, Bool.not_eq_true'] at hsw
  obtain ⟨⟨⟨⟨⟨⟨⟨h1, h2⟩, h3⟩, h4⟩, h5⟩, h6⟩, h7⟩, h8⟩ := hsw
  have hij : i ≠ j := fun z => by
    subst z
    rw [hi] at hj
    cases hj
    rw [beq_self_eq_true] at h4
    cases h4
  refine (ps_par (i := i) (j := j) C.calm (by rw [C.hN]; exact C.nd) (by rw [C.hN]; exact hi) (by rw [C.hN]; exact hj) hij (by rw [C.hs]; exact h1) (by rw [C.hs]; exact h2) (pa_cons ha (pa_cons hb pa_nil (star_cons h6 _ _)) (star_cons h5 _ _)) (swap_ok C sw)).weak fun D σ H h => ?_
  obtain ⟨c0, F0, c, ρ, rfl, t0, sb, ok, rel, p⟩ := h
  have p : PostS X.K X.mg E c0 F0 D ((ev a ρ c.s).ob fun x s => onO (stow oi x) fun u => (ev b ρ s).ob fun y s => onO (stow oj y) fun v => onO (put ρ i u) fun ρ1 => onO (put ρ1 j v) fun ρ2 => .nx ρ2 s) := p
  refine tR.ob t0 ok rel p fun v c1 x t1 ok1 rel1 j1 p1 => ?_
  obtain ⟨u, hu, p1⟩ := p1.onO
  obtain ⟨eu, c2, e1, e2, t2, ok2, hd⟩ := hold_of hu t1 ok1 j1
  rw [← e2]
  rw [← e1] at p1
  have rel2 := rel.step t2
  have t02 := t0.trans ok t2
  refine tR.ob t02 ok2 rel2 p1 fun w c3 y t3 ok3 rel3 j3 p3 => ?_
  obtain ⟨u', hu', p3⟩ := p3.onO
  obtain ⟨ρ1, hp1, p3⟩ := p3.onO
  obtain ⟨ρ2, hp2, p3⟩ := p3.onO
  obtain ⟨eu', c4, e3, e4, t4, ok4, hd'⟩ := hold_of hu' t3 ok3 j3
  rw [eu] at hp1
  rw [eu'] at hp2
  refine ⟨v, w, rfl, ?_⟩
  rw [← e4]
  have hd4 := hd.step t4
  have rA := (rel2.step t4).hold hd4 (fun m e q h1 h2 => rel.ex m e q h1 h2) (fun q z => t0.back ok z) hp1
  refine p3 _ c4 e3 (t02.trans ok2 t4) ((sb.trans t2.f).trans t4.f) ok4 (rA.hold hd' (fun m d q h1 h2 => ?_) (fun q z => t02.back ok2 z) hp2)
  -- every owned slot stood when the second value was made
  unfold put at hp1
  split at hp1
  · rename_i hil
    cases hp1
    by_cases hm : i = m
    · subst hm
      rw [List.getElem?_set_self hil] at h1
      rw [List.getElem?_set_self (by rw [← rel.len]; exact hil)] at h2
      cases oi with
      | false => cases h1
      | true =>
        obtain ⟨q', eq, o, _⟩ := hd
        subst eq
        cases h2
        exact o.obj
    · rw [List.getElem?_set_ne hm] at h1 h2
      exact t2.ne ok2 (rel.ex m d q h1 h2)
  · cases hp1
theorem ss_ife {A B : CSs Y.S} {as bs : List Stmt} (ht : PT X t' (tT X.K X.mg (WofE E) t)) (hA : PSs X as (tS X.K X.mg E (runs A))) (hB : PSs X bs (tS X.K X.mg E (runs B))) : PS X (.If t' as bs pos) (tS (Y := Y) X.K X.mg E (run (.ife t A B))) := by
  refine (ps_if ht hA hB).weak fun D σ H h => ?_
  obtain ⟨c0, F0, c, ρ, rfl, t0, sb, ok, rel, p⟩ := h
  have p : PostS X.K X.mg E c0 F0 D (((ev t ρ c.s).bind tru).ob fun k s => if k then runs A ρ s else runs B ρ s) := p
  refine tR.ob (f := fun ρ s => (ev t ρ s).bind tru) t0 ok rel p fun k c1 x t1 ok1 rel1 j1 p1 => ?_
  have j1 : k = x := j1
  subst j1
  cases k with
  | true => exact iteT ⟨c0, F0, c1, ρ, rfl, t0.trans ok t1, sb.trans t1.f, ok1, rel1, p1⟩
  | false => exact iteF ⟨c0, F0, c1, ρ, rfl, t0.trans ok t1, sb.trans t1.f, ok1, rel1, p1⟩
theorem ss_nil : PSs X [] (tS (Y := Y) X.K X.mg E (runs .nil)) := by
  refine pss_nil.weak fun D σ H h => ?_
  obtain ⟨c0, F0, c, ρ, rfl, t0, sb, ok, rel, p⟩ := h
  have p : PostS X.K X.mg E c0 F0 D (.nx ρ c.s) := p
  exact p σ c rfl t0 sb ok rel
theorem ss_cons {A : CS Y.S} {B : CSs Y.S} {st : Stmt} {sts : List Stmt} (hA : PS X st (tS X.K X.mg E (run A))) (hB : PSs X sts (tS X.K X.mg E (runs B))) : PSs X (st :: sts) (tS (Y := Y) X.K X.mg E (runs (.cons A B))) := by
  refine (pss_cons hA hB).weak fun D σ H h => ?_
  obtain ⟨c0, F0, c, ρ, rfl, t0, sb, ok, rel, p⟩ := h
  have p : PostS X.K X.mg E c0 F0 D ((run A ρ c.s).sq (runs B)) := p
  refine ⟨c0, F0, c, ρ, rfl, t0, sb, ok, rel, ?_⟩
  cases er : run A ρ c.s with
  | nx ρ' s' =>
    rw [er] at p
    intro σ' c' e1 t1 sb1 ok1 rel1
    subst e1
    exact ⟨c0, F0, c', ρ', rfl, t1, sb1, ok1, rel1, p⟩
  | rt d s' => rw [er] at p; exact p
  | ex x s' => rw [er] at p; exact p
  | er => rw [er] at p; exact p
theorem ss_for {tg : Tg} {it : CI Y.S} {body : CSs Y.S} {tg' it' : Expr} {body' : List Stmt} (C : SCxt X E n N sc) (hz : zipI it = true → consT tg = true) (hT : chkT N sc (fun _ => true) tg tg' = true) (hset : notSet it' = true) (hI : PI X tg' it' (tI X.K X.mg (WofE E) true it)) (hB : PSs X body' (tS X.K X.mg E (runs body))) :
    PS X (.For tg' it' body' [] pos) (tS (Y := Y) X.K X.mg E (run (.forr tg it body))) := by
  refine (ps_for C.po C.calm hI (pg_ok C.hN C.hs C.nd C.calm C.fn hT) hB (set_ok hset)).weak fun D σ H h => ?_
  obtain ⟨c0, F0, c, ρ, rfl, t0, sb, ok, rel, p⟩ := h
  have p : PostS X.K X.mg E c0 F0 D ((evI true it ρ c.s).ob fun ds s => forR (fun d ρ s => onO (asgT tg d ρ) fun ρ' => runs body ρ' s) ds ρ s) := p
  refine tR.ob t0 ok rel p fun J c1 ds t1 ok1 rel1 j1 p1 => ?_
  obtain ⟨G, gd, hG⟩ := j1
  have sb1 : Sub F0 c1.F := sb.trans t1.f
  refine ⟨fun i m σ H => m = ds.length - i ∧ i ≤ ds.length ∧ ∃ (cc : Cf Y) (ρ : List SV), cc.H = H ∧ Step c0 cc ∧ Ok cc ∧ Rel X.K c0.H cc σ ρ ∧ Sub c1.F cc.F ∧ PostS X.K X.mg E c0 F0 D (forR (fun d ρ s => onO (asgT tg d ρ) fun ρ' => runs body ρ' s) (ds.drop i) ρ cc.s),
    ⟨ds.length, rfl, Nat.zero_le _, c1, ρ, rfl, t0.trans ok t1, ok1, rel1, Sub.refl _, p1⟩, fun i m σ H hW => ?_⟩
  obtain ⟨rfl, hi, cc, ρ, rfl, tc, okc, relc, sbc, pc⟩ := hW
  have hG' := hG cc (by rw [if_pos rfl]; exact sbc)
  by_cases hlt : i < ds.length
  · have hd : ds[i]? = some ds[i] := List.getElem?_eq_getElem hlt
    have edrop : ds.drop i = ds[i] :: ds.drop (i + 1) := List.drop_eq_getElem_cons hlt
    rw [edrop] at pc
    obtain ⟨go, yl⟩ := (gd cc hG' okc i).2 _ hd
    refine .inr ⟨go, fun σ H => ds.length - (i + 1) = ds.length - (i + 1) ∧ i + 1 ≤ ds.length ∧ ∃ (cc : Cf Y) (ρ : List SV), cc.H = H ∧ Step c0 cc ∧ Ok cc ∧ Rel X.K c0.H cc σ ρ ∧ Sub c1.F cc.F ∧ PostS X.K X.mg E c0 F0 D (forR (fun d ρ s => onO (asgT tg d ρ) fun ρ' => runs body ρ' s) (ds.drop (i + 1)) ρ cc.s),
      fun σ' H' hN => ⟨ds.length - (i + 1), by omega, hN⟩, fun x H' hy => ?_⟩
    obtain ⟨c2, rfl, es2, t2, ok2, rx⟩ := yl x H' hy
    cases ea : asgT tg ds[i] ρ with
    | none =>
      have pc : PostS X.K X.mg E c0 F0 D ((onO (asgT tg ds[i] ρ) fun ρ' => runs body ρ' cc.s).sq (forR (fun d ρ s => onO (asgT tg d ρ) fun ρ' => runs body ρ' s) (ds.drop (i + 1)))) := pc
      rw [ea] at pc
      exact pc.elim
    | some ρ' =>
      have pc : PostS X.K X.mg E c0 F0 D ((onO (asgT tg ds[i] ρ) fun ρ' => runs body ρ' cc.s).sq (forR (fun d ρ s => onO (asgT tg d ρ) fun ρ' => runs body ρ' s) (ds.drop (i + 1)))) := pc
      rw [ea] at pc
      have pc : PostS X.K X.mg E c0 F0 D ((runs body ρ' cc.s).sq (forR (fun d ρ s => onO (asgT tg d ρ) fun ρ' => runs body ρ' s) (ds.drop (i + 1)))) := pc
      refine gT_any ok2 hz ea (relc.step t2) rx fun σ' rel' _ _ => ?_
      refine ⟨c0, c1.F, c2, ρ', rfl, tc.trans okc t2, sbc.trans t2.f, ok2, rel', ?_⟩
      rw [es2]
      cases er : runs body ρ' cc.s with
      | nx ρ2 s2 =>
        rw [er] at pc
        intro σ3 c3 e3 t3 sb3 ok3 rel3
        subst e3
        exact ⟨rfl, hlt, c3, ρ2, rfl, t3, ok3, rel3, sb3, pc⟩
      | rt d s2 => rw [er] at pc; exact pc
      | ex x s2 => rw [er] at pc; exact pc
      | er => rw [er] at pc; exact pc
  · have ei : i = ds.length := by omega
    subst ei
    rw [List.drop_length] at pc
    have pc : PostS X.K X.mg E c0 F0 D (.nx ρ cc.s) := pc
    exact .inl ⟨(gd cc hG' okc ds.length).1 (Nat.le_refl _), pc σ cc rfl tc (sb1.trans sbc) okc relc⟩
theorem ss_whl {body : CSs Y.S} {fuel : List SV → Y.S → Nat} {body' : List Stmt} (C : SCxt X E n N sc) (ht : PT X t' (tT X.K X.mg (WofE E) t)) (hB : PSs X body' (tS X.K X.mg E (runs body))) :
    PS X (.While t' body' [] pos) (tS (Y := Y) X.K X.mg E (run (.whl t body fuel))) := by
  refine (ps_while C.po ht hB).weak fun D σ H h => ?_
  obtain ⟨c0, F0, c, ρ, rfl, t0, sb, ok, rel, p⟩ := h
  have p : PostS X.K X.mg E c0 F0 D (whlR (fun ρ s => (ev t ρ s).bind tru) (runs body) (fuel ρ c.s) ρ c.s) := p
  refine ⟨fun m σ H => ∃ (cc : Cf Y) (ρ : List SV), cc.H = H ∧ Step c0 cc ∧ Ok cc ∧ Rel X.K c0.H cc σ ρ ∧ Sub F0 cc.F ∧ PostS X.K X.mg E c0 F0 D (whlR (fun ρ s => (ev t ρ s).bind tru) (runs body) m ρ cc.s), ⟨fuel ρ c.s, c, ρ, rfl, t0, ok, rel, sb, p⟩, fun m σ H hW => ?_⟩
  obtain ⟨cc, ρ, rfl, tc, okc, relc, sbc, pc⟩ := hW
  cases m with
  | zero => exact pc.elim
  | succ m =>
    have pc : PostS X.K X.mg E c0 F0 D (((ev t ρ cc.s).bind tru).ob fun k s1 => if k then (runs body ρ s1).sq (whlR (fun ρ s => (ev t ρ s).bind tru) (runs body) m) else .nx ρ s1) := pc
    refine tR.ob (f := fun ρ s => (ev t ρ s).bind tru) tc okc relc pc fun k c1 x t1 ok1 rel1 j1 p1 => ?_
    have j1 : k = x := j1
    subst j1
    cases k with
    | false => exact iteF (p1 σ c1 rfl (tc.trans okc t1) (sbc.trans t1.f) ok1 rel1)
    | true =>
      have p1 : PostS X.K X.mg E c0 F0 D ((runs body ρ c1.s).sq (whlR (fun ρ s => (ev t ρ s).bind tru) (runs body) m)) := p1
      refine iteT ⟨fun σ H => ∃ (cc : Cf Y) (ρ : List SV), cc.H = H ∧ Step c0 cc ∧ Ok cc ∧ Rel X.K c0.H cc σ ρ ∧ Sub F0 cc.F ∧ PostS X.K X.mg E c0 F0 D (whlR (fun ρ s => (ev t ρ s).bind tru) (runs body) m ρ cc.s), fun σ' H' hN => ⟨m, Nat.lt_succ_self m, hN⟩, ?_⟩
      refine ⟨c0, F0, c1, ρ, rfl, tc.trans okc t1, sbc.trans t1.f, ok1, rel1, ?_⟩
      cases er : runs body ρ c1.s with
      | nx ρ2 s2 =>
        rw [er] at p1
        intro σ3 c3 e3 t3 sb3 ok3 rel3
        subst e3
        exact ⟨c3, ρ2, rfl, t3, ok3, rel3, sb3, p1⟩
      | rt d s2 => rw [er] at p1; exact p1
      | ex x s2 => rw [er] at p1; exact p1
      | er => rw [er] at p1; exact p1
theorem ss_frz {i : Nat} {A : CS Y.S} {st : Stmt} (hA : PS X st (tS X.K X.mg E (run A))) : PS X st (tS (Y := Y) X.K X.mg E (run (.frz i A))) := by
  refine hA.weak fun D σ H h => ?_
  obtain ⟨c0, F0, c, ρ, rfl, t0, sb, ok, rel, p⟩ := h
  have p : PostS X.K X.mg E c0 F0 D (match ρ[i]? with | some (.ow d) => run A (ρ.set i (.va d)) c.s | _ => run A ρ c.s) := p
  split at p
  · rename_i d hd
    obtain ⟨c2, e1, e2, t2, ok2, sb2, rel2⟩ := rel.frz ok t0 rfl hd
    rw [← e1] at p
    exact ⟨c0, F0, c2, _, e2, t2, sb.trans sb2, ok2, rel2, p⟩
  · exact ⟨c0, F0, c, ρ, rfl, t0, sb, ok, rel, p⟩
theorem vis_ok {x : Str} (C : SCxt X E n N sc) (h : visB sc x = true) {i : Nat} {p : Pos} (hi : (N[i]? == some x) = true) : PE X (.Name x p) (tVar i) := by
  obtain ⟨v1, v2, v3⟩ := visB_ok h
  exact pe_var (by rw [C.hN]; exact beq_iff_eq.mp hi) (by rw [C.hs]; exact v1) v2 v3
theorem ss_app {i : Nat} {x : Str} {p apos cpos : Pos} (C : SCxt X E n N sc) (hi : (N[i]? == some x) = true) (hv : visB sc x = true) (hs : notStar e' = true) (hl : (apos.endLine == cpos.line) = true) (he : PE X e' (tE X.K X.mg (WofE E) e)) :
    PS X (.Expr (.Call (.Attribute (.Name x p) "append" apos) [e'] [] cpos) pos) (tS (Y := Y) X.K X.mg E (run (.app i e))) := by
  refine (ps_expr (pe_bm PySem.F.plainAttrs_list PySem.F.slot_list_append PySem.F.type_list_append mt_append (vis_ok C hv hi) (pa_cons he pa_nil (star_cons hs _ _)) rfl (few_ok hs) hl (star_cons hs _ _) rfl) rfl).weak fun D σ H h => ?_
  obtain ⟨c0, F0, c, ρ, rfl, t0, sb, ok, rel, p⟩ := h
  have p : PostS X.K X.mg E c0 F0 D (onO (ownL ρ i) fun ds => (ev e ρ c.s).ob fun x s => (dat x s).ob fun d s => if lenOk (ds.length + 1) then .nx (ρ.set i (.ow (.lst (ds ++ [d])))) s else .er) := p
  obtain ⟨ds, ho, p⟩ := p.onO
  have hρ : ρ[i]? = some (.ow (.lst ds)) := by
    unfold ownL at ho
    split at ho
    · cases ho; assumption
    · cases ho
  obtain ⟨q, hσ, o, z⟩ := rel.ow i _ hρ
  obtain ⟨vs, hq, rs⟩ := o.1
  refine ⟨.ref q, hσ, .inl ⟨rfl, vs, .inl (.inl hq)⟩, ?_⟩
  refine tR.ob t0 ok rel p fun v c1 x t1 ok1 rel1 j1 p1 => ?_
  obtain ⟨hk, p1⟩ := p1.dat
  obtain ⟨c2, e1, e2, t2, ok2, r⟩ := Is.data j1 hk t1 ok1
  have o2 := o.step t2
  split at p1
  · rename_i hlen
    have hq2 : c2.H q = some (.lst vs) := t2.h q _ hq o.2.2
    rw [← e2]
    refine ⟨q, vs, v, rfl, rfl, hq2, ?_, ?_⟩
    · rw [rs.length]
      have := of_decide_eq_true hlen
      have e : sizeLine = 16777216 := by decide
      omega
    · refine p1 σ ⟨c2.F, upd c2.H q (.lst (vs ++ [v])), c2.s⟩ e1 ((t0.trans ok t2).mut z _) (sb.trans t2.f) (ok2.mut o2.2.1 o2.2.2 _) ((rel.step t2).mut hρ hσ ?_)
      exact ⟨⟨_, upd_same, (rs.mono t2.f).append (.cons r .nil)⟩, o2.2.1, o2.2.2⟩
  · exact p1.elim
theorem ss_ext {i : Nat} {x : Str} {p apos cpos : Pos} (C : SCxt X E n N sc) (hi : (N[i]? == some x) = true) (hv : visB sc x = true) (hs : notStar e' = true) (hl : (apos.endLine == cpos.line) = true) (he : PE X e' (tE X.K X.mg (WofE E) e)) :
    PS X (.Expr (.Call (.Attribute (.Name x p) "extend" apos) [e'] [] cpos) pos) (tS (Y := Y) X.K X.mg E (run (.ext i e))) := by
  refine (ps_expr (pe_bm PySem.F.plainAttrs_list PySem.F.slot_list_extend PySem.F.type_list_extend mt_extend (vis_ok C hv hi) (pa_cons he pa_nil (star_cons hs _ _)) rfl (few_ok hs) hl (star_cons hs _ _) rfl) rfl).weak fun D σ H h => ?_
  obtain ⟨c0, F0, c, ρ, rfl, t0, sb, ok, rel, p⟩ := h
  have p : PostS X.K X.mg E c0 F0 D (onO (ownL ρ i) fun ds => (ev e ρ c.s).ob fun x s => match x.2 with | .lst es => if lenOk (ds.length + es.length) then .nx (ρ.set i (.ow (.lst (ds ++ es)))) s else .er | _ => .er) := p
  obtain ⟨ds, ho, p⟩ := p.onO
  have hρ : ρ[i]? = some (.ow (.lst ds)) := by
    unfold ownL at ho
    split at ho
    · cases ho; assumption
    · cases ho
  obtain ⟨q, hσ, o, z⟩ := rel.ow i _ hρ
  obtain ⟨vs, hq, rs⟩ := o.1
  refine ⟨.ref q, hσ, .inl ⟨rfl, vs, .inl (.inl hq)⟩, ?_⟩
  refine tR.ob t0 ok rel p fun v c1 x t1 ok1 rel1 j1 p1 => ?_
  obtain ⟨k, d⟩ := x
  have o2 := o.step t1
  cases d with
  | lst es =>
    have p1 : PostS X.K X.mg E c0 F0 D (if lenOk (ds.length + es.length) then .nx (ρ.set i (.ow (.lst (ds ++ es)))) c1.s else .er) := p1
    split at p1
    · rename_i hlen
      have hq2 : c1.H q = some (.lst vs) := t1.h q _ hq o.2.2
      obtain ⟨q2, vs2, rfl, hb, rb⟩ := Is.lst j1 ok1
      refine ⟨q, q2, vs, vs2, rfl, rfl, hq2, hb, ?_, ?_⟩
      · rw [rs.length, rb.length]
        exact szM hlen
      · refine p1 σ ⟨c1.F, upd c1.H q (.lst (vs ++ vs2)), c1.s⟩ rfl ((t0.trans ok t1).mut z _) (sb.trans t1.f) (ok1.mut o2.2.1 o2.2.2 _) ((rel.step t1).mut hρ hσ ?_)
        exact ⟨⟨_, upd_same, (rs.mono t1.f).append rb⟩, o2.2.1, o2.2.2⟩
    · exact p1.elim
  | _ => exact p1.elim
theorem findIdx_pys {e : D} (he : e.sh 60 = true) : ∀ (ds : List D), shs 59 ds = true → SeqAt.dataPlace (pys ds) e.py = ds.findIdx? fun y => deq y e
  | [], _ => rfl
  | d :: ds, h => by
    have h := Bool.and_eq_true_iff.mp h
    have ih := findIdx_pys he ds h.2
    unfold SeqAt.dataPlace at ih ⊢
    show (d.py :: pys ds).findIdx? _ = _
    rw [List.findIdx?_cons, List.findIdx?_cons, ih, py_eqv 59 60 d e h.1 he]
theorem ss_rem {i : Nat} {x : Str} {p apos cpos : Pos} (C : SCxt X E n N sc) (hi : (N[i]? == some x) = true) (hv : visB sc x = true) (hs : notStar e' = true) (hl : (apos.endLine == cpos.line) = true) (he : PE X e' (tE X.K X.mg (WofE E) e)) :
    PS X (.Expr (.Call (.Attribute (.Name x p) "remove" apos) [e'] [] cpos) pos) (tS (Y := Y) X.K X.mg E (run (.rem i e))) := by
  refine (ps_expr (pe_bm PySem.F.plainAttrs_list PySem.F.slot_list_remove PySem.F.type_list_remove (mt_removeD (hr65 C.room)) (vis_ok C hv hi) (pa_cons he pa_nil (star_cons hs _ _)) rfl (few_ok hs) hl (star_cons hs _ _) rfl) rfl).weak fun D σ H h => ?_
  obtain ⟨c0, F0, c, ρ, rfl, t0, sb, ok, rel, p⟩ := h
  have p : PostS X.K X.mg E c0 F0 D (onO (ownL ρ i) fun ds => (ev e ρ c.s).ob fun x s => if x.2.sh 60 && shs 59 ds then onO (ds.findIdx? fun z => deq z x.2) fun j => .nx (ρ.set i (.ow (.lst (ds.eraseIdx j)))) s else .er) := p
  obtain ⟨ds, ho, p⟩ := p.onO
  have hρ : ρ[i]? = some (.ow (.lst ds)) := by
    unfold ownL at ho
    split at ho
    · cases ho; assumption
    · cases ho
  obtain ⟨q, hσ, o, z⟩ := rel.ow i _ hρ
  obtain ⟨vs, hq, rs⟩ := o.1
  refine ⟨.ref q, hσ, .inl ⟨rfl, vs, .inl (.inl hq)⟩, ?_⟩
  refine tR.ob t0 ok rel p fun v c1 x t1 ok1 rel1 j1 p1 => ?_
  have o2 := o.step t1
  split at p1
  · rename_i hsh
    have hsh := Bool.and_eq_true_iff.mp hsh
    obtain ⟨j, hj, p1⟩ := p1.onO
    have hq2 : c1.H q = some (.lst vs) := t1.h q _ hq o.2.2
    refine ⟨q, vs, v, _, pys ds, j, rfl, rfl, hq2, pys_dp ok1.sub (rs.mono t1.f) hsh.2, Is.dp j1 ok1 hsh.1, shaped_lst hsh.2, shaped_of hsh.1, by rw [findIdx_pys hsh.1 ds hsh.2]; exact hj, ?_⟩
    refine p1 σ ⟨c1.F, upd c1.H q (.lst (vs.eraseIdx j)), c1.s⟩ rfl ((t0.trans ok t1).mut z _) (sb.trans t1.f) (ok1.mut o2.2.1 o2.2.2 _) ((rel.step t1).mut hρ hσ ?_)
    exact ⟨⟨_, upd_same, (rs.mono t1.f).erase j⟩, o2.2.1, o2.2.2⟩
  · exact p1.elim
def rSetX : TSet := fun o i v H Q => rSetL o i v H Q ∨ rSetD o i v H Q
theorem set_X (C : SCxt X E n N sc) : PSet X rSetX := by
  intro pins s σ H o i v ov iv u Q I ro ri rv h
  rcases h with h | h
  · exact set_list pins s σ H o i v ov iv u Q I ro ri rv h
  · exact set_dict (hu_of C.room) pins s σ H o i v ov iv u Q I ro ri rv h
theorem RepK.length {K : PySem.W.Frag} {F : Hp} : ∀ {kvs : List (Key × V)} {es : List (Str × Mf.D)}, RepK K F kvs es → kvs.length = es.length
  | _, _, .nil => rfl
  | _, _, .cons _ r => congrArg (· + 1) (RepK.length r)
theorem ss_seti {i : Nat} {x : Str} {p ps : Pos} {k : CE Y.S} {k' : Expr} (C : SCxt X E n N sc) (hi : (N[i]? == some x) = true) (hv : visB sc x = true) (hk' : notSlice k' = true) (hc : notComp e' = true) (hk : PE X k' (tE X.K X.mg (WofE E) k)) (he : PE X e' (tE X.K X.mg (WofE E) e)) :
    PS X (.Assign [.Subscript (.Name x p) k' ps] e' pos) (tS (Y := Y) X.K X.mg E (run (.seti i k e))) := by
  have hs : swapsWithSole [.Subscript (.Name x p) k' ps] e' pos.line X.env = pure false := by
    cases e' <;> first | rfl | cases hc
  have hw : swappedStores [.Subscript (.Name x p) k' ps] e' X.env = pure none := by
    cases e' <;> rfl
  have ha : ∀ v, assign (.Subscript (.Name x p) k' ps) X.env v = (do
      let ov ← holding [v] (eval (.Name x p) X.env)
      let iv ← holding [v, ov] (eval k' X.env)
      standAt ps
      holding [v, ov, iv] (setItem ov iv v)
      release [v, ov, iv] []) := by
    intro v
    cases k' <;> first | rfl | cases hk'
  refine (ps_asg he (pg_sub (vis_ok C hv hi) hk (set_X C) ha) hs hw rfl).weak fun D σ H h => ?_
  obtain ⟨c0, F0, c, ρ, rfl, t0, sb, ok, rel, p⟩ := h
  have p : PostS X.K X.mg E c0 F0 D ((ev e ρ c.s).ob fun x s => (dat x s).ob fun d s => if isOw ρ[i]? then (ev k ρ s).ob fun y s => onO ((ρ[i]?).bind fun o => setD o y.2 d) fun o => .nx (ρ.set i o) s else .er) := p
  refine tR.ob t0 ok rel p fun v c1 xd t1 ok1 rel1 j1 p1 => ?_
  obtain ⟨hkk, p1⟩ := p1.dat
  obtain ⟨c2, e1, e2, t2, ok2, r⟩ := Is.data j1 hkk t1 ok1
  rw [← e2]
  rw [← e1] at p1
  split at p1
  · rename_i hio
    have ho : ∃ d0, ρ[i]? = some (.ow d0) := by
      unfold isOw at hio
      split at hio
      · exact ⟨_, by assumption⟩
      · cases hio
    obtain ⟨d0, hρ⟩ := ho
    have rel2 := rel.step t2
    obtain ⟨q, hσ, o, z⟩ := rel2.ow i _ hρ
    refine ⟨.ref q, hσ, ?_⟩
    refine tR.ob (t0.trans ok t2) ok2 rel2 p1 fun y c3 xk t3 ok3 rel3 j3 p3 => ?_
    obtain ⟨o', hset, p3⟩ := p3.onO
    rw [hρ] at hset
    have hset : setD (.ow d0) xk.2 xd.2 = some o' := hset
    have o3 := o.step t3
    have t03 := (t0.trans ok t2).trans ok2 t3
    obtain ⟨kk, dk⟩ := xk
    obtain ⟨kx, dx⟩ := xd
    have hset : setD (.ow d0) dk dx = some o' := hset
    have r : Rep X.K c2.F v dx := r
    cases d0 with
    | lst ds =>
      cases dk with
      | int ki =>
        obtain ⟨j, hj, rfl⟩ := Option.map_eq_some_iff.mp hset
        obtain ⟨vs, hq, rs⟩ := o3.1
        refine .inl ⟨q, vs, ki, j, rfl, Is.int j3, hq, by rw [rs.length]; exact hj, ?_⟩
        refine p3 σ ⟨c3.F, upd c3.H q (.lst (vs.set j v)), c3.s⟩ rfl (t03.mut z _) ((sb.trans t2.f).trans t3.f) (ok3.mut o3.2.1 o3.2.2 _) (rel3.mut hρ hσ ?_)
        exact ⟨⟨_, upd_same, rs.set (r.mono t3.f) j⟩, o3.2.1, o3.2.2⟩
      | _ => cases hset
    | dct es =>
      cases dk with
      | str ks =>
        have hset : (if lenOk (es.length + 1) then some (SV.ow (.dct (putD es ks dx))) else none) = some o' := hset
        split at hset
        · rename_i hlen
          cases hset
          obtain ⟨kvs, hq, rs⟩ := o3.1
          have hL : kvs.length < sizeLine := by
            rw [RepK.length rs]
            exact szM hlen
          refine .inr ⟨q, _, rfl, by rw [Is.str j3]; exact DPut.k (k := .inr ks) hq hL, ?_⟩
          refine p3 σ ⟨c3.F, upd c3.H q (.dK (putK kvs (.inr ks) v)), c3.s⟩ rfl (t03.mut z _) ((sb.trans t2.f).trans t3.f) (ok3.mut o3.2.1 o3.2.2 _) (rel3.mut hρ hσ ?_)
          exact ⟨⟨_, upd_same, rs.put (r.mono t3.f)⟩, o3.2.1, o3.2.2⟩
        · cases hset
      | _ => cases hset
    | _ => exact o.1.elim
  · exact p1.elim
end
end Mf
set_option Elab.async false
set_option linter.all false
set_option maxRecDepth 100000
set_option maxHeartbeats 2000000
namespace Mf
open PySem L2

section
variable {Y : Sys} {n : Nat} {N : List Str} {sc : Scope} {E : XK}
mutual
theorem soundS {X : Cx} (C : SCxt X E n N sc) : ∀ (c : CS Y.S) (st : Stmt), chkS N sc c st = true → needS (Pn X Y n) (Glb X.K X.mg) c → PS X st (tS X.K X.mg E (run c))
  | .asg own i e, st, h, g => by
    unfold chkS at h
    split at h
    · rename_i x px e' pos
      simp only [Bool.and_eq_true] at h
      obtain ⟨⟨⟨⟨h1, h2⟩, h3⟩, h4⟩, h5⟩ := h
      by_cases hsw : swB sc x px e' = true
      · cases e' <;> first | cases hsw | skip
        rename_i elt' gs scope p1
        have hlx : sc.names.lookup x = some .local := by
          unfold swB at hsw
          simp only [Bool.and_eq_true, decide_eq_true_eq] at hsw
          exact hsw.1.1
        cases e with
        | lc it tg ifs elt vs =>
          unfold chkE at h4
          split at h4
          · rename_i elt2 tg2 iter2 ifs2 scope2 pos2 heq
            cases heq
            simp only [Bool.and_eq_true] at h4
            obtain ⟨⟨⟨⟨⟨⟨k1, k2⟩, k3⟩, k4⟩, k5⟩, k6⟩, k7⟩ := h4
            have q := (se_lc (py := px) (spos := pos) (pos := p1) (ifs := ifs) (elt := elt) C.toCxt (zip_cons k1 k5) (soundI C.toCxt false it _ _ k1 g.1) k2 k3 k4 k5 (fun X' a1 a2 a3 a4 a5 C' => ?_) (fun X' a1 a2 a3 a4 a5 C' => ?_)).2 (beq_iff_eq.mp h1) hlx (sw_lc C hsw)
            · exact q.weak fun _ _ _ z => asg_use z
            · have q := soundC C' ifs _ k6 (by unfold Pn; rw [a1, a2, a3, a4, a5]; exact g.2.1)
              rw [a3, a4] at q
              exact q
            · have q := (sound C' elt _ k7 (by unfold Pn; rw [a1, a2, a3, a4, a5]; exact g.2.2)).pe
              rw [a3, a4] at q
              exact q
          · cases h4
        | lc2 it tg it1 tg1 elt vs vs1 =>
          unfold chkE at h4
          split at h4
          · rename_i elt2 tg2 iter2 tg12 iter12 scope2 pos2 heq
            cases heq
            simp only [Bool.and_eq_true] at h4
            obtain ⟨⟨⟨⟨⟨k1, k2⟩, k3⟩, k4⟩, k5⟩, ⟨⟨⟨⟨⟨m1, m2⟩, m3⟩, m4⟩, m5⟩, m6⟩⟩ := h4
            have q := (se_lc2 (py := px) (spos := pos) (pos := p1) (elt := elt) C.toCxt (zip_cons k1 k5) (zip_cons m1 m4) (soundI C.toCxt false it _ _ k1 g.1) k2 m2 k3 k4 m3 m5 k5 m4 (fun X' a1 a2 a3 a4 a5 C' => ?_) (fun X' a1 a2 a3 a4 a5 C' => ?_) (fun X' a1 a2 a3 a4 a5 C' => ?_)).2 (beq_iff_eq.mp h1) hlx (sw_lc C hsw)
            · exact q.weak fun _ _ _ z => asg_use z
            · exact pts_noIf X' X.K X.mg
            · have q := soundI C' true it1 _ _ m1 (by unfold Pn; rw [a1, a2, a3, a4, a5]; exact g.2.1)
              rw [a3, a4] at q
              exact q
            · have q := (sound C' elt _ m6 (by unfold Pn; rw [a1, a2, a3, a4, a5]; exact g.2.2)).pe
              rw [a3, a4] at q
              exact q
          · cases h4
        | _ => unfold chkE at h4; cases h4
      · refine ss_asg C h1 h2 h3 ?_ (sound C.toCxt e _ h4 g).pe
        rw [Bool.not_eq_true] at hsw
        rw [hsw, Bool.or_false] at h5
        exact h5
    · cases h
  | .asgU tg e, st, h, g => by
    unfold chkS at h
    split at h
    · simp only [Bool.and_eq_true] at h
      obtain ⟨⟨⟨⟨h1, h2⟩, h3⟩, h4⟩, h5⟩ := h
      exact ss_asgU C h1 h3 h4 (sound C.toCxt e _ h5 g).pe
    · cases h
  | .asgT tg e, st, h, g => by
    unfold chkS at h
    split at h
    · simp only [Bool.and_eq_true] at h
      obtain ⟨⟨⟨⟨h1, h2⟩, h3⟩, h4⟩, h5⟩ := h
      exact ss_asgT C h1 h3 h4 (sound C.toCxt e _ h5 g).pe
    · cases h
  | .par oi oj i j a b, st, h, g => by
    unfold chkS at h
    split at h
    · simp only [Bool.and_eq_true] at h
      obtain ⟨⟨⟨⟨h1, h2⟩, h3⟩, h4⟩, h5⟩ := h
      exact ss_par C h1 h2 h3 (sound C.toCxt a _ h4 g.1).pe (sound C.toCxt b _ h5 g.2).pe
    · cases h
  | .ret e, st, h, g => by
    unfold chkS at h
    split at h
    · exact ss_ret (sound C.toCxt e _ h g).pe
    · cases h
  | .retN, st, h, g => by
    unfold chkS at h
    split at h
    · exact ss_retN
    · cases h
  | .expr e, st, h, g => by
    unfold chkS at h
    split at h
    · simp only [Bool.and_eq_true] at h
      exact ss_expr h.1 (sound C.toCxt e _ h.2 g).pe
    · cases h
  | .never, st, h, g => ss_never
  | .ife t a b, st, h, g => by
    unfold chkS at h
    split at h
    · simp only [Bool.and_eq_true] at h
      obtain ⟨⟨⟨h1, h2⟩, h3⟩, h4⟩ := h
      exact ss_ife ((sound C.toCxt t _ h2 g.1).pt h1) (soundSs C a _ h3 g.2.1) (soundSs C b _ h4 g.2.2)
    · cases h
  | .forr tg it body, st, h, g => by
    unfold chkS at h
    split at h
    · simp only [Bool.and_eq_true] at h
      obtain ⟨⟨⟨h1, h2⟩, h3⟩, h4⟩ := h
      exact ss_for C (zip_cons h3 h1) h1 h2 (soundI C.toCxt true it _ _ h3 g.1) (soundSs C body _ h4 g.2)
    · cases h
  | .whl t body fuel, st, h, g => by
    unfold chkS at h
    split at h
    · simp only [Bool.and_eq_true] at h
      obtain ⟨⟨h1, h2⟩, h3⟩ := h
      exact ss_whl C ((sound C.toCxt t _ h2 g.1).pt h1) (soundSs C body _ h3 g.2)
    · cases h
  | .app i e, st, h, g => by
    unfold chkS at h
    split at h
    · simp only [Bool.and_eq_true] at h
      obtain ⟨⟨⟨⟨⟨h1, h2⟩, h3⟩, h4⟩, h5⟩, h6⟩ := h
      have em := beq_iff_eq.mp h3
      subst em
      exact ss_app C h1 h2 h4 h5 (sound C.toCxt e _ h6 g).pe
    · cases h
  | .ext i e, st, h, g => by
    unfold chkS at h
    split at h
    · simp only [Bool.and_eq_true] at h
      obtain ⟨⟨⟨⟨⟨h1, h2⟩, h3⟩, h4⟩, h5⟩, h6⟩ := h
      have em := beq_iff_eq.mp h3
      subst em
      exact ss_ext C h1 h2 h4 h5 (sound C.toCxt e _ h6 g).pe
    · cases h
  | .rem i e, st, h, g => by
    unfold chkS at h
    split at h
    · simp only [Bool.and_eq_true] at h
      obtain ⟨⟨⟨⟨⟨h1, h2⟩, h3⟩, h4⟩, h5⟩, h6⟩ := h
      have em := beq_iff_eq.mp h3
      subst em
      exact ss_rem C h1 h2 h4 h5 (sound C.toCxt e _ h6 g).pe
    · cases h
  | .seti i k e, st, h, g => by
    unfold chkS at h
    split at h
    · simp only [Bool.and_eq_true] at h
      obtain ⟨⟨⟨⟨⟨h1, h2⟩, h3⟩, h4⟩, h5⟩, h6⟩ := h
      exact ss_seti C h1 h2 h3 h4 (sound C.toCxt k _ h5 g.1).pe (sound C.toCxt e _ h6 g.2).pe
    · cases h
  | .frz i c, st, h, g => ss_frz (soundS C c st h g)
theorem soundSs {X : Cx} (C : SCxt X E n N sc) : ∀ (c : CSs Y.S) (st : List Stmt), chkSs N sc c st = true → needSs (Pn X Y n) (Glb X.K X.mg) c → PSs X st (tS X.K X.mg E (runs c))
  | .nil, st, h, g => by
    unfold chkSs at h
    split at h
    · exact ss_nil
    · cases h
  | .cons c cs, st, h, g => by
    unfold chkSs at h
    split at h
    · simp only [Bool.and_eq_true] at h
      exact ss_cons (soundS C c _ h.1 g.1) (soundSs C cs _ h.2 g.2)
    · cases h
end
end
/-! ### a def -/
theorem Rel.start {Y : Sys} {K : PySem.W.Frag} {c : Cf Y} {N : List Str} {vs : List V} {ds : List D} (r : Reps K c.F vs ds) : Rel K c.H c (L2.start N vs) (ds.map SV.va ++ List.replicate (N.length - ds.length) .no) where
  len := by
    unfold L2.start
    simp only [List.length_append, List.length_map, List.length_replicate, r.length]
  va := fun i d h => by
    by_cases hi : i < ds.length
    · rw [List.getElem?_append_left (by rw [List.length_map]; exact hi), List.getElem?_map] at h
      obtain ⟨d', h1, h2⟩ := Option.map_eq_some_iff.mp h
      cases h2
      obtain ⟨v, h3, h4⟩ := r.get h1
      refine ⟨v, ?_, h4⟩
      unfold L2.start
      rw [List.getElem?_append_left (by rw [List.length_map, r.length]; exact hi), List.getElem?_map, h3]
      rfl
    · rw [List.getElem?_append_right (by rw [List.length_map]; omega), List.getElem?_replicate] at h
      split at h <;> cases h
  ow := fun i d h => by
    by_cases hi : i < ds.length
    · rw [List.getElem?_append_left (by rw [List.length_map]; exact hi), List.getElem?_map] at h
      obtain ⟨d', h1, h2⟩ := Option.map_eq_some_iff.mp h
      cases h2
    · rw [List.getElem?_append_right (by rw [List.length_map]; omega), List.getElem?_replicate] at h
      split at h <;> cases h
  ap := fun i j d e p _ h => by
    by_cases hi : i < ds.length
    · rw [List.getElem?_append_left (by rw [List.length_map]; exact hi), List.getElem?_map] at h
      obtain ⟨d', h1, h2⟩ := Option.map_eq_some_iff.mp h
      cases h2
    · rw [List.getElem?_append_right (by rw [List.length_map]; omega), List.getElem?_replicate] at h
      split at h <;> cases h
section
variable {P : Program} {w : World} {K : PySem.W.Frag} {mg : Str → Option Value} {base : Heap} {Y : Sys} {n : Nat}
/-- a def of the text keeps the promise of its own tree -/
theorem fn_sound {x : Str} {st : Stmt} {f : Addr} {fd : FuncData} {N ps : List Str} {body : CSs Y.S} (F : Fun K x x st f fd) (S : FnScope N ps (defScope st)) (hm : mg x = some (.ref f)) (hb : Binds K fd ps []) (blt : ∀ y ∈ bltNames, mg y = none)
    (hc : chkSs N (defScope st) body (defBody st) = true) (g : needSs (fun x m g => Has P w K mg base Y n x m g) (Glb K mg) body) : Has P w K mg base Y (n + 1) x ps.length (fnR N.length body) := by
  refine ⟨f, fd, ps, rfl, ?_, hm, F.kp, hb⟩
  refine F.okX S (fun vs H Q E h => ?_) (fun cdv A outer s H vs Q E hr h => ?_)
  · obtain ⟨c, ds, _, _, _, h, _⟩ := h
    exact h
  · obtain ⟨c, ds, rfl, ok, rs, hl, h⟩ := h
    refine ⟨tS K mg E (runs body), ?_, ?_⟩
    · have C : SCxt (cxOf (L2.CX P w) P w K mg base N x (defScope st) f cdv A outer s c.H E) E n N (defScope st) :=
        { hN := rfl, hs := rfl, nd := S.nd, calm := rfl, room := hr, tk := takes_of rfl rfl rfl rfl, we := ⟨E, rfl⟩, blt := blt, po := passes_of rfl, fn := rfl, kd := S.kind }
      exact soundSs C body _ hc g
    · refine ⟨c, c.F, c, _, rfl, Step.refl c, Sub.refl _, ok, Rel.start (N := N) rs, ?_⟩
      unfold fnR at h
      cases er : runs body (ds.map SV.va ++ List.replicate (N.length - ds.length) .no) c.s with
      | nx ρ s' =>
        rw [er] at h
        exact fun σ' c' e1 t1 _ ok1 _ => h .non c' e1 t1 ok1 .non
      | rt d s' =>
        rw [er] at h
        exact h
      | ex y s' =>
        rw [er] at h
        exact h
      | er => rw [er] at h; exact h
theorem never_sound {x : Str} {st : Stmt} {f : Addr} {fd : FuncData} {N ps : List Str} (F : Fun K x x st f fd) (S : FnScope N ps (defScope st)) (hm : mg x = some (.ref f)) (hb : Binds K fd ps []) : Has P w K mg base Y (n + 1) x ps.length (fun _ _ => .er) := by
  refine ⟨f, fd, ps, rfl, ?_, hm, F.kp, hb⟩
  have h0 : FnOk P w K mg base (L2.CX P w) (n + 1) f fd ps (spOf (Y := Y) K mg ps.length (fun _ _ => .er)) := by
    refine F.okX S (fun vs H Q E h => ?_) (fun cdv A outer s H vs Q E hr h => ?_)
    · obtain ⟨c, ds, _, _, _, h, _⟩ := h
      exact h
    · obtain ⟨c, ds, _, _, _, _, h⟩ := h
      exact h.elim
  exact h0
theorem Has.mono {x : Str} {m k : Nat} {g : Sem Y.S} (h : Has P w K mg base Y n x m g) (hk : n ≤ k) : Has P w K mg base Y k x m g := by
  obtain ⟨f, fd, ps, hl, F, hm, hkp, hb⟩ := h.has
  exact ⟨f, fd, ps, hl, F.mono hk, hm, hkp, hb⟩
end
end Mf
set_option Elab.async false
set_option linter.all false
set_option maxRecDepth 100000
set_option maxHeartbeats 2000000
namespace Mf
open PySem L2

/-! ### the law's own town -/
def townSys (p : Addr) : Sys where
  S := List Int
  ok := fun t H => H p = some (.lst (t.map V.int))
  dm := fun _ a => a = p
  keep := fun s H H' h k => by rw [k p rfl]; exact h
/-- the value of a draw, and what is left -/
def dr (ns : List Int) (k : Int) (rest : List Int) (m : Int) : Int × List Int :=
  if ns = [] then (((k + 1) * (k + 1) * 7).fdiv 3 |>.fmod m, (k + 1) :: rest) else
    let at' := ((k + 1).fmod ns.length).toNat
    let left := rest.getD at' 0
    if ns.getD at' 0 ≥ 10 ^ 18 ∧ left > 0 then (left.fmod m, (k + 1) :: rest.set at' (left.fdiv m)) else
      let n1 := (ns.getD at' 0 + 104729 * (k + 1)).fmod 4294967291
      let n2 := (n1 ^ 5).fmod 4294967279
      ((((n2.fdiv 64 * 69621 + n2).fmod 4294967231).fdiv 8).fmod m, (k + 1) :: rest)
def g_draw (p : Addr) : Sem (List Int) := fun ds t => match ds, t with
  | [.scr ns, .adr q, .int m], k :: rest => if q = p ∧ 0 < m ∧ m < 1000000 ∧ 0 ≤ k ∧ k < 1000000000 ∧ rest.length = ns.length ∧ ns.length ≤ 63 then .ok (.int (dr ns k rest m).1) (dr ns k rest m).2 else .er
  | _, _ => .er
theorem dr_range {ns : List Int} {k : Int} {rest : List Int} {m : Int} (hm : 0 < m) : 0 ≤ (dr ns k rest m).1 ∧ (dr ns k rest m).1 < m := by
  have key : ∀ x : Int, 0 ≤ x.fmod m ∧ x.fmod m < m := fun x => ⟨Int.fmod_nonneg_of_pos _ hm, Int.fmod_lt_of_pos _ hm⟩
  unfold dr
  split
  · exact key _
  · dsimp only
    split <;> exact key _
theorem dr_len {ns : List Int} {k : Int} {rest : List Int} {m : Int} : ∃ rest', (dr ns k rest m).2 = (k + 1) :: rest' ∧ rest'.length = rest.length := by
  unfold dr
  split
  · exact ⟨_, rfl, rfl⟩
  · dsimp only
    split
    · exact ⟨_, rfl, List.length_set⟩
    · exact ⟨_, rfl, rfl⟩
/-- the heap behind a change of the town -/
theorem town_new {p : Addr} {K : PySem.W.Frag} {c : Cf (townSys p)} (ok : Ok c) (t : List Int) (H' : Hp) (hH : ∀ a, a ≠ p → H' a = c.H a) (hp : H' p = some (.lst (t.map V.int))) : Ok (⟨c.F, H', t⟩ : Cf (townSys p)) ∧ Step c (⟨c.F, H', t⟩ : Cf (townSys p)) := by
  refine ⟨⟨fun a o e => ?_, hp, ok.dis, fun a z => ?_⟩, ⟨Sub.refl _, fun a o e nd => ?_, fun _ _ z => z, fun _ z => z, fun _ _ z => z⟩⟩
  · have ne : a ≠ p := fun z => by
      have := ok.dis a z
      rw [show c.F a = some o from e] at this
      cases this
    rw [show (⟨c.F, H', t⟩ : Cf (townSys p)).H a = H' a from rfl, hH a ne]
    exact ok.sub a o e
  · have z : a = p := z
    subst z
    show H' a ≠ none
    rw [hp]
    exact fun z => nomatch z
  · show H' a = some o
    rw [hH a nd]
    exact e
theorem _root_.L2.PSs.ex {X : Cx} {st : List Stmt} {α : Type} {t : α → TS} (h : ∀ p, PSs X st (t p)) : PSs X st (fun D σ H => ∃ p, t p D σ H) := ⟨fun pins s σ H D I ⟨p, q⟩ => (h p).run pins s σ H D I q⟩
/-- _law_town -/
def spTown (K : PySem.W.Frag) : Sp := fun vs H Q _ => ∃ (a : Addr) (ns : List Int), vs = [.ref a] ∧ SqL K H a (ns.map V.int) ∧ ns.length ≤ 63 ∧ ∀ p H', H p = none → Same H H' → H' p = some (.lst ((0 :: ns).map V.int)) → Q (.ref p) H'
/-- what the law promises: its tree, run upon the script, gives True -/
def spLaw (K : PySem.W.Frag) (N : Nat) (body : Addr → CSs (List Int)) : Sp := fun vs H Q _ => ∃ (a : Addr) (ns : List Int), vs = [.ref a] ∧ SqL K H a (ns.map V.int) ∧ ns.length ≤ 63 ∧
  (∀ p, ∃ s', runs (body p) (.va (.scr ns) :: .va (.adr p) :: List.replicate (N - 2) .no) (0 :: ns) = .rt (.bl true) s') ∧ ∀ H', Q (.bl true) H'
section
variable {P : Program} {w : World} {K : PySem.W.Frag} {mg : Str → Option Value} {base : Heap}
theorem law_sound {st : Stmt} {f fT : Addr} {fd fdT : FuncData} {N : List Str} {n : Nat} {body : Addr → CSs (List Int)} {px p1 p2 p3 p4 : Pos} {rest : List Stmt} (F : Fun K "law" "law" st f fd) (S : FnScope N ["script"] (defScope st)) (hN0 : N[0]? = some ("script" : Str)) (hN1 : N[1]? = some ("town" : Str))
    (hs0 : visB (defScope st) "script" = true) (hs1 : locB (defScope st) "town" = true) (hsg : glB (defScope st) "_law_town" = true)
    (hbd : defBody st = .Assign [.Name "town" px] (.Call (.Name "_law_town" p1) [.Name "script" p2] [] p3) p4 :: rest)
    (GT : FnOk P w K mg base (L2.CX P w) n fT fdT ["script"] (spTown K)) (bT : Binds K fdT ["script"] []) (kT : PySem.W.keepIn K (.ref fT) = true) (gT : mg "_law_town" = some (.ref fT)) (blt : ∀ y ∈ bltNames, mg y = none)
    (hc : ∀ p, chkSs N (defScope st) (body p) rest = true) (g : ∀ p, needSs (fun x m g => Has P w K mg base (townSys p) n x m g) (Glb K mg) (body p)) : FnOk P w K mg base (L2.CX P w) (n + 1) f fd ["script"] (spLaw K N.length body) := by
  refine F.okX S (fun vs H Q E h => ?_) (fun cdv A outer s H vs Q E hr h => ?_)
  · obtain ⟨a, ns, rfl, _⟩ := h
    rfl
  · obtain ⟨a, ns, rfl, hS, h63, hrun, q⟩ := h
    have C : SCxt (cxOf (L2.CX P w) P w K mg base N "law" (defScope st) f cdv A outer s H E) E n N (defScope st) :=
      { hN := rfl, hs := rfl, nd := S.nd, calm := rfl, room := hr, tk := takes_of rfl rfl rfl rfl, we := ⟨E, rfl⟩, blt := blt, po := passes_of rfl, fn := rfl, kd := S.kind }
    rw [hbd]
    have hv : PE (cxOf (L2.CX P w) P w K mg base N "law" (defScope st) f cdv A outer s H E) (.Name "script" p2) (tVar 0) := vis_ok (n := n) C hs0 (beq_iff_eq.mpr hN0)
    refine ⟨_, pss_cons (ps_set (i := 1) S.nd hN1 (loc_ok C hs1) (pe_call GT hr (C.gl hsg) gT kT bT .nil passL (pa_cons hv pa_nil) (glB_ok hsg).2.1 rfl rfl) rfl (.inl rfl)) (PSs.ex fun p => soundSs (Y := townSys p) C (body p) rest (hc p) (g p)), ?_⟩
    have hl2 : 2 ≤ N.length := by
      have := (List.getElem?_eq_some_iff.mp hN1).1
      omega
    refine ⟨.ref a, rfl, a, ns, rfl, hS, h63, fun p H' hp sm hH' => ?_⟩
    obtain ⟨s', hr'⟩ := hrun p
    refine ⟨p, ?_⟩
    -- the configuration behind the first statement
    have ok : Ok (⟨H, H', 0 :: ns⟩ : Cf (townSys p)) := ⟨fun b o e => sm b o e, hH', fun b z => by
      have z : b = p := z
      subst z
      exact hp, fun b z => by
      have z : b = p := z
      subst z
      show H' b ≠ none
      rw [hH']
      exact fun z => nomatch z⟩
    have eσ : (L2.start N [V.ref a]).set 1 (some (.ref p)) = some (.ref a) :: some (.ref p) :: List.replicate (N.length - 2) none := by
      unfold L2.start
      obtain ⟨m, hm⟩ : ∃ m, N.length = m + 2 := ⟨N.length - 2, by omega⟩
      rw [hm]
      rfl
    show tS (Y := townSys p) K mg E (runs (body p)) _ ((L2.start N [V.ref a]).set 1 (some (.ref p))) H'
    rw [eσ]
    have hget : ∀ {α : Type} {x y z : α} {m i : Nat} {v : α}, (x :: y :: List.replicate m z)[i]? = some v → (i = 0 ∧ v = x) ∨ (i = 1 ∧ v = y) ∨ v = z := fun {α x y z m i v} h => by
      cases i with
      | zero => cases h; exact .inl ⟨rfl, rfl⟩
      | succ i =>
        cases i with
        | zero => cases h; exact .inr (.inl ⟨rfl, rfl⟩)
        | succ i =>
          have h : (List.replicate m z)[i]? = some v := h
          rw [List.getElem?_replicate] at h
          split at h
          · cases h; exact .inr (.inr rfl)
          · cases h
    have rel : Rel K (⟨H, H', 0 :: ns⟩ : Cf (townSys p)).H (⟨H, H', 0 :: ns⟩ : Cf (townSys p)) (some (.ref a) :: some (.ref p) :: List.replicate (N.length - 2) none) (.va (.scr ns) :: .va (.adr p) :: List.replicate (N.length - 2) .no) :=
      { len := by simp only [List.length_cons, List.length_replicate]
        va := fun i d h => by
          rcases hget h with ⟨rfl, e⟩ | ⟨rfl, e⟩ | e
          · cases e; exact ⟨_, rfl, .scr hS⟩
          · cases e; exact ⟨_, rfl, .adr p⟩
          · cases e
        ow := fun i d h => by
          rcases hget h with ⟨rfl, e⟩ | ⟨rfl, e⟩ | e <;> cases e
        ap := fun i j d e p _ h => by
          rcases hget h with ⟨rfl, e⟩ | ⟨rfl, e⟩ | e <;> cases e }
    refine ⟨⟨H, H', 0 :: ns⟩, H, ⟨H, H', 0 :: ns⟩, _, rfl, Step.refl _, Sub.refl _, ok, rel, ?_⟩
    have fin : PostS (Y := townSys p) K mg E ⟨H, H', 0 :: ns⟩ H { nx := fun _ H' => Q .non H', rt := Q } (Out.rt (.bl true) s') := by
      intro v c' e1 t1 ok1 r1
      cases r1
      exact q _
    exact (show (runs (S := (townSys p).S) (body p) (.va (.scr ns) :: .va (.adr p) :: List.replicate (N.length - 2) .no) (0 :: ns)) = Out.rt (.bl true) s' from hr') ▸ fin
end
/-- a def of the text, where it stands -/
def DefAt (K : PySem.W.Frag) (mg : Str → Option Value) (x : Str) (st : Stmt) : Prop := ∃ f fd, Fun K x x st f fd ∧ mg x = some (.ref f)
theorem defAt {K : PySem.W.Frag} {h : Heap} {mg : Str → Option Value} {x : Str} {st : Stmt} {f : Addr} {od an : Option Addr} {sl : Array (Option Value)} {oc kV dc pm cd ct : Value} (X : K.In h) (G : h.Ns mainGlobals mg)
    (a : PySem.W.nsIn K mainGlobals x = some (some (.ref f))) (l : K.lookup f = some ⟨oc, od, .func (PySem.W.fnOf x x (defArgs st) (defBody st) (defScope st) .none kV dc pm an cd ct), sl⟩) (c : PySem.W.codeIn K cd x = true) (k : PySem.W.keepIn K (.ref f) = true) : DefAt K mg x st :=
  ⟨f, _, fun_mk (st := st) l c k, PySem.W.mg_of X G a⟩
/-- a while's turns, by the int in a slot -/
def fuelAt {S : Type} (i : Nat) : List SV → S → Nat := fun ρ _ => match ρ[i]? with
  | some (.va (.int k)) => k.natAbs + 1
  | _ => 0
mutual
def sizeD : D → Nat
  | .int i => i.natAbs
  | .tup ds => sizeDs ds
  | .lst ds => sizeDs ds
  | _ => 0
def sizeDs : List D → Nat
  | [] => 0
  | d :: ds => sizeD d + sizeDs ds
end
/-- .. by the ints within what a slot holds -/
def fuelIn {S : Type} (i : Nat) : List SV → S → Nat := fun ρ _ => match ρ[i]? with
  | some (.va d) => sizeD d + 2
  | some (.ow d) => sizeD d + 2
  | _ => 0
end Mf
set_option Elab.async false
set_option linter.all false
set_option maxRecDepth 100000
set_option maxHeartbeats 2000000
namespace Mf
open PySem L2
/-! ### a constant of the text, read off the part K -/
def isTy (v : Value) (s : String) : Bool := match v with
  | .type t => t == s
  | _ => false
mutual
def repB (K : PySem.W.Frag) : Nat → Value → D → Bool
  | n, u, d => match d with
    | .non => match u with | .none => true | _ => false
    | .bl b => match u with | .bool a => a == b | _ => false
    | .int j => match u with | .int i _ => decide (i = j) | _ => false
    | .str y => match u with | .str x _ => x == y | _ => false
    | .tup ds => match n with
      | 0 => false
      | n + 1 => match u with
        | .ref a => match K.lookup a with
          | some o => isTy o.cls "tuple" && o.dict.isNone && (match o.data with
            | .seq its _ => decide (its.size ≤ 1000) && repBs K n its.toList ds
            | _ => false)
          | none => false
        | _ => false
    | _ => false
def repBs (K : PySem.W.Frag) : Nat → List Value → List D → Bool
  | _, [], [] => true
  | n, u :: us, d :: ds => repB K n u d && repBs K n us ds
  | _, _, _ => false
end
mutual
theorem repB_ok {K : PySem.W.Frag} : ∀ (n : Nat) (u : Value) (d : D), repB K n u d = true → ∃ v, RelV v u ∧ ∀ F, Rep K F v d
  | n, u, .non, h => by
    unfold repB at h
    dsimp only at h
    split at h
    · exact ⟨.non, rfl, fun _ => .non⟩
    · cases h
  | n, u, .bl b, h => by
    unfold repB at h
    dsimp only at h
    split at h
    · have := beq_iff_eq.mp h; subst this; exact ⟨.bl _, rfl, fun _ => .bl _⟩
    · cases h
  | n, u, .int j, h => by
    unfold repB at h
    dsimp only at h
    split at h
    · have := of_decide_eq_true h; subst this; exact ⟨.int _, ⟨_, rfl⟩, fun _ => .int _⟩
    · cases h
  | n, u, .str j, h => by
    unfold repB at h
    dsimp only at h
    split at h
    · have := beq_iff_eq.mp h; subst this; exact ⟨.str _, ⟨_, rfl⟩, fun _ => .str _⟩
    · cases h
  | 0, u, .tup ds, h => by
    unfold repB at h
    dsimp only at h
    cases h
  | n + 1, u, .tup ds, h => by
    unfold repB at h
    dsimp only at h
    cases u with
    | ref a =>
      dsimp only at h
      cases e : K.lookup a with
      | none => rw [e] at h; cases h
      | some o =>
        rw [e] at h
        dsimp only at h
        rw [Bool.and_eq_true, Bool.and_eq_true] at h
        obtain ⟨⟨h1, h2⟩, h3⟩ := h
        have hc : o.cls = .type "tuple" := by
          unfold isTy at h1
          split at h1
          · rename_i t ht
            rw [ht, beq_iff_eq.mp h1]
          · cases h1
        have hd : o.dict = none := Option.isNone_iff_eq_none.mp h2
        cases hs : o.data with
        | seq its m =>
          rw [hs] at h3
          dsimp only at h3
          rw [Bool.and_eq_true] at h3
          obtain ⟨vs, r1, r2⟩ := repBs_ok n its.toList ds h3.2
          exact ⟨.ref a, rfl, fun F => .tup (.inr ⟨o, its, m, e, hc, hs, Nat.le_trans (of_decide_eq_true h3.1) (by decide), r1⟩) (.inr ⟨o, e, hd⟩) (r2 F)⟩
        | _ => rw [hs] at h3; cases h3
    | _ => cases h
  | n, u, .lst ds, h => by
    unfold repB at h
    dsimp only at h
    cases h
  | n, u, .dct ds, h => by
    unfold repB at h
    dsimp only at h
    cases h
  | n, u, .adr ds, h => by
    unfold repB at h
    dsimp only at h
    cases h
  | n, u, .scr ds, h => by
    unfold repB at h
    dsimp only at h
    cases h
theorem repBs_ok {K : PySem.W.Frag} : ∀ (n : Nat) (us : List Value) (ds : List D), repBs K n us ds = true → ∃ vs, Vals vs us ∧ ∀ F, Reps K F vs ds
  | _, [], [], _ => ⟨[], .nil, fun _ => .nil⟩
  | n, u :: us, d :: ds, h => by
    have h := Bool.and_eq_true_iff.mp h
    obtain ⟨v, a, b⟩ := repB_ok n u d h.1
    obtain ⟨vs, a', b'⟩ := repBs_ok n us ds h.2
    exact ⟨v :: vs, .cons a a', fun F => .cons (b F) (b' F)⟩
  | _, [], _ :: _, h => by cases h
  | _, _ :: _, [], h => by cases h
end
theorem glb_of {K : PySem.W.Frag} {h : Heap} {mg : Str → Option Value} {x : Str} {u : Value} {d : D} (X : K.In h) (G : h.Ns mainGlobals mg) (e : PySem.W.nsIn K mainGlobals x = some (some u)) (r : repB K 20 u d = true) : Glb K mg x d := by
  obtain ⟨v, a, b⟩ := repB_ok 20 u d r
  exact ⟨u, v, PySem.W.mg_of X G e, a, b⟩
theorem cx_no {P : Program} {w : World} {H : Hp} {s : Shared} {e : Value} {s' : Shared} (h : L2.CX P w [] H s (fun _ _ _ => False) e s') : False := by
  obtain ⟨_, _, _, _, _, _, _, _, _, _, _, _, h⟩ := h
  exact h
end Mf
set_option Elab.async false
set_option linter.all false
set_option maxRecDepth 100000
set_option maxHeartbeats 1000000
namespace Mf
open PySem L2
/-! ### the evaluator's steps -/
section
variable {S α β : Type} {s : S}
theorem bindq_ok (a : α) (f : α → S → Res S β) : (Res.ok a s).bind f = f a s := rfl
theorem bind_er (f : α → S → Res S β) : (Res.er : Res S α).bind f = .er := rfl
theorem ob_ok (a : α) (f : α → S → Out S) : (Res.ok a s).ob f = f a s := rfl
theorem sq_nx {ρ : List SV} (f : List SV → S → Out S) : (Out.nx ρ s).sq f = f ρ s := rfl
theorem sq_rt {d : D} (f : List SV → S → Out S) : (Out.rt d s).sq f = .rt d s := rfl
theorem onO_some (a : α) (f : α → Out S) : onO (some a) f = f a := rfl
theorem liftO_some (a : α) : liftO s (some a) = .ok a s := rfl
theorem kd_some (d : D) : kd s (some d) = .ok (.v, d) s := rfl
theorem dat_v (d : D) : dat (.v, d) s = .ok d s := rfl
theorem dat_t (d : D) : dat (.t, d) s = .ok d s := rfl
theorem tru_bl (k : K3) (b : Bool) : tru (k, .bl b) s = .ok b s := rfl
theorem intOf_int (k : K3) (i : Int) : intOf (k, .int i) s = .ok i s := rfl
theorem noExq (a : α) : noEx (Res.ok a s) = .ok a s := rfl
theorem stk_v (b : Bool) (d : D) : stk b (.v, d) s = .ok (.v, d) s := by cases b <;> rfl
theorem stk_t (b : Bool) (d : D) : stk b (.t, d) s = .ok (.t, d) s := by cases b <;> rfl
theorem stk_o (d : D) : stk false (.o, d) s = .ok (.o, d) s := rfl
theorem stow_tt (d : D) : stow true (.t, d) = some (.ow d) := rfl
theorem stow_fv (d : D) : stow false (.v, d) = some (.va d) := rfl
theorem stow_ft (d : D) : stow false (.t, d) = some (.va d) := rfl
theorem runs_cons (c : CS S) (cs : CSs S) (ρ : List SV) : runs (.cons c cs) ρ s = (run c ρ s).sq (runs cs) := by rw [runs]
theorem runs_nil (ρ : List SV) : runs (.nil : CSs S) ρ s = .nx ρ s := by rw [runs]
theorem run_whl (t : CE S) (b : CSs S) (f : List SV → S → Nat) (ρ : List SV) : run (.whl t b f) ρ s = whlR (fun ρ s => (ev t ρ s).bind tru) (runs b) (f ρ s) ρ s := by rw [run]
theorem run_for (tg : Tg) (it : CI S) (body : CSs S) (ρ : List SV) : run (.forr tg it body) ρ s = (evI true it ρ s).ob fun ds s => forR (fun d ρ s => onO (asgT tg d ρ) fun ρ' => runs body ρ' s) ds ρ s := by rw [run]
theorem run_ife (t : CE S) (a b : CSs S) (ρ : List SV) : run (.ife t a b) ρ s = ((ev t ρ s).bind tru).ob fun k s => if k then runs a ρ s else runs b ρ s := by rw [run]
theorem fnR_rt {n : Nat} {body : CSs S} {ds : List D} {d : D} {s' : S} (h : runs body (ds.map SV.va ++ List.replicate (n - ds.length) .no) s = .rt d s') : fnR n body ds s = .ok d s' := by
  unfold fnR
  rw [h]
theorem fnR_nx {n : Nat} {body : CSs S} {ds : List D} {ρ : List SV} {s' : S} (h : runs body (ds.map SV.va ++ List.replicate (n - ds.length) .no) s = .nx ρ s') : fnR n body ds s = .ok .non s' := by
  unfold fnR
  rw [h]
theorem eqD_int (i j : Int) : eqD (.int i) (.int j) = some (decide (i = j)) := by
  show some (i == j) = _
  rfl
theorem cmp_ne (x y : D) : cmpD .ne x y = (eqD x y).map (!·) := by cases x <;> cases y <;> rfl
theorem cmp_eq (x y : D) : cmpD .eq x y = eqD x y := by cases x <;> cases y <;> rfl
theorem cmp_gt (i j : Int) : cmpD .gt (.int i) (.int j) = some (decide (j < i)) := rfl
theorem cmp_ge (i j : Int) : cmpD .ge (.int i) (.int j) = some (decide (j ≤ i)) := rfl
theorem cmp_lt (i j : Int) : cmpD .lt (.int i) (.int j) = some (decide (i < j)) := rfl
theorem cmp_le (i j : Int) : cmpD .le (.int i) (.int j) = some (decide (i ≤ j)) := rfl
theorem cmp_in (x y : D) : cmpD .isin x y = inD x y := by cases x <;> cases y <;> rfl
theorem cmp_notin (x y : D) : cmpD .notin x y = (inD x y).map (!·) := by cases x <;> cases y <;> rfl
theorem cmp_is (x y : D) : cmpD .is x y = isD x y := by cases x <;> cases y <;> rfl
theorem cmp_isnot (x y : D) : cmpD .isnot x y = (isD x y).map (!·) := by cases x <;> cases y <;> rfl
theorem bin_add (i j : Int) : binD .add (.int i) (.int j) = some (.v, .int (i + j)) := rfl
theorem bin_sub (i j : Int) : binD .sub (.int i) (.int j) = some (.v, .int (i - j)) := rfl
theorem bin_mul {i j : Int} (h : mulOk i j = true) : binD .mul (.int i) (.int j) = some (.v, .int (i * j)) := if_pos h
theorem bin_fdv {i j : Int} (h : divOk j = true) : binD .fdv (.int i) (.int j) = some (.v, .int (i.fdiv j)) := if_pos h
theorem bin_mod {i j : Int} (h : j ≠ 0) : binD .mod (.int i) (.int j) = some (.v, .int (i.fmod j)) := if_pos (decide_eq_true h)
theorem b1_abs (i : Int) : b1D .abs (.int i) = some (.v, .int (i.natAbs : Int)) := by
  show some (K3.v, D.int (if i < 0 then -i else i)) = _
  congr 3
  omega
theorem ix0 (a b : D) : ixD (.tup [a, b]) (.int 0) = some a := rfl
theorem ix1 (a b : D) : ixD (.tup [a, b]) (.int 1) = some b := rfl
end
theorem log2_lt {n k : Nat} (h : n < 2 ^ k) (hk : 0 < k) : n.log2 < k := by
  by_cases z : n = 0
  · subst z
    simpa using hk
  · exact (Nat.log2_lt z).mpr h
theorem mulOk_of {i j : Int} {a b : Nat} (hi : i.natAbs < 2 ^ a) (hj : j.natAbs < 2 ^ b) (h : a + b < 1000000) : mulOk i j = true := by
  refine decide_eq_true ?_
  have h1 := log2_lt (k := a + 1) (Nat.lt_of_lt_of_le hi (Nat.pow_le_pow_right (by decide) (Nat.le_succ a))) (Nat.succ_pos a)
  have h2 := log2_lt (k := b + 1) (Nat.lt_of_lt_of_le hj (Nat.pow_le_pow_right (by decide) (Nat.le_succ b))) (Nat.succ_pos b)
  omega
theorem divOk_of {j : Int} {b : Nat} (h0 : j ≠ 0) (hj : j.natAbs < 2 ^ b) (h : b < 9000) : divOk j = true := by
  refine Bool.and_eq_true_iff.mpr ⟨decide_eq_true h0, decide_eq_true ?_⟩
  have h1 := log2_lt (k := b + 1) (Nat.lt_of_lt_of_le hj (Nat.pow_le_pow_right (by decide) (Nat.le_succ b))) (Nat.succ_pos b)
  omega
/-! ### gcd -/
theorem fmod_lt (a : Int) {b : Int} (h : b ≠ 0) : (a.fmod b).natAbs < b.natAbs := by
  rcases Int.lt_or_gt_of_ne h with h | h
  · have h1 := Int.fmod_nonneg_of_pos (-a) (show 0 < -b by omega)
    have h2 := Int.fmod_lt_of_pos (-a) (show 0 < -b by omega)
    rw [Int.neg_fmod_neg] at h1 h2
    omega
  · have h1 := Int.fmod_nonneg_of_pos a h
    have h2 := Int.fmod_lt_of_pos a h
    omega
theorem gcd_fmod (a b : Int) : Int.gcd b (a.fmod b) = Int.gcd a b := by
  rw [Int.fmod_def, Int.gcd_comm a b]
  rw [Int.mul_comm]
  exact Int.gcd_sub_mul_right_right _ _ _
end Mf
set_option Elab.async false
set_option linter.all false
set_option maxRecDepth 100000
set_option maxHeartbeats 1000000
namespace Mf
open PySem L2
/-! ### fractions as Rat -/
def F (q : Rat) : D := .tup [.int q.num, .int q.den]
theorem F_inj {x y : Rat} (h : F x = F y) : x = y := by
  unfold F at h
  injection h with h
  injection h with h1 h2
  injection h1 with h1
  injection h2 with h2 _
  injection h2 with h2
  exact Rat.ext h1 (by omega)
theorem frac_nd {a b : Int} (hb : b ≠ 0) : a.fdiv ((Int.gcd a b : Nat) * (if decide (0 < b) = true then 1 else -1)) = (Rat.divInt a b).num ∧ b.fdiv ((Int.gcd a b : Nat) * (if decide (0 < b) = true then 1 else -1)) = ((Rat.divInt a b).den : Int) := by
  have hg : 0 < Int.gcd a b := Int.gcd_pos_of_ne_zero_right a hb
  rw [Rat.num_divInt, Rat.den_divInt, if_neg hb, Int.gcd_comm b a]
  generalize hG : Int.gcd a b = g at hg
  have hdb : (g : Int) ∣ b := by rw [← hG]; exact Int.gcd_dvd_right a b
  rcases Int.lt_or_gt_of_ne hb with h | h
  · have hn : ¬ (0 < b) := by omega
    have e : ((g : Int) * (if decide (0 < b) = true then 1 else -1)) = -(g : Int) := by simp [hn]
    rw [e, Int.sign_eq_neg_one_of_neg h]
    have f1 : ∀ x : Int, x.fdiv (-(g : Int)) = (-x) / (g : Int) := fun x => by
      rw [← Int.fdiv_eq_ediv_of_nonneg (-x) (by omega : (0 : Int) ≤ g), ← Int.neg_fdiv_neg (-x) (g : Int), Int.neg_neg]
    rw [f1, f1]
    refine ⟨by rw [Int.neg_one_mul], ?_⟩
    rw [Int.natCast_ediv]
    congr 1
    omega
  · have e : ((g : Int) * (if decide (0 < b) = true then 1 else -1)) = (g : Int) := by simp [h]
    rw [e, Int.sign_eq_one_of_pos h, Int.fdiv_eq_ediv_of_nonneg _ (by omega), Int.fdiv_eq_ediv_of_nonneg _ (by omega)]
    refine ⟨by rw [Int.one_mul], ?_⟩
    rw [Int.natCast_ediv]
    congr 1
    omega
/-- within so many bits -/
def bd (B : Nat) (x : Rat) : Prop := x.num.natAbs < 2 ^ B ∧ x.den < 2 ^ B
theorem bd.mono {A B : Nat} {x : Rat} (h : bd A x) (k : A ≤ B) : bd B x := ⟨Nat.lt_of_lt_of_le h.1 (Nat.pow_le_pow_right (by decide) k), Nat.lt_of_lt_of_le h.2 (Nat.pow_le_pow_right (by decide) k)⟩
theorem bd_divInt {a b : Int} {B : Nat} (hb : b ≠ 0) (ha : a.natAbs < 2 ^ B) (hB : b.natAbs < 2 ^ B) : bd B (Rat.divInt a b) := by
  constructor
  · rw [Rat.num_divInt]
    refine Nat.lt_of_le_of_lt (Int.natAbs_ediv_le_natAbs _ _) ?_
    rw [Int.natAbs_mul]
    rcases Int.lt_or_gt_of_ne hb with h | h
    · rw [Int.sign_eq_neg_one_of_neg h]; simpa using ha
    · rw [Int.sign_eq_one_of_pos h]; simpa using ha
  · rw [Rat.den_divInt, if_neg hb]
    exact Nat.lt_of_le_of_lt (Nat.div_le_self _ _) hB
theorem mul_lt {i j : Int} {a b : Nat} (hi : i.natAbs < 2 ^ a) (hj : j.natAbs < 2 ^ b) : (i * j).natAbs < 2 ^ (a + b) := by
  rw [Int.natAbs_mul, Nat.pow_add]
  exact Nat.mul_lt_mul'' hi hj
theorem add_lt {i j : Int} {a : Nat} (hi : i.natAbs < 2 ^ a) (hj : j.natAbs < 2 ^ a) : (i + j).natAbs < 2 ^ (a + 1) := by
  have := Int.natAbs_add_le i j
  rw [Nat.pow_succ]
  omega
theorem den_ne (x : Rat) : (x.den : Int) ≠ 0 := by have := x.den_nz; omega
theorem num_ne {x : Rat} (h : x ≠ 0) : x.num ≠ 0 := fun z => h (Rat.num_eq_zero.mp z)
theorem bd.den {B : Nat} {x : Rat} (h : bd B x) : ((x.den : Int)).natAbs < 2 ^ B := by simpa using h.2
/-- sums, products and quotients as the program makes them -/
theorem plus_eq (x y : Rat) : Rat.divInt (x.num * y.den + y.num * x.den) (x.den * y.den) = x + y := by
  rw [← Rat.divInt_add_divInt _ _ (den_ne x) (den_ne y), Rat.num_divInt_den, Rat.num_divInt_den]
theorem times_eq (x y : Rat) : Rat.divInt (x.num * y.num) (x.den * y.den) = x * y := by
  rw [← Rat.divInt_mul_divInt, Rat.num_divInt_den, Rat.num_divInt_den]
theorem over_eq (x y : Rat) : Rat.divInt (x.num * y.den) (x.den * y.num) = x / y := by
  rw [← Rat.divInt_mul_divInt, Rat.num_divInt_den, Rat.div_def]
  congr 1
  rw [← Rat.inv_divInt, Rat.num_divInt_den]
theorem bd_plus {A B : Nat} {x y : Rat} (hx : bd A x) (hy : bd B y) : bd (A + B + 1) (x + y) := by
  rw [← plus_eq]
  refine bd_divInt (Int.mul_ne_zero (den_ne x) (den_ne y)) ?_ ?_
  · refine add_lt (mul_lt hx.1 hy.den) ?_
    have := mul_lt hy.1 hx.den
    rw [Nat.add_comm] at this
    exact this
  · refine Nat.lt_of_lt_of_le (mul_lt hx.den hy.den) (Nat.pow_le_pow_right (by decide) (by omega))
theorem bd_times {A B : Nat} {x y : Rat} (hx : bd A x) (hy : bd B y) : bd (A + B) (x * y) := by
  rw [← times_eq]
  exact bd_divInt (Int.mul_ne_zero (den_ne x) (den_ne y)) (mul_lt hx.1 hy.1) (mul_lt hx.den hy.den)
theorem bd_over {A B : Nat} {x y : Rat} (hx : bd A x) (hy : bd B y) (h : y ≠ 0) : bd (A + B) (x / y) := by
  rw [← over_eq]
  exact bd_divInt (Int.mul_ne_zero (den_ne x) (num_ne h)) (mul_lt hx.1 hy.den) (mul_lt hx.den hy.1)
/-! ### data of fractions compared -/
theorem sh_F (n : Nat) (x : Rat) : (F x).sh (n + 1) = true := by
  show shs n [D.int x.num, D.int x.den] = true
  cases n <;> rfl
theorem deq_F (x y : Rat) : deq (F x) (F y) = decide (x = y) := by
  show ((x.num == y.num) && (((x.den : Int) == (y.den : Int)) && true)) = _
  by_cases h : x = y
  · subst h; simp
  · rw [decide_eq_false h]
    cases h1 : (x.num == y.num) with
    | false => rfl
    | true =>
      have e1 := beq_iff_eq.mp h1
      have e2 : ¬ x.den = y.den := fun z => h (Rat.ext e1 z)
      have : ((x.den : Int) == (y.den : Int)) = false := beq_eq_false_iff_ne.mpr (by omega)
      rw [this]
      rfl
theorem eqD_F (x y : Rat) : eqD (F x) (F y) = some (decide (x = y)) := by
  unfold eqD
  rw [sh_F 59, sh_F 59, deq_F]
  rfl
/-- a row of fractions -/
def row (r : List Rat) : D := .tup (r.map F)
theorem shs_F (n : Nat) : ∀ r : List Rat, shs (n + 1) (r.map F) = true
  | [] => rfl
  | x :: r => by
    show ((F x).sh (n + 1) && shs (n + 1) (r.map F)) = true
    rw [sh_F, shs_F n r]
    rfl
theorem sh_row (n : Nat) (r : List Rat) : (row r).sh (n + 2) = true := shs_F n r
theorem deqs_F : ∀ x y : List Rat, deqs (x.map F) (y.map F) = decide (x = y)
  | [], [] => rfl
  | [], _ :: _ => rfl
  | _ :: _, [] => rfl
  | a :: x, b :: y => by
    show (deq (F a) (F b) && deqs (x.map F) (y.map F)) = _
    rw [deq_F, deqs_F x y]
    by_cases h : a = b <;> by_cases h' : x = y <;> simp [h, h']
theorem deq_row (x y : List Rat) : deq (row x) (row y) = decide (x = y) := deqs_F x y
theorem eqD_row (x y : List Rat) : eqD (row x) (row y) = some (decide (x = y)) := by
  unfold eqD
  rw [sh_row 58, sh_row 58, deq_row]
  rfl
/-! ### walks -/
section
variable {S : Type} {s : S}
theorem walkR_map {α : Type} {f : D → S → Res S (Option D)} {e g : α → D} : ∀ {l : List α}, (∀ a ∈ l, f (e a) s = .ok (some (g a)) s) → walkR f (l.map e) s = .ok (l.map g) s
  | [], _ => rfl
  | a :: l, h => by
    show (f (e a) s).bind _ = _
    rw [h a List.mem_cons_self]
    show (walkR f (l.map e) s).bind _ = _
    rw [walkR_map fun b hb => h b (List.mem_cons_of_mem _ hb)]
    rfl
theorem walkR_filter {α : Type} {f : D → S → Res S (Option D)} {e g : α → D} {t : α → Bool} : ∀ {l : List α}, (∀ a ∈ l, f (e a) s = .ok (if t a then some (g a) else none) s) → walkR f (l.map e) s = .ok ((l.filter t).map g) s
  | [], _ => rfl
  | a :: l, h => by
    show (f (e a) s).bind _ = _
    rw [h a List.mem_cons_self]
    show (walkR f (l.map e) s).bind _ = _
    rw [walkR_filter fun b hb => h b (List.mem_cons_of_mem _ hb)]
    cases ht : t a <;> simp [ht, List.filter_cons, bindq_ok]
theorem asg1 (i : Nat) (d : D) {ρ : List SV} (h : i < ρ.length) : asgT (.nm i) d ρ = some (ρ.set i (.va d)) := by
  simp [asgT, asgL, h]
theorem asg2 {i j : Nat} (a b : D) {ρ : List SV} (h : i < ρ.length) (h' : j < ρ.length) : asgT (.cons (.nm i) (.cons (.nm j) .nil)) (.tup [a, b]) ρ = some ((ρ.set i (.va a)).set j (.va b)) := by
  simp [asgT, asgL, h, h']
end
section
variable {S : Type} {s : S}
theorem ev_lc {α : Type} {it : CI S} {tg : Tg} {elt : CE S} {vs : List Nat} {ρ : List SV} {l : List α} {e g : α → D} (hi : evI false it ρ s = .ok (l.map e) s) (hl : l.length ≤ 1000000)
    (hb : ∀ a ∈ l, ∃ ρ', asgT tg (e a) (wipeR ρ vs) = some ρ' ∧ ∃ k, k ≠ K3.o ∧ ev elt ρ' s = .ok (k, g a) s) : ev (.lc it tg .nil elt vs) ρ s = .ok (.t, .lst (l.map g)) s := by
  rw [ev, hi]
  simp only [bindq_ok, List.length_map, lenOk, decide_eq_true hl, Bool.not_true, Bool.false_eq_true, if_false]
  rw [walkR_map (g := g)]
  · rfl
  · intro a ha
    obtain ⟨ρ', h1, k, h2, h3⟩ := hb a ha
    simp only [h1, evT, noExq, bindq_ok, if_true, h3]
    cases k with
    | v => rfl
    | t => rfl
    | o => exact absurd rfl h2
theorem ev_lcf {α : Type} {it : CI S} {tg : Tg} {elt tt : CE S} {vs : List Nat} {ρ : List SV} {l : List α} {e g : α → D} {t : α → Bool} (hi : evI false it ρ s = .ok (l.map e) s) (hl : l.length ≤ 1000000)
    (hb : ∀ a ∈ l, ∃ ρ', asgT tg (e a) (wipeR ρ vs) = some ρ' ∧ (∃ k, ev tt ρ' s = .ok (k, .bl (t a)) s) ∧ (t a = true → ∃ k, k ≠ K3.o ∧ ev elt ρ' s = .ok (k, g a) s)) : ev (.lc it tg (.cons tt .nil) elt vs) ρ s = .ok (.t, .lst ((l.filter t).map g)) s := by
  rw [ev, hi]
  simp only [bindq_ok, List.length_map, lenOk, decide_eq_true hl, Bool.not_true, Bool.false_eq_true, if_false]
  rw [walkR_filter (g := g) (t := t)]
  · rfl
  · intro a ha
    obtain ⟨ρ', h1, ⟨k0, h2⟩, h3⟩ := hb a ha
    simp only [h1, evT, h2, bindq_ok, tru_bl, noExq]
    cases ht : t a with
    | false => rfl
    | true =>
      obtain ⟨k, hk, h4⟩ := h3 ht
      simp only [if_true, h4, noExq, bindq_ok]
      cases k with
      | v => rfl
      | t => rfl
      | o => exact absurd rfl hk
theorem forR_ind {α : Type} {f : D → List SV → S → Out S} {e : α → D} {P : List α → List SV → S → Prop} (h : ∀ a l ρ s, P (a :: l) ρ s → ∃ ρ' s', f (e a) ρ s = .nx ρ' s' ∧ P l ρ' s') : ∀ l ρ s, P l ρ s → ∃ ρ' s', forR f (l.map e) ρ s = .nx ρ' s' ∧ P [] ρ' s'
  | [], ρ, s, p => ⟨ρ, s, rfl, p⟩
  | a :: l, ρ, s, p => by
    obtain ⟨ρ', s', h1, h2⟩ := h a l ρ s p
    obtain ⟨ρ2, s2, h3, h4⟩ := forR_ind h l ρ' s' h2
    refine ⟨ρ2, s2, ?_, h4⟩
    show (f (e a) ρ s).sq (forR f (l.map e)) = _
    rw [h1]
    exact h3
end
theorem seq_nx {S : Type} {c : CS S} {cs : CSs S} {ρ ρ' : List SV} {s s' : S} {r : Out S} (h : run c ρ s = .nx ρ' s') (h2 : runs cs ρ' s' = r) : runs (.cons c cs) ρ s = r := by
  rw [runs_cons, h]
  exact h2
theorem seq_rt {S : Type} {c : CS S} {cs : CSs S} {ρ : List SV} {s s' : S} {d : D} (h : run c ρ s = .rt d s') : runs (.cons c cs) ρ s = .rt d s' := by
  rw [runs_cons, h]
  rfl
theorem run_forq {S : Type} {tg : Tg} {it : CI S} {body : CSs S} {ρ : List SV} {s s1 : S} {ds : List D} {o : Out S} (h : evI true it ρ s = .ok ds s1) (h2 : forR (fun d ρ s => onO (asgT tg d ρ) fun ρ' => runs body ρ' s) ds ρ s1 = o) : run (.forr tg it body) ρ s = o := by
  rw [run_for, h]
  exact h2
theorem run_asgq {S : Type} {own : Bool} {i : Nat} {e : CE S} {ρ ρ' : List SV} {s s1 : S} {x : K3 × D} (h : ev e ρ s = .ok x s1) {v : SV} (hv : stow own x = some v) (hp : put ρ i v = some ρ') : run (.asg own i e) ρ s = .nx ρ' s1 := by
  rw [run, h, ob_ok, hv, onO_some, hp]
  rfl
theorem run_retq {S : Type} {e : CE S} {ρ : List SV} {s s1 : S} {k : K3} {d : D} (h : ev e ρ s = .ok (k, d) s1) (hk : k ≠ .o) : run (.ret e) ρ s = .rt d s1 := by
  rw [run, h]
  cases k with
  | v => rfl
  | t => rfl
  | o => exact absurd rfl hk
theorem run_ifq {S : Type} {t : CE S} {a b : CSs S} {ρ : List SV} {s s1 : S} {k : Bool} {k3 : K3} {o : Out S} (h : ev t ρ s = .ok (k3, .bl k) s1) (h2 : (if k then runs a ρ s1 else runs b ρ s1) = o) : run (.ife t a b) ρ s = o := by
  rw [run_ife, h]
  exact h2
theorem zipD_map {α β : Type} (e : α → D) (g : β → D) : ∀ (x : List α) (y : List β), zipD (x.map e) (y.map g) = (x.zip y).map fun p => .tup [e p.1, g p.2]
  | [], _ => by simp [zipD]
  | _ :: _, [] => by simp [zipD]
  | a :: x, b :: y => by
    show D.tup [e a, g b] :: zipD (x.map e) (y.map g) = _
    rw [zipD_map e g x y]
    rfl
def bds (B : Nat) (r : List Rat) : Prop := ∀ x ∈ r, bd B x
theorem bds.mono {A B : Nat} {r : List Rat} (h : bds A r) (k : A ≤ B) : bds B r := fun x hx => (h x hx).mono k
def radd (a b : List Rat) (m : Rat) : List Rat := (a.zip b).map fun p => p.1 + p.2 * m
theorem radd_length {a b : List Rat} (h : a.length = b.length) (m : Rat) : (radd a b m).length = a.length := by simp [radd, h]
theorem bds_radd {A B C : Nat} {a b : List Rat} {m : Rat} (ha : bds A a) (hb : bds B b) (hm : bd C m) : bds (A + (B + C) + 1) (radd a b m) := by
  intro x hx
  obtain ⟨p, hp, rfl⟩ := List.mem_map.mp hx
  have := List.of_mem_zip hp
  exact bd_plus (ha _ this.1) (bd_times (hb _ this.2) hm)
theorem lenOk_of {n : Nat} (h : n ≤ 1000000) : lenOk n = true := decide_eq_true h
end Mf
set_option Elab.async false
set_option linter.all false
set_option maxRecDepth 100000
set_option maxHeartbeats 1000000
namespace Mf
open PySem L2
/-! ### rows reduced -/
def rows (l : List (List Rat)) : D := .lst (l.map row)
def rneg (r h : List Rat) (p : Nat) : List Rat := radd r h (r.getD p 0 * -1)
def redStep (st : List (List Rat) × List (List Rat)) (p : Nat) : List (List Rat) × List (List Rat) :=
  match st.2.filter (fun r => decide (r.getD p 0 ≠ 0)) with
  | [] => st
  | h :: _ => (st.1.map (fun r => rneg r (h.map (· / h.getD p 0)) p) ++ [h.map (· / h.getD p 0)], (st.2.erase h).map fun r => rneg r (h.map (· / h.getD p 0)) p)
def redQ (l : List (List Rat)) (n : Nat) : List (List Rat) × List (List Rat) := (List.range n).foldl redStep ([], l)
def RV (B W : Nat) (l : List (List Rat)) : Prop := ∀ r ∈ l, r.length = W ∧ bds B r
theorem ix_row {r : List Rat} {p : Nat} (h : p < r.length) : ixD (row r) (.int (p : Int)) = some (F (r.getD p 0)) := by
  show atI (r.map F) (p : Int) = _
  refine atI_nat ?_
  rw [List.getElem?_map, List.getElem?_eq_getElem h, List.getD_eq_getElem?_getD, List.getElem?_eq_getElem h]
  rfl
theorem items_lst (ds : List D) : itemsD (.lst ds) = some ds := rfl
theorem items_row (r : List Rat) : itemsD (row r) = some (r.map F) := rfl
theorem shs_rows (n : Nat) : ∀ l : List (List Rat), shs (n + 2) (l.map row) = true
  | [] => rfl
  | r :: l => by
    show ((row r).sh (n + 2) && shs (n + 2) (l.map row)) = true
    rw [sh_row, shs_rows n l]
    rfl
theorem eqD_nil (l : List (List Rat)) : eqD (.lst (l.map row)) (.lst []) = some l.isEmpty := by
  unfold eqD
  have h : (D.lst (l.map row)).sh 60 = true := shs_rows 57 l
  rw [h]
  cases l <;> rfl
theorem find_row (h : List Rat) : ∀ l : List (List Rat), (l.map row).findIdx? (fun z => deq z (row h)) = l.findIdx? (fun r => decide (r = h))
  | [] => rfl
  | r :: l => by
    rw [List.map_cons, List.findIdx?_cons, List.findIdx?_cons, deq_row, find_row h l]
theorem erase_row {h : List Rat} : ∀ {l : List (List Rat)}, h ∈ l → ∃ j, l.findIdx? (fun r => decide (r = h)) = some j ∧ (l.map row).eraseIdx j = (l.erase h).map row
  | r :: l, hm => by
    rw [List.findIdx?_cons]
    by_cases e : r = h
    · subst e
      exact ⟨0, by simp, by simp⟩
    · obtain ⟨j, h1, h2⟩ := erase_row (h := h) (l := l) (by rcases List.mem_cons.mp hm with z | z; exact absurd z.symm e; exact z)
      refine ⟨j + 1, by simp [e, h1], ?_⟩
      rw [List.erase_cons, if_neg (by simpa using e)]
      simp only [List.map_cons, List.eraseIdx_cons_succ, h2]
theorem F_neg1 : D.tup [.int (-1), .int 1] = F (-1) := rfl
theorem bd_neg1 : bd 1 (-1) := ⟨by decide, by decide⟩
theorem RV.mono {A B W : Nat} {l : List (List Rat)} (h : RV A W l) (k : A ≤ B) : RV B W l := fun r hr => ⟨(h r hr).1, (h r hr).2.mono k⟩
theorem getD_mem {r : List Rat} {p : Nat} (h : p < r.length) : r.getD p 0 ∈ r := by
  rw [List.getD_eq_getElem?_getD, List.getElem?_eq_getElem h]
  exact List.getElem_mem h
theorem head_bd {B W p : Nat} {h : List Rat} (hw : h.length = W) (hb : bds B h) (hp : p < W) (h0 : h.getD p 0 ≠ 0) : bds (B + B) (h.map (· / h.getD p 0)) := fun x hx => by
  obtain ⟨y, hy, rfl⟩ := List.mem_map.mp hx
  exact bd_over (hb y hy) (hb _ (getD_mem (by omega))) h0
theorem rneg_RV {B W p : Nat} {r h : List Rat} (hr : r.length = W) (hb : bds B r) (hw : h.length = W) (hh : bds (B + B) h) (hp : p < W) : (rneg r h p).length = W ∧ bds (4 * B + 2) (rneg r h p) := by
  refine ⟨by unfold rneg; rw [radd_length (by omega)]; exact hr, ?_⟩
  unfold rneg
  exact (bds_radd hb hh (bd_times (hb _ (getD_mem (by omega))) bd_neg1)).mono (by omega)
/-- what a step keeps -/
theorem redStep_inv {B W p : Nat} {st : List (List Rat) × List (List Rat)} (h1 : RV B W st.1) (h2 : RV B W st.2) (hp : p < W) :
    (redStep st p = st) ∨ (RV (4 * B + 2) W (redStep st p).1 ∧ RV (4 * B + 2) W (redStep st p).2 ∧ (redStep st p).2.length + 1 = st.2.length ∧ (redStep st p).1.length = st.1.length + 1) := by
  unfold redStep
  split
  · exact .inl rfl
  · rename_i h t hf
    right
    have hm : h ∈ st.2.filter (fun r => decide (r.getD p 0 ≠ 0)) := by rw [hf]; exact List.mem_cons_self
    obtain ⟨hm1, hm2⟩ := List.mem_filter.mp hm
    have h0 : h.getD p 0 ≠ 0 := of_decide_eq_true hm2
    obtain ⟨hw, hb⟩ := h2 h hm1
    have hh := head_bd hw hb hp h0
    have hwl : (h.map (· / h.getD p 0)).length = W := by rw [List.length_map]; exact hw
    refine ⟨fun r hr => ?_, fun r hr => ?_, ?_, by simp⟩
    · rcases List.mem_append.mp hr with hr | hr
      · obtain ⟨r', hr', rfl⟩ := List.mem_map.mp hr
        exact rneg_RV (h1 r' hr').1 (h1 r' hr').2 hwl hh hp
      · rw [List.mem_singleton.mp hr]
        exact ⟨hwl, hh.mono (by omega)⟩
    · obtain ⟨r', hr', rfl⟩ := List.mem_map.mp hr
      have := List.mem_of_mem_erase hr'
      exact rneg_RV (h2 r' this).1 (h2 r' this).2 hwl hh hp
    · rw [List.length_map, List.length_erase_of_mem hm1]
      have : 0 < st.2.length := List.length_pos_of_mem hm1
      omega
def bt (B : Nat) : Nat → Nat
  | 0 => B
  | j + 1 => 4 * bt B j + 2
end Mf
set_option Elab.async false
set_option linter.all false
set_option maxRecDepth 100000
set_option maxHeartbeats 1000000
namespace Mf
open PySem L2
/-! ### draws -/
def Tw (ns : List Int) (n : Nat) (s : List Int) : Prop := ∃ k rest, s = k :: rest ∧ 0 ≤ k ∧ k ≤ n ∧ rest.length = ns.length ∧ ns.length ≤ 63
theorem Tw.mono {ns s : List Int} {n m : Nat} (h : Tw ns n s) (k : n ≤ m) : Tw ns m s := by
  obtain ⟨a, b, c, d, e, f⟩ := h
  exact ⟨a, b, c, d, by omega, f⟩
theorem Tw.zero {ns : List Int} (h : ns.length ≤ 63) : Tw ns 0 (0 :: ns) := ⟨0, ns, rfl, Int.le_refl _, Int.le_refl _, rfl, h⟩
theorem draw_ok {p : Addr} {ns s : List Int} {n : Nat} {m : Int} (h : Tw ns n s) (hn : n < 100000000) (h0 : 0 < m) (h1 : m < 1000000) : ∃ d s', g_draw p [.scr ns, .adr p, .int m] s = .ok (.int d) s' ∧ 0 ≤ d ∧ d < m ∧ Tw ns (n + 1) s' := by
  obtain ⟨k, rest, rfl, hk0, hk1, hl, h63⟩ := h
  obtain ⟨rest', e, hl'⟩ := dr_len (ns := ns) (k := k) (rest := rest) (m := m)
  obtain ⟨d0, d1⟩ := dr_range (ns := ns) (k := k) (rest := rest) h0
  refine ⟨(dr ns k rest m).1, (dr ns k rest m).2, ?_, d0, d1, k + 1, rest', e, by omega, by omega, by omega, h63⟩
  show (if p = p ∧ 0 < m ∧ m < 1000000 ∧ 0 ≤ k ∧ k < 1000000000 ∧ rest.length = ns.length ∧ ns.length ≤ 63 then _ else _) = _
  rw [if_pos ⟨rfl, h0, h1, hk0, by omega, hl, h63⟩]
section
variable {S : Type}
theorem walkR_st {α : Type} {f : D → S → Res S (Option D)} {e : α → D} {P : List α → S → Prop} {G : D → Prop} (h : ∀ a l s, P (a :: l) s → ∃ d s', f (e a) s = .ok (some d) s' ∧ G d ∧ P l s') : ∀ l s, P l s → ∃ ds s', walkR f (l.map e) s = .ok ds s' ∧ ds.length = l.length ∧ (∀ d ∈ ds, G d) ∧ P [] s'
  | [], s, p => ⟨[], s, rfl, rfl, fun _ h => (nomatch h), p⟩
  | a :: l, s, p => by
    obtain ⟨d, s1, h1, h2, h3⟩ := h a l s p
    obtain ⟨ds, s2, h4, h5, h6, h7⟩ := walkR_st h l s1 h3
    refine ⟨d :: ds, s2, ?_, by simp [h5], fun x hx => ?_, h7⟩
    · show (f (e a) s).bind _ = _
      rw [h1]
      show (walkR f (l.map e) s1).bind _ = _
      rw [h4]
      rfl
    · rcases List.mem_cons.mp hx with z | z
      · rw [z]; exact h2
      · exact h6 x z
theorem ev_lc_st {α : Type} {it : CI S} {tg : Tg} {elt : CE S} {vs : List Nat} {ρ : List SV} {s : S} {l : List α} {e : α → D} {P : List α → S → Prop} {G : D → Prop} (hi : evI false it ρ s = .ok (l.map e) s) (hl : l.length ≤ 1000000) (hp : P l s)
    (hb : ∀ a l s, P (a :: l) s → ∃ ρ', asgT tg (e a) (wipeR ρ vs) = some ρ' ∧ ∃ d s', ev elt ρ' s = .ok (.v, d) s' ∧ G d ∧ P l s') : ∃ ds s', ev (.lc it tg .nil elt vs) ρ s = .ok (.t, .lst ds) s' ∧ ds.length = l.length ∧ (∀ d ∈ ds, G d) ∧ P [] s' := by
  obtain ⟨ds, s', h1, h2, h3, h4⟩ := walkR_st (f := fun d s => match asgT tg d (wipeR ρ vs) with
      | none => .er
      | some ρ' => (noEx (evT .nil ρ' s)).bind fun k s => if k then (noEx (ev elt ρ' s)).bind fun y s => (dat y s).bind fun e s => .ok (some e) s else .ok none s) (e := e) (P := P) (G := G) (fun a l s p => by
    obtain ⟨ρ', h1, d, s', h2, h3, h4⟩ := hb a l s p
    refine ⟨d, s', ?_, h3, h4⟩
    simp only [h1, evT, noExq, bindq_ok, if_true, h2, dat_v]) l s hp
  refine ⟨ds, s', ?_, h2, h3, h4⟩
  rw [ev, hi]
  simp only [bindq_ok, List.length_map, lenOk, decide_eq_true hl, Bool.not_true, Bool.false_eq_true, if_false]
  exact congrArg (fun r : Res S (List D) => r.bind fun r s => Res.ok (K3.t, D.lst r) s) h1
end
/-! ### names, tables -/
def nm (i : Nat) : Str := ⟨#[97 + i]⟩
theorem items_names : itemsD (.str "abcdef") = some ((List.range 6).map fun i => .str (nm i)) := by rfl
def ent (i : Nat) (m : List Rat) : D := .tup [.str (nm i), row m]
def ents (ms : List (List Rat)) : List D := (List.range ms.length).map fun i => ent i (ms.getD i [])
def tab (ms : List (List Rat)) : D := .tup (ents ms)
theorem ents_snoc (ms : List (List Rat)) (m : List Rat) : ents (ms ++ [m]) = ents ms ++ [ent ms.length m] := by
  unfold ents
  rw [List.length_append, List.length_singleton, List.range_succ, List.map_append]
  congr 1
  · refine List.map_congr_left fun i hi => ?_
    have := List.mem_range.mp hi
    simp [List.getElem?_append_left this]
  · simp
theorem any_F {ds : List D} {Q : Rat → Prop} (h : ∀ d ∈ ds, ∃ x, Q x ∧ d = F x) : ∃ xs : List Rat, ds = xs.map F ∧ ∀ x ∈ xs, Q x := by
  induction ds with
  | nil => exact ⟨[], rfl, fun _ h => (nomatch h)⟩
  | cons d ds ih =>
    obtain ⟨x, hx, rfl⟩ := h d List.mem_cons_self
    obtain ⟨xs, rfl, h2⟩ := ih fun z hz => h z (List.mem_cons_of_mem _ hz)
    exact ⟨x :: xs, rfl, fun z hz => by
      rcases List.mem_cons.mp hz with e | e
      · rw [e]; exact hx
      · exact h2 z e⟩
/-- small exponents -/
def sm (x : Rat) : Prop := x.num.natAbs ≤ 2 ∧ (x.den = 1 ∨ x.den = 2)
theorem sm.bd {x : Rat} (h : sm x) : bd 2 x := ⟨by have := h.1; omega, by rcases h.2 with e | e <;> rw [e] <;> decide⟩
structure Tab (ms : List (List Rat)) : Prop where
  six : ms.length = 6
  three : ∀ m ∈ ms, m.length = 3
  sm : ∀ m ∈ ms, ∀ x ∈ m, sm x
end Mf
namespace Mf
open PySem L2
/-! ### tables of any names -/
def tabl (l : List (Nat × List Rat)) : D := .tup (l.map fun q => ent q.1 q.2)
theorem tab_tabl (ms : List (List Rat)) : tab ms = tabl ((List.range ms.length).map fun i => (i, ms.getD i [])) := by
  unfold tab tabl ents
  rw [List.map_map]
  rfl
theorem isi_F (x : Rat) : isiD .tuple (F x) = some true := rfl
theorem isi_row (r : List Rat) : isiD .tuple (row r) = some true := rfl
theorem isi_ent (i : Nat) (r : List Rat) : isiD .tuple (ent i r) = some true := rfl
theorem isi_tabl (l : List (Nat × List Rat)) : isiD .tuple (tabl l) = some true := rfl
theorem isi_int (i : Int) : isiD .int (.int i) = some true := rfl
theorem isi_bool (i : Int) : isiD .bool (.int i) = some false := rfl
theorem isi_str (x : Str) : isiD .str (.str x) = some true := rfl
theorem len_F (x : Rat) : b1D .len (F x) = some (.v, .int 2) := rfl
theorem len_row (r : List Rat) : b1D .len (row r) = some (.v, .int r.length) := by
  show some (K3.v, D.int ((r.map F).length : Nat)) = _
  rw [List.length_map]
theorem len_ent (i : Nat) (r : List Rat) : b1D .len (ent i r) = some (.v, .int 2) := rfl
theorem len_tabl (l : List (Nat × List Rat)) : b1D .len (tabl l) = some (.v, .int l.length) := by
  show some (K3.v, D.int ((l.map fun q => ent q.1 q.2).length : Nat)) = _
  rw [List.length_map]
theorem len_nm (i : Nat) : b1D .len (.str (nm i)) = some (.v, .int 1) := rfl
theorem ix_ent0 (i : Nat) (r : List Rat) : ixD (ent i r) (.int 0) = some (.str (nm i)) := rfl
theorem ix_ent1 (i : Nat) (r : List Rat) : ixD (ent i r) (.int 1) = some (row r) := rfl
theorem in_names {i : Nat} (h : i < 6) : inD (.str (nm i)) (.str "abcdef") = some true := by
  have key : ∀ i ∈ List.range 6, (!(Builtin.Str.occurrences "abcdef" (nm i) 0 ("abcdef" : Str).length 1).isEmpty) = true := by decide +kernel
  exact congrArg some (key i (List.mem_range.mpr h))
theorem lt_nm (i j : Nat) : cmpD .lt (.str (nm i)) (.str (nm j)) = some (decide (i < j)) := by
  show some (decide ([97 + i] < [97 + j])) = _
  have : ([97 + i] < [97 + j]) ↔ i < j := by
    rw [List.cons_lt_cons_iff]
    constructor
    · rintro (h | ⟨_, h⟩)
      · omega
      · cases h
    · intro h; left; omega
  simp only [this]
theorem nm_inj {i j : Nat} (h : nm i = nm j) : i = j := by
  unfold nm at h
  injection h with h
  have := congrArg Array.toList h
  simp at this
  exact this
theorem eq_nm {i j : Nat} (hi : i < 6) (hj : j < 6) : eqD (.str (nm i)) (.str (nm j)) = some (decide (i = j)) := by
  have key : ∀ i ∈ List.range 6, okS (nm i) = true := by decide +kernel
  unfold eqD
  have a : (D.str (nm i)).sh 60 = true := key i (List.mem_range.mpr hi)
  have b : (D.str (nm j)).sh 60 = true := key j (List.mem_range.mpr hj)
  rw [a, b]
  show some (nm i == nm j) = _
  congr 1
  by_cases e : i = j
  · subst e; simp
  · rw [decide_eq_false e]
    exact beq_eq_false_iff_ne.mpr fun z => e (nm_inj z)
theorem ix_tabl {l : List (Nat × List Rat)} {k : Nat} (h : k < l.length) : ixD (tabl l) (.int (k : Int)) = some (ent l[k].1 l[k].2) := by
  show atI (l.map fun q => ent q.1 q.2) (k : Int) = _
  refine atI_nat ?_
  rw [List.getElem?_map, List.getElem?_eq_getElem h]
  rfl
/-- a table as in arguments -/
structure TabL (l : List (Nat × List Rat)) : Prop where
  nm : ∀ q ∈ l, q.1 < 6
  three : ∀ q ∈ l, q.2.length = 3
  fit : ∀ q ∈ l, ∀ x ∈ q.2, x.num.natAbs ≤ 1000000000000 ∧ x.den ≤ 1000000000000
  up : ∀ (k : Nat) (h : k + 1 < l.length), (l[k]'(by omega)).1 < l[k + 1].1
theorem TabL.len {l : List (Nat × List Rat)} (T : TabL l) : l.length ≤ 6 := by
  have key : ∀ (k : Nat) (h : k < l.length), k ≤ (l[k]).1 := by
    intro k
    induction k with
    | zero => intro h; exact Nat.zero_le _
    | succ k ih => intro h; have := ih (by omega); have := T.up k h; omega
  by_cases z : l.length = 0
  · omega
  · have h1 := key (l.length - 1) (by omega)
    have h2 := T.nm l[l.length - 1] (List.getElem_mem (by omega))
    omega
theorem Tab.tabL {ms : List (List Rat)} (T : Tab ms) : TabL ((List.range ms.length).map fun i => (i, ms.getD i [])) := by
  have hm : ∀ q ∈ (List.range ms.length).map (fun i => (i, ms.getD i [])), q.1 < 6 ∧ q.2 ∈ ms := by
    intro q hq
    obtain ⟨i, hi, rfl⟩ := List.mem_map.mp hq
    have hi := List.mem_range.mp hi
    refine ⟨by have := T.six; dsimp only; omega, ?_⟩
    dsimp only
    rw [List.getD_eq_getElem?_getD, List.getElem?_eq_getElem hi]
    exact List.getElem_mem hi
  refine ⟨fun q hq => (hm q hq).1, fun q hq => T.three _ (hm q hq).2, fun q hq x hx => ?_, fun k h => by simp⟩
  have := T.sm _ (hm q hq).2 x hx
  exact ⟨by have := this.1; omega, by rcases this.2 with e | e <;> omega⟩
end Mf
set_option Elab.async false
set_option linter.all false
set_option maxRecDepth 100000
set_option maxHeartbeats 4000000
namespace Mf
open PySem L2
abbrev g__law_draw := g_draw
def top (i : Nat) : Stmt := PySem.Challenge.pw_measureforms_k54_measures_by_hand.main.body.getD i (.Pass ⟨0, 0, 0, 0⟩)
def d_NAMES : D := .str "abcdef"
def d_ZERO : D := .tup [.int 0, .int 1]
def d_PLAIN : D := .tup [.tup [.int 0, .int 1], .tup [.int 0, .int 1], .tup [.int 0, .int 1]]
def d_EMPTY : D := .tup [.tup [.int 0, .int 1], .tup [.int 0, .int 1], .tup [.int 0, .int 1], .tup [.int 0, .int 1], .tup [.int 0, .int 1], .tup [.int 0, .int 1]]
def d_ONE : D := .tup [.int 1, .int 1]
abbrev s__law_town : Stmt := top 91
abbrev s_is_between : Stmt := top 19
abbrev s_is_name : Stmt := top 27
abbrev s_is_at_most : Stmt := top 31
abbrev s_is_formula : Stmt := top 32
abbrev s_is_statement : Stmt := top 34
abbrev s_is_statements : Stmt := top 35
abbrev s_check_statements : Stmt := top 36
abbrev s_divisor : Stmt := top 20
abbrev s_is_fraction : Stmt := top 26
abbrev s_is_measure : Stmt := top 29
abbrev s_is_table : Stmt := top 37
abbrev s_check_table : Stmt := top 38
abbrev s_check_three : Stmt := top 68
abbrev s_whole : Stmt := top 45
abbrev s_fraction : Stmt := top 21
abbrev s_plus : Stmt := top 22
abbrev s_times : Stmt := top 23
abbrev s_added : Stmt := top 25
abbrev s_over : Stmt := top 24
abbrev s_reduced : Stmt := top 44
abbrev s_parts_of : Stmt := top 30
abbrev s_asked_by : Stmt := top 42
abbrev s_rows_of : Stmt := top 43
abbrev s_form_of : Stmt := top 46
abbrev s_solved : Stmt := top 67
abbrev s_forced : Stmt := top 70
abbrev s_check_complete : Stmt := top 75
abbrev s_whole_measures : Stmt := top 76
abbrev s_less : Stmt := top 77
abbrev s_cleared : Stmt := top 78
abbrev s_kernel : Stmt := top 79
abbrev s_found_products : Stmt := top 80
abbrev s_plain_products : Stmt := top 81
abbrev s_check_formula : Stmt := top 33
abbrev s_found_names : Stmt := top 39
abbrev s_check_known : Stmt := top 61
abbrev s_joined : Stmt := top 62
abbrev s_looked : Stmt := top 63
abbrev s_measure_of : Stmt := top 64
abbrev s_first_clash : Stmt := top 65
abbrev s__law_draw : Stmt := top 92
abbrev s_check_name : Stmt := top 28
abbrev s_as_product : Stmt := top 82
abbrev s_form : Stmt := top 48
abbrev s__law_alone : Stmt := top 94
abbrev s_tuples_of : Stmt := top 72
abbrev s_has_any : Stmt := top 69
abbrev s_clashing : Stmt := top 73
abbrev s_needless : Stmt := top 59
abbrev s_check_two : Stmt := top 56
abbrev s_vectors : Stmt := top 51
abbrev s_table_of : Stmt := top 52
abbrev s_is_brought : Stmt := top 53
abbrev s_first_outside : Stmt := top 54
abbrev s_showing_table : Stmt := top 58
abbrev s_check_both : Stmt := top 50
abbrev s_parting_table : Stmt := top 55
abbrev s__law_forms : Stmt := top 95
abbrev s_powered : Stmt := top 85
abbrev s_factor_of : Stmt := top 86
abbrev s_has_root : Stmt := top 87
abbrev s_value_with : Stmt := top 88
abbrev s_value_of : Stmt := top 89
abbrev s__law_frac : Stmt := top 93
abbrev s_completion : Stmt := top 71
abbrev s_do_imply : Stmt := top 57
abbrev s_count_free : Stmt := top 49
abbrev s_law : Stmt := top 96
def c_is_between : CSs (List Int) :=
  (.cons (.ret (.and (.isi (.var 0) .int) (.and (.not (.isi (.var 0) .bool)) (.one (.chn .le .le (.var 1) (.var 0) (.var 2))))))
  .nil)
def g_is_between : Sem (List Int) := fnR 3 (c_is_between)
def c_is_name : CSs (List Int) :=
  (.cons (.ret (.and (.isi (.var 0) .str) (.and (.cmp .eq (.b1 .len (.var 0)) (.con (.int 1))) (.one (.cmp .isin (.var 0) (.glb "NAMES" d_NAMES))))))
  .nil)
def g_is_name : Sem (List Int) := fnR 1 (c_is_name)
def c_is_at_most (self : Sem (List Int)) : CSs (List Int) :=
  (.cons (.ife (.or (.cmp .lt (.var 1) (.con (.int 1))) (.or (.not (.isi (.var 0) .tuple)) (.or (.not (.chn .le .le (.con (.int 2)) (.b1 .len (.var 0)) (.con (.int 3)))) (.one (.not (.isi (.ix (.var 0) (.con (.int 0))) .str)))))) (.cons (.ret (.con (.bl false)))
   .nil) .nil)
  (.cons (.asg false 2 (.ix (.var 0) (.con (.int 0))))
  (.cons (.ife (.cmp .eq (.var 2) (.con (.str "name"))) (.cons (.ret (.and (.cmp .eq (.b1 .len (.var 0)) (.con (.int 2))) (.one (.call "is_name" 1 g_is_name (.cons (.ix (.var 0) (.con (.int 1))) .nil)))))
   .nil) .nil)
  (.cons (.ife (.cmp .eq (.var 2) (.con (.str "number"))) (.cons (.ret (.and (.cmp .eq (.b1 .len (.var 0)) (.con (.int 2))) (.one (.call "is_between" 3 g_is_between (.cons (.ix (.var 0) (.con (.int 1))) (.cons (.con (.int 1)) (.cons (.con (.int 9)) .nil)))))))
   .nil) .nil)
  (.cons (.ife (.cmp .isin (.var 2) (.tup (.cons (.con (.str "root")) (.cons (.con (.str "wave")) .nil)))) (.cons (.ret (.and (.cmp .eq (.b1 .len (.var 0)) (.con (.int 2))) (.one (.call "is_at_most" 2 self (.cons (.ix (.var 0) (.con (.int 1))) (.cons (.bin .sub (.var 1) (.con (.int 1))) .nil))))))
   .nil) .nil)
  (.cons (.ife (.or (.cmp .ne (.b1 .len (.var 0)) (.con (.int 3))) (.one (.not (.call "is_at_most" 2 self (.cons (.ix (.var 0) (.con (.int 1))) (.cons (.bin .sub (.var 1) (.con (.int 1))) .nil)))))) (.cons (.ret (.con (.bl false)))
   .nil) .nil)
  (.cons (.ife (.cmp .eq (.var 2) (.con (.str "power"))) (.cons (.ret (.call "is_between" 3 g_is_between (.cons (.ix (.var 0) (.con (.int 2))) (.cons (.neg (.con (.int 3))) (.cons (.con (.int 3)) .nil)))))
   .nil) .nil)
  (.cons (.ret (.and (.cmp .isin (.var 2) (.tup (.cons (.con (.str "plus")) (.cons (.con (.str "minus")) (.cons (.con (.str "times")) (.cons (.con (.str "over")) .nil)))))) (.one (.call "is_at_most" 2 self (.cons (.ix (.var 0) (.con (.int 2))) (.cons (.bin .sub (.var 1) (.con (.int 1))) .nil))))))
  .nil))))))))
def g_is_at_most : Nat → Sem (List Int)
  | 0 => fun _ _ => .er
  | k + 1 => fnR 3 (c_is_at_most (g_is_at_most k))
def c_is_formula : CSs (List Int) :=
  (.cons (.ret (.call "is_at_most" 2 (g_is_at_most 6) (.cons (.var 0) (.cons (.con (.int 4)) .nil))))
  .nil)
def g_is_formula : Sem (List Int) := fnR 1 (c_is_formula)
def c_is_statement : CSs (List Int) :=
  (.cons (.ret (.and (.isi (.var 0) .tuple) (.and (.cmp .eq (.b1 .len (.var 0)) (.con (.int 2))) (.one (.b1 .all (.lc (.seq (.var 0)) (.nm 1) .nil (.call "is_formula" 1 g_is_formula (.cons (.var 1) .nil)) [1]))))))
  .nil)
def g_is_statement : Sem (List Int) := fnR 2 (c_is_statement)
def c_is_statements : CSs (List Int) :=
  (.cons (.ret (.and (.isi (.var 0) .tuple) (.and (.cmp .le (.b1 .len (.var 0)) (.con (.int 4))) (.one (.b1 .all (.lc (.seq (.var 0)) (.nm 1) .nil (.call "is_statement" 1 g_is_statement (.cons (.var 1) .nil)) [1]))))))
  .nil)
def g_is_statements : Sem (List Int) := fnR 2 (c_is_statements)
def c_check_statements : CSs (List Int) :=
  (.cons (.ife (.not (.call "is_statements" 1 g_is_statements (.cons (.var 0) .nil))) (.cons .never
   .nil) .nil)
  .nil)
def g_check_statements : Sem (List Int) := fnR 1 (c_check_statements)
def b_divisor_0 : CSs (List Int) :=
  (.cons (.par false false 0 1 (.var 1) (.bin .mod (.var 0) (.var 1)))
  .nil)
def c_divisor : CSs (List Int) :=
  (.cons (.whl (.cmp .ne (.var 1) (.con (.int 0))) (b_divisor_0) (fuelAt 1))
  (.cons (.ret (.b1 .abs (.var 0)))
  .nil))
def g_divisor : Sem (List Int) := fnR 2 (c_divisor)
def c_is_fraction : CSs (List Int) :=
  (.cons (.ife (.or (.not (.isi (.var 0) .tuple)) (.or (.cmp .ne (.b1 .len (.var 0)) (.con (.int 2))) (.one (.not (.call "is_between" 3 g_is_between (.cons (.ix (.var 0) (.con (.int 1))) (.cons (.con (.int 1)) (.cons (.var 3) .nil)))))))) (.cons (.ret (.con (.bl false)))
   .nil) .nil)
  (.cons (.ret (.and (.call "is_between" 3 g_is_between (.cons (.ix (.var 0) (.con (.int 0))) (.cons (.var 2) (.cons (.var 1) .nil)))) (.one (.cmp .eq (.call "divisor" 2 g_divisor (.cons (.ix (.var 0) (.con (.int 0))) (.cons (.ix (.var 0) (.con (.int 1))) .nil))) (.con (.int 1))))))
  .nil))
def g_is_fraction : Sem (List Int) := fnR 4 (c_is_fraction)
def c_is_measure : CSs (List Int) :=
  (.cons (.asg false 1 (.con (.int 1000000000000)))
  (.cons (.ife (.or (.not (.isi (.var 0) .tuple)) (.one (.cmp .ne (.b1 .len (.var 0)) (.con (.int 3))))) (.cons (.ret (.con (.bl false)))
   .nil) .nil)
  (.cons (.ret (.b1 .all (.lc (.seq (.var 0)) (.nm 2) .nil (.call "is_fraction" 4 g_is_fraction (.cons (.var 2) (.cons (.var 1) (.cons (.neg (.var 1)) (.cons (.var 1) .nil))))) [2])))
  .nil)))
def g_is_measure : Sem (List Int) := fnR 3 (c_is_measure)
def b_is_table_0 : CSs (List Int) :=
  (.cons (.ife (.or (.not (.isi (.var 1) .tuple)) (.or (.cmp .ne (.b1 .len (.var 1)) (.con (.int 2))) (.or (.not (.call "is_name" 1 g_is_name (.cons (.ix (.var 1) (.con (.int 0))) .nil))) (.one (.not (.call "is_measure" 1 g_is_measure (.cons (.ix (.var 1) (.con (.int 1))) .nil))))))) (.cons (.ret (.con (.bl false)))
   .nil) .nil)
  .nil)
def c_is_table : CSs (List Int) :=
  (.cons (.ife (.not (.isi (.var 0) .tuple)) (.cons (.ret (.con (.bl false)))
   .nil) .nil)
  (.cons (.forr (.nm 1) (.seq (.var 0)) (b_is_table_0))
  (.cons (.ret (.b1 .all (.lc (.rng (.bin .sub (.b1 .len (.var 0)) (.con (.int 1)))) (.nm 2) .nil (.cmp .lt (.ix (.ix (.var 0) (.var 2)) (.con (.int 0))) (.ix (.ix (.var 0) (.bin .add (.var 2) (.con (.int 1)))) (.con (.int 0)))) [2])))
  .nil)))
def g_is_table : Sem (List Int) := fnR 3 (c_is_table)
def c_check_table : CSs (List Int) :=
  (.cons (.ife (.not (.call "is_table" 1 g_is_table (.cons (.var 0) .nil))) (.cons .never
   .nil) .nil)
  .nil)
def g_check_table : Sem (List Int) := fnR 1 (c_check_table)
def c_check_three : CSs (List Int) :=
  (.cons (.expr (.call "check_statements" 1 g_check_statements (.cons (.var 0) .nil)))
  (.cons (.expr (.call "check_table" 1 g_check_table (.cons (.var 1) .nil)))
  .nil))
def g_check_three : Sem (List Int) := fnR 2 (c_check_three)
def b_whole_0 : CSs (List Int) :=
  (.cons (.asg false 1 (.bin .fdv (.bin .mul (.var 1) (.ix (.var 2) (.con (.int 1)))) (.call "divisor" 2 g_divisor (.cons (.var 1) (.cons (.ix (.var 2) (.con (.int 1))) .nil)))))
  .nil)
def b_whole_1 : CSs (List Int) :=
  (.cons (.asg false 4 (.call "divisor" 2 g_divisor (.cons (.var 4) (.cons (.var 5) .nil))))
  .nil)
def c_whole : CSs (List Int) :=
  (.cons (.asg false 1 (.con (.int 1)))
  (.cons (.forr (.nm 2) (.seq (.var 0)) (b_whole_0))
  (.cons (.asg false 3 (.lc (.seq (.var 0)) (.nm 2) .nil (.bin .fdv (.bin .mul (.ix (.var 2) (.con (.int 0))) (.var 1)) (.ix (.var 2) (.con (.int 1)))) [2]))
  (.cons (.asg false 4 (.con (.int 0)))
  (.cons (.forr (.nm 5) (.seq (.var 3)) (b_whole_1))
  (.cons (.ret (.b1 .tuple (.lc (.seq (.var 3)) (.nm 5) .nil (.bin .fdv (.var 5) (.var 4)) [5])))
  .nil))))))
def g_whole : Sem (List Int) := fnR 6 (c_whole)
def c_fraction : CSs (List Int) :=
  (.cons (.asg false 2 (.bin .mul (.call "divisor" 2 g_divisor (.cons (.var 0) (.cons (.var 1) .nil))) (.ife (.cmp .gt (.var 1) (.con (.int 0))) (.con (.int 1)) (.neg (.con (.int 1))))))
  (.cons (.ret (.tup (.cons (.bin .fdv (.var 0) (.var 2)) (.cons (.bin .fdv (.var 1) (.var 2)) .nil))))
  .nil))
def g_fraction : Sem (List Int) := fnR 3 (c_fraction)
def c_plus : CSs (List Int) :=
  (.cons (.ret (.call "fraction" 2 g_fraction (.cons (.bin .add (.bin .mul (.ix (.var 0) (.con (.int 0))) (.ix (.var 1) (.con (.int 1)))) (.bin .mul (.ix (.var 1) (.con (.int 0))) (.ix (.var 0) (.con (.int 1))))) (.cons (.bin .mul (.ix (.var 0) (.con (.int 1))) (.ix (.var 1) (.con (.int 1)))) .nil))))
  .nil)
def g_plus : Sem (List Int) := fnR 2 (c_plus)
def c_times : CSs (List Int) :=
  (.cons (.ret (.call "fraction" 2 g_fraction (.cons (.bin .mul (.ix (.var 0) (.con (.int 0))) (.ix (.var 1) (.con (.int 0)))) (.cons (.bin .mul (.ix (.var 0) (.con (.int 1))) (.ix (.var 1) (.con (.int 1)))) .nil))))
  .nil)
def g_times : Sem (List Int) := fnR 2 (c_times)
def c_added : CSs (List Int) :=
  (.cons (.ret (.b1 .tuple (.lc (.zip (.var 0) (.var 1)) (.cons (.nm 3) (.cons (.nm 4) .nil)) .nil (.call "plus" 2 g_plus (.cons (.var 3) (.cons (.call "times" 2 g_times (.cons (.var 4) (.cons (.var 2) .nil))) .nil))) [3, 4])))
  .nil)
def g_added : Sem (List Int) := fnR 5 (c_added)
def c_over : CSs (List Int) :=
  (.cons (.ret (.call "fraction" 2 g_fraction (.cons (.bin .mul (.ix (.var 0) (.con (.int 0))) (.ix (.var 1) (.con (.int 1)))) (.cons (.bin .mul (.ix (.var 0) (.con (.int 1))) (.ix (.var 1) (.con (.int 0)))) .nil))))
  .nil)
def g_over : Sem (List Int) := fnR 2 (c_over)
def b_reduced_0 : CSs (List Int) :=
  (.cons (.asg false 5 (.lc (.seq (.var 3)) (.nm 7) (.cons (.cmp .ne (.ix (.var 7) (.var 4)) (.glb "ZERO" d_ZERO)) .nil) (.var 7) [7]))
  (.cons (.ife (.cmp .ne (.var 5) (.lst .nil)) (.cons (.asg false 6 (.b1 .tuple (.lc (.seq (.ix (.var 5) (.con (.int 0)))) (.nm 8) .nil (.call "over" 2 g_over (.cons (.var 8) (.cons (.ix (.ix (.var 5) (.con (.int 0))) (.var 4)) .nil))) [8])))
   (.cons (.rem 3 (.ix (.var 5) (.con (.int 0))))
   (.cons (.asg true 3 (.lc (.seq (.var 3)) (.nm 7) .nil (.call "added" 3 g_added (.cons (.var 7) (.cons (.var 6) (.cons (.call "times" 2 g_times (.cons (.ix (.var 7) (.var 4)) (.cons (.tup (.cons (.neg (.con (.int 1))) (.cons (.con (.int 1)) .nil))) .nil))) .nil)))) [7]))
   (.cons (.asg false 2 (.bin .add (.lc (.seq (.var 2)) (.nm 7) .nil (.call "added" 3 g_added (.cons (.var 7) (.cons (.var 6) (.cons (.call "times" 2 g_times (.cons (.ix (.var 7) (.var 4)) (.cons (.tup (.cons (.neg (.con (.int 1))) (.cons (.con (.int 1)) .nil))) .nil))) .nil)))) [7]) (.lst (.cons (.var 6) .nil))))
   .nil)))) .nil)
  .nil))
def c_reduced : CSs (List Int) :=
  (.cons (.par false true 2 3 (.lst .nil) (.b1 .list (.var 0)))
  (.cons (.forr (.nm 4) (.rng (.var 1)) (b_reduced_0))
  (.cons (.frz 3 (.ret (.tup (.cons (.var 2) (.cons (.var 3) .nil)))))
  .nil)))
def g_reduced : Sem (List Int) := fnR 9 (c_reduced)
def c_parts_of : CSs (List Int) :=
  (.cons (.ife (.cmp .isin (.ix (.var 0) (.con (.int 0))) (.tup (.cons (.con (.str "name")) (.cons (.con (.str "number")) .nil)))) (.cons (.ret (.tup .nil))
   .nil) .nil)
  (.cons (.ret (.ife (.cmp .isin (.ix (.var 0) (.con (.int 0))) (.tup (.cons (.con (.str "plus")) (.cons (.con (.str "minus")) (.cons (.con (.str "times")) (.cons (.con (.str "over")) .nil)))))) (.tup (.cons (.con (.int 1)) (.cons (.con (.int 2)) .nil))) (.tup (.cons (.con (.int 1)) .nil))))
  .nil))
def g_parts_of : Sem (List Int) := fnR 1 (c_parts_of)
def c_asked_by (self : Sem (List Int)) : CSs (List Int) :=
  (.cons (.asg false 1 (.ix (.var 0) (.con (.int 0))))
  (.cons (.ife (.cmp .eq (.var 1) (.con (.str "name"))) (.cons (.ret (.tup (.cons (.b1 .tuple (.lc (.seq (.glb "NAMES" d_NAMES)) (.nm 10) .nil (.tup (.cons (.b1 .int (.cmp .eq (.var 10) (.ix (.var 0) (.con (.int 1))))) (.cons (.con (.int 1)) .nil))) [10])) (.cons (.lst .nil) .nil))))
   .nil) .nil)
  (.cons (.ife (.cmp .eq (.var 1) (.con (.str "number"))) (.cons (.ret (.tup (.cons (.glb "EMPTY" d_EMPTY) (.cons (.lst .nil) .nil))))
   .nil) .nil)
  (.cons (.asg false 2 (.lc (.seq (.call "parts_of" 1 g_parts_of (.cons (.var 0) .nil))) (.nm 6) .nil (.call "asked_by" 1 self (.cons (.ix (.var 0) (.var 6)) .nil)) [6]))
  (.cons (.asg false 3 (.lc2 (.seq (.var 2)) (.cons (.nm 7) (.cons (.nm 8) .nil)) (.seq (.var 8)) (.nm 9) (.var 9) [7, 8, 9] [9]))
  (.cons (.asg false 4 (.ix (.ix (.var 2) (.con (.int 0))) (.con (.int 0))))
  (.cons (.ife (.cmp .eq (.var 1) (.con (.str "times"))) (.cons (.ret (.tup (.cons (.call "added" 3 g_added (.cons (.var 4) (.cons (.ix (.ix (.var 2) (.con (.int 1))) (.con (.int 0))) (.cons (.tup (.cons (.con (.int 1)) (.cons (.con (.int 1)) .nil))) .nil)))) (.cons (.var 3) .nil))))
   .nil) .nil)
  (.cons (.ife (.cmp .eq (.var 1) (.con (.str "over"))) (.cons (.ret (.tup (.cons (.call "added" 3 g_added (.cons (.var 4) (.cons (.ix (.ix (.var 2) (.con (.int 1))) (.con (.int 0))) (.cons (.tup (.cons (.neg (.con (.int 1))) (.cons (.con (.int 1)) .nil))) .nil)))) (.cons (.var 3) .nil))))
   .nil) .nil)
  (.cons (.ife (.cmp .isin (.var 1) (.tup (.cons (.con (.str "plus")) (.cons (.con (.str "minus")) .nil)))) (.cons (.ret (.tup (.cons (.var 4) (.cons (.bin .add (.var 3) (.lst (.cons (.call "added" 3 g_added (.cons (.var 4) (.cons (.ix (.ix (.var 2) (.con (.int 1))) (.con (.int 0))) (.cons (.tup (.cons (.neg (.con (.int 1))) (.cons (.con (.int 1)) .nil))) .nil)))) .nil))) .nil))))
   .nil) .nil)
  (.cons (.ife (.cmp .eq (.var 1) (.con (.str "wave"))) (.cons (.ret (.tup (.cons (.glb "EMPTY" d_EMPTY) (.cons (.bin .add (.var 3) (.lst (.cons (.var 4) .nil))) .nil))))
   .nil) .nil)
  (.cons (.asg false 5 (.ife (.cmp .eq (.var 1) (.con (.str "root"))) (.tup (.cons (.con (.int 1)) (.cons (.con (.int 2)) .nil))) (.tup (.cons (.ix (.var 0) (.con (.int 2))) (.cons (.con (.int 1)) .nil)))))
  (.cons (.ret (.tup (.cons (.b1 .tuple (.lc (.seq (.var 4)) (.nm 6) .nil (.call "times" 2 g_times (.cons (.var 6) (.cons (.var 5) .nil))) [6])) (.cons (.var 3) .nil))))
  .nil))))))))))))
def g_asked_by : Nat → Sem (List Int)
  | 0 => fun _ _ => .er
  | k + 1 => fnR 11 (c_asked_by (g_asked_by k))
def b_rows_of_0 : CSs (List Int) :=
  (.cons (.par false false 4 5 (.call "asked_by" 1 (g_asked_by 6) (.cons (.var 2) .nil)) (.call "asked_by" 1 (g_asked_by 6) (.cons (.var 3) .nil)))
  (.cons (.ext 1 (.bin .add (.bin .add (.ix (.var 4) (.con (.int 1))) (.ix (.var 5) (.con (.int 1)))) (.lst (.cons (.call "added" 3 g_added (.cons (.ix (.var 4) (.con (.int 0))) (.cons (.ix (.var 5) (.con (.int 0))) (.cons (.tup (.cons (.neg (.con (.int 1))) (.cons (.con (.int 1)) .nil))) .nil)))) .nil))))
  .nil))
def c_rows_of : CSs (List Int) :=
  (.cons (.asg true 1 (.lst .nil))
  (.cons (.forr (.cons (.nm 2) (.cons (.nm 3) .nil)) (.seq (.var 0)) (b_rows_of_0))
  (.cons (.frz 1 (.ret (.var 1)))
  .nil)))
def g_rows_of : Sem (List Int) := fnR 6 (c_rows_of)
def c_form_of : CSs (List Int) :=
  (.cons (.ret (.b1 .tuple (.lc (.seq (.ix (.call "reduced" 2 g_reduced (.cons (.call "rows_of" 1 g_rows_of (.cons (.var 0) .nil)) (.cons (.con (.int 6)) .nil))) (.con (.int 0)))) (.nm 1) .nil (.call "whole" 1 g_whole (.cons (.var 1) .nil)) [1])))
  .nil)
def g_form_of : Sem (List Int) := fnR 2 (c_form_of)
def b_solved_0 : CSs (List Int) :=
  (.cons (.ife (.cmp .isin (.var 9) (.var 2)) (.cons (.asg false 8 (.call "added" 3 g_added (.cons (.var 8) (.cons (.ix (.var 2) (.var 9)) (.cons (.tup (.cons (.neg (.var 10)) (.cons (.con (.int 1)) .nil))) .nil)))))
   .nil) .nil)
  .nil)
def b_solved_1 : CSs (List Int) :=
  (.cons (.asg false 8 (.glb "PLAIN" d_PLAIN))
  (.cons (.forr (.cons (.nm 9) (.cons (.nm 10) .nil)) (.zip (.glb "NAMES" d_NAMES) (.var 5)) (b_solved_0))
  (.cons (.app 4 (.bin .add (.b1 .tuple (.lc (.zip (.glb "NAMES" d_NAMES) (.var 5)) (.cons (.nm 9) (.cons (.nm 10) .nil)) (.cons (.cmp .notin (.var 9) (.var 2)) .nil) (.tup (.cons (.var 10) (.cons (.con (.int 1)) .nil))) [9, 10])) (.var 8)))
  .nil)))
def c_solved : CSs (List Int) :=
  (.cons (.asg false 2 (.b1 .dict (.var 1)))
  (.cons (.asg false 3 (.lc (.seq (.glb "NAMES" d_NAMES)) (.nm 9) (.cons (.cmp .notin (.var 9) (.var 2)) .nil) (.var 9) [9]))
  (.cons (.asg true 4 (.lst .nil))
  (.cons (.forr (.nm 5) (.seq (.call "form_of" 1 g_form_of (.cons (.var 0) .nil))) (b_solved_1))
  (.cons (.frz 4 (.asgT (.cons (.nm 6) (.cons (.nm 7) .nil)) (.call "reduced" 2 g_reduced (.cons (.var 4) (.cons (.b1 .len (.var 3)) .nil)))))
  (.cons (.ret (.ife (.b1 .all (.lc (.seq (.var 7)) (.nm 5) .nil (.cmp .eq (.slL (.var 5) (.neg (.con (.int 3)))) (.glb "PLAIN" d_PLAIN)) [5])) (.tup (.cons (.var 3) (.cons (.var 6) .nil))) (.tup (.cons (.var 3) (.cons (.con (.non)) .nil)))))
  .nil))))))
def g_solved : Sem (List Int) := fnR 11 (c_solved)
def b_forced_0 : CSs (List Int) :=
  (.cons (.asg false 6 (.lc (.rng (.b1 .len (.var 2))) (.nm 7) (.cons (.cmp .ne (.ix (.var 5) (.var 7)) (.glb "ZERO" d_ZERO)) .nil) (.var 7) [7]))
  (.cons (.ife (.cmp .eq (.b1 .len (.var 6)) (.con (.int 1))) (.cons (.app 4 (.tup (.cons (.ix (.var 2) (.ix (.var 6) (.con (.int 0)))) (.cons (.slL (.var 5) (.neg (.con (.int 3)))) .nil))))
   .nil) .nil)
  .nil))
def c_forced : CSs (List Int) :=
  (.cons (.expr (.call "check_three" 2 g_check_three (.cons (.var 0) (.cons (.var 1) .nil))))
  (.cons (.asgT (.cons (.nm 2) (.cons (.nm 3) .nil)) (.call "solved" 2 g_solved (.cons (.var 0) (.cons (.var 1) .nil))))
  (.cons (.ife (.cmp .is (.var 3) (.con (.non))) (.cons .never
   .nil) .nil)
  (.cons (.asg true 4 (.b1 .list (.var 1)))
  (.cons (.forr (.nm 5) (.seq (.var 3)) (b_forced_0))
  (.cons (.frz 4 (.ret (.b1 .tuple (.b1 .sorted (.var 4)))))
  .nil))))))
def g_forced : Sem (List Int) := fnR 8 (c_forced)
def c_check_complete : CSs (List Int) :=
  (.cons (.ife (.cmp .lt (.b1 .len (.var 0)) (.b1 .len (.glb "NAMES" d_NAMES))) (.cons .never
   .nil) .nil)
  .nil)
def g_check_complete : Sem (List Int) := fnR 1 (c_check_complete)
def b_whole_measures_0 : CSs (List Int) :=
  (.cons (.asg false 1 (.bin .fdv (.bin .mul (.var 1) (.ix (.var 4) (.con (.int 1)))) (.call "divisor" 2 g_divisor (.cons (.var 1) (.cons (.ix (.var 4) (.con (.int 1))) .nil)))))
  .nil)
def b_whole_measures_1 : CSs (List Int) :=
  (.cons (.forr (.nm 4) (.seq (.var 3)) (b_whole_measures_0))
  .nil)
def c_whole_measures : CSs (List Int) :=
  (.cons (.asg false 1 (.con (.int 1)))
  (.cons (.forr (.cons (.nm 2) (.cons (.nm 3) .nil)) (.seq (.var 0)) (b_whole_measures_1))
  (.cons (.ret (.lc (.seq (.var 0)) (.cons (.nm 2) (.cons (.nm 3) .nil)) .nil (.lc (.seq (.var 3)) (.nm 4) .nil (.bin .fdv (.bin .mul (.ix (.var 4) (.con (.int 0))) (.var 1)) (.ix (.var 4) (.con (.int 1)))) [4]) [2, 3]))
  .nil)))
def g_whole_measures : Sem (List Int) := fnR 5 (c_whole_measures)
def c_less : CSs (List Int) :=
  (.cons (.ret (.lc (.zip (.var 0) (.var 1)) (.cons (.nm 3) (.cons (.nm 4) .nil)) .nil (.bin .sub (.var 3) (.bin .mul (.var 2) (.var 4))) [3, 4]))
  .nil)
def g_less : Sem (List Int) := fnR 5 (c_less)
def b_cleared_0 : CSs (List Int) :=
  (.cons (.asg false 2 (.ix (.var 0) (.con (.int 0))))
  (.cons (.asg false 3 (.lc (.seq (.slL (.var 0) (.con (.int 1)))) (.nm 4) .nil (.call "less" 3 g_less (.cons (.var 4) (.cons (.var 2) (.cons (.bin .fdv (.ix (.var 4) (.var 1)) (.ix (.var 2) (.var 1))) .nil)))) [4]))
  (.cons (.asg false 0 (.lc (.seq (.b1 .sorted (.lc (.seq (.bin .add (.lst (.cons (.var 2) .nil)) (.var 3))) (.nm 4) .nil (.tup (.cons (.cmp .eq (.ix (.var 4) (.var 1)) (.con (.int 0))) (.cons (.b1 .abs (.ix (.var 4) (.var 1))) (.cons (.var 4) .nil)))) [4]))) (.nm 4) .nil (.ix (.var 4) (.con (.int 2))) [4]))
  .nil)))
def c_cleared : CSs (List Int) :=
  (.cons (.asg false 0 (.b1 .sorted (.lc (.seq (.var 0)) (.nm 4) .nil (.tup (.cons (.cmp .eq (.ix (.var 4) (.var 1)) (.con (.int 0))) (.cons (.b1 .abs (.ix (.var 4) (.var 1))) (.cons (.var 4) .nil)))) [4])))
  (.cons (.asg false 0 (.lc (.seq (.var 0)) (.nm 4) .nil (.ix (.var 4) (.con (.int 2))) [4]))
  (.cons (.whl (.cmp .gt (.b1 .len (.lc (.seq (.var 0)) (.nm 4) (.cons (.cmp .ne (.ix (.var 4) (.var 1)) (.con (.int 0))) .nil) (.var 4) [4])) (.con (.int 1))) (b_cleared_0) (fuelIn 0))
  (.cons (.ret (.var 0))
  .nil))))
def g_cleared : Sem (List Int) := fnR 5 (c_cleared)
def b_kernel_0 : CSs (List Int) :=
  (.cons (.asg false 2 (.call "cleared" 2 g_cleared (.cons (.var 2) (.cons (.var 3) .nil))))
  (.cons (.ife (.and (.cmp .ne (.var 2) (.lst .nil)) (.one (.cmp .ne (.ix (.ix (.var 2) (.con (.int 0))) (.var 3)) (.con (.int 0))))) (.cons (.asg false 2 (.slL (.var 2) (.con (.int 1))))
   .nil) .nil)
  .nil))
def c_kernel : CSs (List Int) :=
  (.cons (.asg false 1 (.call "whole_measures" 1 g_whole_measures (.cons (.var 0) .nil)))
  (.cons (.asg false 2 (.lc (.rng (.con (.int 6))) (.nm 4) .nil (.bin .add (.ix (.var 1) (.var 4)) (.lc (.rng (.con (.int 6))) (.nm 6) .nil (.b1 .int (.cmp .eq (.var 6) (.var 4))) [6])) [4]))
  (.cons (.forr (.nm 3) (.rng (.con (.int 3))) (b_kernel_0))
  (.cons (.ret (.lc (.seq (.var 2)) (.nm 5) .nil (.slL (.var 5) (.con (.int 3))) [5]))
  .nil))))
def g_kernel : Sem (List Int) := fnR 7 (c_kernel)
def b_found_products_0 : CSs (List Int) :=
  (.cons (.asg false 1 (.call "cleared" 2 g_cleared (.cons (.var 1) (.cons (.var 3) .nil))))
  (.cons (.ife (.and (.cmp .ne (.var 1) (.lst .nil)) (.one (.cmp .ne (.ix (.ix (.var 1) (.con (.int 0))) (.var 3)) (.con (.int 0))))) (.cons (.asg false 4 (.ife (.cmp .gt (.ix (.ix (.var 1) (.con (.int 0))) (.var 3)) (.con (.int 0))) (.ix (.var 1) (.con (.int 0))) (.lc (.seq (.ix (.var 1) (.con (.int 0)))) (.nm 6) .nil (.neg (.var 6)) [6])))
   (.cons (.asg false 2 (.bin .add (.lc (.seq (.var 2)) (.nm 5) .nil (.call "less" 3 g_less (.cons (.var 5) (.cons (.var 4) (.cons (.bin .fdv (.ix (.var 5) (.var 3)) (.ix (.var 4) (.var 3))) .nil)))) [5]) (.lst (.cons (.var 4) .nil))))
   (.cons (.asg false 1 (.slL (.var 1) (.con (.int 1))))
   .nil))) .nil)
  .nil))
def c_found_products : CSs (List Int) :=
  (.cons (.par false false 1 2 (.call "kernel" 1 g_kernel (.cons (.var 0) .nil)) (.lst .nil))
  (.cons (.forr (.nm 3) (.rng (.con (.int 6))) (b_found_products_0))
  (.cons (.ret (.b1 .tuple (.lc (.seq (.var 2)) (.nm 5) .nil (.b1 .tuple (.var 5)) [5])))
  .nil)))
def g_found_products : Sem (List Int) := fnR 7 (c_found_products)
def c_plain_products : CSs (List Int) :=
  (.cons (.expr (.call "check_table" 1 g_check_table (.cons (.var 0) .nil)))
  (.cons (.expr (.call "check_complete" 1 g_check_complete (.cons (.var 0) .nil)))
  (.cons (.ret (.call "found_products" 1 g_found_products (.cons (.var 0) .nil)))
  .nil)))
def g_plain_products : Sem (List Int) := fnR 1 (c_plain_products)
def c_check_formula : CSs (List Int) :=
  (.cons (.ife (.not (.call "is_formula" 1 g_is_formula (.cons (.var 0) .nil))) (.cons .never
   .nil) .nil)
  .nil)
def g_check_formula : Sem (List Int) := fnR 1 (c_check_formula)
def c_found_names (self : Sem (List Int)) : CSs (List Int) :=
  (.cons (.ife (.cmp .eq (.ix (.var 0) (.con (.int 0))) (.con (.str "name"))) (.cons (.ret (.lst (.cons (.ix (.var 0) (.con (.int 1))) .nil)))
   .nil) .nil)
  (.cons (.asg false 1 (.lc (.seq (.call "parts_of" 1 g_parts_of (.cons (.var 0) .nil))) (.nm 2) .nil (.call "found_names" 1 self (.cons (.ix (.var 0) (.var 2)) .nil)) [2]))
  (.cons (.ret (.sset (.lc2 (.seq (.var 1)) (.nm 3) (.seq (.var 3)) (.nm 4) (.var 4) [3, 4] [4])))
  .nil)))
def g_found_names : Nat → Sem (List Int)
  | 0 => fun _ _ => .er
  | k + 1 => fnR 5 (c_found_names (g_found_names k))
def c_check_known : CSs (List Int) :=
  (.cons (.expr (.call "check_formula" 1 g_check_formula (.cons (.var 0) .nil)))
  (.cons (.expr (.call "check_table" 1 g_check_table (.cons (.var 1) .nil)))
  (.cons (.asg false 2 (.b1 .dict (.var 1)))
  (.cons (.ife (.b1 .any (.lc (.seq (.call "found_names" 1 (g_found_names 6) (.cons (.var 0) .nil))) (.nm 3) .nil (.cmp .notin (.var 3) (.var 2)) [3])) (.cons .never
   .nil) .nil)
  (.cons (.ret (.var 2))
  .nil)))))
def g_check_known : Sem (List Int) := fnR 4 (c_check_known)
def c_joined : CSs (List Int) :=
  (.cons (.ife (.cmp .eq (.var 0) (.con (.str "times"))) (.cons (.ret (.call "added" 3 g_added (.cons (.var 1) (.cons (.var 2) (.cons (.tup (.cons (.con (.int 1)) (.cons (.con (.int 1)) .nil))) .nil)))))
   .nil) .nil)
  (.cons (.ret (.ife (.cmp .eq (.var 0) (.con (.str "over"))) (.call "added" 3 g_added (.cons (.var 1) (.cons (.var 2) (.cons (.tup (.cons (.neg (.con (.int 1))) (.cons (.con (.int 1)) .nil))) .nil)))) (.var 1)))
  .nil))
def g_joined : Sem (List Int) := fnR 3 (c_joined)
def b_looked_0 (self : Sem (List Int)) : CSs (List Int) :=
  (.cons (.asgT (.cons (.nm 7) (.cons (.nm 8) .nil)) (.call "looked" 3 self (.cons (.ix (.var 0) (.var 5)) (.cons (.var 1) (.cons (.bin .add (.var 2) (.tup (.cons (.var 5) .nil))) .nil)))))
  (.cons (.ife (.cmp .isnot (.var 8) (.con (.non))) (.cons (.ret (.tup (.cons (.glb "PLAIN" d_PLAIN) (.cons (.var 8) .nil))))
   .nil) .nil)
  (.cons (.app 4 (.var 7))
  .nil)))
def c_looked (self : Sem (List Int)) : CSs (List Int) :=
  (.cons (.asg false 3 (.ix (.var 0) (.con (.int 0))))
  (.cons (.ife (.cmp .eq (.var 3) (.con (.str "name"))) (.cons (.ret (.tup (.cons (.ix (.var 1) (.ix (.var 0) (.con (.int 1)))) (.cons (.con (.non)) .nil))))
   .nil) .nil)
  (.cons (.ife (.cmp .eq (.var 3) (.con (.str "number"))) (.cons (.ret (.tup (.cons (.glb "PLAIN" d_PLAIN) (.cons (.con (.non)) .nil))))
   .nil) .nil)
  (.cons (.asg true 4 (.lst .nil))
  (.cons (.forr (.nm 5) (.seq (.call "parts_of" 1 g_parts_of (.cons (.var 0) .nil))) (b_looked_0 self))
  (.cons (.ife (.or (.and (.cmp .isin (.var 3) (.tup (.cons (.con (.str "plus")) (.cons (.con (.str "minus")) .nil)))) (.one (.cmp .ne (.ix (.var 4) (.con (.int 0))) (.ix (.var 4) (.con (.int 1)))))) (.one (.and (.cmp .eq (.var 3) (.con (.str "wave"))) (.one (.cmp .ne (.ix (.var 4) (.con (.int 0))) (.glb "PLAIN" d_PLAIN)))))) (.cons (.ret (.tup (.cons (.glb "PLAIN" d_PLAIN) (.cons (.var 2) .nil))))
   .nil) .nil)
  (.cons (.ife (.cmp .eq (.b1 .len (.var 4)) (.con (.int 2))) (.cons (.frz 4 (.frz 4 (.ret (.tup (.cons (.call "joined" 3 g_joined (.cons (.var 3) (.cons (.ix (.var 4) (.con (.int 0))) (.cons (.ix (.var 4) (.con (.int 1))) .nil)))) (.cons (.con (.non)) .nil))))))
   .nil) .nil)
  (.cons (.asg false 6 (.ife (.cmp .eq (.var 3) (.con (.str "power"))) (.tup (.cons (.ix (.var 0) (.con (.int 2))) (.cons (.con (.int 1)) .nil))) (.glb "ZERO" d_ZERO)))
  (.cons (.ife (.cmp .eq (.var 3) (.con (.str "root"))) (.cons (.asg false 6 (.tup (.cons (.con (.int 1)) (.cons (.con (.int 2)) .nil))))
   .nil) .nil)
  (.cons (.frz 4 (.ret (.tup (.cons (.b1 .tuple (.lc (.seq (.ix (.var 4) (.con (.int 0)))) (.nm 5) .nil (.call "times" 2 g_times (.cons (.var 5) (.cons (.var 6) .nil))) [5])) (.cons (.con (.non)) .nil)))))
  .nil))))))))))
def g_looked : Nat → Sem (List Int)
  | 0 => fun _ _ => .er
  | k + 1 => fnR 9 (c_looked (g_looked k))
def c_measure_of : CSs (List Int) :=
  (.cons (.asg false 2 (.call "check_known" 2 g_check_known (.cons (.var 0) (.cons (.var 1) .nil))))
  (.cons (.asgT (.cons (.nm 3) (.cons (.nm 4) .nil)) (.call "looked" 3 (g_looked 6) (.cons (.var 0) (.cons (.var 2) (.cons (.tup .nil) .nil)))))
  (.cons (.ife (.cmp .isnot (.var 4) (.con (.non))) (.cons .never
   .nil) .nil)
  (.cons (.ret (.var 3))
  .nil))))
def g_measure_of : Sem (List Int) := fnR 5 (c_measure_of)
def c_first_clash : CSs (List Int) :=
  (.cons (.asg false 2 (.call "check_known" 2 g_check_known (.cons (.var 0) (.cons (.var 1) .nil))))
  (.cons (.ret (.ix (.call "looked" 3 (g_looked 6) (.cons (.var 0) (.cons (.var 2) (.cons (.tup .nil) .nil)))) (.con (.int 1))))
  .nil))
def g_first_clash : Sem (List Int) := fnR 3 (c_first_clash)
def c_check_name : CSs (List Int) :=
  (.cons (.ife (.not (.call "is_name" 1 g_is_name (.cons (.var 0) .nil))) (.cons .never
   .nil) .nil)
  .nil)
def g_check_name : Sem (List Int) := fnR 1 (c_check_name)
def b_as_product_0 : CSs (List Int) :=
  (.cons (.app 4 (.bin .add (.b1 .tuple (.lc (.seq (.var 3)) (.nm 11) .nil (.ix (.ix (.var 2) (.var 11)) (.var 5)) [11])) (.tup (.cons (.ix (.ix (.var 2) (.var 1)) (.var 5)) .nil))))
  .nil)
def b_as_product_1 : CSs (List Int) :=
  (.cons (.asg false 10 (.ix (.lc (.rng (.con (.int 5))) (.nm 5) (.cons (.cmp .ne (.ix (.var 9) (.var 5)) (.glb "ZERO" d_ZERO)) .nil) (.var 5) [5]) (.con (.int 0))))
  (.cons (.seti 8 (.ix (.var 3) (.var 10)) (.ix (.var 9) (.con (.int 5))))
  .nil))
def c_as_product : CSs (List Int) :=
  (.cons (.expr (.call "check_table" 1 g_check_table (.cons (.var 0) .nil)))
  (.cons (.expr (.call "check_name" 1 g_check_name (.cons (.var 1) .nil)))
  (.cons (.expr (.call "check_complete" 1 g_check_complete (.cons (.var 0) .nil)))
  (.cons (.asg false 2 (.b1 .dict (.var 0)))
  (.cons (.asg false 3 (.lc (.seq (.glb "NAMES" d_NAMES)) (.nm 11) (.cons (.cmp .ne (.var 11) (.var 1)) .nil) (.var 11) [11]))
  (.cons (.asg true 4 (.lst .nil))
  (.cons (.forr (.nm 5) (.rng (.con (.int 3))) (b_as_product_0))
  (.cons (.frz 4 (.asgT (.cons (.nm 6) (.cons (.nm 7) .nil)) (.call "reduced" 2 g_reduced (.cons (.var 4) (.cons (.con (.int 5)) .nil)))))
  (.cons (.ife (.b1 .any (.lc (.seq (.var 7)) (.nm 9) .nil (.cmp .ne (.ix (.var 9) (.con (.int 5))) (.glb "ZERO" d_ZERO)) [9])) (.cons (.ret (.con (.non)))
   .nil) .nil)
  (.cons (.asg true 8 (.b1 .dict (.lc (.seq (.glb "NAMES" d_NAMES)) (.nm 11) .nil (.tup (.cons (.var 11) (.cons (.glb "ZERO" d_ZERO) .nil))) [11])))
  (.cons (.forr (.nm 9) (.seq (.var 6)) (b_as_product_1))
  (.cons (.frz 8 (.ret (.b1 .tuple (.lc (.seq (.glb "NAMES" d_NAMES)) (.nm 11) .nil (.ix (.var 8) (.var 11)) [11]))))
  .nil))))))))))))
def g_as_product : Sem (List Int) := fnR 12 (c_as_product)
def c_form : CSs (List Int) :=
  (.cons (.expr (.call "check_statements" 1 g_check_statements (.cons (.var 0) .nil)))
  (.cons (.ret (.call "form_of" 1 g_form_of (.cons (.var 0) .nil)))
  .nil))
def g_form : Sem (List Int) := fnR 1 (c_form)
def c__law_alone : CSs (List Int) :=
  (.cons (.ret (.ife (.cmp .gt (.var 0) (.con (.int 1))) (.tup (.cons (.tup (.cons (.con (.int 1)) (.cons (.con (.int 0)) (.cons (.con (.int 0)) (.cons (.con (.int 0)) (.cons (.con (.int 0)) (.cons (.con (.int 0)) .nil))))))) .nil)) (.tup .nil)))
  .nil)
def g__law_alone : Sem (List Int) := fnR 1 (c__law_alone)
def b_tuples_of_0 : CSs (List Int) :=
  (.cons (.asg false 1 (.bin .add (.var 1) (.lc (.seq (.var 1)) (.nm 3) .nil (.bin .add (.var 3) (.tup (.cons (.var 2) .nil))) [3])))
  .nil)
def c_tuples_of : CSs (List Int) :=
  (.cons (.asg false 1 (.lst (.cons (.tup .nil) .nil)))
  (.cons (.forr (.nm 2) (.rng (.var 0)) (b_tuples_of_0))
  (.cons (.ret (.lc (.seq (.b1 .sorted (.lc (.seq (.var 1)) (.nm 3) .nil (.tup (.cons (.b1 .len (.var 3)) (.cons (.var 3) .nil))) [3]))) (.nm 3) .nil (.ix (.var 3) (.con (.int 1))) [3]))
  .nil)))
def g_tuples_of : Sem (List Int) := fnR 4 (c_tuples_of)
def c_has_any : CSs (List Int) :=
  (.cons (.ret (.cmp .isnot (.ix (.call "solved" 2 g_solved (.cons (.var 0) (.cons (.var 1) .nil))) (.con (.int 1))) (.con (.non))))
  .nil)
def g_has_any : Sem (List Int) := fnR 2 (c_has_any)
def b_clashing_0 : CSs (List Int) :=
  (.cons (.ife (.not (.call "has_any" 2 g_has_any (.cons (.b1 .tuple (.lc (.seq (.var 2)) (.nm 3) .nil (.ix (.var 0) (.var 3)) [3])) (.cons (.var 1) .nil)))) (.cons (.ret (.var 2))
   .nil) .nil)
  .nil)
def c_clashing : CSs (List Int) :=
  (.cons (.expr (.call "check_three" 2 g_check_three (.cons (.var 0) (.cons (.var 1) .nil))))
  (.cons (.forr (.nm 2) (.seq (.call "tuples_of" 1 g_tuples_of (.cons (.b1 .len (.var 0)) .nil))) (b_clashing_0))
  (.cons (.ret (.con (.non)))
  .nil)))
def g_clashing : Sem (List Int) := fnR 4 (c_clashing)
def b_needless_0 : CSs (List Int) :=
  (.cons (.ife (.cmp .eq (.call "form_of" 1 g_form_of (.cons (.bin .add (.slH (.var 0) (.var 3)) (.slL (.var 0) (.bin .add (.var 3) (.con (.int 1))))) .nil)) (.var 1)) (.cons (.app 2 (.var 3))
   .nil) .nil)
  .nil)
def c_needless : CSs (List Int) :=
  (.cons (.expr (.call "check_statements" 1 g_check_statements (.cons (.var 0) .nil)))
  (.cons (.par false true 1 2 (.call "form_of" 1 g_form_of (.cons (.var 0) .nil)) (.lst .nil))
  (.cons (.forr (.nm 3) (.rng (.b1 .len (.var 0))) (b_needless_0))
  (.cons (.frz 2 (.ret (.b1 .tuple (.var 2))))
  .nil))))
def g_needless : Sem (List Int) := fnR 4 (c_needless)
def c_check_two : CSs (List Int) :=
  (.cons (.expr (.call "check_statements" 1 g_check_statements (.cons (.var 0) .nil)))
  (.cons (.ife (.not (.call "is_statement" 1 g_is_statement (.cons (.var 1) .nil))) (.cons .never
   .nil) .nil)
  .nil))
def g_check_two : Sem (List Int) := fnR 2 (c_check_two)
def b_vectors_0 : CSs (List Int) :=
  (.cons (.seti 5 (.var 6) (.call "over" 2 g_over (.cons (.tup (.cons (.neg (.ix (.var 4) (.var 3))) (.cons (.con (.int 1)) .nil))) (.cons (.tup (.cons (.ix (.var 4) (.var 6)) (.cons (.con (.int 1)) .nil))) .nil))))
  .nil)
def b_vectors_1 : CSs (List Int) :=
  (.cons (.ife (.cmp .notin (.var 3) (.var 1)) (.cons (.asg true 5 (.lc (.rng (.con (.int 6))) (.nm 7) .nil (.tup (.cons (.b1 .int (.cmp .eq (.var 7) (.var 3))) (.cons (.con (.int 1)) .nil))) [7]))
   (.cons (.forr (.cons (.nm 4) (.cons (.nm 6) .nil)) (.zip (.var 0) (.var 1)) (b_vectors_0))
   (.cons (.app 2 (.b1 .tuple (.var 5)))
   .nil))) .nil)
  .nil)
def c_vectors : CSs (List Int) :=
  (.cons (.asg false 1 (.lc (.seq (.var 0)) (.nm 4) .nil (.ix (.lc (.rng (.con (.int 6))) (.nm 3) (.cons (.cmp .ne (.ix (.var 4) (.var 3)) (.con (.int 0))) .nil) (.var 3) [3]) (.con (.int 0))) [4]))
  (.cons (.asg true 2 (.lst .nil))
  (.cons (.forr (.nm 3) (.rng (.con (.int 6))) (b_vectors_1))
  (.cons (.frz 2 (.ret (.var 2)))
  .nil))))
def g_vectors : Sem (List Int) := fnR 8 (c_vectors)
def c_table_of : CSs (List Int) :=
  (.cons (.ret (.b1 .tuple (.lc (.zip (.glb "NAMES" d_NAMES) (.var 0)) (.cons (.nm 1) (.cons (.nm 2) .nil)) .nil (.tup (.cons (.var 1) (.cons (.bin .add (.tup (.cons (.var 2) .nil)) (.slL (.glb "PLAIN" d_PLAIN) (.con (.int 1)))) .nil))) [1, 2])))
  .nil)
def g_table_of : Sem (List Int) := fnR 3 (c_table_of)
def b_is_brought_0 : CSs (List Int) :=
  (.cons (.par false false 2 3 (.bin .add (.bin .mul (.var 2) (.ix (.var 5) (.con (.int 1)))) (.bin .mul (.bin .mul (.var 4) (.ix (.var 5) (.con (.int 0)))) (.var 3))) (.bin .mul (.var 3) (.ix (.var 5) (.con (.int 1)))))
  .nil)
def c_is_brought : CSs (List Int) :=
  (.cons (.asgT (.cons (.nm 2) (.cons (.nm 3) .nil)) (.tup (.cons (.con (.int 0)) (.cons (.con (.int 1)) .nil))))
  (.cons (.forr (.cons (.nm 4) (.cons (.nm 5) .nil)) (.zip (.var 0) (.var 1)) (b_is_brought_0))
  (.cons (.ret (.cmp .eq (.var 2) (.con (.int 0))))
  .nil)))
def g_is_brought : Sem (List Int) := fnR 6 (c_is_brought)
def b_first_outside_0 : CSs (List Int) :=
  (.cons (.ife (.not (.b1 .all (.lc (.seq (.var 1)) (.nm 3) .nil (.call "is_brought" 2 g_is_brought (.cons (.var 3) (.cons (.var 2) .nil))) [3]))) (.cons (.ret (.call "table_of" 1 g_table_of (.cons (.var 2) .nil)))
   .nil) .nil)
  .nil)
def c_first_outside : CSs (List Int) :=
  (.cons (.forr (.nm 2) (.seq (.call "vectors" 1 g_vectors (.cons (.var 0) .nil))) (b_first_outside_0))
  (.cons (.ret (.con (.non)))
  .nil))
def g_first_outside : Sem (List Int) := fnR 4 (c_first_outside)
def c_showing_table : CSs (List Int) :=
  (.cons (.expr (.call "check_two" 2 g_check_two (.cons (.var 0) (.cons (.var 1) .nil))))
  (.cons (.ret (.call "first_outside" 2 g_first_outside (.cons (.call "form_of" 1 g_form_of (.cons (.var 0) .nil)) (.cons (.call "form_of" 1 g_form_of (.cons (.tup (.cons (.var 1) .nil)) .nil)) .nil))))
  .nil))
def g_showing_table : Sem (List Int) := fnR 2 (c_showing_table)
def c_check_both : CSs (List Int) :=
  (.cons (.expr (.call "check_statements" 1 g_check_statements (.cons (.var 0) .nil)))
  (.cons (.expr (.call "check_statements" 1 g_check_statements (.cons (.var 1) .nil)))
  .nil))
def g_check_both : Sem (List Int) := fnR 2 (c_check_both)
def c_parting_table : CSs (List Int) :=
  (.cons (.expr (.call "check_both" 2 g_check_both (.cons (.var 0) (.cons (.var 1) .nil))))
  (.cons (.par false false 2 3 (.call "form_of" 1 g_form_of (.cons (.var 0) .nil)) (.call "form_of" 1 g_form_of (.cons (.var 1) .nil)))
  (.cons (.asg false 4 (.call "first_outside" 2 g_first_outside (.cons (.var 2) (.cons (.var 3) .nil))))
  (.cons (.ret (.ife (.cmp .isnot (.var 4) (.con (.non))) (.var 4) (.call "first_outside" 2 g_first_outside (.cons (.var 3) (.cons (.var 2) .nil)))))
  .nil))))
def g_parting_table : Sem (List Int) := fnR 5 (c_parting_table)
def c__law_forms : CSs (List Int) :=
  (.cons (.asgU (.cons (.nm 3) (.cons (.nm 4) (.cons (.nm 5) (.cons (.nm 6) .nil)))) (.slH (.var 0) (.con (.int 4))))
  (.cons (.ife (.cmp .ne (.call "form" 1 g_form (.cons (.tup (.cons (.tup (.cons (.tup (.cons (.con (.str "power")) (.cons (.var 3) (.cons (.var 2) .nil)))) (.cons (.tup (.cons (.con (.str "power")) (.cons (.var 4) (.cons (.var 2) .nil)))) .nil))) .nil)) .nil)) (.tup (.cons (.tup (.cons (.con (.int 1)) (.cons (.neg (.con (.int 1))) (.cons (.con (.int 0)) (.cons (.con (.int 0)) (.cons (.con (.int 0)) (.cons (.con (.int 0)) .nil))))))) .nil))) (.cons (.ret (.con (.bl false)))
   .nil) .nil)
  (.cons (.ife (.cmp .ne (.call "form" 1 g_form (.cons (.tup (.cons (.tup (.cons (.var 3) (.cons (.tup (.cons (.con (.str "power")) (.cons (.var 3) (.cons (.var 2) .nil)))) .nil))) .nil)) .nil)) (.call "_law_alone" 1 g__law_alone (.cons (.var 2) .nil))) (.cons (.ret (.con (.bl false)))
   .nil) .nil)
  (.cons (.ife (.or (.cmp .isnot (.call "showing_table" 2 g_showing_table (.cons (.tup (.cons (.tup (.cons (.var 3) (.cons (.var 4) .nil))) .nil)) (.cons (.tup (.cons (.var 4) (.cons (.var 3) .nil))) .nil))) (.con (.non))) (.one (.cmp .is (.call "parting_table" 2 g_parting_table (.cons (.tup (.cons (.tup (.cons (.var 3) (.cons (.var 4) .nil))) .nil)) (.cons (.tup (.cons (.tup (.cons (.var 3) (.cons (.var 5) .nil))) .nil)) .nil))) (.con (.non))))) (.cons (.ret (.con (.bl false)))
   .nil) .nil)
  (.cons (.ife (.cmp .ne (.call "clashing" 2 g_clashing (.cons (.tup (.cons (.tup (.cons (.var 3) (.cons (.var 6) .nil))) (.cons (.tup (.cons (.var 3) (.cons (.var 4) .nil))) .nil))) (.cons (.var 1) .nil))) (.tup (.cons (.con (.int 1)) .nil))) (.cons (.ret (.con (.bl false)))
   .nil) .nil)
  (.cons (.ret (.cmp .eq (.call "needless" 1 g_needless (.cons (.tup (.cons (.tup (.cons (.var 3) (.cons (.var 4) .nil))) (.cons (.tup (.cons (.var 4) (.cons (.var 5) .nil))) (.cons (.tup (.cons (.var 3) (.cons (.var 5) .nil))) .nil)))) .nil)) (.tup (.cons (.con (.int 0)) (.cons (.con (.int 1)) (.cons (.con (.int 2)) .nil))))))
  .nil))))))
def g__law_forms : Sem (List Int) := fnR 7 (c__law_forms)
def b_powered_0 : CSs (List Int) :=
  (.cons (.asg false 2 (.call "times" 2 g_times (.cons (.var 2) (.cons (.var 0) .nil))))
  .nil)
def c_powered : CSs (List Int) :=
  (.cons (.asg false 2 (.glb "ONE" d_ONE))
  (.cons (.forr (.nm 3) (.rng (.b1 .abs (.var 1))) (b_powered_0))
  (.cons (.ret (.ife (.cmp .ge (.var 1) (.con (.int 0))) (.var 2) (.call "over" 2 g_over (.cons (.glb "ONE" d_ONE) (.cons (.var 2) .nil)))))
  .nil)))
def g_powered : Sem (List Int) := fnR 4 (c_powered)
def b_factor_of_0 : CSs (List Int) :=
  (.cons (.asg false 2 (.call "times" 2 g_times (.cons (.var 2) (.cons (.call "powered" 2 g_powered (.cons (.var 4) (.cons (.ix (.var 3) (.con (.int 0))) .nil))) .nil))))
  .nil)
def c_factor_of : CSs (List Int) :=
  (.cons (.ife (.not (.call "is_measure" 1 g_is_measure (.cons (.var 0) .nil))) (.cons .never
   .nil) .nil)
  (.cons (.ife (.or (.not (.isi (.var 1) .tuple)) (.one (.cmp .ne (.b1 .len (.var 1)) (.con (.int 3))))) (.cons .never
   .nil) .nil)
  (.cons (.ife (.not (.b1 .all (.lc (.seq (.var 1)) (.nm 4) .nil (.call "is_fraction" 4 g_is_fraction (.cons (.var 4) (.cons (.con (.int 1000)) (.cons (.con (.int 1)) (.cons (.con (.int 1000)) .nil))))) [4]))) (.cons .never
   .nil) .nil)
  (.cons (.ife (.not (.b1 .all (.lc (.seq (.var 0)) (.nm 3) .nil (.and (.cmp .eq (.ix (.var 3) (.con (.int 1))) (.con (.int 1))) (.one (.call "is_between" 3 g_is_between (.cons (.ix (.var 3) (.con (.int 0))) (.cons (.neg (.con (.int 20))) (.cons (.con (.int 20)) .nil)))))) [3]))) (.cons .never
   .nil) .nil)
  (.cons (.asg false 2 (.glb "ONE" d_ONE))
  (.cons (.forr (.cons (.nm 3) (.cons (.nm 4) .nil)) (.zip (.var 0) (.var 1)) (b_factor_of_0))
  (.cons (.ret (.var 2))
  .nil)))))))
def g_factor_of : Sem (List Int) := fnR 5 (c_factor_of)
def c_has_root (self : Sem (List Int)) : CSs (List Int) :=
  (.cons (.ret (.or (.cmp .isin (.ix (.var 0) (.con (.int 0))) (.tup (.cons (.con (.str "root")) (.cons (.con (.str "wave")) .nil)))) (.one (.b1 .any (.lc (.seq (.call "parts_of" 1 g_parts_of (.cons (.var 0) .nil))) (.nm 1) .nil (.call "has_root" 1 self (.cons (.ix (.var 0) (.var 1)) .nil)) [1])))))
  .nil)
def g_has_root : Nat → Sem (List Int)
  | 0 => fun _ _ => .er
  | k + 1 => fnR 2 (c_has_root (g_has_root k))
def c_value_with (self : Sem (List Int)) : CSs (List Int) :=
  (.cons (.asg false 2 (.ix (.var 0) (.con (.int 0))))
  (.cons (.ife (.cmp .eq (.var 2) (.con (.str "name"))) (.cons (.ret (.ix (.var 1) (.m1 .sindex (.glb "NAMES" d_NAMES) (.ix (.var 0) (.con (.int 1))))))
   .nil) .nil)
  (.cons (.ife (.cmp .eq (.var 2) (.con (.str "number"))) (.cons (.ret (.tup (.cons (.ix (.var 0) (.con (.int 1))) (.cons (.con (.int 1)) .nil))))
   .nil) .nil)
  (.cons (.asg false 3 (.lc (.seq (.call "parts_of" 1 g_parts_of (.cons (.var 0) .nil))) (.nm 5) .nil (.call "value_with" 2 self (.cons (.ix (.var 0) (.var 5)) (.cons (.var 1) .nil))) [5]))
  (.cons (.ife (.cmp .eq (.var 2) (.con (.str "plus"))) (.cons (.ret (.call "plus" 2 g_plus (.cons (.ix (.var 3) (.con (.int 0))) (.cons (.ix (.var 3) (.con (.int 1))) .nil))))
   .nil) .nil)
  (.cons (.ife (.cmp .eq (.var 2) (.con (.str "minus"))) (.cons (.ret (.call "plus" 2 g_plus (.cons (.ix (.var 3) (.con (.int 0))) (.cons (.call "times" 2 g_times (.cons (.ix (.var 3) (.con (.int 1))) (.cons (.tup (.cons (.neg (.con (.int 1))) (.cons (.con (.int 1)) .nil))) .nil))) .nil))))
   .nil) .nil)
  (.cons (.ife (.cmp .eq (.var 2) (.con (.str "times"))) (.cons (.ret (.call "times" 2 g_times (.cons (.ix (.var 3) (.con (.int 0))) (.cons (.ix (.var 3) (.con (.int 1))) .nil))))
   .nil) .nil)
  (.cons (.asg false 4 (.or (.and (.cmp .eq (.var 2) (.con (.str "over"))) (.one (.cmp .eq (.ix (.ix (.var 3) (.con (.int 1))) (.con (.int 0))) (.con (.int 0))))) (.one (.and (.cmp .eq (.var 2) (.con (.str "power"))) (.and (.cmp .lt (.ix (.var 0) (.con (.int 2))) (.con (.int 0))) (.one (.cmp .eq (.ix (.ix (.var 3) (.con (.int 0))) (.con (.int 0))) (.con (.int 0)))))))))
  (.cons (.ife (.var 4) (.cons .never
   .nil) .nil)
  (.cons (.ret (.ife (.cmp .eq (.var 2) (.con (.str "over"))) (.call "over" 2 g_over (.cons (.ix (.var 3) (.con (.int 0))) (.cons (.ix (.var 3) (.con (.int 1))) .nil))) (.call "powered" 2 g_powered (.cons (.ix (.var 3) (.con (.int 0))) (.cons (.ix (.var 0) (.con (.int 2))) .nil)))))
  .nil))))))))))
def g_value_with : Nat → Sem (List Int)
  | 0 => fun _ _ => .er
  | k + 1 => fnR 6 (c_value_with (g_value_with k))
def c_value_of : CSs (List Int) :=
  (.cons (.expr (.call "check_formula" 1 g_check_formula (.cons (.var 0) .nil)))
  (.cons (.ife (.or (.not (.isi (.var 1) .tuple)) (.one (.cmp .ne (.b1 .len (.var 1)) (.con (.int 6))))) (.cons .never
   .nil) .nil)
  (.cons (.ife (.not (.b1 .all (.lc (.seq (.var 1)) (.nm 2) .nil (.call "is_fraction" 4 g_is_fraction (.cons (.var 2) (.cons (.con (.int 99)) (.cons (.neg (.con (.int 99))) (.cons (.con (.int 99)) .nil))))) [2]))) (.cons .never
   .nil) .nil)
  (.cons (.ife (.call "has_root" 1 (g_has_root 6) (.cons (.var 0) .nil)) (.cons .never
   .nil) .nil)
  (.cons (.ret (.call "value_with" 2 (g_value_with 6) (.cons (.var 0) (.cons (.var 1) .nil))))
  .nil)))))
def g_value_of : Sem (List Int) := fnR 3 (c_value_of)
def b__law_frac_0 : CSs (List Int) :=
  (.cons (.par false false 2 3 (.var 3) (.bin .mod (.var 2) (.var 3)))
  .nil)
def c__law_frac : CSs (List Int) :=
  (.cons (.par false false 2 3 (.b1 .abs (.var 1)) (.b1 .abs (.var 0)))
  (.cons (.whl (.cmp .gt (.var 3) (.con (.int 0))) (b__law_frac_0) (fuelAt 3))
  (.cons (.asg false 2 (.ife (.cmp .gt (.var 1) (.con (.int 0))) (.var 2) (.neg (.var 2))))
  (.cons (.ret (.tup (.cons (.bin .fdv (.var 0) (.var 2)) (.cons (.bin .fdv (.var 1) (.var 2)) .nil))))
  .nil))))
def g__law_frac : Sem (List Int) := fnR 4 (c__law_frac)
def b_completion_0 : CSs (List Int) :=
  (.cons (.asg false 6 (.ix (.lc (.rng (.b1 .len (.var 2))) (.nm 8) (.cons (.cmp .ne (.ix (.var 5) (.var 8)) (.glb "ZERO" d_ZERO)) .nil) (.var 8) [8]) (.con (.int 0))))
  (.cons (.seti 4 (.ix (.var 2) (.var 6)) (.slL (.var 5) (.neg (.con (.int 3)))))
  .nil))
def c_completion : CSs (List Int) :=
  (.cons (.expr (.call "check_three" 2 g_check_three (.cons (.var 0) (.cons (.var 1) .nil))))
  (.cons (.asgT (.cons (.nm 2) (.cons (.nm 3) .nil)) (.call "solved" 2 g_solved (.cons (.var 0) (.cons (.var 1) .nil))))
  (.cons (.ife (.cmp .is (.var 3) (.con (.non))) (.cons (.ret (.con (.non)))
   .nil) .nil)
  (.cons (.asg true 4 (.b1 .dict (.bin .add (.lc (.seq (.var 2)) (.nm 7) .nil (.tup (.cons (.var 7) (.cons (.glb "PLAIN" d_PLAIN) .nil))) [7]) (.b1 .list (.var 1)))))
  (.cons (.forr (.nm 5) (.seq (.var 3)) (b_completion_0))
  (.cons (.frz 4 (.ret (.b1 .tuple (.lc (.seq (.glb "NAMES" d_NAMES)) (.nm 7) .nil (.tup (.cons (.var 7) (.cons (.ix (.var 4) (.var 7)) .nil))) [7]))))
  .nil))))))
def g_completion : Sem (List Int) := fnR 9 (c_completion)
def c_do_imply : CSs (List Int) :=
  (.cons (.expr (.call "check_two" 2 g_check_two (.cons (.var 0) (.cons (.var 1) .nil))))
  (.cons (.ret (.cmp .eq (.call "form_of" 1 g_form_of (.cons (.var 0) .nil)) (.call "form_of" 1 g_form_of (.cons (.bin .add (.var 0) (.tup (.cons (.var 1) .nil))) .nil))))
  .nil))
def g_do_imply : Sem (List Int) := fnR 2 (c_do_imply)
def c_count_free : CSs (List Int) :=
  (.cons (.expr (.call "check_statements" 1 g_check_statements (.cons (.var 0) .nil)))
  (.cons (.ret (.bin .sub (.con (.int 6)) (.b1 .len (.call "form_of" 1 g_form_of (.cons (.var 0) .nil)))))
  .nil))
def g_count_free : Sem (List Int) := fnR 1 (c_count_free)
def c_law (p : Addr) : CSs (List Int) :=
  (.cons (.asg false 2 (.lc (.seq (.con (.str "abcdef"))) (.nm 21) .nil (.tup (.cons (.con (.str "name")) (.cons (.var 21) .nil))) [21]))
  (.cons (.asgU (.cons (.nm 3) (.cons (.nm 4) (.cons (.nm 5) (.cons (.nm 6) (.cons (.nm 7) (.cons (.nm 8) .nil)))))) (.var 2))
  (.cons (.asgT (.cons (.nm 9) (.cons (.nm 10) (.cons (.nm 11) .nil))) (.tup (.cons (.tup (.cons (.tup (.cons (.con (.int 1)) (.cons (.con (.int 1)) .nil))) (.cons (.tup (.cons (.con (.int 0)) (.cons (.con (.int 1)) .nil))) (.cons (.tup (.cons (.con (.int 0)) (.cons (.con (.int 1)) .nil))) .nil)))) (.cons (.tup (.cons (.tup (.cons (.con (.int 0)) (.cons (.con (.int 1)) .nil))) (.cons (.tup (.cons (.con (.int 1)) (.cons (.con (.int 1)) .nil))) (.cons (.tup (.cons (.con (.int 0)) (.cons (.con (.int 1)) .nil))) .nil)))) (.cons (.tup (.cons (.tup (.cons (.con (.int 0)) (.cons (.con (.int 1)) .nil))) (.cons (.tup (.cons (.con (.int 0)) (.cons (.con (.int 1)) .nil))) (.cons (.tup (.cons (.con (.int 1)) (.cons (.con (.int 1)) .nil))) .nil)))) .nil)))))
  (.cons (.asg false 12 (.tup (.cons (.tup (.cons (.con (.str "a")) (.cons (.var 9) .nil))) (.cons (.tup (.cons (.con (.str "b")) (.cons (.var 10) .nil))) (.cons (.tup (.cons (.con (.str "c")) (.cons (.var 11) .nil))) .nil)))))
  (.cons (.par false false 13 14 (.tup (.cons (.con (.str "over")) (.cons (.var 3) (.cons (.var 5) .nil)))) (.tup (.cons (.con (.str "times")) (.cons (.var 4) (.cons (.tup (.cons (.con (.str "over")) (.cons (.var 3) (.cons (.tup (.cons (.con (.str "power")) (.cons (.var 5) (.cons (.con (.int 2)) .nil)))) .nil)))) .nil)))))
  (.cons (.ife (.cmp .ne (.call "measure_of" 2 g_measure_of (.cons (.var 14) (.cons (.var 12) .nil))) (.tup (.cons (.tup (.cons (.con (.int 1)) (.cons (.con (.int 1)) .nil))) (.cons (.tup (.cons (.con (.int 1)) (.cons (.con (.int 1)) .nil))) (.cons (.tup (.cons (.neg (.con (.int 2))) (.cons (.con (.int 1)) .nil))) .nil))))) (.cons (.ret (.con (.bl false)))
   .nil) .nil)
  (.cons (.ife (.cmp .ne (.call "first_clash" 2 g_first_clash (.cons (.tup (.cons (.con (.str "plus")) (.cons (.var 13) (.cons (.tup (.cons (.con (.str "power")) (.cons (.var 5) (.cons (.con (.int 2)) .nil)))) .nil)))) (.cons (.var 12) .nil))) (.tup .nil)) (.cons (.ret (.con (.bl false)))
   .nil) .nil)
  (.cons (.asg false 15 (.bin .add (.con (.int 1)) (.call "_law_draw" 3 (g__law_draw p) (.cons (.var 0) (.cons (.var 1) (.cons (.con (.int 9)) .nil))))))
  (.cons (.asg false 16 (.tup (.cons (.tup (.cons (.var 6) (.cons (.var 13) .nil))) (.cons (.tup (.cons (.var 7) (.cons (.var 14) .nil))) (.cons (.tup (.cons (.tup (.cons (.con (.str "times")) (.cons (.tup (.cons (.con (.str "number")) (.cons (.var 15) .nil))) (.cons (.var 8) .nil)))) (.cons (.tup (.cons (.con (.str "root")) (.cons (.tup (.cons (.con (.str "over")) (.cons (.var 3) (.cons (.var 6) .nil)))) .nil))) .nil))) .nil)))))
  (.cons (.asg false 17 (.call "forced" 2 g_forced (.cons (.var 16) (.cons (.var 12) .nil))))
  (.cons (.asg false 18 (.tup (.cons (.tup (.cons (.con (.str "d")) (.cons (.tup (.cons (.tup (.cons (.con (.int 1)) (.cons (.con (.int 1)) .nil))) (.cons (.tup (.cons (.con (.int 0)) (.cons (.con (.int 1)) .nil))) (.cons (.tup (.cons (.neg (.con (.int 1))) (.cons (.con (.int 1)) .nil))) .nil)))) .nil))) (.cons (.tup (.cons (.con (.str "e")) (.cons (.tup (.cons (.tup (.cons (.con (.int 1)) (.cons (.con (.int 1)) .nil))) (.cons (.tup (.cons (.con (.int 1)) (.cons (.con (.int 1)) .nil))) (.cons (.tup (.cons (.neg (.con (.int 2))) (.cons (.con (.int 1)) .nil))) .nil)))) .nil))) .nil))))
  (.cons (.ife (.cmp .ne (.slL (.var 17) (.con (.int 3))) (.bin .add (.var 18) (.tup (.cons (.tup (.cons (.con (.str "f")) (.cons (.tup (.cons (.tup (.cons (.con (.int 0)) (.cons (.con (.int 1)) .nil))) (.cons (.tup (.cons (.con (.int 0)) (.cons (.con (.int 1)) .nil))) (.cons (.tup (.cons (.con (.int 1)) (.cons (.con (.int 2)) .nil))) .nil)))) .nil))) .nil)))) (.cons (.ret (.con (.bl false)))
   .nil) .nil)
  (.cons (.ife (.or (.cmp .ne (.call "completion" 2 g_completion (.cons (.var 16) (.cons (.var 12) .nil))) (.var 17)) (.or (.not (.call "do_imply" 2 g_do_imply (.cons (.var 16) (.cons (.tup (.cons (.tup (.cons (.con (.str "times")) (.cons (.var 6) (.cons (.var 5) .nil)))) (.cons (.var 3) .nil))) .nil)))) (.one (.cmp .ne (.call "count_free" 1 g_count_free (.cons (.var 16) .nil)) (.con (.int 3)))))) (.cons (.ret (.con (.bl false)))
   .nil) .nil)
  (.cons (.asg false 19 (.tup (.cons (.tup (.cons (.con (.str "a")) (.cons (.var 9) .nil))) (.cons (.tup (.cons (.con (.str "b")) (.cons (.var 10) .nil))) (.cons (.tup (.cons (.con (.str "c")) (.cons (.var 11) .nil))) (.cons (.tup (.cons (.con (.str "d")) (.cons (.tup (.cons (.tup (.cons (.con (.int 1)) (.cons (.con (.int 1)) .nil))) (.cons (.tup (.cons (.con (.int 0)) (.cons (.con (.int 1)) .nil))) (.cons (.tup (.cons (.neg (.con (.int 2))) (.cons (.con (.int 1)) .nil))) .nil)))) .nil))) (.cons (.tup (.cons (.con (.str "e")) (.cons (.bin .mul (.tup (.cons (.tup (.cons (.con (.int 0)) (.cons (.con (.int 1)) .nil))) .nil)) (.con (.int 3))) .nil))) (.cons (.tup (.cons (.con (.str "f")) (.cons (.var 9) .nil))) .nil))))))))
  (.cons (.asg false 20 (.call "plain_products" 1 g_plain_products (.cons (.var 19) .nil)))
  (.cons (.ife (.or (.cmp .ne (.var 20) (.tup (.cons (.tup (.cons (.con (.int 1)) (.cons (.con (.int 0)) (.cons (.con (.int 0)) (.cons (.con (.int 0)) (.cons (.con (.int 0)) (.cons (.neg (.con (.int 1))) .nil))))))) (.cons (.tup (.cons (.con (.int 0)) (.cons (.con (.int 0)) (.cons (.con (.int 2)) (.cons (.con (.int 1)) (.cons (.con (.int 0)) (.cons (.neg (.con (.int 1))) .nil))))))) (.cons (.tup (.cons (.con (.int 0)) (.cons (.con (.int 0)) (.cons (.con (.int 0)) (.cons (.con (.int 0)) (.cons (.con (.int 1)) (.cons (.con (.int 0)) .nil))))))) .nil))))) (.one (.cmp .isnot (.call "as_product" 2 g_as_product (.cons (.var 19) (.cons (.con (.str "b")) .nil))) (.con (.non))))) (.cons (.ret (.con (.bl false)))
   .nil) .nil)
  (.cons (.ife (.cmp .ne (.call "as_product" 2 g_as_product (.cons (.var 19) (.cons (.con (.str "c")) .nil))) (.tup (.cons (.tup (.cons (.con (.int 1)) (.cons (.con (.int 2)) .nil))) (.cons (.tup (.cons (.con (.int 0)) (.cons (.con (.int 1)) .nil))) (.cons (.tup (.cons (.con (.int 0)) (.cons (.con (.int 1)) .nil))) (.cons (.tup (.cons (.neg (.con (.int 1))) (.cons (.con (.int 2)) .nil))) (.cons (.tup (.cons (.con (.int 0)) (.cons (.con (.int 1)) .nil))) (.cons (.tup (.cons (.con (.int 0)) (.cons (.con (.int 1)) .nil))) .nil)))))))) (.cons (.ret (.con (.bl false)))
   .nil) .nil)
  (.cons (.ife (.not (.call "_law_forms" 3 g__law_forms (.cons (.var 2) (.cons (.var 12) (.cons (.bin .add (.con (.int 1)) (.call "_law_draw" 3 (g__law_draw p) (.cons (.var 0) (.cons (.var 1) (.cons (.con (.int 3)) .nil))))) .nil))))) (.cons (.ret (.con (.bl false)))
   .nil) .nil)
  (.cons (.ife (.cmp .ne (.call "factor_of" 2 g_factor_of (.cons (.call "measure_of" 2 g_measure_of (.cons (.var 14) (.cons (.var 12) .nil))) (.cons (.tup (.cons (.tup (.cons (.con (.int 100)) (.cons (.con (.int 1)) .nil))) (.cons (.tup (.cons (.con (.int 1000)) (.cons (.con (.int 1)) .nil))) (.cons (.tup (.cons (.con (.int 1)) (.cons (.con (.int 1)) .nil))) .nil)))) .nil))) (.tup (.cons (.con (.int 100000)) (.cons (.con (.int 1)) .nil)))) (.cons (.ret (.con (.bl false)))
   .nil) .nil)
  (.cons (.ret (.cmp .eq (.call "value_of" 2 g_value_of (.cons (.tup (.cons (.con (.str "over")) (.cons (.tup (.cons (.con (.str "minus")) (.cons (.var 3) (.cons (.var 4) .nil)))) (.cons (.var 5) .nil)))) (.cons (.bin .add (.tup (.cons (.tup (.cons (.var 15) (.cons (.con (.int 1)) .nil))) (.cons (.tup (.cons (.con (.int 1)) (.cons (.con (.int 2)) .nil))) (.cons (.tup (.cons (.con (.int 3)) (.cons (.con (.int 1)) .nil))) .nil)))) (.bin .mul (.tup (.cons (.tup (.cons (.con (.int 0)) (.cons (.con (.int 1)) .nil))) .nil)) (.con (.int 3)))) .nil))) (.call "_law_frac" 2 g__law_frac (.cons (.bin .sub (.bin .mul (.con (.int 2)) (.var 15)) (.con (.int 1))) (.cons (.con (.int 6)) .nil)))))
  .nil))))))))))))))))))))

theorem sc_is_between : FnScope ["value", "low", "high"] ["value", "low", "high"] (defScope s_is_between) := ⟨rfl, rfl, rfl, by decide +kernel, rfl, by decide +kernel, by decide +kernel⟩
theorem k_is_between : chkSs ["value", "low", "high"] (defScope s_is_between) (c_is_between) (defBody s_is_between) = true := by kernel_rfl
theorem sc_is_name : FnScope ["value"] ["value"] (defScope s_is_name) := ⟨rfl, rfl, rfl, by decide +kernel, rfl, by decide +kernel, by decide +kernel⟩
theorem k_is_name : chkSs ["value"] (defScope s_is_name) (c_is_name) (defBody s_is_name) = true := by kernel_rfl
theorem sc_is_at_most : FnScope ["value", "deep", "name"] ["value", "deep"] (defScope s_is_at_most) := ⟨rfl, rfl, rfl, by decide +kernel, rfl, by decide +kernel, by decide +kernel⟩
theorem k_is_at_most (self : Sem (List Int)) : chkSs ["value", "deep", "name"] (defScope s_is_at_most) (c_is_at_most self) (defBody s_is_at_most) = true := by kernel_rfl
theorem sc_is_formula : FnScope ["value"] ["value"] (defScope s_is_formula) := ⟨rfl, rfl, rfl, by decide +kernel, rfl, by decide +kernel, by decide +kernel⟩
theorem k_is_formula : chkSs ["value"] (defScope s_is_formula) (c_is_formula) (defBody s_is_formula) = true := by kernel_rfl
theorem sc_is_statement : FnScope ["value", "part"] ["value"] (defScope s_is_statement) := ⟨rfl, rfl, rfl, by decide +kernel, rfl, by decide +kernel, by decide +kernel⟩
theorem k_is_statement : chkSs ["value", "part"] (defScope s_is_statement) (c_is_statement) (defBody s_is_statement) = true := by kernel_rfl
theorem sc_is_statements : FnScope ["value", "one"] ["value"] (defScope s_is_statements) := ⟨rfl, rfl, rfl, by decide +kernel, rfl, by decide +kernel, by decide +kernel⟩
theorem k_is_statements : chkSs ["value", "one"] (defScope s_is_statements) (c_is_statements) (defBody s_is_statements) = true := by kernel_rfl
theorem sc_check_statements : FnScope ["value"] ["value"] (defScope s_check_statements) := ⟨rfl, rfl, rfl, by decide +kernel, rfl, by decide +kernel, by decide +kernel⟩
theorem k_check_statements : chkSs ["value"] (defScope s_check_statements) (c_check_statements) (defBody s_check_statements) = true := by kernel_rfl
theorem sc_divisor : FnScope ["one", "other"] ["one", "other"] (defScope s_divisor) := ⟨rfl, rfl, rfl, by decide +kernel, rfl, by decide +kernel, by decide +kernel⟩
theorem k_divisor : chkSs ["one", "other"] (defScope s_divisor) (c_divisor) (defBody s_divisor) = true := by kernel_rfl
theorem sc_is_fraction : FnScope ["value", "most", "least", "bottom"] ["value", "most", "least", "bottom"] (defScope s_is_fraction) := ⟨rfl, rfl, rfl, by decide +kernel, rfl, by decide +kernel, by decide +kernel⟩
theorem k_is_fraction : chkSs ["value", "most", "least", "bottom"] (defScope s_is_fraction) (c_is_fraction) (defBody s_is_fraction) = true := by kernel_rfl
theorem sc_is_measure : FnScope ["value", "most", "part"] ["value"] (defScope s_is_measure) := ⟨rfl, rfl, rfl, by decide +kernel, rfl, by decide +kernel, by decide +kernel⟩
theorem k_is_measure : chkSs ["value", "most", "part"] (defScope s_is_measure) (c_is_measure) (defBody s_is_measure) = true := by kernel_rfl
theorem sc_is_table : FnScope ["value", "pair", "k"] ["value"] (defScope s_is_table) := ⟨rfl, rfl, rfl, by decide +kernel, rfl, by decide +kernel, by decide +kernel⟩
theorem k_is_table : chkSs ["value", "pair", "k"] (defScope s_is_table) (c_is_table) (defBody s_is_table) = true := by kernel_rfl
theorem sc_check_table : FnScope ["value"] ["value"] (defScope s_check_table) := ⟨rfl, rfl, rfl, by decide +kernel, rfl, by decide +kernel, by decide +kernel⟩
theorem k_check_table : chkSs ["value"] (defScope s_check_table) (c_check_table) (defBody s_check_table) = true := by kernel_rfl
theorem sc_check_three : FnScope ["statements", "table"] ["statements", "table"] (defScope s_check_three) := ⟨rfl, rfl, rfl, by decide +kernel, rfl, by decide +kernel, by decide +kernel⟩
theorem k_check_three : chkSs ["statements", "table"] (defScope s_check_three) (c_check_three) (defBody s_check_three) = true := by kernel_rfl
theorem sc_whole : FnScope ["row", "many", "part", "some", "shared", "one"] ["row"] (defScope s_whole) := ⟨rfl, rfl, rfl, by decide +kernel, rfl, by decide +kernel, by decide +kernel⟩
theorem k_whole : chkSs ["row", "many", "part", "some", "shared", "one"] (defScope s_whole) (c_whole) (defBody s_whole) = true := by kernel_rfl
theorem sc_fraction : FnScope ["top", "bottom", "shared"] ["top", "bottom"] (defScope s_fraction) := ⟨rfl, rfl, rfl, by decide +kernel, rfl, by decide +kernel, by decide +kernel⟩
theorem k_fraction : chkSs ["top", "bottom", "shared"] (defScope s_fraction) (c_fraction) (defBody s_fraction) = true := by kernel_rfl
theorem sc_plus : FnScope ["one", "other"] ["one", "other"] (defScope s_plus) := ⟨rfl, rfl, rfl, by decide +kernel, rfl, by decide +kernel, by decide +kernel⟩
theorem k_plus : chkSs ["one", "other"] (defScope s_plus) (c_plus) (defBody s_plus) = true := by kernel_rfl
theorem sc_times : FnScope ["one", "other"] ["one", "other"] (defScope s_times) := ⟨rfl, rfl, rfl, by decide +kernel, rfl, by decide +kernel, by decide +kernel⟩
theorem k_times : chkSs ["one", "other"] (defScope s_times) (c_times) (defBody s_times) = true := by kernel_rfl
theorem sc_added : FnScope ["one", "other", "many", "x", "y"] ["one", "other", "many"] (defScope s_added) := ⟨rfl, rfl, rfl, by decide +kernel, rfl, by decide +kernel, by decide +kernel⟩
theorem k_added : chkSs ["one", "other", "many", "x", "y"] (defScope s_added) (c_added) (defBody s_added) = true := by kernel_rfl
theorem sc_over : FnScope ["one", "other"] ["one", "other"] (defScope s_over) := ⟨rfl, rfl, rfl, by decide +kernel, rfl, by decide +kernel, by decide +kernel⟩
theorem k_over : chkSs ["one", "other"] (defScope s_over) (c_over) (defBody s_over) = true := by kernel_rfl
theorem sc_reduced : FnScope ["rows", "wide", "found", "left", "place", "some", "head", "row", "part"] ["rows", "wide"] (defScope s_reduced) := ⟨rfl, rfl, rfl, by decide +kernel, rfl, by decide +kernel, by decide +kernel⟩
theorem k_reduced : chkSs ["rows", "wide", "found", "left", "place", "some", "head", "row", "part"] (defScope s_reduced) (c_reduced) (defBody s_reduced) = true := by kernel_rfl
theorem sc_parts_of : FnScope ["formula"] ["formula"] (defScope s_parts_of) := ⟨rfl, rfl, rfl, by decide +kernel, rfl, by decide +kernel, by decide +kernel⟩
theorem k_parts_of : chkSs ["formula"] (defScope s_parts_of) (c_parts_of) (defBody s_parts_of) = true := by kernel_rfl
theorem sc_asked_by : FnScope ["formula", "name", "some", "rows", "first", "factor", "part", "exponents", "more", "row", "one"] ["formula"] (defScope s_asked_by) := ⟨rfl, rfl, rfl, by decide +kernel, rfl, by decide +kernel, by decide +kernel⟩
theorem k_asked_by (self : Sem (List Int)) : chkSs ["formula", "name", "some", "rows", "first", "factor", "part", "exponents", "more", "row", "one"] (defScope s_asked_by) (c_asked_by self) (defBody s_asked_by) = true := by kernel_rfl
theorem sc_rows_of : FnScope ["statements", "found", "one", "other", "first", "second"] ["statements"] (defScope s_rows_of) := ⟨rfl, rfl, rfl, by decide +kernel, rfl, by decide +kernel, by decide +kernel⟩
theorem k_rows_of : chkSs ["statements", "found", "one", "other", "first", "second"] (defScope s_rows_of) (c_rows_of) (defBody s_rows_of) = true := by kernel_rfl
theorem sc_form_of : FnScope ["statements", "row"] ["statements"] (defScope s_form_of) := ⟨rfl, rfl, rfl, by decide +kernel, rfl, by decide +kernel, by decide +kernel⟩
theorem k_form_of : chkSs ["statements", "row"] (defScope s_form_of) (c_form_of) (defBody s_form_of) = true := by kernel_rfl
theorem sc_solved : FnScope ["statements", "table", "known", "names", "rows", "row", "found", "left", "sums", "name", "many"] ["statements", "table"] (defScope s_solved) := ⟨rfl, rfl, rfl, by decide +kernel, rfl, by decide +kernel, by decide +kernel⟩
theorem k_solved : chkSs ["statements", "table", "known", "names", "rows", "row", "found", "left", "sums", "name", "many"] (defScope s_solved) (c_solved) (defBody s_solved) = true := by kernel_rfl
theorem sc_forced : FnScope ["statements", "table", "names", "rows", "found", "row", "some", "place"] ["statements", "table"] (defScope s_forced) := ⟨rfl, rfl, rfl, by decide +kernel, rfl, by decide +kernel, by decide +kernel⟩
theorem k_forced : chkSs ["statements", "table", "names", "rows", "found", "row", "some", "place"] (defScope s_forced) (c_forced) (defBody s_forced) = true := by kernel_rfl
theorem sc_check_complete : FnScope ["table"] ["table"] (defScope s_check_complete) := ⟨rfl, rfl, rfl, by decide +kernel, rfl, by decide +kernel, by decide +kernel⟩
theorem k_check_complete : chkSs ["table"] (defScope s_check_complete) (c_check_complete) (defBody s_check_complete) = true := by kernel_rfl
theorem sc_whole_measures : FnScope ["table", "many", "name", "measure", "part"] ["table"] (defScope s_whole_measures) := ⟨rfl, rfl, rfl, by decide +kernel, rfl, by decide +kernel, by decide +kernel⟩
theorem k_whole_measures : chkSs ["table", "many", "name", "measure", "part"] (defScope s_whole_measures) (c_whole_measures) (defBody s_whole_measures) = true := by kernel_rfl
theorem sc_less : FnScope ["one", "other", "many", "x", "y"] ["one", "other", "many"] (defScope s_less) := ⟨rfl, rfl, rfl, by decide +kernel, rfl, by decide +kernel, by decide +kernel⟩
theorem k_less : chkSs ["one", "other", "many", "x", "y"] (defScope s_less) (c_less) (defBody s_less) = true := by kernel_rfl
theorem sc_cleared : FnScope ["rows", "place", "first", "rest", "row"] ["rows", "place"] (defScope s_cleared) := ⟨rfl, rfl, rfl, by decide +kernel, rfl, by decide +kernel, by decide +kernel⟩
theorem k_cleared : chkSs ["rows", "place", "first", "rest", "row"] (defScope s_cleared) (c_cleared) (defBody s_cleared) = true := by kernel_rfl
theorem sc_kernel : FnScope ["table", "images", "rows", "place", "k", "row", "j"] ["table"] (defScope s_kernel) := ⟨rfl, rfl, rfl, by decide +kernel, rfl, by decide +kernel, by decide +kernel⟩
theorem k_kernel : chkSs ["table", "images", "rows", "place", "k", "row", "j"] (defScope s_kernel) (c_kernel) (defBody s_kernel) = true := by kernel_rfl
theorem sc_found_products : FnScope ["table", "rows", "found", "place", "head", "row", "one"] ["table"] (defScope s_found_products) := ⟨rfl, rfl, rfl, by decide +kernel, rfl, by decide +kernel, by decide +kernel⟩
theorem k_found_products : chkSs ["table", "rows", "found", "place", "head", "row", "one"] (defScope s_found_products) (c_found_products) (defBody s_found_products) = true := by kernel_rfl
theorem sc_plain_products : FnScope ["table"] ["table"] (defScope s_plain_products) := ⟨rfl, rfl, rfl, by decide +kernel, rfl, by decide +kernel, by decide +kernel⟩
theorem k_plain_products : chkSs ["table"] (defScope s_plain_products) (c_plain_products) (defBody s_plain_products) = true := by kernel_rfl
theorem sc_check_formula : FnScope ["value"] ["value"] (defScope s_check_formula) := ⟨rfl, rfl, rfl, by decide +kernel, rfl, by decide +kernel, by decide +kernel⟩
theorem k_check_formula : chkSs ["value"] (defScope s_check_formula) (c_check_formula) (defBody s_check_formula) = true := by kernel_rfl
theorem sc_found_names : FnScope ["formula", "some", "place", "row", "name"] ["formula"] (defScope s_found_names) := ⟨rfl, rfl, rfl, by decide +kernel, rfl, by decide +kernel, by decide +kernel⟩
theorem k_found_names (self : Sem (List Int)) : chkSs ["formula", "some", "place", "row", "name"] (defScope s_found_names) (c_found_names self) (defBody s_found_names) = true := by kernel_rfl
theorem sc_check_known : FnScope ["formula", "table", "known", "name"] ["formula", "table"] (defScope s_check_known) := ⟨rfl, rfl, rfl, by decide +kernel, rfl, by decide +kernel, by decide +kernel⟩
theorem k_check_known : chkSs ["formula", "table", "known", "name"] (defScope s_check_known) (c_check_known) (defBody s_check_known) = true := by kernel_rfl
theorem sc_joined : FnScope ["name", "one", "other"] ["name", "one", "other"] (defScope s_joined) := ⟨rfl, rfl, rfl, by decide +kernel, rfl, by decide +kernel, by decide +kernel⟩
theorem k_joined : chkSs ["name", "one", "other"] (defScope s_joined) (c_joined) (defBody s_joined) = true := by kernel_rfl
theorem sc_looked : FnScope ["formula", "known", "place", "name", "some", "part", "factor", "measure", "clash"] ["formula", "known", "place"] (defScope s_looked) := ⟨rfl, rfl, rfl, by decide +kernel, rfl, by decide +kernel, by decide +kernel⟩
theorem k_looked (self : Sem (List Int)) : chkSs ["formula", "known", "place", "name", "some", "part", "factor", "measure", "clash"] (defScope s_looked) (c_looked self) (defBody s_looked) = true := by kernel_rfl
theorem sc_measure_of : FnScope ["formula", "table", "known", "measure", "clash"] ["formula", "table"] (defScope s_measure_of) := ⟨rfl, rfl, rfl, by decide +kernel, rfl, by decide +kernel, by decide +kernel⟩
theorem k_measure_of : chkSs ["formula", "table", "known", "measure", "clash"] (defScope s_measure_of) (c_measure_of) (defBody s_measure_of) = true := by kernel_rfl
theorem sc_first_clash : FnScope ["formula", "table", "known"] ["formula", "table"] (defScope s_first_clash) := ⟨rfl, rfl, rfl, by decide +kernel, rfl, by decide +kernel, by decide +kernel⟩
theorem k_first_clash : chkSs ["formula", "table", "known"] (defScope s_first_clash) (c_first_clash) (defBody s_first_clash) = true := by kernel_rfl
theorem sc_check_name : FnScope ["value"] ["value"] (defScope s_check_name) := ⟨rfl, rfl, rfl, by decide +kernel, rfl, by decide +kernel, by decide +kernel⟩
theorem k_check_name : chkSs ["value"] (defScope s_check_name) (c_check_name) (defBody s_check_name) = true := by kernel_rfl
theorem sc_as_product : FnScope ["table", "name", "known", "others", "rows", "place", "found", "left", "some", "row", "head", "other"] ["table", "name"] (defScope s_as_product) := ⟨rfl, rfl, rfl, by decide +kernel, rfl, by decide +kernel, by decide +kernel⟩
theorem k_as_product : chkSs ["table", "name", "known", "others", "rows", "place", "found", "left", "some", "row", "head", "other"] (defScope s_as_product) (c_as_product) (defBody s_as_product) = true := by kernel_rfl
theorem sc_form : FnScope ["statements"] ["statements"] (defScope s_form) := ⟨rfl, rfl, rfl, by decide +kernel, rfl, by decide +kernel, by decide +kernel⟩
theorem k_form : chkSs ["statements"] (defScope s_form) (c_form) (defBody s_form) = true := by kernel_rfl
theorem sc__law_alone : FnScope ["k"] ["k"] (defScope s__law_alone) := ⟨rfl, rfl, rfl, by decide +kernel, rfl, by decide +kernel, by decide +kernel⟩
theorem k__law_alone : chkSs ["k"] (defScope s__law_alone) (c__law_alone) (defBody s__law_alone) = true := by kernel_rfl
theorem sc_tuples_of : FnScope ["many", "found", "number", "row"] ["many"] (defScope s_tuples_of) := ⟨rfl, rfl, rfl, by decide +kernel, rfl, by decide +kernel, by decide +kernel⟩
theorem k_tuples_of : chkSs ["many", "found", "number", "row"] (defScope s_tuples_of) (c_tuples_of) (defBody s_tuples_of) = true := by kernel_rfl
theorem sc_has_any : FnScope ["statements", "table"] ["statements", "table"] (defScope s_has_any) := ⟨rfl, rfl, rfl, by decide +kernel, rfl, by decide +kernel, by decide +kernel⟩
theorem k_has_any : chkSs ["statements", "table"] (defScope s_has_any) (c_has_any) (defBody s_has_any) = true := by kernel_rfl
theorem sc_clashing : FnScope ["statements", "table", "numbers", "number"] ["statements", "table"] (defScope s_clashing) := ⟨rfl, rfl, rfl, by decide +kernel, rfl, by decide +kernel, by decide +kernel⟩
theorem k_clashing : chkSs ["statements", "table", "numbers", "number"] (defScope s_clashing) (c_clashing) (defBody s_clashing) = true := by kernel_rfl
theorem sc_needless : FnScope ["statements", "due", "found", "number"] ["statements"] (defScope s_needless) := ⟨rfl, rfl, rfl, by decide +kernel, rfl, by decide +kernel, by decide +kernel⟩
theorem k_needless : chkSs ["statements", "due", "found", "number"] (defScope s_needless) (c_needless) (defBody s_needless) = true := by kernel_rfl
theorem sc_check_two : FnScope ["statements", "statement"] ["statements", "statement"] (defScope s_check_two) := ⟨rfl, rfl, rfl, by decide +kernel, rfl, by decide +kernel, by decide +kernel⟩
theorem k_check_two : chkSs ["statements", "statement"] (defScope s_check_two) (c_check_two) (defBody s_check_two) = true := by kernel_rfl
theorem sc_vectors : FnScope ["rows", "heads", "found", "place", "row", "some", "head", "one"] ["rows"] (defScope s_vectors) := ⟨rfl, rfl, rfl, by decide +kernel, rfl, by decide +kernel, by decide +kernel⟩
theorem k_vectors : chkSs ["rows", "heads", "found", "place", "row", "some", "head", "one"] (defScope s_vectors) (c_vectors) (defBody s_vectors) = true := by kernel_rfl
theorem sc_table_of : FnScope ["vector", "name", "part"] ["vector"] (defScope s_table_of) := ⟨rfl, rfl, rfl, by decide +kernel, rfl, by decide +kernel, by decide +kernel⟩
theorem k_table_of : chkSs ["vector", "name", "part"] (defScope s_table_of) (c_table_of) (defBody s_table_of) = true := by kernel_rfl
theorem sc_is_brought : FnScope ["row", "vector", "top", "bottom", "many", "part"] ["row", "vector"] (defScope s_is_brought) := ⟨rfl, rfl, rfl, by decide +kernel, rfl, by decide +kernel, by decide +kernel⟩
theorem k_is_brought : chkSs ["row", "vector", "top", "bottom", "many", "part"] (defScope s_is_brought) (c_is_brought) (defBody s_is_brought) = true := by kernel_rfl
theorem sc_first_outside : FnScope ["rows", "others", "vector", "row"] ["rows", "others"] (defScope s_first_outside) := ⟨rfl, rfl, rfl, by decide +kernel, rfl, by decide +kernel, by decide +kernel⟩
theorem k_first_outside : chkSs ["rows", "others", "vector", "row"] (defScope s_first_outside) (c_first_outside) (defBody s_first_outside) = true := by kernel_rfl
theorem sc_showing_table : FnScope ["statements", "statement"] ["statements", "statement"] (defScope s_showing_table) := ⟨rfl, rfl, rfl, by decide +kernel, rfl, by decide +kernel, by decide +kernel⟩
theorem k_showing_table : chkSs ["statements", "statement"] (defScope s_showing_table) (c_showing_table) (defBody s_showing_table) = true := by kernel_rfl
theorem sc_check_both : FnScope ["one", "other"] ["one", "other"] (defScope s_check_both) := ⟨rfl, rfl, rfl, by decide +kernel, rfl, by decide +kernel, by decide +kernel⟩
theorem k_check_both : chkSs ["one", "other"] (defScope s_check_both) (c_check_both) (defBody s_check_both) = true := by kernel_rfl
theorem sc_parting_table : FnScope ["one", "other", "first", "second", "found"] ["one", "other"] (defScope s_parting_table) := ⟨rfl, rfl, rfl, by decide +kernel, rfl, by decide +kernel, by decide +kernel⟩
theorem k_parting_table : chkSs ["one", "other", "first", "second", "found"] (defScope s_parting_table) (c_parting_table) (defBody s_parting_table) = true := by kernel_rfl
theorem sc__law_forms : FnScope ["names", "table", "k", "a", "b", "c", "d"] ["names", "table", "k"] (defScope s__law_forms) := ⟨rfl, rfl, rfl, by decide +kernel, rfl, by decide +kernel, by decide +kernel⟩
theorem k__law_forms : chkSs ["names", "table", "k", "a", "b", "c", "d"] (defScope s__law_forms) (c__law_forms) (defBody s__law_forms) = true := by kernel_rfl
theorem sc_powered : FnScope ["one", "many", "found", "step"] ["one", "many"] (defScope s_powered) := ⟨rfl, rfl, rfl, by decide +kernel, rfl, by decide +kernel, by decide +kernel⟩
theorem k_powered : chkSs ["one", "many", "found", "step"] (defScope s_powered) (c_powered) (defBody s_powered) = true := by kernel_rfl
theorem sc_factor_of : FnScope ["measure", "factors", "found", "part", "one"] ["measure", "factors"] (defScope s_factor_of) := ⟨rfl, rfl, rfl, by decide +kernel, rfl, by decide +kernel, by decide +kernel⟩
theorem k_factor_of : chkSs ["measure", "factors", "found", "part", "one"] (defScope s_factor_of) (c_factor_of) (defBody s_factor_of) = true := by kernel_rfl
theorem sc_has_root : FnScope ["formula", "part"] ["formula"] (defScope s_has_root) := ⟨rfl, rfl, rfl, by decide +kernel, rfl, by decide +kernel, by decide +kernel⟩
theorem k_has_root (self : Sem (List Int)) : chkSs ["formula", "part"] (defScope s_has_root) (c_has_root self) (defBody s_has_root) = true := by kernel_rfl
theorem sc_value_with : FnScope ["formula", "numbers", "name", "some", "is_under", "part"] ["formula", "numbers"] (defScope s_value_with) := ⟨rfl, rfl, rfl, by decide +kernel, rfl, by decide +kernel, by decide +kernel⟩
theorem k_value_with (self : Sem (List Int)) : chkSs ["formula", "numbers", "name", "some", "is_under", "part"] (defScope s_value_with) (c_value_with self) (defBody s_value_with) = true := by kernel_rfl
theorem sc_value_of : FnScope ["formula", "numbers", "one"] ["formula", "numbers"] (defScope s_value_of) := ⟨rfl, rfl, rfl, by decide +kernel, rfl, by decide +kernel, by decide +kernel⟩
theorem k_value_of : chkSs ["formula", "numbers", "one"] (defScope s_value_of) (c_value_of) (defBody s_value_of) = true := by kernel_rfl
theorem sc__law_frac : FnScope ["top", "bottom", "one", "other"] ["top", "bottom"] (defScope s__law_frac) := ⟨rfl, rfl, rfl, by decide +kernel, rfl, by decide +kernel, by decide +kernel⟩
theorem k__law_frac : chkSs ["top", "bottom", "one", "other"] (defScope s__law_frac) (c__law_frac) (defBody s__law_frac) = true := by kernel_rfl
theorem sc_completion : FnScope ["statements", "table", "names", "rows", "found", "row", "head", "name", "place"] ["statements", "table"] (defScope s_completion) := ⟨rfl, rfl, rfl, by decide +kernel, rfl, by decide +kernel, by decide +kernel⟩
theorem k_completion : chkSs ["statements", "table", "names", "rows", "found", "row", "head", "name", "place"] (defScope s_completion) (c_completion) (defBody s_completion) = true := by kernel_rfl
theorem sc_do_imply : FnScope ["statements", "statement"] ["statements", "statement"] (defScope s_do_imply) := ⟨rfl, rfl, rfl, by decide +kernel, rfl, by decide +kernel, by decide +kernel⟩
theorem k_do_imply : chkSs ["statements", "statement"] (defScope s_do_imply) (c_do_imply) (defBody s_do_imply) = true := by kernel_rfl
theorem sc_count_free : FnScope ["statements"] ["statements"] (defScope s_count_free) := ⟨rfl, rfl, rfl, by decide +kernel, rfl, by decide +kernel, by decide +kernel⟩
theorem k_count_free : chkSs ["statements"] (defScope s_count_free) (c_count_free) (defBody s_count_free) = true := by kernel_rfl
theorem sc_law : FnScope ["script", "town", "names", "a", "b", "c", "d", "e", "f", "long", "mass", "time", "table", "speed", "force", "n", "states", "told", "due", "swing", "rows", "name"] ["script"] (defScope s_law) := ⟨rfl, rfl, rfl, by decide +kernel, rfl, by decide +kernel, by decide +kernel⟩
theorem k_law (p : Addr) : chkSs ["script", "town", "names", "a", "b", "c", "d", "e", "f", "long", "mass", "time", "table", "speed", "force", "n", "states", "told", "due", "swing", "rows", "name"] (defScope s_law) (c_law p) (defBody s_law).tail = true := by kernel_rfl
section
variable {P : Program} {w : World} {K : PySem.W.Frag} {mg : Str → Option Value} {base : Heap} {n : Nat} {p : Addr}
theorem H_is_between (D : DefAt K mg "is_between" s_is_between) (blt : ∀ y ∈ bltNames, mg y = none)   : Has P w K mg base (townSys p) (n + 1) "is_between" 3 g_is_between := by
  obtain ⟨f, fd, F, hm⟩ := D
  exact fn_sound F sc_is_between hm (F.binds (ps := ["value", "low", "high"]) fun _ _ _ _ _ _ us hl => match us, hl with | [_, _, _], _ => rfl) blt (k_is_between) (by unfold c_is_between; repeat' (first | exact True.intro | assumption | apply And.intro))
theorem H_is_name (D : DefAt K mg "is_name" s_is_name) (blt : ∀ y ∈ bltNames, mg y = none)  (gl_NAMES : Glb K mg "NAMES" d_NAMES) : Has P w K mg base (townSys p) (n + 1) "is_name" 1 g_is_name := by
  obtain ⟨f, fd, F, hm⟩ := D
  exact fn_sound F sc_is_name hm (F.binds (ps := ["value"]) fun _ _ _ _ _ _ us hl => match us, hl with | [_], _ => rfl) blt (k_is_name) (by unfold c_is_name; repeat' (first | exact True.intro | assumption | apply And.intro))
theorem H_is_at_most (D : DefAt K mg "is_at_most" s_is_at_most) (blt : ∀ y ∈ bltNames, mg y = none) (h_is_between : Has P w K mg base (townSys p) n "is_between" 3 g_is_between) (h_is_name : Has P w K mg base (townSys p) n "is_name" 1 g_is_name)  : ∀ k, Has P w K mg base (townSys p) (n + 1 + k) "is_at_most" 2 (g_is_at_most k) := by
  obtain ⟨f, fd, F, hm⟩ := D
  have hb := F.binds (ps := ["value", "deep"]) fun _ _ _ _ _ _ us hl => match us, hl with | [_, _], _ => rfl
  intro k
  induction k with
  | zero => exact never_sound F sc_is_at_most hm hb
  | succ k ih =>
    have h_is_between := h_is_between.mono (show n ≤ n + 1 + k by omega); have h_is_name := h_is_name.mono (show n ≤ n + 1 + k by omega);
    exact fn_sound F sc_is_at_most hm hb blt (k_is_at_most (g_is_at_most k)) (by unfold c_is_at_most; repeat' (first | exact True.intro | assumption | apply And.intro))
theorem H_is_formula (D : DefAt K mg "is_formula" s_is_formula) (blt : ∀ y ∈ bltNames, mg y = none) (h_is_at_most : Has P w K mg base (townSys p) n "is_at_most" 2 (g_is_at_most 6))  : Has P w K mg base (townSys p) (n + 1) "is_formula" 1 g_is_formula := by
  obtain ⟨f, fd, F, hm⟩ := D
  exact fn_sound F sc_is_formula hm (F.binds (ps := ["value"]) fun _ _ _ _ _ _ us hl => match us, hl with | [_], _ => rfl) blt (k_is_formula) (by unfold c_is_formula; repeat' (first | exact True.intro | assumption | apply And.intro))
theorem H_is_statement (D : DefAt K mg "is_statement" s_is_statement) (blt : ∀ y ∈ bltNames, mg y = none) (h_is_formula : Has P w K mg base (townSys p) n "is_formula" 1 g_is_formula)  : Has P w K mg base (townSys p) (n + 1) "is_statement" 1 g_is_statement := by
  obtain ⟨f, fd, F, hm⟩ := D
  exact fn_sound F sc_is_statement hm (F.binds (ps := ["value"]) fun _ _ _ _ _ _ us hl => match us, hl with | [_], _ => rfl) blt (k_is_statement) (by unfold c_is_statement; repeat' (first | exact True.intro | assumption | apply And.intro))
theorem H_is_statements (D : DefAt K mg "is_statements" s_is_statements) (blt : ∀ y ∈ bltNames, mg y = none) (h_is_statement : Has P w K mg base (townSys p) n "is_statement" 1 g_is_statement)  : Has P w K mg base (townSys p) (n + 1) "is_statements" 1 g_is_statements := by
  obtain ⟨f, fd, F, hm⟩ := D
  exact fn_sound F sc_is_statements hm (F.binds (ps := ["value"]) fun _ _ _ _ _ _ us hl => match us, hl with | [_], _ => rfl) blt (k_is_statements) (by unfold c_is_statements; repeat' (first | exact True.intro | assumption | apply And.intro))
theorem H_check_statements (D : DefAt K mg "check_statements" s_check_statements) (blt : ∀ y ∈ bltNames, mg y = none) (h_is_statements : Has P w K mg base (townSys p) n "is_statements" 1 g_is_statements)  : Has P w K mg base (townSys p) (n + 1) "check_statements" 1 g_check_statements := by
  obtain ⟨f, fd, F, hm⟩ := D
  exact fn_sound F sc_check_statements hm (F.binds (ps := ["value"]) fun _ _ _ _ _ _ us hl => match us, hl with | [_], _ => rfl) blt (k_check_statements) (by unfold c_check_statements; repeat' (first | exact True.intro | assumption | apply And.intro))
theorem H_divisor (D : DefAt K mg "divisor" s_divisor) (blt : ∀ y ∈ bltNames, mg y = none)   : Has P w K mg base (townSys p) (n + 1) "divisor" 2 g_divisor := by
  obtain ⟨f, fd, F, hm⟩ := D
  exact fn_sound F sc_divisor hm (F.binds (ps := ["one", "other"]) fun _ _ _ _ _ _ us hl => match us, hl with | [_, _], _ => rfl) blt (k_divisor) (by unfold c_divisor; repeat' (first | exact True.intro | assumption | apply And.intro))
theorem H_is_fraction (D : DefAt K mg "is_fraction" s_is_fraction) (blt : ∀ y ∈ bltNames, mg y = none) (h_is_between : Has P w K mg base (townSys p) n "is_between" 3 g_is_between) (h_divisor : Has P w K mg base (townSys p) n "divisor" 2 g_divisor)  : Has P w K mg base (townSys p) (n + 1) "is_fraction" 4 g_is_fraction := by
  obtain ⟨f, fd, F, hm⟩ := D
  exact fn_sound F sc_is_fraction hm (F.binds (ps := ["value", "most", "least", "bottom"]) fun _ _ _ _ _ _ us hl => match us, hl with | [_, _, _, _], _ => rfl) blt (k_is_fraction) (by unfold c_is_fraction; repeat' (first | exact True.intro | assumption | apply And.intro))
theorem H_is_measure (D : DefAt K mg "is_measure" s_is_measure) (blt : ∀ y ∈ bltNames, mg y = none) (h_is_fraction : Has P w K mg base (townSys p) n "is_fraction" 4 g_is_fraction)  : Has P w K mg base (townSys p) (n + 1) "is_measure" 1 g_is_measure := by
  obtain ⟨f, fd, F, hm⟩ := D
  exact fn_sound F sc_is_measure hm (F.binds (ps := ["value"]) fun _ _ _ _ _ _ us hl => match us, hl with | [_], _ => rfl) blt (k_is_measure) (by unfold c_is_measure; repeat' (first | exact True.intro | assumption | apply And.intro))
theorem H_is_table (D : DefAt K mg "is_table" s_is_table) (blt : ∀ y ∈ bltNames, mg y = none) (h_is_name : Has P w K mg base (townSys p) n "is_name" 1 g_is_name) (h_is_measure : Has P w K mg base (townSys p) n "is_measure" 1 g_is_measure)  : Has P w K mg base (townSys p) (n + 1) "is_table" 1 g_is_table := by
  obtain ⟨f, fd, F, hm⟩ := D
  exact fn_sound F sc_is_table hm (F.binds (ps := ["value"]) fun _ _ _ _ _ _ us hl => match us, hl with | [_], _ => rfl) blt (k_is_table) (by unfold c_is_table; repeat' (first | exact True.intro | assumption | apply And.intro))
theorem H_check_table (D : DefAt K mg "check_table" s_check_table) (blt : ∀ y ∈ bltNames, mg y = none) (h_is_table : Has P w K mg base (townSys p) n "is_table" 1 g_is_table)  : Has P w K mg base (townSys p) (n + 1) "check_table" 1 g_check_table := by
  obtain ⟨f, fd, F, hm⟩ := D
  exact fn_sound F sc_check_table hm (F.binds (ps := ["value"]) fun _ _ _ _ _ _ us hl => match us, hl with | [_], _ => rfl) blt (k_check_table) (by unfold c_check_table; repeat' (first | exact True.intro | assumption | apply And.intro))
theorem H_check_three (D : DefAt K mg "check_three" s_check_three) (blt : ∀ y ∈ bltNames, mg y = none) (h_check_statements : Has P w K mg base (townSys p) n "check_statements" 1 g_check_statements) (h_check_table : Has P w K mg base (townSys p) n "check_table" 1 g_check_table)  : Has P w K mg base (townSys p) (n + 1) "check_three" 2 g_check_three := by
  obtain ⟨f, fd, F, hm⟩ := D
  exact fn_sound F sc_check_three hm (F.binds (ps := ["statements", "table"]) fun _ _ _ _ _ _ us hl => match us, hl with | [_, _], _ => rfl) blt (k_check_three) (by unfold c_check_three; repeat' (first | exact True.intro | assumption | apply And.intro))
theorem H_whole (D : DefAt K mg "whole" s_whole) (blt : ∀ y ∈ bltNames, mg y = none) (h_divisor : Has P w K mg base (townSys p) n "divisor" 2 g_divisor)  : Has P w K mg base (townSys p) (n + 1) "whole" 1 g_whole := by
  obtain ⟨f, fd, F, hm⟩ := D
  exact fn_sound F sc_whole hm (F.binds (ps := ["row"]) fun _ _ _ _ _ _ us hl => match us, hl with | [_], _ => rfl) blt (k_whole) (by unfold c_whole; repeat' (first | exact True.intro | assumption | apply And.intro))
theorem H_fraction (D : DefAt K mg "fraction" s_fraction) (blt : ∀ y ∈ bltNames, mg y = none) (h_divisor : Has P w K mg base (townSys p) n "divisor" 2 g_divisor)  : Has P w K mg base (townSys p) (n + 1) "fraction" 2 g_fraction := by
  obtain ⟨f, fd, F, hm⟩ := D
  exact fn_sound F sc_fraction hm (F.binds (ps := ["top", "bottom"]) fun _ _ _ _ _ _ us hl => match us, hl with | [_, _], _ => rfl) blt (k_fraction) (by unfold c_fraction; repeat' (first | exact True.intro | assumption | apply And.intro))
theorem H_plus (D : DefAt K mg "plus" s_plus) (blt : ∀ y ∈ bltNames, mg y = none) (h_fraction : Has P w K mg base (townSys p) n "fraction" 2 g_fraction)  : Has P w K mg base (townSys p) (n + 1) "plus" 2 g_plus := by
  obtain ⟨f, fd, F, hm⟩ := D
  exact fn_sound F sc_plus hm (F.binds (ps := ["one", "other"]) fun _ _ _ _ _ _ us hl => match us, hl with | [_, _], _ => rfl) blt (k_plus) (by unfold c_plus; repeat' (first | exact True.intro | assumption | apply And.intro))
theorem H_times (D : DefAt K mg "times" s_times) (blt : ∀ y ∈ bltNames, mg y = none) (h_fraction : Has P w K mg base (townSys p) n "fraction" 2 g_fraction)  : Has P w K mg base (townSys p) (n + 1) "times" 2 g_times := by
  obtain ⟨f, fd, F, hm⟩ := D
  exact fn_sound F sc_times hm (F.binds (ps := ["one", "other"]) fun _ _ _ _ _ _ us hl => match us, hl with | [_, _], _ => rfl) blt (k_times) (by unfold c_times; repeat' (first | exact True.intro | assumption | apply And.intro))
theorem H_added (D : DefAt K mg "added" s_added) (blt : ∀ y ∈ bltNames, mg y = none) (h_plus : Has P w K mg base (townSys p) n "plus" 2 g_plus) (h_times : Has P w K mg base (townSys p) n "times" 2 g_times)  : Has P w K mg base (townSys p) (n + 1) "added" 3 g_added := by
  obtain ⟨f, fd, F, hm⟩ := D
  exact fn_sound F sc_added hm (F.binds (ps := ["one", "other", "many"]) fun _ _ _ _ _ _ us hl => match us, hl with | [_, _, _], _ => rfl) blt (k_added) (by unfold c_added; repeat' (first | exact True.intro | assumption | apply And.intro))
theorem H_over (D : DefAt K mg "over" s_over) (blt : ∀ y ∈ bltNames, mg y = none) (h_fraction : Has P w K mg base (townSys p) n "fraction" 2 g_fraction)  : Has P w K mg base (townSys p) (n + 1) "over" 2 g_over := by
  obtain ⟨f, fd, F, hm⟩ := D
  exact fn_sound F sc_over hm (F.binds (ps := ["one", "other"]) fun _ _ _ _ _ _ us hl => match us, hl with | [_, _], _ => rfl) blt (k_over) (by unfold c_over; repeat' (first | exact True.intro | assumption | apply And.intro))
theorem H_reduced (D : DefAt K mg "reduced" s_reduced) (blt : ∀ y ∈ bltNames, mg y = none) (h_added : Has P w K mg base (townSys p) n "added" 3 g_added) (h_over : Has P w K mg base (townSys p) n "over" 2 g_over) (h_times : Has P w K mg base (townSys p) n "times" 2 g_times) (gl_ZERO : Glb K mg "ZERO" d_ZERO) : Has P w K mg base (townSys p) (n + 1) "reduced" 2 g_reduced := by
  obtain ⟨f, fd, F, hm⟩ := D
  exact fn_sound F sc_reduced hm (F.binds (ps := ["rows", "wide"]) fun _ _ _ _ _ _ us hl => match us, hl with | [_, _], _ => rfl) blt (k_reduced) (by unfold c_reduced; repeat' (first | exact True.intro | assumption | apply And.intro))
theorem H_parts_of (D : DefAt K mg "parts_of" s_parts_of) (blt : ∀ y ∈ bltNames, mg y = none)   : Has P w K mg base (townSys p) (n + 1) "parts_of" 1 g_parts_of := by
  obtain ⟨f, fd, F, hm⟩ := D
  exact fn_sound F sc_parts_of hm (F.binds (ps := ["formula"]) fun _ _ _ _ _ _ us hl => match us, hl with | [_], _ => rfl) blt (k_parts_of) (by unfold c_parts_of; repeat' (first | exact True.intro | assumption | apply And.intro))
theorem H_asked_by (D : DefAt K mg "asked_by" s_asked_by) (blt : ∀ y ∈ bltNames, mg y = none) (h_parts_of : Has P w K mg base (townSys p) n "parts_of" 1 g_parts_of) (h_added : Has P w K mg base (townSys p) n "added" 3 g_added) (h_times : Has P w K mg base (townSys p) n "times" 2 g_times) (gl_EMPTY : Glb K mg "EMPTY" d_EMPTY) (gl_NAMES : Glb K mg "NAMES" d_NAMES) : ∀ k, Has P w K mg base (townSys p) (n + 1 + k) "asked_by" 1 (g_asked_by k) := by
  obtain ⟨f, fd, F, hm⟩ := D
  have hb := F.binds (ps := ["formula"]) fun _ _ _ _ _ _ us hl => match us, hl with | [_], _ => rfl
  intro k
  induction k with
  | zero => exact never_sound F sc_asked_by hm hb
  | succ k ih =>
    have h_parts_of := h_parts_of.mono (show n ≤ n + 1 + k by omega); have h_added := h_added.mono (show n ≤ n + 1 + k by omega); have h_times := h_times.mono (show n ≤ n + 1 + k by omega);
    exact fn_sound F sc_asked_by hm hb blt (k_asked_by (g_asked_by k)) (by unfold c_asked_by; repeat' (first | exact True.intro | assumption | apply And.intro))
theorem H_rows_of (D : DefAt K mg "rows_of" s_rows_of) (blt : ∀ y ∈ bltNames, mg y = none) (h_asked_by : Has P w K mg base (townSys p) n "asked_by" 1 (g_asked_by 6)) (h_added : Has P w K mg base (townSys p) n "added" 3 g_added)  : Has P w K mg base (townSys p) (n + 1) "rows_of" 1 g_rows_of := by
  obtain ⟨f, fd, F, hm⟩ := D
  exact fn_sound F sc_rows_of hm (F.binds (ps := ["statements"]) fun _ _ _ _ _ _ us hl => match us, hl with | [_], _ => rfl) blt (k_rows_of) (by unfold c_rows_of; repeat' (first | exact True.intro | assumption | apply And.intro))
theorem H_form_of (D : DefAt K mg "form_of" s_form_of) (blt : ∀ y ∈ bltNames, mg y = none) (h_whole : Has P w K mg base (townSys p) n "whole" 1 g_whole) (h_reduced : Has P w K mg base (townSys p) n "reduced" 2 g_reduced) (h_rows_of : Has P w K mg base (townSys p) n "rows_of" 1 g_rows_of)  : Has P w K mg base (townSys p) (n + 1) "form_of" 1 g_form_of := by
  obtain ⟨f, fd, F, hm⟩ := D
  exact fn_sound F sc_form_of hm (F.binds (ps := ["statements"]) fun _ _ _ _ _ _ us hl => match us, hl with | [_], _ => rfl) blt (k_form_of) (by unfold c_form_of; repeat' (first | exact True.intro | assumption | apply And.intro))
theorem H_solved (D : DefAt K mg "solved" s_solved) (blt : ∀ y ∈ bltNames, mg y = none) (h_form_of : Has P w K mg base (townSys p) n "form_of" 1 g_form_of) (h_reduced : Has P w K mg base (townSys p) n "reduced" 2 g_reduced) (h_added : Has P w K mg base (townSys p) n "added" 3 g_added) (gl_PLAIN : Glb K mg "PLAIN" d_PLAIN) (gl_NAMES : Glb K mg "NAMES" d_NAMES) : Has P w K mg base (townSys p) (n + 1) "solved" 2 g_solved := by
  obtain ⟨f, fd, F, hm⟩ := D
  exact fn_sound F sc_solved hm (F.binds (ps := ["statements", "table"]) fun _ _ _ _ _ _ us hl => match us, hl with | [_, _], _ => rfl) blt (k_solved) (by unfold c_solved; repeat' (first | exact True.intro | assumption | apply And.intro))
theorem H_forced (D : DefAt K mg "forced" s_forced) (blt : ∀ y ∈ bltNames, mg y = none) (h_check_three : Has P w K mg base (townSys p) n "check_three" 2 g_check_three) (h_solved : Has P w K mg base (townSys p) n "solved" 2 g_solved) (gl_ZERO : Glb K mg "ZERO" d_ZERO) : Has P w K mg base (townSys p) (n + 1) "forced" 2 g_forced := by
  obtain ⟨f, fd, F, hm⟩ := D
  exact fn_sound F sc_forced hm (F.binds (ps := ["statements", "table"]) fun _ _ _ _ _ _ us hl => match us, hl with | [_, _], _ => rfl) blt (k_forced) (by unfold c_forced; repeat' (first | exact True.intro | assumption | apply And.intro))
theorem H_check_complete (D : DefAt K mg "check_complete" s_check_complete) (blt : ∀ y ∈ bltNames, mg y = none)  (gl_NAMES : Glb K mg "NAMES" d_NAMES) : Has P w K mg base (townSys p) (n + 1) "check_complete" 1 g_check_complete := by
  obtain ⟨f, fd, F, hm⟩ := D
  exact fn_sound F sc_check_complete hm (F.binds (ps := ["table"]) fun _ _ _ _ _ _ us hl => match us, hl with | [_], _ => rfl) blt (k_check_complete) (by unfold c_check_complete; repeat' (first | exact True.intro | assumption | apply And.intro))
theorem H_whole_measures (D : DefAt K mg "whole_measures" s_whole_measures) (blt : ∀ y ∈ bltNames, mg y = none) (h_divisor : Has P w K mg base (townSys p) n "divisor" 2 g_divisor)  : Has P w K mg base (townSys p) (n + 1) "whole_measures" 1 g_whole_measures := by
  obtain ⟨f, fd, F, hm⟩ := D
  exact fn_sound F sc_whole_measures hm (F.binds (ps := ["table"]) fun _ _ _ _ _ _ us hl => match us, hl with | [_], _ => rfl) blt (k_whole_measures) (by unfold c_whole_measures; repeat' (first | exact True.intro | assumption | apply And.intro))
theorem H_less (D : DefAt K mg "less" s_less) (blt : ∀ y ∈ bltNames, mg y = none)   : Has P w K mg base (townSys p) (n + 1) "less" 3 g_less := by
  obtain ⟨f, fd, F, hm⟩ := D
  exact fn_sound F sc_less hm (F.binds (ps := ["one", "other", "many"]) fun _ _ _ _ _ _ us hl => match us, hl with | [_, _, _], _ => rfl) blt (k_less) (by unfold c_less; repeat' (first | exact True.intro | assumption | apply And.intro))
theorem H_cleared (D : DefAt K mg "cleared" s_cleared) (blt : ∀ y ∈ bltNames, mg y = none) (h_less : Has P w K mg base (townSys p) n "less" 3 g_less)  : Has P w K mg base (townSys p) (n + 1) "cleared" 2 g_cleared := by
  obtain ⟨f, fd, F, hm⟩ := D
  exact fn_sound F sc_cleared hm (F.binds (ps := ["rows", "place"]) fun _ _ _ _ _ _ us hl => match us, hl with | [_, _], _ => rfl) blt (k_cleared) (by unfold c_cleared; repeat' (first | exact True.intro | assumption | apply And.intro))
theorem H_kernel (D : DefAt K mg "kernel" s_kernel) (blt : ∀ y ∈ bltNames, mg y = none) (h_whole_measures : Has P w K mg base (townSys p) n "whole_measures" 1 g_whole_measures) (h_cleared : Has P w K mg base (townSys p) n "cleared" 2 g_cleared)  : Has P w K mg base (townSys p) (n + 1) "kernel" 1 g_kernel := by
  obtain ⟨f, fd, F, hm⟩ := D
  exact fn_sound F sc_kernel hm (F.binds (ps := ["table"]) fun _ _ _ _ _ _ us hl => match us, hl with | [_], _ => rfl) blt (k_kernel) (by unfold c_kernel; repeat' (first | exact True.intro | assumption | apply And.intro))
theorem H_found_products (D : DefAt K mg "found_products" s_found_products) (blt : ∀ y ∈ bltNames, mg y = none) (h_kernel : Has P w K mg base (townSys p) n "kernel" 1 g_kernel) (h_cleared : Has P w K mg base (townSys p) n "cleared" 2 g_cleared) (h_less : Has P w K mg base (townSys p) n "less" 3 g_less)  : Has P w K mg base (townSys p) (n + 1) "found_products" 1 g_found_products := by
  obtain ⟨f, fd, F, hm⟩ := D
  exact fn_sound F sc_found_products hm (F.binds (ps := ["table"]) fun _ _ _ _ _ _ us hl => match us, hl with | [_], _ => rfl) blt (k_found_products) (by unfold c_found_products; repeat' (first | exact True.intro | assumption | apply And.intro))
theorem H_plain_products (D : DefAt K mg "plain_products" s_plain_products) (blt : ∀ y ∈ bltNames, mg y = none) (h_check_table : Has P w K mg base (townSys p) n "check_table" 1 g_check_table) (h_check_complete : Has P w K mg base (townSys p) n "check_complete" 1 g_check_complete) (h_found_products : Has P w K mg base (townSys p) n "found_products" 1 g_found_products)  : Has P w K mg base (townSys p) (n + 1) "plain_products" 1 g_plain_products := by
  obtain ⟨f, fd, F, hm⟩ := D
  exact fn_sound F sc_plain_products hm (F.binds (ps := ["table"]) fun _ _ _ _ _ _ us hl => match us, hl with | [_], _ => rfl) blt (k_plain_products) (by unfold c_plain_products; repeat' (first | exact True.intro | assumption | apply And.intro))
theorem H_check_formula (D : DefAt K mg "check_formula" s_check_formula) (blt : ∀ y ∈ bltNames, mg y = none) (h_is_formula : Has P w K mg base (townSys p) n "is_formula" 1 g_is_formula)  : Has P w K mg base (townSys p) (n + 1) "check_formula" 1 g_check_formula := by
  obtain ⟨f, fd, F, hm⟩ := D
  exact fn_sound F sc_check_formula hm (F.binds (ps := ["value"]) fun _ _ _ _ _ _ us hl => match us, hl with | [_], _ => rfl) blt (k_check_formula) (by unfold c_check_formula; repeat' (first | exact True.intro | assumption | apply And.intro))
theorem H_found_names (D : DefAt K mg "found_names" s_found_names) (blt : ∀ y ∈ bltNames, mg y = none) (h_parts_of : Has P w K mg base (townSys p) n "parts_of" 1 g_parts_of)  : ∀ k, Has P w K mg base (townSys p) (n + 1 + k) "found_names" 1 (g_found_names k) := by
  obtain ⟨f, fd, F, hm⟩ := D
  have hb := F.binds (ps := ["formula"]) fun _ _ _ _ _ _ us hl => match us, hl with | [_], _ => rfl
  intro k
  induction k with
  | zero => exact never_sound F sc_found_names hm hb
  | succ k ih =>
    have h_parts_of := h_parts_of.mono (show n ≤ n + 1 + k by omega);
    exact fn_sound F sc_found_names hm hb blt (k_found_names (g_found_names k)) (by unfold c_found_names; repeat' (first | exact True.intro | assumption | apply And.intro))
theorem H_check_known (D : DefAt K mg "check_known" s_check_known) (blt : ∀ y ∈ bltNames, mg y = none) (h_check_formula : Has P w K mg base (townSys p) n "check_formula" 1 g_check_formula) (h_check_table : Has P w K mg base (townSys p) n "check_table" 1 g_check_table) (h_found_names : Has P w K mg base (townSys p) n "found_names" 1 (g_found_names 6))  : Has P w K mg base (townSys p) (n + 1) "check_known" 2 g_check_known := by
  obtain ⟨f, fd, F, hm⟩ := D
  exact fn_sound F sc_check_known hm (F.binds (ps := ["formula", "table"]) fun _ _ _ _ _ _ us hl => match us, hl with | [_, _], _ => rfl) blt (k_check_known) (by unfold c_check_known; repeat' (first | exact True.intro | assumption | apply And.intro))
theorem H_joined (D : DefAt K mg "joined" s_joined) (blt : ∀ y ∈ bltNames, mg y = none) (h_added : Has P w K mg base (townSys p) n "added" 3 g_added)  : Has P w K mg base (townSys p) (n + 1) "joined" 3 g_joined := by
  obtain ⟨f, fd, F, hm⟩ := D
  exact fn_sound F sc_joined hm (F.binds (ps := ["name", "one", "other"]) fun _ _ _ _ _ _ us hl => match us, hl with | [_, _, _], _ => rfl) blt (k_joined) (by unfold c_joined; repeat' (first | exact True.intro | assumption | apply And.intro))
theorem H_looked (D : DefAt K mg "looked" s_looked) (blt : ∀ y ∈ bltNames, mg y = none) (h_parts_of : Has P w K mg base (townSys p) n "parts_of" 1 g_parts_of) (h_joined : Has P w K mg base (townSys p) n "joined" 3 g_joined) (h_times : Has P w K mg base (townSys p) n "times" 2 g_times) (gl_ZERO : Glb K mg "ZERO" d_ZERO) (gl_PLAIN : Glb K mg "PLAIN" d_PLAIN) : ∀ k, Has P w K mg base (townSys p) (n + 1 + k) "looked" 3 (g_looked k) := by
  obtain ⟨f, fd, F, hm⟩ := D
  have hb := F.binds (ps := ["formula", "known", "place"]) fun _ _ _ _ _ _ us hl => match us, hl with | [_, _, _], _ => rfl
  intro k
  induction k with
  | zero => exact never_sound F sc_looked hm hb
  | succ k ih =>
    have h_parts_of := h_parts_of.mono (show n ≤ n + 1 + k by omega); have h_joined := h_joined.mono (show n ≤ n + 1 + k by omega); have h_times := h_times.mono (show n ≤ n + 1 + k by omega);
    exact fn_sound F sc_looked hm hb blt (k_looked (g_looked k)) (by unfold c_looked; repeat' (first | exact True.intro | assumption | apply And.intro))
theorem H_measure_of (D : DefAt K mg "measure_of" s_measure_of) (blt : ∀ y ∈ bltNames, mg y = none) (h_check_known : Has P w K mg base (townSys p) n "check_known" 2 g_check_known) (h_looked : Has P w K mg base (townSys p) n "looked" 3 (g_looked 6))  : Has P w K mg base (townSys p) (n + 1) "measure_of" 2 g_measure_of := by
  obtain ⟨f, fd, F, hm⟩ := D
  exact fn_sound F sc_measure_of hm (F.binds (ps := ["formula", "table"]) fun _ _ _ _ _ _ us hl => match us, hl with | [_, _], _ => rfl) blt (k_measure_of) (by unfold c_measure_of; repeat' (first | exact True.intro | assumption | apply And.intro))
theorem H_first_clash (D : DefAt K mg "first_clash" s_first_clash) (blt : ∀ y ∈ bltNames, mg y = none) (h_check_known : Has P w K mg base (townSys p) n "check_known" 2 g_check_known) (h_looked : Has P w K mg base (townSys p) n "looked" 3 (g_looked 6))  : Has P w K mg base (townSys p) (n + 1) "first_clash" 2 g_first_clash := by
  obtain ⟨f, fd, F, hm⟩ := D
  exact fn_sound F sc_first_clash hm (F.binds (ps := ["formula", "table"]) fun _ _ _ _ _ _ us hl => match us, hl with | [_, _], _ => rfl) blt (k_first_clash) (by unfold c_first_clash; repeat' (first | exact True.intro | assumption | apply And.intro))
theorem H_check_name (D : DefAt K mg "check_name" s_check_name) (blt : ∀ y ∈ bltNames, mg y = none) (h_is_name : Has P w K mg base (townSys p) n "is_name" 1 g_is_name)  : Has P w K mg base (townSys p) (n + 1) "check_name" 1 g_check_name := by
  obtain ⟨f, fd, F, hm⟩ := D
  exact fn_sound F sc_check_name hm (F.binds (ps := ["value"]) fun _ _ _ _ _ _ us hl => match us, hl with | [_], _ => rfl) blt (k_check_name) (by unfold c_check_name; repeat' (first | exact True.intro | assumption | apply And.intro))
theorem H_as_product (D : DefAt K mg "as_product" s_as_product) (blt : ∀ y ∈ bltNames, mg y = none) (h_check_table : Has P w K mg base (townSys p) n "check_table" 1 g_check_table) (h_check_name : Has P w K mg base (townSys p) n "check_name" 1 g_check_name) (h_check_complete : Has P w K mg base (townSys p) n "check_complete" 1 g_check_complete) (h_reduced : Has P w K mg base (townSys p) n "reduced" 2 g_reduced) (gl_NAMES : Glb K mg "NAMES" d_NAMES) (gl_ZERO : Glb K mg "ZERO" d_ZERO) : Has P w K mg base (townSys p) (n + 1) "as_product" 2 g_as_product := by
  obtain ⟨f, fd, F, hm⟩ := D
  exact fn_sound F sc_as_product hm (F.binds (ps := ["table", "name"]) fun _ _ _ _ _ _ us hl => match us, hl with | [_, _], _ => rfl) blt (k_as_product) (by unfold c_as_product; repeat' (first | exact True.intro | assumption | apply And.intro))
theorem H_form (D : DefAt K mg "form" s_form) (blt : ∀ y ∈ bltNames, mg y = none) (h_check_statements : Has P w K mg base (townSys p) n "check_statements" 1 g_check_statements) (h_form_of : Has P w K mg base (townSys p) n "form_of" 1 g_form_of)  : Has P w K mg base (townSys p) (n + 1) "form" 1 g_form := by
  obtain ⟨f, fd, F, hm⟩ := D
  exact fn_sound F sc_form hm (F.binds (ps := ["statements"]) fun _ _ _ _ _ _ us hl => match us, hl with | [_], _ => rfl) blt (k_form) (by unfold c_form; repeat' (first | exact True.intro | assumption | apply And.intro))
theorem H__law_alone (D : DefAt K mg "_law_alone" s__law_alone) (blt : ∀ y ∈ bltNames, mg y = none)   : Has P w K mg base (townSys p) (n + 1) "_law_alone" 1 g__law_alone := by
  obtain ⟨f, fd, F, hm⟩ := D
  exact fn_sound F sc__law_alone hm (F.binds (ps := ["k"]) fun _ _ _ _ _ _ us hl => match us, hl with | [_], _ => rfl) blt (k__law_alone) (by unfold c__law_alone; repeat' (first | exact True.intro | assumption | apply And.intro))
theorem H_tuples_of (D : DefAt K mg "tuples_of" s_tuples_of) (blt : ∀ y ∈ bltNames, mg y = none)   : Has P w K mg base (townSys p) (n + 1) "tuples_of" 1 g_tuples_of := by
  obtain ⟨f, fd, F, hm⟩ := D
  exact fn_sound F sc_tuples_of hm (F.binds (ps := ["many"]) fun _ _ _ _ _ _ us hl => match us, hl with | [_], _ => rfl) blt (k_tuples_of) (by unfold c_tuples_of; repeat' (first | exact True.intro | assumption | apply And.intro))
theorem H_has_any (D : DefAt K mg "has_any" s_has_any) (blt : ∀ y ∈ bltNames, mg y = none) (h_solved : Has P w K mg base (townSys p) n "solved" 2 g_solved)  : Has P w K mg base (townSys p) (n + 1) "has_any" 2 g_has_any := by
  obtain ⟨f, fd, F, hm⟩ := D
  exact fn_sound F sc_has_any hm (F.binds (ps := ["statements", "table"]) fun _ _ _ _ _ _ us hl => match us, hl with | [_, _], _ => rfl) blt (k_has_any) (by unfold c_has_any; repeat' (first | exact True.intro | assumption | apply And.intro))
theorem H_clashing (D : DefAt K mg "clashing" s_clashing) (blt : ∀ y ∈ bltNames, mg y = none) (h_check_three : Has P w K mg base (townSys p) n "check_three" 2 g_check_three) (h_tuples_of : Has P w K mg base (townSys p) n "tuples_of" 1 g_tuples_of) (h_has_any : Has P w K mg base (townSys p) n "has_any" 2 g_has_any)  : Has P w K mg base (townSys p) (n + 1) "clashing" 2 g_clashing := by
  obtain ⟨f, fd, F, hm⟩ := D
  exact fn_sound F sc_clashing hm (F.binds (ps := ["statements", "table"]) fun _ _ _ _ _ _ us hl => match us, hl with | [_, _], _ => rfl) blt (k_clashing) (by unfold c_clashing; repeat' (first | exact True.intro | assumption | apply And.intro))
theorem H_needless (D : DefAt K mg "needless" s_needless) (blt : ∀ y ∈ bltNames, mg y = none) (h_check_statements : Has P w K mg base (townSys p) n "check_statements" 1 g_check_statements) (h_form_of : Has P w K mg base (townSys p) n "form_of" 1 g_form_of)  : Has P w K mg base (townSys p) (n + 1) "needless" 1 g_needless := by
  obtain ⟨f, fd, F, hm⟩ := D
  exact fn_sound F sc_needless hm (F.binds (ps := ["statements"]) fun _ _ _ _ _ _ us hl => match us, hl with | [_], _ => rfl) blt (k_needless) (by unfold c_needless; repeat' (first | exact True.intro | assumption | apply And.intro))
theorem H_check_two (D : DefAt K mg "check_two" s_check_two) (blt : ∀ y ∈ bltNames, mg y = none) (h_check_statements : Has P w K mg base (townSys p) n "check_statements" 1 g_check_statements) (h_is_statement : Has P w K mg base (townSys p) n "is_statement" 1 g_is_statement)  : Has P w K mg base (townSys p) (n + 1) "check_two" 2 g_check_two := by
  obtain ⟨f, fd, F, hm⟩ := D
  exact fn_sound F sc_check_two hm (F.binds (ps := ["statements", "statement"]) fun _ _ _ _ _ _ us hl => match us, hl with | [_, _], _ => rfl) blt (k_check_two) (by unfold c_check_two; repeat' (first | exact True.intro | assumption | apply And.intro))
theorem H_vectors (D : DefAt K mg "vectors" s_vectors) (blt : ∀ y ∈ bltNames, mg y = none) (h_over : Has P w K mg base (townSys p) n "over" 2 g_over)  : Has P w K mg base (townSys p) (n + 1) "vectors" 1 g_vectors := by
  obtain ⟨f, fd, F, hm⟩ := D
  exact fn_sound F sc_vectors hm (F.binds (ps := ["rows"]) fun _ _ _ _ _ _ us hl => match us, hl with | [_], _ => rfl) blt (k_vectors) (by unfold c_vectors; repeat' (first | exact True.intro | assumption | apply And.intro))
theorem H_table_of (D : DefAt K mg "table_of" s_table_of) (blt : ∀ y ∈ bltNames, mg y = none)  (gl_NAMES : Glb K mg "NAMES" d_NAMES) (gl_PLAIN : Glb K mg "PLAIN" d_PLAIN) : Has P w K mg base (townSys p) (n + 1) "table_of" 1 g_table_of := by
  obtain ⟨f, fd, F, hm⟩ := D
  exact fn_sound F sc_table_of hm (F.binds (ps := ["vector"]) fun _ _ _ _ _ _ us hl => match us, hl with | [_], _ => rfl) blt (k_table_of) (by unfold c_table_of; repeat' (first | exact True.intro | assumption | apply And.intro))
theorem H_is_brought (D : DefAt K mg "is_brought" s_is_brought) (blt : ∀ y ∈ bltNames, mg y = none)   : Has P w K mg base (townSys p) (n + 1) "is_brought" 2 g_is_brought := by
  obtain ⟨f, fd, F, hm⟩ := D
  exact fn_sound F sc_is_brought hm (F.binds (ps := ["row", "vector"]) fun _ _ _ _ _ _ us hl => match us, hl with | [_, _], _ => rfl) blt (k_is_brought) (by unfold c_is_brought; repeat' (first | exact True.intro | assumption | apply And.intro))
theorem H_first_outside (D : DefAt K mg "first_outside" s_first_outside) (blt : ∀ y ∈ bltNames, mg y = none) (h_vectors : Has P w K mg base (townSys p) n "vectors" 1 g_vectors) (h_table_of : Has P w K mg base (townSys p) n "table_of" 1 g_table_of) (h_is_brought : Has P w K mg base (townSys p) n "is_brought" 2 g_is_brought)  : Has P w K mg base (townSys p) (n + 1) "first_outside" 2 g_first_outside := by
  obtain ⟨f, fd, F, hm⟩ := D
  exact fn_sound F sc_first_outside hm (F.binds (ps := ["rows", "others"]) fun _ _ _ _ _ _ us hl => match us, hl with | [_, _], _ => rfl) blt (k_first_outside) (by unfold c_first_outside; repeat' (first | exact True.intro | assumption | apply And.intro))
theorem H_showing_table (D : DefAt K mg "showing_table" s_showing_table) (blt : ∀ y ∈ bltNames, mg y = none) (h_check_two : Has P w K mg base (townSys p) n "check_two" 2 g_check_two) (h_first_outside : Has P w K mg base (townSys p) n "first_outside" 2 g_first_outside) (h_form_of : Has P w K mg base (townSys p) n "form_of" 1 g_form_of)  : Has P w K mg base (townSys p) (n + 1) "showing_table" 2 g_showing_table := by
  obtain ⟨f, fd, F, hm⟩ := D
  exact fn_sound F sc_showing_table hm (F.binds (ps := ["statements", "statement"]) fun _ _ _ _ _ _ us hl => match us, hl with | [_, _], _ => rfl) blt (k_showing_table) (by unfold c_showing_table; repeat' (first | exact True.intro | assumption | apply And.intro))
theorem H_check_both (D : DefAt K mg "check_both" s_check_both) (blt : ∀ y ∈ bltNames, mg y = none) (h_check_statements : Has P w K mg base (townSys p) n "check_statements" 1 g_check_statements)  : Has P w K mg base (townSys p) (n + 1) "check_both" 2 g_check_both := by
  obtain ⟨f, fd, F, hm⟩ := D
  exact fn_sound F sc_check_both hm (F.binds (ps := ["one", "other"]) fun _ _ _ _ _ _ us hl => match us, hl with | [_, _], _ => rfl) blt (k_check_both) (by unfold c_check_both; repeat' (first | exact True.intro | assumption | apply And.intro))
theorem H_parting_table (D : DefAt K mg "parting_table" s_parting_table) (blt : ∀ y ∈ bltNames, mg y = none) (h_check_both : Has P w K mg base (townSys p) n "check_both" 2 g_check_both) (h_first_outside : Has P w K mg base (townSys p) n "first_outside" 2 g_first_outside) (h_form_of : Has P w K mg base (townSys p) n "form_of" 1 g_form_of)  : Has P w K mg base (townSys p) (n + 1) "parting_table" 2 g_parting_table := by
  obtain ⟨f, fd, F, hm⟩ := D
  exact fn_sound F sc_parting_table hm (F.binds (ps := ["one", "other"]) fun _ _ _ _ _ _ us hl => match us, hl with | [_, _], _ => rfl) blt (k_parting_table) (by unfold c_parting_table; repeat' (first | exact True.intro | assumption | apply And.intro))
theorem H__law_forms (D : DefAt K mg "_law_forms" s__law_forms) (blt : ∀ y ∈ bltNames, mg y = none) (h_form : Has P w K mg base (townSys p) n "form" 1 g_form) (h__law_alone : Has P w K mg base (townSys p) n "_law_alone" 1 g__law_alone) (h_clashing : Has P w K mg base (townSys p) n "clashing" 2 g_clashing) (h_needless : Has P w K mg base (townSys p) n "needless" 1 g_needless) (h_showing_table : Has P w K mg base (townSys p) n "showing_table" 2 g_showing_table) (h_parting_table : Has P w K mg base (townSys p) n "parting_table" 2 g_parting_table)  : Has P w K mg base (townSys p) (n + 1) "_law_forms" 3 g__law_forms := by
  obtain ⟨f, fd, F, hm⟩ := D
  exact fn_sound F sc__law_forms hm (F.binds (ps := ["names", "table", "k"]) fun _ _ _ _ _ _ us hl => match us, hl with | [_, _, _], _ => rfl) blt (k__law_forms) (by unfold c__law_forms; repeat' (first | exact True.intro | assumption | apply And.intro))
theorem H_powered (D : DefAt K mg "powered" s_powered) (blt : ∀ y ∈ bltNames, mg y = none) (h_times : Has P w K mg base (townSys p) n "times" 2 g_times) (h_over : Has P w K mg base (townSys p) n "over" 2 g_over) (gl_ONE : Glb K mg "ONE" d_ONE) : Has P w K mg base (townSys p) (n + 1) "powered" 2 g_powered := by
  obtain ⟨f, fd, F, hm⟩ := D
  exact fn_sound F sc_powered hm (F.binds (ps := ["one", "many"]) fun _ _ _ _ _ _ us hl => match us, hl with | [_, _], _ => rfl) blt (k_powered) (by unfold c_powered; repeat' (first | exact True.intro | assumption | apply And.intro))
theorem H_factor_of (D : DefAt K mg "factor_of" s_factor_of) (blt : ∀ y ∈ bltNames, mg y = none) (h_is_measure : Has P w K mg base (townSys p) n "is_measure" 1 g_is_measure) (h_times : Has P w K mg base (townSys p) n "times" 2 g_times) (h_powered : Has P w K mg base (townSys p) n "powered" 2 g_powered) (h_is_fraction : Has P w K mg base (townSys p) n "is_fraction" 4 g_is_fraction) (h_is_between : Has P w K mg base (townSys p) n "is_between" 3 g_is_between) (gl_ONE : Glb K mg "ONE" d_ONE) : Has P w K mg base (townSys p) (n + 1) "factor_of" 2 g_factor_of := by
  obtain ⟨f, fd, F, hm⟩ := D
  exact fn_sound F sc_factor_of hm (F.binds (ps := ["measure", "factors"]) fun _ _ _ _ _ _ us hl => match us, hl with | [_, _], _ => rfl) blt (k_factor_of) (by unfold c_factor_of; repeat' (first | exact True.intro | assumption | apply And.intro))
theorem H_has_root (D : DefAt K mg "has_root" s_has_root) (blt : ∀ y ∈ bltNames, mg y = none) (h_parts_of : Has P w K mg base (townSys p) n "parts_of" 1 g_parts_of)  : ∀ k, Has P w K mg base (townSys p) (n + 1 + k) "has_root" 1 (g_has_root k) := by
  obtain ⟨f, fd, F, hm⟩ := D
  have hb := F.binds (ps := ["formula"]) fun _ _ _ _ _ _ us hl => match us, hl with | [_], _ => rfl
  intro k
  induction k with
  | zero => exact never_sound F sc_has_root hm hb
  | succ k ih =>
    have h_parts_of := h_parts_of.mono (show n ≤ n + 1 + k by omega);
    exact fn_sound F sc_has_root hm hb blt (k_has_root (g_has_root k)) (by unfold c_has_root; repeat' (first | exact True.intro | assumption | apply And.intro))
theorem H_value_with (D : DefAt K mg "value_with" s_value_with) (blt : ∀ y ∈ bltNames, mg y = none) (h_plus : Has P w K mg base (townSys p) n "plus" 2 g_plus) (h_times : Has P w K mg base (townSys p) n "times" 2 g_times) (h_over : Has P w K mg base (townSys p) n "over" 2 g_over) (h_powered : Has P w K mg base (townSys p) n "powered" 2 g_powered) (h_parts_of : Has P w K mg base (townSys p) n "parts_of" 1 g_parts_of) (gl_NAMES : Glb K mg "NAMES" d_NAMES) : ∀ k, Has P w K mg base (townSys p) (n + 1 + k) "value_with" 2 (g_value_with k) := by
  obtain ⟨f, fd, F, hm⟩ := D
  have hb := F.binds (ps := ["formula", "numbers"]) fun _ _ _ _ _ _ us hl => match us, hl with | [_, _], _ => rfl
  intro k
  induction k with
  | zero => exact never_sound F sc_value_with hm hb
  | succ k ih =>
    have h_plus := h_plus.mono (show n ≤ n + 1 + k by omega); have h_times := h_times.mono (show n ≤ n + 1 + k by omega); have h_over := h_over.mono (show n ≤ n + 1 + k by omega); have h_powered := h_powered.mono (show n ≤ n + 1 + k by omega); have h_parts_of := h_parts_of.mono (show n ≤ n + 1 + k by omega);
    exact fn_sound F sc_value_with hm hb blt (k_value_with (g_value_with k)) (by unfold c_value_with; repeat' (first | exact True.intro | assumption | apply And.intro))
theorem H_value_of (D : DefAt K mg "value_of" s_value_of) (blt : ∀ y ∈ bltNames, mg y = none) (h_check_formula : Has P w K mg base (townSys p) n "check_formula" 1 g_check_formula) (h_has_root : Has P w K mg base (townSys p) n "has_root" 1 (g_has_root 6)) (h_value_with : Has P w K mg base (townSys p) n "value_with" 2 (g_value_with 6)) (h_is_fraction : Has P w K mg base (townSys p) n "is_fraction" 4 g_is_fraction)  : Has P w K mg base (townSys p) (n + 1) "value_of" 2 g_value_of := by
  obtain ⟨f, fd, F, hm⟩ := D
  exact fn_sound F sc_value_of hm (F.binds (ps := ["formula", "numbers"]) fun _ _ _ _ _ _ us hl => match us, hl with | [_, _], _ => rfl) blt (k_value_of) (by unfold c_value_of; repeat' (first | exact True.intro | assumption | apply And.intro))
theorem H__law_frac (D : DefAt K mg "_law_frac" s__law_frac) (blt : ∀ y ∈ bltNames, mg y = none)   : Has P w K mg base (townSys p) (n + 1) "_law_frac" 2 g__law_frac := by
  obtain ⟨f, fd, F, hm⟩ := D
  exact fn_sound F sc__law_frac hm (F.binds (ps := ["top", "bottom"]) fun _ _ _ _ _ _ us hl => match us, hl with | [_, _], _ => rfl) blt (k__law_frac) (by unfold c__law_frac; repeat' (first | exact True.intro | assumption | apply And.intro))
theorem H_completion (D : DefAt K mg "completion" s_completion) (blt : ∀ y ∈ bltNames, mg y = none) (h_check_three : Has P w K mg base (townSys p) n "check_three" 2 g_check_three) (h_solved : Has P w K mg base (townSys p) n "solved" 2 g_solved) (gl_NAMES : Glb K mg "NAMES" d_NAMES) (gl_PLAIN : Glb K mg "PLAIN" d_PLAIN) (gl_ZERO : Glb K mg "ZERO" d_ZERO) : Has P w K mg base (townSys p) (n + 1) "completion" 2 g_completion := by
  obtain ⟨f, fd, F, hm⟩ := D
  exact fn_sound F sc_completion hm (F.binds (ps := ["statements", "table"]) fun _ _ _ _ _ _ us hl => match us, hl with | [_, _], _ => rfl) blt (k_completion) (by unfold c_completion; repeat' (first | exact True.intro | assumption | apply And.intro))
theorem H_do_imply (D : DefAt K mg "do_imply" s_do_imply) (blt : ∀ y ∈ bltNames, mg y = none) (h_check_two : Has P w K mg base (townSys p) n "check_two" 2 g_check_two) (h_form_of : Has P w K mg base (townSys p) n "form_of" 1 g_form_of)  : Has P w K mg base (townSys p) (n + 1) "do_imply" 2 g_do_imply := by
  obtain ⟨f, fd, F, hm⟩ := D
  exact fn_sound F sc_do_imply hm (F.binds (ps := ["statements", "statement"]) fun _ _ _ _ _ _ us hl => match us, hl with | [_, _], _ => rfl) blt (k_do_imply) (by unfold c_do_imply; repeat' (first | exact True.intro | assumption | apply And.intro))
theorem H_count_free (D : DefAt K mg "count_free" s_count_free) (blt : ∀ y ∈ bltNames, mg y = none) (h_check_statements : Has P w K mg base (townSys p) n "check_statements" 1 g_check_statements) (h_form_of : Has P w K mg base (townSys p) n "form_of" 1 g_form_of)  : Has P w K mg base (townSys p) (n + 1) "count_free" 1 g_count_free := by
  obtain ⟨f, fd, F, hm⟩ := D
  exact fn_sound F sc_count_free hm (F.binds (ps := ["statements"]) fun _ _ _ _ _ _ us hl => match us, hl with | [_], _ => rfl) blt (k_count_free) (by unfold c_count_free; repeat' (first | exact True.intro | assumption | apply And.intro))
end

/-! ### _law_draw, _law_town -/
theorem sc__law_draw : FnScope ["script", "town", "limit", "at", "left", "number"] ["script", "town", "limit"] (defScope s__law_draw) := ⟨rfl, rfl, rfl, by decide +kernel, rfl, by decide +kernel, by decide +kernel⟩
theorem sc__law_town : FnScope ["script"] ["script"] (defScope s__law_town) := ⟨rfl, rfl, rfl, by decide +kernel, rfl, by decide +kernel, by decide +kernel⟩
section
variable {P : Program} {w : World} {K : PySem.W.Frag} {mg : Str → Option Value} {base : Heap} {f : Addr} {fd : FuncData} {p : Addr}
theorem ixN_nat {n j : Nat} (h : j < n) : ixN n (j : Int) = some j := by
  have e := atI_nat (xs := List.range n) (j := j) (v := j) (by rw [List.getElem?_range h])
  unfold atI at e
  rw [List.length_range] at e
  cases hj : ixN n (j : Int) with
  | none => rw [hj] at e; cases e
  | some i =>
    rw [hj] at e
    have e : (List.range n)[i]? = some j := e
    obtain ⟨h1, h2⟩ := List.getElem?_eq_some_iff.mp e
    rw [List.getElem_range] at h2
    rw [h2]
theorem g_draw_cases (p : Addr) (ds : List D) (t : List Int) : (∃ ns m k rest, ds = [.scr ns, .adr p, .int m] ∧ t = k :: rest ∧ 0 < m ∧ m < 1000000 ∧ 0 ≤ k ∧ k < 1000000000 ∧ rest.length = ns.length ∧ ns.length ≤ 63 ∧ g_draw p ds t = .ok (.int (dr ns k rest m).1) (dr ns k rest m).2) ∨ g_draw p ds t = .er := by
  unfold g_draw
  split
  · split
    · rename_i hc
      obtain ⟨rfl, h⟩ := hc
      exact .inl ⟨_, _, _, _, rfl, rfl, h.1, h.2.1, h.2.2.1, h.2.2.2.1, h.2.2.2.2.1, h.2.2.2.2.2, rfl⟩
    · exact .inr rfl
  · exact .inr rfl
theorem ok_draw (F : Fun K "_law_draw" "_law_draw" s__law_draw f fd) (ml : mg "len" = none) : FnOk P w K mg base (L2.CX P w) 1 f fd ["script", "town", "limit"] (spOf (Y := townSys p) K mg 3 (g_draw p)) := by
  refine F.okX sc__law_draw (fun vs H Q E h => ?_) (fun cdv A outer s H vs Q E hr h => ?_)
  · obtain ⟨c, ds, _, _, _, h, _⟩ := h
    exact h
  · refine ⟨_, pss_cons (ps_asg (pe_op op_add (pe_ix ix_list (pv 1) pe_int (fun _ _ => rfl)) pe_int) (pg_sub (pv 1) pe_int set_list))
      (pss_cons (ps_if (pt_cmpR (op_eqD hr.units) (pv 0) (pe_lst pa_nil) (nomark _)) (pss_one (ps_ret (pe_op op_modN (pe_op op_fdivV (pe_op op_mul (pe_op op_mul (pe_ix ix_list (pv 1) pe_int (fun _ _ => rfl)) (pe_ix ix_list (pv 1) pe_int (fun _ _ => rfl))) pe_int) pe_int) (pv 2)))) pss_nil)
      (pss_cons (ps_set (i := 3) sc__law_draw.nd rfl (Or.inl rfl) (pe_op op_modN (pe_ix ix_list (pv 1) pe_int (fun _ _ => rfl)) (pe_callB call_len_seq rfl ml PySem.boot_len (pa_cons (pv 0) pa_nil))))
      (pss_cons (ps_set (i := 4) sc__law_draw.nd rfl (Or.inl rfl) (pe_ix ix_list (pv 1) (pe_op op_add pe_int (pv 3)) (fun _ _ => rfl)))
      (pss_cons (ps_if (PW.pt (pw_and (pt_cmpR op_ge (pe_ix ix_list (pv 0) (pv 3) (fun _ _ => rfl)) (pe_op op_pow pe_int pe_int) (nomark _)) (pw_and1 (pt_cmpR op_gt (pv 4) pe_int (nomark _)))))
        (pss_cons (ps_asg (pe_op op_fdivV (pv 4) (pv 2)) (pg_sub (pv 1) (pe_op op_add pe_int (pv 3)) set_list)) (pss_one (ps_ret (pe_op op_modN (pv 4) (pv 2))))) pss_nil)
      (pss_cons (ps_set (i := 5) sc__law_draw.nd rfl (Or.inl rfl) (pe_op op_modN (pe_op op_add (pe_ix ix_list (pv 0) (pv 3) (fun _ _ => rfl)) (pe_op op_mul pe_int (pe_ix ix_list (pv 1) pe_int (fun _ _ => rfl)))) pe_int))
      (pss_cons (ps_set (i := 5) sc__law_draw.nd rfl (Or.inl rfl) (pe_op op_modN (pe_op op_pow (pv 5) pe_int) pe_int))
      (pss_one (ps_ret (pe_op op_modN (pe_op op_fdivV (pe_op op_modN (pe_op op_add (pe_op op_mul (pe_op op_fdivV (pv 5) pe_int) pe_int) (pv 5)) pe_int) pe_int) (pv 2)))))))))), ?_⟩
    obtain ⟨c, ds, rfl, ok, rs, hl, h⟩ := h
    have cel0 : c.H p = some (.lst (c.s.map V.int)) := ok.cel
    rcases g_draw_cases p ds c.s with ⟨ns, m, k, rest, rfl, ht, hm0, hm1, hk0, hk1, hlen, h63, er⟩ | er
    rotate_left
    · rw [er] at h
      exact h.elim
    rw [er] at h
    rw [ht] at cel0
    have h : ∀ v (c' : Cf (townSys p)), c'.s = (dr ns k rest m).2 → Step c c' → Ok c' → Rep K c'.F v (.int (dr ns k rest m).1) → Q v c'.H := h
    cases rs with
    | cons r1 rs =>
    cases rs with
    | cons r2 rs =>
    cases rs with
    | cons r3 rs =>
    cases rs
    cases r1 with
    | @scr a _ hS =>
    cases r2
    cases r3
    have cel : c.H p = some (.lst ((k :: rest).map V.int)) := cel0
    have hm' : m ≠ 0 := by omega
    have hmd : CDivV 0 m := ⟨hm', by
      have : m.natAbs < 2 ^ 20 := by omega
      have := (Nat.log2_lt (by omega)).mpr this
      omega⟩
    refine ⟨.ref p, rfl, p, _, 0, .int k, rfl, rfl, .inl (.inl cel), atI_nat (j := 0) rfl, k, 1, rfl, rfl, .ref p, rfl, p, _, 0, 0, rfl, rfl, cel, ixN_nat (by simp), ?_⟩
    show tSeq _ _ _ _ (upd c.H p (.lst (((k + 1) :: rest).map V.int)))
    obtain ⟨ok1, st1⟩ := town_new (K := K) ok ((k + 1) :: rest) (upd c.H p (.lst (((k + 1) :: rest).map V.int))) (fun a ha => upd_ne ha) upd_same
    have allI : ∀ (H : Hp) (l : List Int), DpAll K H (l.map V.int) (l.map PyData.int) := fun H l => by
      induction l with
      | nil => exact .nil
      | cons x l ih => exact .cons (.int x) ih
    have ishp : ∀ l : List Int, SeqAt.shaped (.list (l.map PyData.int)) = true := fun l => by
      have h1 : ∀ l : List Int, PyData.canLayAll0 (l.map PyData.int) = true ∧ PyData.depthAll (l.map PyData.int) = 0 := fun l => by
        induction l with
        | nil => exact ⟨rfl, rfl⟩
        | cons x l ih => exact ⟨Bool.and_eq_true_iff.mpr ⟨rfl, ih.1⟩, by show max 0 (PyData.depthAll (l.map PyData.int)) = 0; rw [ih.2]; rfl⟩
      refine Bool.and_eq_true_iff.mpr ⟨(h1 l).1, decide_eq_true ?_⟩
      show PyData.depthAll (l.map PyData.int) + 1 ≤ 64
      rw [(h1 l).2]
      decide
    refine ⟨.ref a, rfl, by show 0 ≤ sizeLine; decide, fun l hl0 => ?_⟩
    have ok2 := ok1.own hl0 (.lst [])
    have st2 : Step c _ := st1.trans ok1 (Step.own ok1 hl0 (.lst []))
    have hS2 : SqL K (upd (upd c.H p (.lst (((k + 1) :: rest).map V.int))) l (.lst [])) a (ns.map V.int) := sqL_sub ok2.sub hS
    have hq2 : upd (upd c.H p (.lst (((k + 1) :: rest).map V.int))) l (.lst []) p = some (.lst (((k + 1) :: rest).map V.int)) := ok2.cel
    refine ⟨_, _, .lst hS2 (allI _ ns), .lst (.inl (.inl upd_same)) .nil, ishp ns, ishp [], _, rfl, ?_⟩
    have fin : ∀ (d : Int), (dr ns k rest m) = (d, (k + 1) :: rest) → Q (.int d) (upd (upd c.H p (.lst (((k + 1) :: rest).map V.int))) l (.lst [])) := fun d e => by
      refine h (.int d) ⟨c.F, upd (upd c.H p (.lst (((k + 1) :: rest).map V.int))) l (.lst []), (k + 1) :: rest⟩ ?_ st2 ok2 ?_
      · rw [e]
      · rw [e]; exact .int d
    cases ns with
    | nil =>
      refine iteT ?_
      refine ⟨.ref p, rfl, p, _, 0, .int (k + 1), rfl, rfl, .inl (.inl hq2), atI_nat (j := 0) rfl, .ref p, rfl, p, _, 0, .int (k + 1), rfl, rfl, .inl (.inl hq2), atI_nat (j := 0) rfl, _, _, rfl, rfl, .inl ⟨by omega, by omega⟩, _, _, rfl, rfl, .inr ⟨by decide, by decide⟩, _, _, rfl, rfl, ⟨by decide, by decide +kernel⟩, .int m, rfl, _, _, rfl, rfl, hm', ?_⟩
      exact fin _ rfl
    | cons n0 ns0 =>
      refine iteF ?_
      have hn : (((n0 :: ns0).map V.int).length : Int) ≠ 0 := by simp; omega
      have hn1 : ((n0 :: ns0).map V.int).length = (n0 :: ns0).length := List.length_map ..
      obtain ⟨a', ha'⟩ : ∃ a' : Nat, (k + 1).fmod (((n0 :: ns0).map V.int).length : Int) = (a' : Int) := Int.eq_ofNat_of_zero_le (Int.fmod_nonneg_of_pos _ (by simp))
      have hlt : a' < (n0 :: ns0).length := by
        have := Int.fmod_lt_of_pos (k + 1) (show (0 : Int) < (((n0 :: ns0).map V.int).length : Int) by simp)
        rw [ha', hn1] at this
        omega
      have hat : ((k + 1).fmod ((n0 :: ns0).length : Int)).toNat = a' := by rw [← hn1, ha']; rfl
      refine ⟨.ref p, rfl, p, _, 0, .int (k + 1), rfl, rfl, .inl (.inl hq2), atI_nat (j := 0) rfl, .ref a, rfl, a, _, rfl, .inl hS2, _, _, rfl, rfl, hn, ?_⟩
      show tSeq _ _ _ [some (.ref a), some (.ref p), some (.int m), some (.int ((k + 1).fmod (((n0 :: ns0).map V.int).length : Int))), none, none] _
      rw [ha']
      have hl1 : a' < rest.length := by omega
      have e1 : rest.getD a' 0 = rest[a'] := by rw [List.getD_eq_getElem?_getD, List.getElem?_eq_getElem hl1]; rfl
      have e2 : (n0 :: ns0).getD a' 0 = (n0 :: ns0)[a'] := by rw [List.getD_eq_getElem?_getD, List.getElem?_eq_getElem hlt]; rfl
      have g1 : atI (((k + 1) :: rest).map V.int) (1 + (a' : Int)) = some (.int (rest.getD a' 0)) := by
        have : (1 : Int) + (a' : Int) = ((a' + 1 : Nat) : Int) := by omega
        rw [this]
        refine atI_nat ?_
        rw [List.map_cons, List.getElem?_cons_succ, List.getElem?_map, List.getElem?_eq_getElem hl1, e1]
        rfl
      have g2 : atI ((n0 :: ns0).map V.int) (a' : Int) = some (.int ((n0 :: ns0).getD a' 0)) := by
        refine atI_nat ?_
        rw [List.getElem?_map, List.getElem?_eq_getElem hlt, e2]
        rfl
      refine ⟨.ref p, rfl, .int (a' : Int), rfl, 1, (a' : Int), rfl, rfl, p, _, _, _, rfl, rfl, .inl (.inl hq2), g1, ?_⟩
      refine ⟨.ref a, rfl, .int (a' : Int), rfl, a, _, _, _, rfl, rfl, hS2, g2, 10, 18, rfl, rfl, ⟨by decide, by decide, by decide⟩, _, _, rfl, rfl, _, rfl, ?_⟩
      have dr1 : ¬ ((n0 :: ns0).getD a' 0 ≥ 10 ^ 18 ∧ rest.getD a' 0 > 0) → dr (n0 :: ns0) k rest m = ((((((((n0 :: ns0).getD a' 0 + 104729 * (k + 1)).fmod 4294967291) ^ 5).fmod 4294967279).fdiv 64 * 69621 + (((((n0 :: ns0).getD a' 0 + 104729 * (k + 1)).fmod 4294967291) ^ 5).fmod 4294967279)).fmod 4294967231).fdiv 8 |>.fmod m, (k + 1) :: rest) := fun hno => by
        unfold dr
        rw [if_neg (by simp)]
        dsimp only
        rw [hat, if_neg hno]
      have low : ¬ ((n0 :: ns0).getD a' 0 ≥ 10 ^ 18 ∧ rest.getD a' 0 > 0) → tSeq (tAsg (tOp (rI (fun _ j => j ≠ 0) fun i j => .int (i.fmod j)) (tOp (rI0 fun i j => .int (i + j)) (tOp (rIxL K) (tVar 0) (tVar 3)) (tOp (rI CMul fun i j => .int (i * j)) (tC (.int 104729)) (tOp (rIxL K) (tVar 1) (tC (.int 0))))) (tC (.int 4294967291))) (gName 5))
          (tSeq (tAsg (tOp (rI (fun _ j => j ≠ 0) fun i j => .int (i.fmod j)) (tOp (rI CPow fun i j => .int (i ^ j.toNat)) (tVar 5) (tC (.int 5))) (tC (.int 4294967279))) (gName 5))
          (tRet (tOp (rI (fun _ j => j ≠ 0) fun i j => .int (i.fmod j)) (tOp (rI CDivV fun i j => .int (i.fdiv j)) (tOp (rI (fun _ j => j ≠ 0) fun i j => .int (i.fmod j)) (tOp (rI0 fun i j => .int (i + j)) (tOp (rI CMul fun i j => .int (i * j)) (tOp (rI CDivV fun i j => .int (i.fdiv j)) (tVar 5) (tC (.int 64))) (tC (.int 69621))) (tVar 5)) (tC (.int 4294967231))) (tC (.int 8))) (tVar 2)))) { nx := fun _ H' => Q .non H', rt := Q } [some (.ref a), some (.ref p), some (.int m), some (.int (a' : Int)), some (.int (rest.getD a' 0)), none] (upd (upd c.H p (.lst (((k + 1) :: rest).map V.int))) l (.lst [])) := fun hno => by
        have b0 : ∀ x : Int, 0 ≤ x.fmod 4294967291 ∧ x.fmod 4294967291 < 4294967291 := fun x => ⟨Int.fmod_nonneg_of_pos _ (by decide), Int.fmod_lt_of_pos _ (by decide)⟩
        have b1 := b0 ((n0 :: ns0).getD a' 0 + 104729 * (k + 1))
        refine ⟨.ref a, rfl, .int (a' : Int), rfl, a, _, _, _, rfl, rfl, hS2, g2, .ref p, rfl, p, _, 0, .int (k + 1), rfl, rfl, .inl (.inl hq2), atI_nat (j := 0) rfl, 104729, k + 1, rfl, rfl, .inl ⟨by decide, by decide⟩, _, _, rfl, rfl, _, 4294967291, rfl, rfl, (by decide : (4294967291 : Int) ≠ 0), ?_⟩
        refine ⟨_, rfl, _, 5, rfl, rfl, ⟨by decide, by decide, by omega⟩, _, 4294967279, rfl, rfl, (by decide : (4294967279 : Int) ≠ 0), ?_⟩
        refine ⟨_, rfl, _, 64, rfl, rfl, ⟨by decide, by decide +kernel⟩, _, 69621, rfl, rfl, .inr ⟨by decide, by decide⟩, _, rfl, _, _, rfl, rfl, _, 4294967231, rfl, rfl, (by decide : (4294967231 : Int) ≠ 0), _, 8, rfl, rfl, ⟨by decide, by decide +kernel⟩, .int m, rfl, _, _, rfl, rfl, hm', ?_⟩
        exact fin _ (dr1 hno)
      by_cases hb : (10 : Int) ^ 18 ≤ (n0 :: ns0).getD a' 0
      · have hb1 : decide ((10 : Int) ^ (18 : Int).toNat ≤ (n0 :: ns0).getD a' 0) = true := decide_eq_true hb
        rw [hb1]
        refine iteT ?_
        refine ⟨_, rfl, _, 0, rfl, rfl, _, rfl, ?_⟩
        by_cases hp : 0 < rest.getD a' 0
        · rw [decide_eq_true hp]
          refine iteT ?_
          have g3 : ixN (((k + 1) :: rest).map V.int).length (1 + (a' : Int)) = some (a' + 1) := by
            have e : (1 : Int) + (a' : Int) = ((a' + 1 : Nat) : Int) := by omega
            rw [e]
            exact ixN_nat (by simp; omega)
          refine ⟨_, rfl, .int m, rfl, _, _, rfl, rfl, hmd, .ref p, rfl, _, rfl, 1, (a' : Int), rfl, rfl, p, _, _, _, rfl, rfl, hq2, g3, ?_⟩
          refine ⟨_, rfl, .int m, rfl, _, _, rfl, rfl, hm', ?_⟩
          have es : ((((k + 1) :: rest).map V.int).set (a' + 1) (.int ((rest.getD a' 0).fdiv m))) = ((k + 1) :: rest.set a' ((rest.getD a' 0).fdiv m)).map V.int := by
            rw [List.map_cons, List.set_cons_succ, List.map_cons, List.map_set]
          rw [es]
          obtain ⟨ok3, st3⟩ := town_new (K := K) (c := ⟨c.F, upd (upd c.H p (.lst (((k + 1) :: rest).map V.int))) l (.lst []), (k + 1) :: rest⟩) ok2 ((k + 1) :: rest.set a' ((rest.getD a' 0).fdiv m)) (upd (upd (upd c.H p (.lst (((k + 1) :: rest).map V.int))) l (.lst [])) p (.lst (((k + 1) :: rest.set a' ((rest.getD a' 0).fdiv m)).map V.int))) (fun a ha => upd_ne ha) upd_same
          have ed : dr (n0 :: ns0) k rest m = ((rest.getD a' 0).fmod m, (k + 1) :: rest.set a' ((rest.getD a' 0).fdiv m)) := by
            unfold dr
            rw [if_neg (by simp)]
            dsimp only
            rw [hat, if_pos ⟨hb, hp⟩]
          refine h _ _ ?_ (st2.trans ok2 st3) ok3 ?_
          · rw [ed]
          · rw [ed]; exact .int _
        · rw [decide_eq_false hp]
          exact iteF (low fun z => hp z.2)
      · have hb1 : decide ((10 : Int) ^ (18 : Int).toNat ≤ (n0 :: ns0).getD a' 0) = false := decide_eq_false hb
        rw [hb1]
        exact iteF (iteF (low fun z => hb z.1))
theorem ok_town (F : Fun K "_law_town" "_law_town" s__law_town f fd) (ml : mg "list" = none) : FnOk P w K mg base (L2.CX P w) 1 f fd ["script"] (spTown K) := by
  refine F.okX sc__law_town (fun vs H Q E h => ?_) (fun cdv A outer s H vs Q E hr h => ?_)
  · obtain ⟨a, ns, rfl, _⟩ := h
    rfl
  · refine ⟨_, pss_one (ps_ret (pe_op op_cat (pe_lst (pa_cons pe_int pa_nil)) (pe_callTy call_list_of rfl ml PyProof.Rows.boot_list (pa_cons (pv 0) pa_nil)))), ?_⟩
    obtain ⟨a, ns, rfl, hS, h63, q⟩ := h
    refine ⟨by show 1 ≤ sizeLine; decide, fun l1 h1 => ?_⟩
    have sm1 : ∀ b o, H b = some o → upd H l1 (.lst [.int 0]) b = some o := fun b o e => by rw [upd_ne (ne_of_none e h1)]; exact e
    refine ⟨.ref a, rfl, a, _, rfl, .inl (sqL_sub sm1 hS), fun l2 h2 => ?_⟩
    have n12 : l1 ≠ l2 := ne_of_none (upd_same (H := H) (a := l1) (o := .lst [.int 0])) h2
    have e2 : upd (upd H l1 (.lst [.int 0])) l2 (.lst (ns.map V.int)) l1 = some (.lst [.int 0]) := by rw [upd_ne n12]; exact upd_same
    refine ⟨l1, l2, _, _, rfl, rfl, e2, upd_same, ?_, fun p hp => ?_⟩
    · rw [List.length_map]
      have e : sizeLine = 16777216 := by decide
      show 1 + ns.length ≤ _
      omega
    · have p2 : p ≠ l2 := fun z => by rw [z, upd_same] at hp; cases hp
      have hp1 : upd H l1 (.lst [.int 0]) p = none := by rw [upd_ne p2] at hp; exact hp
      have p1 : p ≠ l1 := fun z => by rw [z, upd_same] at hp1; cases hp1
      have hp0 : H p = none := by rw [upd_ne p1] at hp1; exact hp1
      refine q p _ hp0 (fun b o e => ?_) upd_same
      have n2 : b ≠ l2 := fun z => by
        have := sm1 b o e
        rw [z, h2] at this
        cases this
      rw [upd_ne (ne_of_none e hp0), upd_ne n2]
      exact sm1 b o e
end
end Mf
set_option Elab.async false
set_option linter.all false
set_option maxRecDepth 100000
set_option maxHeartbeats 4000000
namespace Mf
open PySem L2
def takeS {S : Type} : Nat → CSs S → CSs S
  | 0, _ => .nil
  | _ + 1, .nil => .nil
  | n + 1, .cons c cs => .cons c (takeS n cs)
def dropS {S : Type} : Nat → CSs S → CSs S
  | 0, c => c
  | _ + 1, .nil => .nil
  | n + 1, .cons _ cs => dropS n cs
theorem sq_assoc {S : Type} (o : Out S) (f g : List SV → S → Out S) : (o.sq f).sq g = o.sq fun ρ s => (f ρ s).sq g := by cases o <;> rfl
theorem runs_split {S : Type} : ∀ (n : Nat) (c : CSs S) (ρ : List SV) (s : S), runs c ρ s = (runs (takeS n c) ρ s).sq (runs (dropS n c))
  | 0, c, ρ, s => by rw [takeS, runs_nil]; rfl
  | n + 1, .nil, ρ, s => by rw [takeS, runs_nil]; show _ = runs _ ρ s; rw [dropS, runs_nil]
  | n + 1, .cons c cs, ρ, s => by
    rw [takeS, dropS, runs_cons, runs_cons, sq_assoc]
    congr 1
    funext ρ s
    exact runs_split n cs ρ s
theorem runs_then {S : Type} {n : Nat} {c : CSs S} {ρ ρ' : List SV} {s s' : S} {r : Out S} (h : runs (takeS n c) ρ s = .nx ρ' s') (h2 : runs (dropS n c) ρ' s' = r) : runs c ρ s = r := by
  rw [runs_split n, h]
  exact h2
def zA (ns : List Int) (p : Addr) (x15 x16 x17 x18 x19 x20 : SV) : List SV := [.va (.scr ns), .va (.adr p), .va (.lst [.tup [.str "name", .str "a"], .tup [.str "name", .str "b"], .tup [.str "name", .str "c"], .tup [.str "name", .str "d"], .tup [.str "name", .str "e"], .tup [.str "name", .str "f"]]), .va (.tup [.str "name", .str "a"]), .va (.tup [.str "name", .str "b"]), .va (.tup [.str "name", .str "c"]), .va (.tup [.str "name", .str "d"]), .va (.tup [.str "name", .str "e"]), .va (.tup [.str "name", .str "f"]), .va (.tup [.tup [.int 1, .int 1], .tup [.int 0, .int 1], .tup [.int 0, .int 1]]), .va (.tup [.tup [.int 0, .int 1], .tup [.int 1, .int 1], .tup [.int 0, .int 1]]), .va (.tup [.tup [.int 0, .int 1], .tup [.int 0, .int 1], .tup [.int 1, .int 1]]), .va (.tup [.tup [.str "a", .tup [.tup [.int 1, .int 1], .tup [.int 0, .int 1], .tup [.int 0, .int 1]]], .tup [.str "b", .tup [.tup [.int 0, .int 1], .tup [.int 1, .int 1], .tup [.int 0, .int 1]]], .tup [.str "c", .tup [.tup [.int 0, .int 1], .tup [.int 0, .int 1], .tup [.int 1, .int 1]]]]), .va (.tup [.str "over", .tup [.str "name", .str "a"], .tup [.str "name", .str "c"]]), .va (.tup [.str "times", .tup [.str "name", .str "b"], .tup [.str "over", .tup [.str "name", .str "a"], .tup [.str "power", .tup [.str "name", .str "c"], .int 2]]]), x15, x16, x17, x18, x19, x20, .no]
abbrev zS (n : Int) : SV := .va (.tup [.tup [.tup [.str "name", .str "d"], .tup [.str "over", .tup [.str "name", .str "a"], .tup [.str "name", .str "c"]]], .tup [.tup [.str "name", .str "e"], .tup [.str "times", .tup [.str "name", .str "b"], .tup [.str "over", .tup [.str "name", .str "a"], .tup [.str "power", .tup [.str "name", .str "c"], .int 2]]]], .tup [.tup [.str "times", .tup [.str "number", .int n], .tup [.str "name", .str "f"]], .tup [.str "root", .tup [.str "over", .tup [.str "name", .str "a"], .tup [.str "name", .str "d"]]]]])
abbrev zT : SV := .va (.tup [.tup [.str "a", .tup [.tup [.int 1, .int 1], .tup [.int 0, .int 1], .tup [.int 0, .int 1]]], .tup [.str "b", .tup [.tup [.int 0, .int 1], .tup [.int 1, .int 1], .tup [.int 0, .int 1]]], .tup [.str "c", .tup [.tup [.int 0, .int 1], .tup [.int 0, .int 1], .tup [.int 1, .int 1]]], .tup [.str "d", .tup [.tup [.int 1, .int 1], .tup [.int 0, .int 1], .tup [.int (-1), .int 1]]], .tup [.str "e", .tup [.tup [.int 1, .int 1], .tup [.int 1, .int 1], .tup [.int (-2), .int 1]]], .tup [.str "f", .tup [.tup [.int 0, .int 1], .tup [.int 0, .int 1], .tup [.int 1, .int 2]]]])
abbrev zD : SV := .va (.tup [.tup [.str "d", .tup [.tup [.int 1, .int 1], .tup [.int 0, .int 1], .tup [.int (-1), .int 1]]], .tup [.str "e", .tup [.tup [.int 1, .int 1], .tup [.int 1, .int 1], .tup [.int (-2), .int 1]]]])
abbrev zW : SV := .va (.tup [.tup [.str "a", .tup [.tup [.int 1, .int 1], .tup [.int 0, .int 1], .tup [.int 0, .int 1]]], .tup [.str "b", .tup [.tup [.int 0, .int 1], .tup [.int 1, .int 1], .tup [.int 0, .int 1]]], .tup [.str "c", .tup [.tup [.int 0, .int 1], .tup [.int 0, .int 1], .tup [.int 1, .int 1]]], .tup [.str "d", .tup [.tup [.int 1, .int 1], .tup [.int 0, .int 1], .tup [.int (-2), .int 1]]], .tup [.str "e", .tup [.tup [.int 0, .int 1], .tup [.int 0, .int 1], .tup [.int 0, .int 1]]], .tup [.str "f", .tup [.tup [.int 1, .int 1], .tup [.int 0, .int 1], .tup [.int 0, .int 1]]]])
abbrev zR : SV := .va (.tup [.tup [.int 1, .int 0, .int 0, .int 0, .int 0, .int (-1)], .tup [.int 0, .int 0, .int 2, .int 1, .int 0, .int (-1)], .tup [.int 0, .int 0, .int 0, .int 0, .int 1, .int 0]])
abbrev zB (ns : List Int) (p : Addr) (n : Int) : List SV := zA ns p (.va (.int n)) (zS n) zT zD zW zR
theorem segA (ns : List Int) (p : Addr) (s : List Int) : runs (takeS 7 (c_law p)) (.va (.scr ns) :: .va (.adr p) :: List.replicate (22 - 2) .no) s = .nx (zA ns p .no .no .no .no .no .no) s := by kernel_rfl
theorem segBB (ns : List Int) (p : Addr) (x15 x16 x17 x18 : SV) (s : List Int) : runs (takeS 4 (dropS 13 (c_law p))) (zA ns p x15 x16 x17 x18 .no .no) s = .nx (zA ns p x15 x16 x17 x18 zW zR) s := by kernel_rfl
theorem segCC (ns : List Int) (p : Addr) (x15 x16 x17 x18 x19 x20 : SV) (s : List Int) : runs (takeS 1 (dropS 18 (c_law p))) (zA ns p x15 x16 x17 x18 x19 x20) s = .nx (zA ns p x15 x16 x17 x18 x19 x20) s := by kernel_rfl
theorem drop_drop {S : Type} : ∀ (a b : Nat) (c : CSs S), dropS a (dropS b c) = dropS (b + a) c
  | a, 0, c => by rw [Nat.zero_add]; rfl
  | a, b + 1, .nil => by
    rw [show b + 1 + a = (b + a) + 1 by omega]
    cases a <;> rfl
  | a, b + 1, .cons _ cs => by
    rw [show b + 1 + a = (b + a) + 1 by omega]
    exact drop_drop a b cs
theorem segB0 (ns : List Int) (p : Addr) (s : List Int) : runs (takeS 5 (dropS 8 (c_law p))) (zA ns p (.va (.int (1 + 0))) .no .no .no .no .no) s = .nx (zA ns p (.va (.int (1 + 0))) (zS (1 + 0)) zT zD .no .no) s := by kernel_rfl
theorem segC0 (ns : List Int) (p : Addr) (x16 x17 x18 x19 x20 : SV) (s : List Int) : runs (dropS 19 (c_law p)) (zA ns p (.va (.int (1 + 0))) x16 x17 x18 x19 x20) s = .rt (.bl true) s := by kernel_rfl
theorem segB1 (ns : List Int) (p : Addr) (s : List Int) : runs (takeS 5 (dropS 8 (c_law p))) (zA ns p (.va (.int (1 + 1))) .no .no .no .no .no) s = .nx (zA ns p (.va (.int (1 + 1))) (zS (1 + 1)) zT zD .no .no) s := by kernel_rfl
theorem segC1 (ns : List Int) (p : Addr) (x16 x17 x18 x19 x20 : SV) (s : List Int) : runs (dropS 19 (c_law p)) (zA ns p (.va (.int (1 + 1))) x16 x17 x18 x19 x20) s = .rt (.bl true) s := by kernel_rfl
theorem segB2 (ns : List Int) (p : Addr) (s : List Int) : runs (takeS 5 (dropS 8 (c_law p))) (zA ns p (.va (.int (1 + 2))) .no .no .no .no .no) s = .nx (zA ns p (.va (.int (1 + 2))) (zS (1 + 2)) zT zD .no .no) s := by kernel_rfl
theorem segC2 (ns : List Int) (p : Addr) (x16 x17 x18 x19 x20 : SV) (s : List Int) : runs (dropS 19 (c_law p)) (zA ns p (.va (.int (1 + 2))) x16 x17 x18 x19 x20) s = .rt (.bl true) s := by kernel_rfl
theorem segB3 (ns : List Int) (p : Addr) (s : List Int) : runs (takeS 5 (dropS 8 (c_law p))) (zA ns p (.va (.int (1 + 3))) .no .no .no .no .no) s = .nx (zA ns p (.va (.int (1 + 3))) (zS (1 + 3)) zT zD .no .no) s := by kernel_rfl
theorem segC3 (ns : List Int) (p : Addr) (x16 x17 x18 x19 x20 : SV) (s : List Int) : runs (dropS 19 (c_law p)) (zA ns p (.va (.int (1 + 3))) x16 x17 x18 x19 x20) s = .rt (.bl true) s := by kernel_rfl
theorem segB4 (ns : List Int) (p : Addr) (s : List Int) : runs (takeS 5 (dropS 8 (c_law p))) (zA ns p (.va (.int (1 + 4))) .no .no .no .no .no) s = .nx (zA ns p (.va (.int (1 + 4))) (zS (1 + 4)) zT zD .no .no) s := by kernel_rfl
theorem segC4 (ns : List Int) (p : Addr) (x16 x17 x18 x19 x20 : SV) (s : List Int) : runs (dropS 19 (c_law p)) (zA ns p (.va (.int (1 + 4))) x16 x17 x18 x19 x20) s = .rt (.bl true) s := by kernel_rfl
theorem segB5 (ns : List Int) (p : Addr) (s : List Int) : runs (takeS 5 (dropS 8 (c_law p))) (zA ns p (.va (.int (1 + 5))) .no .no .no .no .no) s = .nx (zA ns p (.va (.int (1 + 5))) (zS (1 + 5)) zT zD .no .no) s := by kernel_rfl
theorem segC5 (ns : List Int) (p : Addr) (x16 x17 x18 x19 x20 : SV) (s : List Int) : runs (dropS 19 (c_law p)) (zA ns p (.va (.int (1 + 5))) x16 x17 x18 x19 x20) s = .rt (.bl true) s := by kernel_rfl
theorem segB6 (ns : List Int) (p : Addr) (s : List Int) : runs (takeS 5 (dropS 8 (c_law p))) (zA ns p (.va (.int (1 + 6))) .no .no .no .no .no) s = .nx (zA ns p (.va (.int (1 + 6))) (zS (1 + 6)) zT zD .no .no) s := by kernel_rfl
theorem segC6 (ns : List Int) (p : Addr) (x16 x17 x18 x19 x20 : SV) (s : List Int) : runs (dropS 19 (c_law p)) (zA ns p (.va (.int (1 + 6))) x16 x17 x18 x19 x20) s = .rt (.bl true) s := by kernel_rfl
theorem segB7 (ns : List Int) (p : Addr) (s : List Int) : runs (takeS 5 (dropS 8 (c_law p))) (zA ns p (.va (.int (1 + 7))) .no .no .no .no .no) s = .nx (zA ns p (.va (.int (1 + 7))) (zS (1 + 7)) zT zD .no .no) s := by kernel_rfl
theorem segC7 (ns : List Int) (p : Addr) (x16 x17 x18 x19 x20 : SV) (s : List Int) : runs (dropS 19 (c_law p)) (zA ns p (.va (.int (1 + 7))) x16 x17 x18 x19 x20) s = .rt (.bl true) s := by kernel_rfl
theorem segB8 (ns : List Int) (p : Addr) (s : List Int) : runs (takeS 5 (dropS 8 (c_law p))) (zA ns p (.va (.int (1 + 8))) .no .no .no .no .no) s = .nx (zA ns p (.va (.int (1 + 8))) (zS (1 + 8)) zT zD .no .no) s := by kernel_rfl
theorem segC8 (ns : List Int) (p : Addr) (x16 x17 x18 x19 x20 : SV) (s : List Int) : runs (dropS 19 (c_law p)) (zA ns p (.va (.int (1 + 8))) x16 x17 x18 x19 x20) s = .rt (.bl true) s := by kernel_rfl
theorem forms0 (s : List Int) : g__law_forms [.lst [.tup [.str "name", .str "a"], .tup [.str "name", .str "b"], .tup [.str "name", .str "c"], .tup [.str "name", .str "d"], .tup [.str "name", .str "e"], .tup [.str "name", .str "f"]], .tup [.tup [.str "a", .tup [.tup [.int 1, .int 1], .tup [.int 0, .int 1], .tup [.int 0, .int 1]]], .tup [.str "b", .tup [.tup [.int 0, .int 1], .tup [.int 1, .int 1], .tup [.int 0, .int 1]]], .tup [.str "c", .tup [.tup [.int 0, .int 1], .tup [.int 0, .int 1], .tup [.int 1, .int 1]]]], .int (1 + 0)] s = .ok (.bl true) s := by kernel_rfl
theorem forms1 (s : List Int) : g__law_forms [.lst [.tup [.str "name", .str "a"], .tup [.str "name", .str "b"], .tup [.str "name", .str "c"], .tup [.str "name", .str "d"], .tup [.str "name", .str "e"], .tup [.str "name", .str "f"]], .tup [.tup [.str "a", .tup [.tup [.int 1, .int 1], .tup [.int 0, .int 1], .tup [.int 0, .int 1]]], .tup [.str "b", .tup [.tup [.int 0, .int 1], .tup [.int 1, .int 1], .tup [.int 0, .int 1]]], .tup [.str "c", .tup [.tup [.int 0, .int 1], .tup [.int 0, .int 1], .tup [.int 1, .int 1]]]], .int (1 + 1)] s = .ok (.bl true) s := by kernel_rfl
theorem forms2 (s : List Int) : g__law_forms [.lst [.tup [.str "name", .str "a"], .tup [.str "name", .str "b"], .tup [.str "name", .str "c"], .tup [.str "name", .str "d"], .tup [.str "name", .str "e"], .tup [.str "name", .str "f"]], .tup [.tup [.str "a", .tup [.tup [.int 1, .int 1], .tup [.int 0, .int 1], .tup [.int 0, .int 1]]], .tup [.str "b", .tup [.tup [.int 0, .int 1], .tup [.int 1, .int 1], .tup [.int 0, .int 1]]], .tup [.str "c", .tup [.tup [.int 0, .int 1], .tup [.int 0, .int 1], .tup [.int 1, .int 1]]]], .int (1 + 2)] s = .ok (.bl true) s := by kernel_rfl
theorem main (ns : List Int) (hl : ns.length ≤ 63) : ∀ p, ∃ s', runs (c_law p) (.va (.scr ns) :: .va (.adr p) :: List.replicate (22 - 2) .no) (0 :: ns) = .rt (.bl true) s' := by
  intro p
  obtain ⟨d1, s1, e1, a1, b1, t1⟩ := draw_ok (p := p) (m := 9) (Tw.zero hl) (by decide) (by decide) (by decide)
  obtain ⟨d2, s2, e2, a2, b2, t2⟩ := draw_ok (p := p) (m := 3) t1 (by decide) (by decide) (by decide)
  refine ⟨s2, runs_then (n := 7) (segA ns p _) ?_⟩
  have step : runs (dropS 7 (c_law p)) (zA ns p .no .no .no .no .no .no) (0 :: ns) = runs (dropS 8 (c_law p)) (zA ns p (.va (.int (1 + d1))) .no .no .no .no .no) s1 := by
    unfold c_law
    rw [dropS, dropS, dropS, dropS, dropS, dropS, dropS, dropS, runs_cons, run]
    show ((ev (.bin .add (.con (.int 1)) (.call "_law_draw" 3 (g__law_draw p) (.cons (.var 0) (.cons (.var 1) (.cons (.con (.int 9)) .nil))))) (zA ns p .no .no .no .no .no .no) (0 :: ns)).ob _).sq _ = _
    have e : ev (S := List Int) (.bin .add (.con (.int 1)) (.call "_law_draw" 3 (g__law_draw p) (.cons (.var 0) (.cons (.var 1) (.cons (.con (.int 9)) .nil))))) (zA ns p .no .no .no .no .no .no) (0 :: ns) = .ok (.v, .int (1 + d1)) s1 := by
      unfold zA
      simp only [fnR, runs, run, ev, evA, evT, evI, bindq_ok, ob_ok, sq_nx, sq_rt, onO_some, liftO_some, kd_some, dat_v, dat_t, tru_bl, intOf_int, noExq, stk_v, stk_t, stk_o, stow_tt, stow_fv, stow_ft, eqD_int, cmp_ne, cmp_eq, cmp_gt, cmp_ge, cmp_lt, cmp_le, cmp_in, cmp_notin, cmp_is, cmp_isnot, bin_add, bin_sub, b1_abs, ix0, ix1, items_lst, items_row, put, List.map_cons, List.map_nil, List.cons_append, List.nil_append, List.append_nil, List.length_cons, List.length_nil, List.replicate, List.getElem?_cons_zero, List.getElem?_cons_succ, List.getElem?_nil, List.set_cons_zero, List.set_cons_succ, List.set_nil, Nat.reduceAdd, Nat.reduceSub, Nat.reduceLT, Nat.reduceEqDiff, if_true, ite_true, if_false, ite_false, Option.map_some, Option.map_none, reduceIte, reduceCtorEq, Bool.false_eq_true, Nat.zero_add, Nat.add_zero, Nat.zero_lt_succ, Nat.zero_lt_one, Nat.lt_add_left_iff_pos, Nat.succ_eq_add_one, Nat.reduceLeDiff, g__law_draw, e1]
    rw [e]
    rfl
  rw [step]
  have fin : ∀ r : Int, (∀ s, runs (takeS 5 (dropS 8 (c_law p))) (zA ns p (.va (.int r)) .no .no .no .no .no) s = .nx (zA ns p (.va (.int r)) (zS r) zT zD .no .no) s) → (∀ s, runs (dropS 19 (c_law p)) (zB ns p r) s = .rt (.bl true) s) → runs (dropS 8 (c_law p)) (zA ns p (.va (.int r)) .no .no .no .no .no) s1 = .rt (.bl true) s2 := by
    intro r hB hC
    refine runs_then (n := 5) (hB s1) ?_
    rw [drop_drop]
    refine runs_then (n := 4) (segBB ns p _ _ _ _ s1) ?_
    rw [drop_drop]
    have ed : dropS 17 (c_law p) = .cons (.ife (.not (.call "_law_forms" 3 g__law_forms (.cons (.var 2) (.cons (.var 12) (.cons (.bin .add (.con (.int 1)) (.call "_law_draw" 3 (g__law_draw p) (.cons (.var 0) (.cons (.var 1) (.cons (.con (.int 3)) .nil))))) .nil))))) (.cons (.ret (.con (.bl false))) .nil) .nil) (dropS 18 (c_law p)) := by
      unfold c_law
      rfl
    show runs (dropS 17 (c_law p)) _ _ = _
    rw [ed]
    have hf : g__law_forms [.lst [.tup [.str "name", .str "a"], .tup [.str "name", .str "b"], .tup [.str "name", .str "c"], .tup [.str "name", .str "d"], .tup [.str "name", .str "e"], .tup [.str "name", .str "f"]], .tup [.tup [.str "a", .tup [.tup [.int 1, .int 1], .tup [.int 0, .int 1], .tup [.int 0, .int 1]]], .tup [.str "b", .tup [.tup [.int 0, .int 1], .tup [.int 1, .int 1], .tup [.int 0, .int 1]]], .tup [.str "c", .tup [.tup [.int 0, .int 1], .tup [.int 0, .int 1], .tup [.int 1, .int 1]]]], .int (1 + d2)] s2 = .ok (.bl true) s2 := by
      have : d2 = 0 ∨ d2 = 1 ∨ d2 = 2 := by omega
      rcases this with rfl | rfl | rfl
      · exact forms0 s2
      · exact forms1 s2
      · exact forms2 s2
    refine seq_nx (ρ' := zB ns p r) (s' := s2) ?_ (runs_then (n := 1) (segCC ns p _ _ _ _ _ _ s2) (by rw [drop_drop]; exact hC s2))
    unfold zB zA
    simp only [fnR, runs, run, ev, evA, evT, evI, bindq_ok, ob_ok, sq_nx, sq_rt, onO_some, liftO_some, kd_some, dat_v, dat_t, tru_bl, intOf_int, noExq, stk_v, stk_t, stk_o, stow_tt, stow_fv, stow_ft, eqD_int, cmp_ne, cmp_eq, cmp_gt, cmp_ge, cmp_lt, cmp_le, cmp_in, cmp_notin, cmp_is, cmp_isnot, bin_add, bin_sub, b1_abs, ix0, ix1, items_lst, items_row, put, List.map_cons, List.map_nil, List.cons_append, List.nil_append, List.append_nil, List.length_cons, List.length_nil, List.replicate, List.getElem?_cons_zero, List.getElem?_cons_succ, List.getElem?_nil, List.set_cons_zero, List.set_cons_succ, List.set_nil, Nat.reduceAdd, Nat.reduceSub, Nat.reduceLT, Nat.reduceEqDiff, if_true, ite_true, if_false, ite_false, Option.map_some, Option.map_none, reduceIte, reduceCtorEq, Bool.false_eq_true, Nat.zero_add, Nat.add_zero, Nat.zero_lt_succ, Nat.zero_lt_one, Nat.lt_add_left_iff_pos, Nat.succ_eq_add_one, Nat.reduceLeDiff, g__law_draw, e2, hf, Bool.not_true]
  have : d1 = 0 ∨ d1 = 1 ∨ d1 = 2 ∨ d1 = 3 ∨ d1 = 4 ∨ d1 = 5 ∨ d1 = 6 ∨ d1 = 7 ∨ d1 = 8 := by omega
  rcases this with rfl | rfl | rfl | rfl | rfl | rfl | rfl | rfl | rfl
  · exact fin (1 + 0) (segB0 ns p) (segC0 ns p _ _ _ _ _)
  · exact fin (1 + 1) (segB1 ns p) (segC1 ns p _ _ _ _ _)
  · exact fin (1 + 2) (segB2 ns p) (segC2 ns p _ _ _ _ _)
  · exact fin (1 + 3) (segB3 ns p) (segC3 ns p _ _ _ _ _)
  · exact fin (1 + 4) (segB4 ns p) (segC4 ns p _ _ _ _ _)
  · exact fin (1 + 5) (segB5 ns p) (segC5 ns p _ _ _ _ _)
  · exact fin (1 + 6) (segB6 ns p) (segC6 ns p _ _ _ _ _)
  · exact fin (1 + 7) (segB7 ns p) (segC7 ns p _ _ _ _ _)
  · exact fin (1 + 8) (segB8 ns p) (segC8 ns p _ _ _ _ _)
end Mf
set_option Elab.async false
set_option linter.all false
set_option maxRecDepth 100000
set_option maxHeartbeats 0
namespace Mf
open PySem L2
theorem all_mk {l : PySem.W.OpenLaw} {w : World} {K : PySem.W.Frag} {h : Heap} {mg : Str → Option Value} {fa : Addr} (X : K.In h) (G : h.Ns mainGlobals mg) (hfa : mg "law" = some (.ref fa))
    {f0 : Addr} {od0 an0 : Option Addr} {sl0 : Array (Option Value)} {oc0 kV0 dc0 pm0 cd0 ct0 : Value}
    (a0 : PySem.W.nsIn K mainGlobals "_law_town" = some (some (.ref f0))) (l0 : K.lookup f0 = some ⟨oc0, od0, .func (PySem.W.fnOf "_law_town" "_law_town" (defArgs s__law_town) (defBody s__law_town) (defScope s__law_town) .none kV0 dc0 pm0 an0 cd0 ct0), sl0⟩) (c0 : PySem.W.codeIn K cd0 "_law_town" = true) (k0 : PySem.W.keepIn K (.ref f0) = true)
    {f1 : Addr} {od1 an1 : Option Addr} {sl1 : Array (Option Value)} {oc1 kV1 dc1 pm1 cd1 ct1 : Value}
    (a1 : PySem.W.nsIn K mainGlobals "is_between" = some (some (.ref f1))) (l1 : K.lookup f1 = some ⟨oc1, od1, .func (PySem.W.fnOf "is_between" "is_between" (defArgs s_is_between) (defBody s_is_between) (defScope s_is_between) .none kV1 dc1 pm1 an1 cd1 ct1), sl1⟩) (c1 : PySem.W.codeIn K cd1 "is_between" = true) (k1 : PySem.W.keepIn K (.ref f1) = true)
    {f2 : Addr} {od2 an2 : Option Addr} {sl2 : Array (Option Value)} {oc2 kV2 dc2 pm2 cd2 ct2 : Value}
    (a2 : PySem.W.nsIn K mainGlobals "is_name" = some (some (.ref f2))) (l2 : K.lookup f2 = some ⟨oc2, od2, .func (PySem.W.fnOf "is_name" "is_name" (defArgs s_is_name) (defBody s_is_name) (defScope s_is_name) .none kV2 dc2 pm2 an2 cd2 ct2), sl2⟩) (c2 : PySem.W.codeIn K cd2 "is_name" = true) (k2 : PySem.W.keepIn K (.ref f2) = true)
    {f3 : Addr} {od3 an3 : Option Addr} {sl3 : Array (Option Value)} {oc3 kV3 dc3 pm3 cd3 ct3 : Value}
    (a3 : PySem.W.nsIn K mainGlobals "is_at_most" = some (some (.ref f3))) (l3 : K.lookup f3 = some ⟨oc3, od3, .func (PySem.W.fnOf "is_at_most" "is_at_most" (defArgs s_is_at_most) (defBody s_is_at_most) (defScope s_is_at_most) .none kV3 dc3 pm3 an3 cd3 ct3), sl3⟩) (c3 : PySem.W.codeIn K cd3 "is_at_most" = true) (k3 : PySem.W.keepIn K (.ref f3) = true)
    {f4 : Addr} {od4 an4 : Option Addr} {sl4 : Array (Option Value)} {oc4 kV4 dc4 pm4 cd4 ct4 : Value}
    (a4 : PySem.W.nsIn K mainGlobals "is_formula" = some (some (.ref f4))) (l4 : K.lookup f4 = some ⟨oc4, od4, .func (PySem.W.fnOf "is_formula" "is_formula" (defArgs s_is_formula) (defBody s_is_formula) (defScope s_is_formula) .none kV4 dc4 pm4 an4 cd4 ct4), sl4⟩) (c4 : PySem.W.codeIn K cd4 "is_formula" = true) (k4 : PySem.W.keepIn K (.ref f4) = true)
    {f5 : Addr} {od5 an5 : Option Addr} {sl5 : Array (Option Value)} {oc5 kV5 dc5 pm5 cd5 ct5 : Value}
    (a5 : PySem.W.nsIn K mainGlobals "is_statement" = some (some (.ref f5))) (l5 : K.lookup f5 = some ⟨oc5, od5, .func (PySem.W.fnOf "is_statement" "is_statement" (defArgs s_is_statement) (defBody s_is_statement) (defScope s_is_statement) .none kV5 dc5 pm5 an5 cd5 ct5), sl5⟩) (c5 : PySem.W.codeIn K cd5 "is_statement" = true) (k5 : PySem.W.keepIn K (.ref f5) = true)
    {f6 : Addr} {od6 an6 : Option Addr} {sl6 : Array (Option Value)} {oc6 kV6 dc6 pm6 cd6 ct6 : Value}
    (a6 : PySem.W.nsIn K mainGlobals "is_statements" = some (some (.ref f6))) (l6 : K.lookup f6 = some ⟨oc6, od6, .func (PySem.W.fnOf "is_statements" "is_statements" (defArgs s_is_statements) (defBody s_is_statements) (defScope s_is_statements) .none kV6 dc6 pm6 an6 cd6 ct6), sl6⟩) (c6 : PySem.W.codeIn K cd6 "is_statements" = true) (k6 : PySem.W.keepIn K (.ref f6) = true)
    {f7 : Addr} {od7 an7 : Option Addr} {sl7 : Array (Option Value)} {oc7 kV7 dc7 pm7 cd7 ct7 : Value}
    (a7 : PySem.W.nsIn K mainGlobals "check_statements" = some (some (.ref f7))) (l7 : K.lookup f7 = some ⟨oc7, od7, .func (PySem.W.fnOf "check_statements" "check_statements" (defArgs s_check_statements) (defBody s_check_statements) (defScope s_check_statements) .none kV7 dc7 pm7 an7 cd7 ct7), sl7⟩) (c7 : PySem.W.codeIn K cd7 "check_statements" = true) (k7 : PySem.W.keepIn K (.ref f7) = true)
    {f8 : Addr} {od8 an8 : Option Addr} {sl8 : Array (Option Value)} {oc8 kV8 dc8 pm8 cd8 ct8 : Value}
    (a8 : PySem.W.nsIn K mainGlobals "divisor" = some (some (.ref f8))) (l8 : K.lookup f8 = some ⟨oc8, od8, .func (PySem.W.fnOf "divisor" "divisor" (defArgs s_divisor) (defBody s_divisor) (defScope s_divisor) .none kV8 dc8 pm8 an8 cd8 ct8), sl8⟩) (c8 : PySem.W.codeIn K cd8 "divisor" = true) (k8 : PySem.W.keepIn K (.ref f8) = true)
    {f9 : Addr} {od9 an9 : Option Addr} {sl9 : Array (Option Value)} {oc9 kV9 dc9 pm9 cd9 ct9 : Value}
    (a9 : PySem.W.nsIn K mainGlobals "is_fraction" = some (some (.ref f9))) (l9 : K.lookup f9 = some ⟨oc9, od9, .func (PySem.W.fnOf "is_fraction" "is_fraction" (defArgs s_is_fraction) (defBody s_is_fraction) (defScope s_is_fraction) .none kV9 dc9 pm9 an9 cd9 ct9), sl9⟩) (c9 : PySem.W.codeIn K cd9 "is_fraction" = true) (k9 : PySem.W.keepIn K (.ref f9) = true)
    {f10 : Addr} {od10 an10 : Option Addr} {sl10 : Array (Option Value)} {oc10 kV10 dc10 pm10 cd10 ct10 : Value}
    (a10 : PySem.W.nsIn K mainGlobals "is_measure" = some (some (.ref f10))) (l10 : K.lookup f10 = some ⟨oc10, od10, .func (PySem.W.fnOf "is_measure" "is_measure" (defArgs s_is_measure) (defBody s_is_measure) (defScope s_is_measure) .none kV10 dc10 pm10 an10 cd10 ct10), sl10⟩) (c10 : PySem.W.codeIn K cd10 "is_measure" = true) (k10 : PySem.W.keepIn K (.ref f10) = true)
    {f11 : Addr} {od11 an11 : Option Addr} {sl11 : Array (Option Value)} {oc11 kV11 dc11 pm11 cd11 ct11 : Value}
    (a11 : PySem.W.nsIn K mainGlobals "is_table" = some (some (.ref f11))) (l11 : K.lookup f11 = some ⟨oc11, od11, .func (PySem.W.fnOf "is_table" "is_table" (defArgs s_is_table) (defBody s_is_table) (defScope s_is_table) .none kV11 dc11 pm11 an11 cd11 ct11), sl11⟩) (c11 : PySem.W.codeIn K cd11 "is_table" = true) (k11 : PySem.W.keepIn K (.ref f11) = true)
    {f12 : Addr} {od12 an12 : Option Addr} {sl12 : Array (Option Value)} {oc12 kV12 dc12 pm12 cd12 ct12 : Value}
    (a12 : PySem.W.nsIn K mainGlobals "check_table" = some (some (.ref f12))) (l12 : K.lookup f12 = some ⟨oc12, od12, .func (PySem.W.fnOf "check_table" "check_table" (defArgs s_check_table) (defBody s_check_table) (defScope s_check_table) .none kV12 dc12 pm12 an12 cd12 ct12), sl12⟩) (c12 : PySem.W.codeIn K cd12 "check_table" = true) (k12 : PySem.W.keepIn K (.ref f12) = true)
    {f13 : Addr} {od13 an13 : Option Addr} {sl13 : Array (Option Value)} {oc13 kV13 dc13 pm13 cd13 ct13 : Value}
    (a13 : PySem.W.nsIn K mainGlobals "check_three" = some (some (.ref f13))) (l13 : K.lookup f13 = some ⟨oc13, od13, .func (PySem.W.fnOf "check_three" "check_three" (defArgs s_check_three) (defBody s_check_three) (defScope s_check_three) .none kV13 dc13 pm13 an13 cd13 ct13), sl13⟩) (c13 : PySem.W.codeIn K cd13 "check_three" = true) (k13 : PySem.W.keepIn K (.ref f13) = true)
    {f14 : Addr} {od14 an14 : Option Addr} {sl14 : Array (Option Value)} {oc14 kV14 dc14 pm14 cd14 ct14 : Value}
    (a14 : PySem.W.nsIn K mainGlobals "whole" = some (some (.ref f14))) (l14 : K.lookup f14 = some ⟨oc14, od14, .func (PySem.W.fnOf "whole" "whole" (defArgs s_whole) (defBody s_whole) (defScope s_whole) .none kV14 dc14 pm14 an14 cd14 ct14), sl14⟩) (c14 : PySem.W.codeIn K cd14 "whole" = true) (k14 : PySem.W.keepIn K (.ref f14) = true)
    {f15 : Addr} {od15 an15 : Option Addr} {sl15 : Array (Option Value)} {oc15 kV15 dc15 pm15 cd15 ct15 : Value}
    (a15 : PySem.W.nsIn K mainGlobals "fraction" = some (some (.ref f15))) (l15 : K.lookup f15 = some ⟨oc15, od15, .func (PySem.W.fnOf "fraction" "fraction" (defArgs s_fraction) (defBody s_fraction) (defScope s_fraction) .none kV15 dc15 pm15 an15 cd15 ct15), sl15⟩) (c15 : PySem.W.codeIn K cd15 "fraction" = true) (k15 : PySem.W.keepIn K (.ref f15) = true)
    {f16 : Addr} {od16 an16 : Option Addr} {sl16 : Array (Option Value)} {oc16 kV16 dc16 pm16 cd16 ct16 : Value}
    (a16 : PySem.W.nsIn K mainGlobals "plus" = some (some (.ref f16))) (l16 : K.lookup f16 = some ⟨oc16, od16, .func (PySem.W.fnOf "plus" "plus" (defArgs s_plus) (defBody s_plus) (defScope s_plus) .none kV16 dc16 pm16 an16 cd16 ct16), sl16⟩) (c16 : PySem.W.codeIn K cd16 "plus" = true) (k16 : PySem.W.keepIn K (.ref f16) = true)
    {f17 : Addr} {od17 an17 : Option Addr} {sl17 : Array (Option Value)} {oc17 kV17 dc17 pm17 cd17 ct17 : Value}
    (a17 : PySem.W.nsIn K mainGlobals "times" = some (some (.ref f17))) (l17 : K.lookup f17 = some ⟨oc17, od17, .func (PySem.W.fnOf "times" "times" (defArgs s_times) (defBody s_times) (defScope s_times) .none kV17 dc17 pm17 an17 cd17 ct17), sl17⟩) (c17 : PySem.W.codeIn K cd17 "times" = true) (k17 : PySem.W.keepIn K (.ref f17) = true)
    {f18 : Addr} {od18 an18 : Option Addr} {sl18 : Array (Option Value)} {oc18 kV18 dc18 pm18 cd18 ct18 : Value}
    (a18 : PySem.W.nsIn K mainGlobals "added" = some (some (.ref f18))) (l18 : K.lookup f18 = some ⟨oc18, od18, .func (PySem.W.fnOf "added" "added" (defArgs s_added) (defBody s_added) (defScope s_added) .none kV18 dc18 pm18 an18 cd18 ct18), sl18⟩) (c18 : PySem.W.codeIn K cd18 "added" = true) (k18 : PySem.W.keepIn K (.ref f18) = true)
    {f19 : Addr} {od19 an19 : Option Addr} {sl19 : Array (Option Value)} {oc19 kV19 dc19 pm19 cd19 ct19 : Value}
    (a19 : PySem.W.nsIn K mainGlobals "over" = some (some (.ref f19))) (l19 : K.lookup f19 = some ⟨oc19, od19, .func (PySem.W.fnOf "over" "over" (defArgs s_over) (defBody s_over) (defScope s_over) .none kV19 dc19 pm19 an19 cd19 ct19), sl19⟩) (c19 : PySem.W.codeIn K cd19 "over" = true) (k19 : PySem.W.keepIn K (.ref f19) = true)
    {f20 : Addr} {od20 an20 : Option Addr} {sl20 : Array (Option Value)} {oc20 kV20 dc20 pm20 cd20 ct20 : Value}
    (a20 : PySem.W.nsIn K mainGlobals "reduced" = some (some (.ref f20))) (l20 : K.lookup f20 = some ⟨oc20, od20, .func (PySem.W.fnOf "reduced" "reduced" (defArgs s_reduced) (defBody s_reduced) (defScope s_reduced) .none kV20 dc20 pm20 an20 cd20 ct20), sl20⟩) (c20 : PySem.W.codeIn K cd20 "reduced" = true) (k20 : PySem.W.keepIn K (.ref f20) = true)
    {f21 : Addr} {od21 an21 : Option Addr} {sl21 : Array (Option Value)} {oc21 kV21 dc21 pm21 cd21 ct21 : Value}
    (a21 : PySem.W.nsIn K mainGlobals "parts_of" = some (some (.ref f21))) (l21 : K.lookup f21 = some ⟨oc21, od21, .func (PySem.W.fnOf "parts_of" "parts_of" (defArgs s_parts_of) (defBody s_parts_of) (defScope s_parts_of) .none kV21 dc21 pm21 an21 cd21 ct21), sl21⟩) (c21 : PySem.W.codeIn K cd21 "parts_of" = true) (k21 : PySem.W.keepIn K (.ref f21) = true)
    {f22 : Addr} {od22 an22 : Option Addr} {sl22 : Array (Option Value)} {oc22 kV22 dc22 pm22 cd22 ct22 : Value}
    (a22 : PySem.W.nsIn K mainGlobals "asked_by" = some (some (.ref f22))) (l22 : K.lookup f22 = some ⟨oc22, od22, .func (PySem.W.fnOf "asked_by" "asked_by" (defArgs s_asked_by) (defBody s_asked_by) (defScope s_asked_by) .none kV22 dc22 pm22 an22 cd22 ct22), sl22⟩) (c22 : PySem.W.codeIn K cd22 "asked_by" = true) (k22 : PySem.W.keepIn K (.ref f22) = true)
    {f23 : Addr} {od23 an23 : Option Addr} {sl23 : Array (Option Value)} {oc23 kV23 dc23 pm23 cd23 ct23 : Value}
    (a23 : PySem.W.nsIn K mainGlobals "rows_of" = some (some (.ref f23))) (l23 : K.lookup f23 = some ⟨oc23, od23, .func (PySem.W.fnOf "rows_of" "rows_of" (defArgs s_rows_of) (defBody s_rows_of) (defScope s_rows_of) .none kV23 dc23 pm23 an23 cd23 ct23), sl23⟩) (c23 : PySem.W.codeIn K cd23 "rows_of" = true) (k23 : PySem.W.keepIn K (.ref f23) = true)
    {f24 : Addr} {od24 an24 : Option Addr} {sl24 : Array (Option Value)} {oc24 kV24 dc24 pm24 cd24 ct24 : Value}
    (a24 : PySem.W.nsIn K mainGlobals "form_of" = some (some (.ref f24))) (l24 : K.lookup f24 = some ⟨oc24, od24, .func (PySem.W.fnOf "form_of" "form_of" (defArgs s_form_of) (defBody s_form_of) (defScope s_form_of) .none kV24 dc24 pm24 an24 cd24 ct24), sl24⟩) (c24 : PySem.W.codeIn K cd24 "form_of" = true) (k24 : PySem.W.keepIn K (.ref f24) = true)
    {f25 : Addr} {od25 an25 : Option Addr} {sl25 : Array (Option Value)} {oc25 kV25 dc25 pm25 cd25 ct25 : Value}
    (a25 : PySem.W.nsIn K mainGlobals "solved" = some (some (.ref f25))) (l25 : K.lookup f25 = some ⟨oc25, od25, .func (PySem.W.fnOf "solved" "solved" (defArgs s_solved) (defBody s_solved) (defScope s_solved) .none kV25 dc25 pm25 an25 cd25 ct25), sl25⟩) (c25 : PySem.W.codeIn K cd25 "solved" = true) (k25 : PySem.W.keepIn K (.ref f25) = true)
    {f26 : Addr} {od26 an26 : Option Addr} {sl26 : Array (Option Value)} {oc26 kV26 dc26 pm26 cd26 ct26 : Value}
    (a26 : PySem.W.nsIn K mainGlobals "forced" = some (some (.ref f26))) (l26 : K.lookup f26 = some ⟨oc26, od26, .func (PySem.W.fnOf "forced" "forced" (defArgs s_forced) (defBody s_forced) (defScope s_forced) .none kV26 dc26 pm26 an26 cd26 ct26), sl26⟩) (c26 : PySem.W.codeIn K cd26 "forced" = true) (k26 : PySem.W.keepIn K (.ref f26) = true)
    {f27 : Addr} {od27 an27 : Option Addr} {sl27 : Array (Option Value)} {oc27 kV27 dc27 pm27 cd27 ct27 : Value}
    (a27 : PySem.W.nsIn K mainGlobals "check_complete" = some (some (.ref f27))) (l27 : K.lookup f27 = some ⟨oc27, od27, .func (PySem.W.fnOf "check_complete" "check_complete" (defArgs s_check_complete) (defBody s_check_complete) (defScope s_check_complete) .none kV27 dc27 pm27 an27 cd27 ct27), sl27⟩) (c27 : PySem.W.codeIn K cd27 "check_complete" = true) (k27 : PySem.W.keepIn K (.ref f27) = true)
    {f28 : Addr} {od28 an28 : Option Addr} {sl28 : Array (Option Value)} {oc28 kV28 dc28 pm28 cd28 ct28 : Value}
    (a28 : PySem.W.nsIn K mainGlobals "whole_measures" = some (some (.ref f28))) (l28 : K.lookup f28 = some ⟨oc28, od28, .func (PySem.W.fnOf "whole_measures" "whole_measures" (defArgs s_whole_measures) (defBody s_whole_measures) (defScope s_whole_measures) .none kV28 dc28 pm28 an28 cd28 ct28), sl28⟩) (c28 : PySem.W.codeIn K cd28 "whole_measures" = true) (k28 : PySem.W.keepIn K (.ref f28) = true)
    {f29 : Addr} {od29 an29 : Option Addr} {sl29 : Array (Option Value)} {oc29 kV29 dc29 pm29 cd29 ct29 : Value}
    (a29 : PySem.W.nsIn K mainGlobals "less" = some (some (.ref f29))) (l29 : K.lookup f29 = some ⟨oc29, od29, .func (PySem.W.fnOf "less" "less" (defArgs s_less) (defBody s_less) (defScope s_less) .none kV29 dc29 pm29 an29 cd29 ct29), sl29⟩) (c29 : PySem.W.codeIn K cd29 "less" = true) (k29 : PySem.W.keepIn K (.ref f29) = true)
    {f30 : Addr} {od30 an30 : Option Addr} {sl30 : Array (Option Value)} {oc30 kV30 dc30 pm30 cd30 ct30 : Value}
    (a30 : PySem.W.nsIn K mainGlobals "cleared" = some (some (.ref f30))) (l30 : K.lookup f30 = some ⟨oc30, od30, .func (PySem.W.fnOf "cleared" "cleared" (defArgs s_cleared) (defBody s_cleared) (defScope s_cleared) .none kV30 dc30 pm30 an30 cd30 ct30), sl30⟩) (c30 : PySem.W.codeIn K cd30 "cleared" = true) (k30 : PySem.W.keepIn K (.ref f30) = true)
    {f31 : Addr} {od31 an31 : Option Addr} {sl31 : Array (Option Value)} {oc31 kV31 dc31 pm31 cd31 ct31 : Value}
    (a31 : PySem.W.nsIn K mainGlobals "kernel" = some (some (.ref f31))) (l31 : K.lookup f31 = some ⟨oc31, od31, .func (PySem.W.fnOf "kernel" "kernel" (defArgs s_kernel) (defBody s_kernel) (defScope s_kernel) .none kV31 dc31 pm31 an31 cd31 ct31), sl31⟩) (c31 : PySem.W.codeIn K cd31 "kernel" = true) (k31 : PySem.W.keepIn K (.ref f31) = true)
    {f32 : Addr} {od32 an32 : Option Addr} {sl32 : Array (Option Value)} {oc32 kV32 dc32 pm32 cd32 ct32 : Value}
    (a32 : PySem.W.nsIn K mainGlobals "found_products" = some (some (.ref f32))) (l32 : K.lookup f32 = some ⟨oc32, od32, .func (PySem.W.fnOf "found_products" "found_products" (defArgs s_found_products) (defBody s_found_products) (defScope s_found_products) .none kV32 dc32 pm32 an32 cd32 ct32), sl32⟩) (c32 : PySem.W.codeIn K cd32 "found_products" = true) (k32 : PySem.W.keepIn K (.ref f32) = true)
    {f33 : Addr} {od33 an33 : Option Addr} {sl33 : Array (Option Value)} {oc33 kV33 dc33 pm33 cd33 ct33 : Value}
    (a33 : PySem.W.nsIn K mainGlobals "plain_products" = some (some (.ref f33))) (l33 : K.lookup f33 = some ⟨oc33, od33, .func (PySem.W.fnOf "plain_products" "plain_products" (defArgs s_plain_products) (defBody s_plain_products) (defScope s_plain_products) .none kV33 dc33 pm33 an33 cd33 ct33), sl33⟩) (c33 : PySem.W.codeIn K cd33 "plain_products" = true) (k33 : PySem.W.keepIn K (.ref f33) = true)
    {f34 : Addr} {od34 an34 : Option Addr} {sl34 : Array (Option Value)} {oc34 kV34 dc34 pm34 cd34 ct34 : Value}
    (a34 : PySem.W.nsIn K mainGlobals "check_formula" = some (some (.ref f34))) (l34 : K.lookup f34 = some ⟨oc34, od34, .func (PySem.W.fnOf "check_formula" "check_formula" (defArgs s_check_formula) (defBody s_check_formula) (defScope s_check_formula) .none kV34 dc34 pm34 an34 cd34 ct34), sl34⟩) (c34 : PySem.W.codeIn K cd34 "check_formula" = true) (k34 : PySem.W.keepIn K (.ref f34) = true)
    {f35 : Addr} {od35 an35 : Option Addr} {sl35 : Array (Option Value)} {oc35 kV35 dc35 pm35 cd35 ct35 : Value}
    (a35 : PySem.W.nsIn K mainGlobals "found_names" = some (some (.ref f35))) (l35 : K.lookup f35 = some ⟨oc35, od35, .func (PySem.W.fnOf "found_names" "found_names" (defArgs s_found_names) (defBody s_found_names) (defScope s_found_names) .none kV35 dc35 pm35 an35 cd35 ct35), sl35⟩) (c35 : PySem.W.codeIn K cd35 "found_names" = true) (k35 : PySem.W.keepIn K (.ref f35) = true)
    {f36 : Addr} {od36 an36 : Option Addr} {sl36 : Array (Option Value)} {oc36 kV36 dc36 pm36 cd36 ct36 : Value}
    (a36 : PySem.W.nsIn K mainGlobals "check_known" = some (some (.ref f36))) (l36 : K.lookup f36 = some ⟨oc36, od36, .func (PySem.W.fnOf "check_known" "check_known" (defArgs s_check_known) (defBody s_check_known) (defScope s_check_known) .none kV36 dc36 pm36 an36 cd36 ct36), sl36⟩) (c36 : PySem.W.codeIn K cd36 "check_known" = true) (k36 : PySem.W.keepIn K (.ref f36) = true)
    {f37 : Addr} {od37 an37 : Option Addr} {sl37 : Array (Option Value)} {oc37 kV37 dc37 pm37 cd37 ct37 : Value}
    (a37 : PySem.W.nsIn K mainGlobals "joined" = some (some (.ref f37))) (l37 : K.lookup f37 = some ⟨oc37, od37, .func (PySem.W.fnOf "joined" "joined" (defArgs s_joined) (defBody s_joined) (defScope s_joined) .none kV37 dc37 pm37 an37 cd37 ct37), sl37⟩) (c37 : PySem.W.codeIn K cd37 "joined" = true) (k37 : PySem.W.keepIn K (.ref f37) = true)
    {f38 : Addr} {od38 an38 : Option Addr} {sl38 : Array (Option Value)} {oc38 kV38 dc38 pm38 cd38 ct38 : Value}
    (a38 : PySem.W.nsIn K mainGlobals "looked" = some (some (.ref f38))) (l38 : K.lookup f38 = some ⟨oc38, od38, .func (PySem.W.fnOf "looked" "looked" (defArgs s_looked) (defBody s_looked) (defScope s_looked) .none kV38 dc38 pm38 an38 cd38 ct38), sl38⟩) (c38 : PySem.W.codeIn K cd38 "looked" = true) (k38 : PySem.W.keepIn K (.ref f38) = true)
    {f39 : Addr} {od39 an39 : Option Addr} {sl39 : Array (Option Value)} {oc39 kV39 dc39 pm39 cd39 ct39 : Value}
    (a39 : PySem.W.nsIn K mainGlobals "measure_of" = some (some (.ref f39))) (l39 : K.lookup f39 = some ⟨oc39, od39, .func (PySem.W.fnOf "measure_of" "measure_of" (defArgs s_measure_of) (defBody s_measure_of) (defScope s_measure_of) .none kV39 dc39 pm39 an39 cd39 ct39), sl39⟩) (c39 : PySem.W.codeIn K cd39 "measure_of" = true) (k39 : PySem.W.keepIn K (.ref f39) = true)
    {f40 : Addr} {od40 an40 : Option Addr} {sl40 : Array (Option Value)} {oc40 kV40 dc40 pm40 cd40 ct40 : Value}
    (a40 : PySem.W.nsIn K mainGlobals "first_clash" = some (some (.ref f40))) (l40 : K.lookup f40 = some ⟨oc40, od40, .func (PySem.W.fnOf "first_clash" "first_clash" (defArgs s_first_clash) (defBody s_first_clash) (defScope s_first_clash) .none kV40 dc40 pm40 an40 cd40 ct40), sl40⟩) (c40 : PySem.W.codeIn K cd40 "first_clash" = true) (k40 : PySem.W.keepIn K (.ref f40) = true)
    {f41 : Addr} {od41 an41 : Option Addr} {sl41 : Array (Option Value)} {oc41 kV41 dc41 pm41 cd41 ct41 : Value}
    (a41 : PySem.W.nsIn K mainGlobals "_law_draw" = some (some (.ref f41))) (l41 : K.lookup f41 = some ⟨oc41, od41, .func (PySem.W.fnOf "_law_draw" "_law_draw" (defArgs s__law_draw) (defBody s__law_draw) (defScope s__law_draw) .none kV41 dc41 pm41 an41 cd41 ct41), sl41⟩) (c41 : PySem.W.codeIn K cd41 "_law_draw" = true) (k41 : PySem.W.keepIn K (.ref f41) = true)
    {f42 : Addr} {od42 an42 : Option Addr} {sl42 : Array (Option Value)} {oc42 kV42 dc42 pm42 cd42 ct42 : Value}
    (a42 : PySem.W.nsIn K mainGlobals "check_name" = some (some (.ref f42))) (l42 : K.lookup f42 = some ⟨oc42, od42, .func (PySem.W.fnOf "check_name" "check_name" (defArgs s_check_name) (defBody s_check_name) (defScope s_check_name) .none kV42 dc42 pm42 an42 cd42 ct42), sl42⟩) (c42 : PySem.W.codeIn K cd42 "check_name" = true) (k42 : PySem.W.keepIn K (.ref f42) = true)
    {f43 : Addr} {od43 an43 : Option Addr} {sl43 : Array (Option Value)} {oc43 kV43 dc43 pm43 cd43 ct43 : Value}
    (a43 : PySem.W.nsIn K mainGlobals "as_product" = some (some (.ref f43))) (l43 : K.lookup f43 = some ⟨oc43, od43, .func (PySem.W.fnOf "as_product" "as_product" (defArgs s_as_product) (defBody s_as_product) (defScope s_as_product) .none kV43 dc43 pm43 an43 cd43 ct43), sl43⟩) (c43 : PySem.W.codeIn K cd43 "as_product" = true) (k43 : PySem.W.keepIn K (.ref f43) = true)
    {f44 : Addr} {od44 an44 : Option Addr} {sl44 : Array (Option Value)} {oc44 kV44 dc44 pm44 cd44 ct44 : Value}
    (a44 : PySem.W.nsIn K mainGlobals "form" = some (some (.ref f44))) (l44 : K.lookup f44 = some ⟨oc44, od44, .func (PySem.W.fnOf "form" "form" (defArgs s_form) (defBody s_form) (defScope s_form) .none kV44 dc44 pm44 an44 cd44 ct44), sl44⟩) (c44 : PySem.W.codeIn K cd44 "form" = true) (k44 : PySem.W.keepIn K (.ref f44) = true)
    {f45 : Addr} {od45 an45 : Option Addr} {sl45 : Array (Option Value)} {oc45 kV45 dc45 pm45 cd45 ct45 : Value}
    (a45 : PySem.W.nsIn K mainGlobals "_law_alone" = some (some (.ref f45))) (l45 : K.lookup f45 = some ⟨oc45, od45, .func (PySem.W.fnOf "_law_alone" "_law_alone" (defArgs s__law_alone) (defBody s__law_alone) (defScope s__law_alone) .none kV45 dc45 pm45 an45 cd45 ct45), sl45⟩) (c45 : PySem.W.codeIn K cd45 "_law_alone" = true) (k45 : PySem.W.keepIn K (.ref f45) = true)
    {f46 : Addr} {od46 an46 : Option Addr} {sl46 : Array (Option Value)} {oc46 kV46 dc46 pm46 cd46 ct46 : Value}
    (a46 : PySem.W.nsIn K mainGlobals "tuples_of" = some (some (.ref f46))) (l46 : K.lookup f46 = some ⟨oc46, od46, .func (PySem.W.fnOf "tuples_of" "tuples_of" (defArgs s_tuples_of) (defBody s_tuples_of) (defScope s_tuples_of) .none kV46 dc46 pm46 an46 cd46 ct46), sl46⟩) (c46 : PySem.W.codeIn K cd46 "tuples_of" = true) (k46 : PySem.W.keepIn K (.ref f46) = true)
    {f47 : Addr} {od47 an47 : Option Addr} {sl47 : Array (Option Value)} {oc47 kV47 dc47 pm47 cd47 ct47 : Value}
    (a47 : PySem.W.nsIn K mainGlobals "has_any" = some (some (.ref f47))) (l47 : K.lookup f47 = some ⟨oc47, od47, .func (PySem.W.fnOf "has_any" "has_any" (defArgs s_has_any) (defBody s_has_any) (defScope s_has_any) .none kV47 dc47 pm47 an47 cd47 ct47), sl47⟩) (c47 : PySem.W.codeIn K cd47 "has_any" = true) (k47 : PySem.W.keepIn K (.ref f47) = true)
    {f48 : Addr} {od48 an48 : Option Addr} {sl48 : Array (Option Value)} {oc48 kV48 dc48 pm48 cd48 ct48 : Value}
    (a48 : PySem.W.nsIn K mainGlobals "clashing" = some (some (.ref f48))) (l48 : K.lookup f48 = some ⟨oc48, od48, .func (PySem.W.fnOf "clashing" "clashing" (defArgs s_clashing) (defBody s_clashing) (defScope s_clashing) .none kV48 dc48 pm48 an48 cd48 ct48), sl48⟩) (c48 : PySem.W.codeIn K cd48 "clashing" = true) (k48 : PySem.W.keepIn K (.ref f48) = true)
    {f49 : Addr} {od49 an49 : Option Addr} {sl49 : Array (Option Value)} {oc49 kV49 dc49 pm49 cd49 ct49 : Value}
    (a49 : PySem.W.nsIn K mainGlobals "needless" = some (some (.ref f49))) (l49 : K.lookup f49 = some ⟨oc49, od49, .func (PySem.W.fnOf "needless" "needless" (defArgs s_needless) (defBody s_needless) (defScope s_needless) .none kV49 dc49 pm49 an49 cd49 ct49), sl49⟩) (c49 : PySem.W.codeIn K cd49 "needless" = true) (k49 : PySem.W.keepIn K (.ref f49) = true)
    {f50 : Addr} {od50 an50 : Option Addr} {sl50 : Array (Option Value)} {oc50 kV50 dc50 pm50 cd50 ct50 : Value}
    (a50 : PySem.W.nsIn K mainGlobals "check_two" = some (some (.ref f50))) (l50 : K.lookup f50 = some ⟨oc50, od50, .func (PySem.W.fnOf "check_two" "check_two" (defArgs s_check_two) (defBody s_check_two) (defScope s_check_two) .none kV50 dc50 pm50 an50 cd50 ct50), sl50⟩) (c50 : PySem.W.codeIn K cd50 "check_two" = true) (k50 : PySem.W.keepIn K (.ref f50) = true)
    {f51 : Addr} {od51 an51 : Option Addr} {sl51 : Array (Option Value)} {oc51 kV51 dc51 pm51 cd51 ct51 : Value}
    (a51 : PySem.W.nsIn K mainGlobals "vectors" = some (some (.ref f51))) (l51 : K.lookup f51 = some ⟨oc51, od51, .func (PySem.W.fnOf "vectors" "vectors" (defArgs s_vectors) (defBody s_vectors) (defScope s_vectors) .none kV51 dc51 pm51 an51 cd51 ct51), sl51⟩) (c51 : PySem.W.codeIn K cd51 "vectors" = true) (k51 : PySem.W.keepIn K (.ref f51) = true)
    {f52 : Addr} {od52 an52 : Option Addr} {sl52 : Array (Option Value)} {oc52 kV52 dc52 pm52 cd52 ct52 : Value}
    (a52 : PySem.W.nsIn K mainGlobals "table_of" = some (some (.ref f52))) (l52 : K.lookup f52 = some ⟨oc52, od52, .func (PySem.W.fnOf "table_of" "table_of" (defArgs s_table_of) (defBody s_table_of) (defScope s_table_of) .none kV52 dc52 pm52 an52 cd52 ct52), sl52⟩) (c52 : PySem.W.codeIn K cd52 "table_of" = true) (k52 : PySem.W.keepIn K (.ref f52) = true)
    {f53 : Addr} {od53 an53 : Option Addr} {sl53 : Array (Option Value)} {oc53 kV53 dc53 pm53 cd53 ct53 : Value}
    (a53 : PySem.W.nsIn K mainGlobals "is_brought" = some (some (.ref f53))) (l53 : K.lookup f53 = some ⟨oc53, od53, .func (PySem.W.fnOf "is_brought" "is_brought" (defArgs s_is_brought) (defBody s_is_brought) (defScope s_is_brought) .none kV53 dc53 pm53 an53 cd53 ct53), sl53⟩) (c53 : PySem.W.codeIn K cd53 "is_brought" = true) (k53 : PySem.W.keepIn K (.ref f53) = true)
    {f54 : Addr} {od54 an54 : Option Addr} {sl54 : Array (Option Value)} {oc54 kV54 dc54 pm54 cd54 ct54 : Value}
    (a54 : PySem.W.nsIn K mainGlobals "first_outside" = some (some (.ref f54))) (l54 : K.lookup f54 = some ⟨oc54, od54, .func (PySem.W.fnOf "first_outside" "first_outside" (defArgs s_first_outside) (defBody s_first_outside) (defScope s_first_outside) .none kV54 dc54 pm54 an54 cd54 ct54), sl54⟩) (c54 : PySem.W.codeIn K cd54 "first_outside" = true) (k54 : PySem.W.keepIn K (.ref f54) = true)
    {f55 : Addr} {od55 an55 : Option Addr} {sl55 : Array (Option Value)} {oc55 kV55 dc55 pm55 cd55 ct55 : Value}
    (a55 : PySem.W.nsIn K mainGlobals "showing_table" = some (some (.ref f55))) (l55 : K.lookup f55 = some ⟨oc55, od55, .func (PySem.W.fnOf "showing_table" "showing_table" (defArgs s_showing_table) (defBody s_showing_table) (defScope s_showing_table) .none kV55 dc55 pm55 an55 cd55 ct55), sl55⟩) (c55 : PySem.W.codeIn K cd55 "showing_table" = true) (k55 : PySem.W.keepIn K (.ref f55) = true)
    {f56 : Addr} {od56 an56 : Option Addr} {sl56 : Array (Option Value)} {oc56 kV56 dc56 pm56 cd56 ct56 : Value}
    (a56 : PySem.W.nsIn K mainGlobals "check_both" = some (some (.ref f56))) (l56 : K.lookup f56 = some ⟨oc56, od56, .func (PySem.W.fnOf "check_both" "check_both" (defArgs s_check_both) (defBody s_check_both) (defScope s_check_both) .none kV56 dc56 pm56 an56 cd56 ct56), sl56⟩) (c56 : PySem.W.codeIn K cd56 "check_both" = true) (k56 : PySem.W.keepIn K (.ref f56) = true)
    {f57 : Addr} {od57 an57 : Option Addr} {sl57 : Array (Option Value)} {oc57 kV57 dc57 pm57 cd57 ct57 : Value}
    (a57 : PySem.W.nsIn K mainGlobals "parting_table" = some (some (.ref f57))) (l57 : K.lookup f57 = some ⟨oc57, od57, .func (PySem.W.fnOf "parting_table" "parting_table" (defArgs s_parting_table) (defBody s_parting_table) (defScope s_parting_table) .none kV57 dc57 pm57 an57 cd57 ct57), sl57⟩) (c57 : PySem.W.codeIn K cd57 "parting_table" = true) (k57 : PySem.W.keepIn K (.ref f57) = true)
    {f58 : Addr} {od58 an58 : Option Addr} {sl58 : Array (Option Value)} {oc58 kV58 dc58 pm58 cd58 ct58 : Value}
    (a58 : PySem.W.nsIn K mainGlobals "_law_forms" = some (some (.ref f58))) (l58 : K.lookup f58 = some ⟨oc58, od58, .func (PySem.W.fnOf "_law_forms" "_law_forms" (defArgs s__law_forms) (defBody s__law_forms) (defScope s__law_forms) .none kV58 dc58 pm58 an58 cd58 ct58), sl58⟩) (c58 : PySem.W.codeIn K cd58 "_law_forms" = true) (k58 : PySem.W.keepIn K (.ref f58) = true)
    {f59 : Addr} {od59 an59 : Option Addr} {sl59 : Array (Option Value)} {oc59 kV59 dc59 pm59 cd59 ct59 : Value}
    (a59 : PySem.W.nsIn K mainGlobals "powered" = some (some (.ref f59))) (l59 : K.lookup f59 = some ⟨oc59, od59, .func (PySem.W.fnOf "powered" "powered" (defArgs s_powered) (defBody s_powered) (defScope s_powered) .none kV59 dc59 pm59 an59 cd59 ct59), sl59⟩) (c59 : PySem.W.codeIn K cd59 "powered" = true) (k59 : PySem.W.keepIn K (.ref f59) = true)
    {f60 : Addr} {od60 an60 : Option Addr} {sl60 : Array (Option Value)} {oc60 kV60 dc60 pm60 cd60 ct60 : Value}
    (a60 : PySem.W.nsIn K mainGlobals "factor_of" = some (some (.ref f60))) (l60 : K.lookup f60 = some ⟨oc60, od60, .func (PySem.W.fnOf "factor_of" "factor_of" (defArgs s_factor_of) (defBody s_factor_of) (defScope s_factor_of) .none kV60 dc60 pm60 an60 cd60 ct60), sl60⟩) (c60 : PySem.W.codeIn K cd60 "factor_of" = true) (k60 : PySem.W.keepIn K (.ref f60) = true)
    {f61 : Addr} {od61 an61 : Option Addr} {sl61 : Array (Option Value)} {oc61 kV61 dc61 pm61 cd61 ct61 : Value}
    (a61 : PySem.W.nsIn K mainGlobals "has_root" = some (some (.ref f61))) (l61 : K.lookup f61 = some ⟨oc61, od61, .func (PySem.W.fnOf "has_root" "has_root" (defArgs s_has_root) (defBody s_has_root) (defScope s_has_root) .none kV61 dc61 pm61 an61 cd61 ct61), sl61⟩) (c61 : PySem.W.codeIn K cd61 "has_root" = true) (k61 : PySem.W.keepIn K (.ref f61) = true)
    {f62 : Addr} {od62 an62 : Option Addr} {sl62 : Array (Option Value)} {oc62 kV62 dc62 pm62 cd62 ct62 : Value}
    (a62 : PySem.W.nsIn K mainGlobals "value_with" = some (some (.ref f62))) (l62 : K.lookup f62 = some ⟨oc62, od62, .func (PySem.W.fnOf "value_with" "value_with" (defArgs s_value_with) (defBody s_value_with) (defScope s_value_with) .none kV62 dc62 pm62 an62 cd62 ct62), sl62⟩) (c62 : PySem.W.codeIn K cd62 "value_with" = true) (k62 : PySem.W.keepIn K (.ref f62) = true)
    {f63 : Addr} {od63 an63 : Option Addr} {sl63 : Array (Option Value)} {oc63 kV63 dc63 pm63 cd63 ct63 : Value}
    (a63 : PySem.W.nsIn K mainGlobals "value_of" = some (some (.ref f63))) (l63 : K.lookup f63 = some ⟨oc63, od63, .func (PySem.W.fnOf "value_of" "value_of" (defArgs s_value_of) (defBody s_value_of) (defScope s_value_of) .none kV63 dc63 pm63 an63 cd63 ct63), sl63⟩) (c63 : PySem.W.codeIn K cd63 "value_of" = true) (k63 : PySem.W.keepIn K (.ref f63) = true)
    {f64 : Addr} {od64 an64 : Option Addr} {sl64 : Array (Option Value)} {oc64 kV64 dc64 pm64 cd64 ct64 : Value}
    (a64 : PySem.W.nsIn K mainGlobals "_law_frac" = some (some (.ref f64))) (l64 : K.lookup f64 = some ⟨oc64, od64, .func (PySem.W.fnOf "_law_frac" "_law_frac" (defArgs s__law_frac) (defBody s__law_frac) (defScope s__law_frac) .none kV64 dc64 pm64 an64 cd64 ct64), sl64⟩) (c64 : PySem.W.codeIn K cd64 "_law_frac" = true) (k64 : PySem.W.keepIn K (.ref f64) = true)
    {f65 : Addr} {od65 an65 : Option Addr} {sl65 : Array (Option Value)} {oc65 kV65 dc65 pm65 cd65 ct65 : Value}
    (a65 : PySem.W.nsIn K mainGlobals "completion" = some (some (.ref f65))) (l65 : K.lookup f65 = some ⟨oc65, od65, .func (PySem.W.fnOf "completion" "completion" (defArgs s_completion) (defBody s_completion) (defScope s_completion) .none kV65 dc65 pm65 an65 cd65 ct65), sl65⟩) (c65 : PySem.W.codeIn K cd65 "completion" = true) (k65 : PySem.W.keepIn K (.ref f65) = true)
    {f66 : Addr} {od66 an66 : Option Addr} {sl66 : Array (Option Value)} {oc66 kV66 dc66 pm66 cd66 ct66 : Value}
    (a66 : PySem.W.nsIn K mainGlobals "do_imply" = some (some (.ref f66))) (l66 : K.lookup f66 = some ⟨oc66, od66, .func (PySem.W.fnOf "do_imply" "do_imply" (defArgs s_do_imply) (defBody s_do_imply) (defScope s_do_imply) .none kV66 dc66 pm66 an66 cd66 ct66), sl66⟩) (c66 : PySem.W.codeIn K cd66 "do_imply" = true) (k66 : PySem.W.keepIn K (.ref f66) = true)
    {f67 : Addr} {od67 an67 : Option Addr} {sl67 : Array (Option Value)} {oc67 kV67 dc67 pm67 cd67 ct67 : Value}
    (a67 : PySem.W.nsIn K mainGlobals "count_free" = some (some (.ref f67))) (l67 : K.lookup f67 = some ⟨oc67, od67, .func (PySem.W.fnOf "count_free" "count_free" (defArgs s_count_free) (defBody s_count_free) (defScope s_count_free) .none kV67 dc67 pm67 an67 cd67 ct67), sl67⟩) (c67 : PySem.W.codeIn K cd67 "count_free" = true) (k67 : PySem.W.keepIn K (.ref f67) = true)
    {f68 : Addr} {od68 an68 : Option Addr} {sl68 : Array (Option Value)} {oc68 kV68 dc68 pm68 cd68 ct68 : Value}
    (a68 : PySem.W.nsIn K mainGlobals "law" = some (some (.ref f68))) (l68 : K.lookup f68 = some ⟨oc68, od68, .func (PySem.W.fnOf "law" "law" (defArgs s_law) (defBody s_law) (defScope s_law) .none kV68 dc68 pm68 an68 cd68 ct68), sl68⟩) (c68 : PySem.W.codeIn K cd68 "law" = true) (k68 : PySem.W.keepIn K (.ref f68) = true)
    (z0 : PySem.W.nsIn K mainGlobals "len" = some none)
    (z1 : PySem.W.nsIn K mainGlobals "abs" = some none)
    (z2 : PySem.W.nsIn K mainGlobals "int" = some none)
    (z3 : PySem.W.nsIn K mainGlobals "tuple" = some none)
    (z4 : PySem.W.nsIn K mainGlobals "list" = some none)
    (z5 : PySem.W.nsIn K mainGlobals "all" = some none)
    (z6 : PySem.W.nsIn K mainGlobals "any" = some none)
    (z7 : PySem.W.nsIn K mainGlobals "max" = some none)
    (z8 : PySem.W.nsIn K mainGlobals "isinstance" = some none)
    (z9 : PySem.W.nsIn K mainGlobals "bool" = some none)
    (z10 : PySem.W.nsIn K mainGlobals "str" = some none)
    (z11 : PySem.W.nsIn K mainGlobals "range" = some none)
    (z12 : PySem.W.nsIn K mainGlobals "zip" = some none)
    (z13 : PySem.W.nsIn K mainGlobals "sorted" = some none)
    (z14 : PySem.W.nsIn K mainGlobals "set" = some none)
    (z15 : PySem.W.nsIn K mainGlobals "dict" = some none)
    (z16 : PySem.W.nsIn K mainGlobals "enumerate" = some none)
    {u0 : Value} (qg0 : PySem.W.nsIn K mainGlobals "NAMES" = some (some u0)) (qr0 : repB K 20 u0 d_NAMES = true)
    {u1 : Value} (qg1 : PySem.W.nsIn K mainGlobals "ZERO" = some (some u1)) (qr1 : repB K 20 u1 d_ZERO = true)
    {u2 : Value} (qg2 : PySem.W.nsIn K mainGlobals "PLAIN" = some (some u2)) (qr2 : repB K 20 u2 d_PLAIN = true)
    {u3 : Value} (qg3 : PySem.W.nsIn K mainGlobals "EMPTY" = some (some u3)) (qr3 : repB K 20 u3 d_EMPTY = true)
    {u4 : Value} (qg4 : PySem.W.nsIn K mainGlobals "ONE" = some (some u4)) (qr4 : repB K 20 u4 d_ONE = true) :
    ∃ fd : FuncData, (∀ (s : Shared) (v : Value), BindsTo s fd ⟨[v], []⟩ [("script", v)]) ∧ ∀ base : Heap, K.In base → base.Ns mainGlobals mg → FnOk l.prog w K mg base (L2.CX l.prog w) 18 fa fd ["script"] (spLaw K 22 c_law) := by
  have e := hfa.symm.trans (PySem.W.mg_of X G a68)
  cases e
  have blt : ∀ y ∈ bltNames, mg y = none := by
    intro y hy
    unfold bltNames at hy
    simp only [List.mem_cons, List.not_mem_nil, or_false] at hy
    rcases hy with rfl | rfl | rfl | rfl | rfl | rfl | rfl | rfl | rfl | rfl | rfl | rfl | rfl | rfl | rfl | rfl | rfl
    · exact PySem.W.mg_none_of X G z0
    · exact PySem.W.mg_none_of X G z1
    · exact PySem.W.mg_none_of X G z2
    · exact PySem.W.mg_none_of X G z3
    · exact PySem.W.mg_none_of X G z4
    · exact PySem.W.mg_none_of X G z5
    · exact PySem.W.mg_none_of X G z6
    · exact PySem.W.mg_none_of X G z7
    · exact PySem.W.mg_none_of X G z8
    · exact PySem.W.mg_none_of X G z9
    · exact PySem.W.mg_none_of X G z10
    · exact PySem.W.mg_none_of X G z11
    · exact PySem.W.mg_none_of X G z12
    · exact PySem.W.mg_none_of X G z13
    · exact PySem.W.mg_none_of X G z14
    · exact PySem.W.mg_none_of X G z15
    · exact PySem.W.mg_none_of X G z16
  have gl_NAMES : Glb K mg "NAMES" d_NAMES := glb_of X G qg0 qr0
  have gl_ZERO : Glb K mg "ZERO" d_ZERO := glb_of X G qg1 qr1
  have gl_PLAIN : Glb K mg "PLAIN" d_PLAIN := glb_of X G qg2 qr2
  have gl_EMPTY : Glb K mg "EMPTY" d_EMPTY := glb_of X G qg3 qr3
  have gl_ONE : Glb K mg "ONE" d_ONE := glb_of X G qg4 qr4
  have F68 := fun_mk (st := s_law) l68 c68 k68
  refine ⟨PySem.W.fnOf "law" "law" (defArgs s_law) (defBody s_law) (defScope s_law) .none kV68 dc68 pm68 an68 cd68 ct68, fun s v => .of_eq rfl, fun base _ _ => ?_⟩
  have F0 := fun_mk (st := s__law_town) l0 c0 k0
  have b0 := F0.binds (ps := ["script"]) fun _ _ _ _ _ _ us hl => match us, hl with | [_], _ => rfl
  have F41 := fun_mk (st := s__law_draw) l41 c41 k41
  have b41 := F41.binds (ps := ["script", "town", "limit"]) fun _ _ _ _ _ _ us hl => match us, hl with | [_, _, _], _ => rfl
  have need : ∀ p, needSs (fun x m g => Has l.prog w K mg base (townSys p) 17 x m g) (Glb K mg) (c_law p) := by
    intro p
    have h__law_draw : Has l.prog w K mg base (townSys p) 1 "_law_draw" 3 (g_draw p) := ⟨f41, _, _, rfl, ok_draw F41 (blt "len" (by decide +kernel)), PySem.W.mg_of X G a41, k41, b41⟩
    have h_is_between := H_is_between (P := l.prog) (w := w) (base := base) (p := p) (n := 0) (defAt X G a1 l1 c1 k1) blt  
    have h_is_name := H_is_name (P := l.prog) (w := w) (base := base) (p := p) (n := 0) (defAt X G a2 l2 c2 k2) blt  gl_NAMES
    have h_is_at_most := H_is_at_most (P := l.prog) (w := w) (base := base) (p := p) (n := 1) (defAt X G a3 l3 c3 k3) blt (h_is_between.mono (by decide)) (h_is_name.mono (by decide))  6
    have h_is_formula := H_is_formula (P := l.prog) (w := w) (base := base) (p := p) (n := 8) (defAt X G a4 l4 c4 k4) blt (h_is_at_most.mono (by decide)) 
    have h_is_statement := H_is_statement (P := l.prog) (w := w) (base := base) (p := p) (n := 9) (defAt X G a5 l5 c5 k5) blt (h_is_formula.mono (by decide)) 
    have h_is_statements := H_is_statements (P := l.prog) (w := w) (base := base) (p := p) (n := 10) (defAt X G a6 l6 c6 k6) blt (h_is_statement.mono (by decide)) 
    have h_check_statements := H_check_statements (P := l.prog) (w := w) (base := base) (p := p) (n := 11) (defAt X G a7 l7 c7 k7) blt (h_is_statements.mono (by decide)) 
    have h_divisor := H_divisor (P := l.prog) (w := w) (base := base) (p := p) (n := 0) (defAt X G a8 l8 c8 k8) blt  
    have h_is_fraction := H_is_fraction (P := l.prog) (w := w) (base := base) (p := p) (n := 1) (defAt X G a9 l9 c9 k9) blt (h_is_between.mono (by decide)) (h_divisor.mono (by decide)) 
    have h_is_measure := H_is_measure (P := l.prog) (w := w) (base := base) (p := p) (n := 2) (defAt X G a10 l10 c10 k10) blt (h_is_fraction.mono (by decide)) 
    have h_is_table := H_is_table (P := l.prog) (w := w) (base := base) (p := p) (n := 3) (defAt X G a11 l11 c11 k11) blt (h_is_name.mono (by decide)) (h_is_measure.mono (by decide)) 
    have h_check_table := H_check_table (P := l.prog) (w := w) (base := base) (p := p) (n := 4) (defAt X G a12 l12 c12 k12) blt (h_is_table.mono (by decide)) 
    have h_check_three := H_check_three (P := l.prog) (w := w) (base := base) (p := p) (n := 12) (defAt X G a13 l13 c13 k13) blt (h_check_statements.mono (by decide)) (h_check_table.mono (by decide)) 
    have h_whole := H_whole (P := l.prog) (w := w) (base := base) (p := p) (n := 1) (defAt X G a14 l14 c14 k14) blt (h_divisor.mono (by decide)) 
    have h_fraction := H_fraction (P := l.prog) (w := w) (base := base) (p := p) (n := 1) (defAt X G a15 l15 c15 k15) blt (h_divisor.mono (by decide)) 
    have h_plus := H_plus (P := l.prog) (w := w) (base := base) (p := p) (n := 2) (defAt X G a16 l16 c16 k16) blt (h_fraction.mono (by decide)) 
    have h_times := H_times (P := l.prog) (w := w) (base := base) (p := p) (n := 2) (defAt X G a17 l17 c17 k17) blt (h_fraction.mono (by decide)) 
    have h_added := H_added (P := l.prog) (w := w) (base := base) (p := p) (n := 3) (defAt X G a18 l18 c18 k18) blt (h_plus.mono (by decide)) (h_times.mono (by decide)) 
    have h_over := H_over (P := l.prog) (w := w) (base := base) (p := p) (n := 2) (defAt X G a19 l19 c19 k19) blt (h_fraction.mono (by decide)) 
    have h_reduced := H_reduced (P := l.prog) (w := w) (base := base) (p := p) (n := 4) (defAt X G a20 l20 c20 k20) blt (h_added.mono (by decide)) (h_over.mono (by decide)) (h_times.mono (by decide)) gl_ZERO
    have h_parts_of := H_parts_of (P := l.prog) (w := w) (base := base) (p := p) (n := 0) (defAt X G a21 l21 c21 k21) blt  
    have h_asked_by := H_asked_by (P := l.prog) (w := w) (base := base) (p := p) (n := 4) (defAt X G a22 l22 c22 k22) blt (h_parts_of.mono (by decide)) (h_added.mono (by decide)) (h_times.mono (by decide)) gl_EMPTY gl_NAMES 6
    have h_rows_of := H_rows_of (P := l.prog) (w := w) (base := base) (p := p) (n := 11) (defAt X G a23 l23 c23 k23) blt (h_asked_by.mono (by decide)) (h_added.mono (by decide)) 
    have h_form_of := H_form_of (P := l.prog) (w := w) (base := base) (p := p) (n := 12) (defAt X G a24 l24 c24 k24) blt (h_whole.mono (by decide)) (h_reduced.mono (by decide)) (h_rows_of.mono (by decide)) 
    have h_solved := H_solved (P := l.prog) (w := w) (base := base) (p := p) (n := 13) (defAt X G a25 l25 c25 k25) blt (h_form_of.mono (by decide)) (h_reduced.mono (by decide)) (h_added.mono (by decide)) gl_PLAIN gl_NAMES
    have h_forced := H_forced (P := l.prog) (w := w) (base := base) (p := p) (n := 14) (defAt X G a26 l26 c26 k26) blt (h_check_three.mono (by decide)) (h_solved.mono (by decide)) gl_ZERO
    have h_check_complete := H_check_complete (P := l.prog) (w := w) (base := base) (p := p) (n := 0) (defAt X G a27 l27 c27 k27) blt  gl_NAMES
    have h_whole_measures := H_whole_measures (P := l.prog) (w := w) (base := base) (p := p) (n := 1) (defAt X G a28 l28 c28 k28) blt (h_divisor.mono (by decide)) 
    have h_less := H_less (P := l.prog) (w := w) (base := base) (p := p) (n := 0) (defAt X G a29 l29 c29 k29) blt  
    have h_cleared := H_cleared (P := l.prog) (w := w) (base := base) (p := p) (n := 1) (defAt X G a30 l30 c30 k30) blt (h_less.mono (by decide)) 
    have h_kernel := H_kernel (P := l.prog) (w := w) (base := base) (p := p) (n := 2) (defAt X G a31 l31 c31 k31) blt (h_whole_measures.mono (by decide)) (h_cleared.mono (by decide)) 
    have h_found_products := H_found_products (P := l.prog) (w := w) (base := base) (p := p) (n := 3) (defAt X G a32 l32 c32 k32) blt (h_kernel.mono (by decide)) (h_cleared.mono (by decide)) (h_less.mono (by decide)) 
    have h_plain_products := H_plain_products (P := l.prog) (w := w) (base := base) (p := p) (n := 5) (defAt X G a33 l33 c33 k33) blt (h_check_table.mono (by decide)) (h_check_complete.mono (by decide)) (h_found_products.mono (by decide)) 
    have h_check_formula := H_check_formula (P := l.prog) (w := w) (base := base) (p := p) (n := 9) (defAt X G a34 l34 c34 k34) blt (h_is_formula.mono (by decide)) 
    have h_found_names := H_found_names (P := l.prog) (w := w) (base := base) (p := p) (n := 1) (defAt X G a35 l35 c35 k35) blt (h_parts_of.mono (by decide))  6
    have h_check_known := H_check_known (P := l.prog) (w := w) (base := base) (p := p) (n := 10) (defAt X G a36 l36 c36 k36) blt (h_check_formula.mono (by decide)) (h_check_table.mono (by decide)) (h_found_names.mono (by decide)) 
    have h_joined := H_joined (P := l.prog) (w := w) (base := base) (p := p) (n := 4) (defAt X G a37 l37 c37 k37) blt (h_added.mono (by decide)) 
    have h_looked := H_looked (P := l.prog) (w := w) (base := base) (p := p) (n := 5) (defAt X G a38 l38 c38 k38) blt (h_parts_of.mono (by decide)) (h_joined.mono (by decide)) (h_times.mono (by decide)) gl_ZERO gl_PLAIN 6
    have h_measure_of := H_measure_of (P := l.prog) (w := w) (base := base) (p := p) (n := 12) (defAt X G a39 l39 c39 k39) blt (h_check_known.mono (by decide)) (h_looked.mono (by decide)) 
    have h_first_clash := H_first_clash (P := l.prog) (w := w) (base := base) (p := p) (n := 12) (defAt X G a40 l40 c40 k40) blt (h_check_known.mono (by decide)) (h_looked.mono (by decide)) 
    have h_check_name := H_check_name (P := l.prog) (w := w) (base := base) (p := p) (n := 1) (defAt X G a42 l42 c42 k42) blt (h_is_name.mono (by decide)) 
    have h_as_product := H_as_product (P := l.prog) (w := w) (base := base) (p := p) (n := 5) (defAt X G a43 l43 c43 k43) blt (h_check_table.mono (by decide)) (h_check_name.mono (by decide)) (h_check_complete.mono (by decide)) (h_reduced.mono (by decide)) gl_NAMES gl_ZERO
    have h_form := H_form (P := l.prog) (w := w) (base := base) (p := p) (n := 13) (defAt X G a44 l44 c44 k44) blt (h_check_statements.mono (by decide)) (h_form_of.mono (by decide)) 
    have h__law_alone := H__law_alone (P := l.prog) (w := w) (base := base) (p := p) (n := 0) (defAt X G a45 l45 c45 k45) blt  
    have h_tuples_of := H_tuples_of (P := l.prog) (w := w) (base := base) (p := p) (n := 0) (defAt X G a46 l46 c46 k46) blt  
    have h_has_any := H_has_any (P := l.prog) (w := w) (base := base) (p := p) (n := 14) (defAt X G a47 l47 c47 k47) blt (h_solved.mono (by decide)) 
    have h_clashing := H_clashing (P := l.prog) (w := w) (base := base) (p := p) (n := 15) (defAt X G a48 l48 c48 k48) blt (h_check_three.mono (by decide)) (h_tuples_of.mono (by decide)) (h_has_any.mono (by decide)) 
    have h_needless := H_needless (P := l.prog) (w := w) (base := base) (p := p) (n := 13) (defAt X G a49 l49 c49 k49) blt (h_check_statements.mono (by decide)) (h_form_of.mono (by decide)) 
    have h_check_two := H_check_two (P := l.prog) (w := w) (base := base) (p := p) (n := 12) (defAt X G a50 l50 c50 k50) blt (h_check_statements.mono (by decide)) (h_is_statement.mono (by decide)) 
    have h_vectors := H_vectors (P := l.prog) (w := w) (base := base) (p := p) (n := 3) (defAt X G a51 l51 c51 k51) blt (h_over.mono (by decide)) 
    have h_table_of := H_table_of (P := l.prog) (w := w) (base := base) (p := p) (n := 0) (defAt X G a52 l52 c52 k52) blt  gl_NAMES gl_PLAIN
    have h_is_brought := H_is_brought (P := l.prog) (w := w) (base := base) (p := p) (n := 0) (defAt X G a53 l53 c53 k53) blt  
    have h_first_outside := H_first_outside (P := l.prog) (w := w) (base := base) (p := p) (n := 4) (defAt X G a54 l54 c54 k54) blt (h_vectors.mono (by decide)) (h_table_of.mono (by decide)) (h_is_brought.mono (by decide)) 
    have h_showing_table := H_showing_table (P := l.prog) (w := w) (base := base) (p := p) (n := 13) (defAt X G a55 l55 c55 k55) blt (h_check_two.mono (by decide)) (h_first_outside.mono (by decide)) (h_form_of.mono (by decide)) 
    have h_check_both := H_check_both (P := l.prog) (w := w) (base := base) (p := p) (n := 12) (defAt X G a56 l56 c56 k56) blt (h_check_statements.mono (by decide)) 
    have h_parting_table := H_parting_table (P := l.prog) (w := w) (base := base) (p := p) (n := 13) (defAt X G a57 l57 c57 k57) blt (h_check_both.mono (by decide)) (h_first_outside.mono (by decide)) (h_form_of.mono (by decide)) 
    have h__law_forms := H__law_forms (P := l.prog) (w := w) (base := base) (p := p) (n := 16) (defAt X G a58 l58 c58 k58) blt (h_form.mono (by decide)) (h__law_alone.mono (by decide)) (h_clashing.mono (by decide)) (h_needless.mono (by decide)) (h_showing_table.mono (by decide)) (h_parting_table.mono (by decide)) 
    have h_powered := H_powered (P := l.prog) (w := w) (base := base) (p := p) (n := 3) (defAt X G a59 l59 c59 k59) blt (h_times.mono (by decide)) (h_over.mono (by decide)) gl_ONE
    have h_factor_of := H_factor_of (P := l.prog) (w := w) (base := base) (p := p) (n := 4) (defAt X G a60 l60 c60 k60) blt (h_is_measure.mono (by decide)) (h_times.mono (by decide)) (h_powered.mono (by decide)) (h_is_fraction.mono (by decide)) (h_is_between.mono (by decide)) gl_ONE
    have h_has_root := H_has_root (P := l.prog) (w := w) (base := base) (p := p) (n := 1) (defAt X G a61 l61 c61 k61) blt (h_parts_of.mono (by decide))  6
    have h_value_with := H_value_with (P := l.prog) (w := w) (base := base) (p := p) (n := 4) (defAt X G a62 l62 c62 k62) blt (h_plus.mono (by decide)) (h_times.mono (by decide)) (h_over.mono (by decide)) (h_powered.mono (by decide)) (h_parts_of.mono (by decide)) gl_NAMES 6
    have h_value_of := H_value_of (P := l.prog) (w := w) (base := base) (p := p) (n := 11) (defAt X G a63 l63 c63 k63) blt (h_check_formula.mono (by decide)) (h_has_root.mono (by decide)) (h_value_with.mono (by decide)) (h_is_fraction.mono (by decide)) 
    have h__law_frac := H__law_frac (P := l.prog) (w := w) (base := base) (p := p) (n := 0) (defAt X G a64 l64 c64 k64) blt  
    have h_completion := H_completion (P := l.prog) (w := w) (base := base) (p := p) (n := 14) (defAt X G a65 l65 c65 k65) blt (h_check_three.mono (by decide)) (h_solved.mono (by decide)) gl_NAMES gl_PLAIN gl_ZERO
    have h_do_imply := H_do_imply (P := l.prog) (w := w) (base := base) (p := p) (n := 13) (defAt X G a66 l66 c66 k66) blt (h_check_two.mono (by decide)) (h_form_of.mono (by decide)) 
    have h_count_free := H_count_free (P := l.prog) (w := w) (base := base) (p := p) (n := 13) (defAt X G a67 l67 c67 k67) blt (h_check_statements.mono (by decide)) (h_form_of.mono (by decide)) 
    have h_is_between := h_is_between.mono (show _ ≤ 17 by decide)
    have h_is_name := h_is_name.mono (show _ ≤ 17 by decide)
    have h_is_at_most := h_is_at_most.mono (show _ ≤ 17 by decide)
    have h_is_formula := h_is_formula.mono (show _ ≤ 17 by decide)
    have h_is_statement := h_is_statement.mono (show _ ≤ 17 by decide)
    have h_is_statements := h_is_statements.mono (show _ ≤ 17 by decide)
    have h_check_statements := h_check_statements.mono (show _ ≤ 17 by decide)
    have h_divisor := h_divisor.mono (show _ ≤ 17 by decide)
    have h_is_fraction := h_is_fraction.mono (show _ ≤ 17 by decide)
    have h_is_measure := h_is_measure.mono (show _ ≤ 17 by decide)
    have h_is_table := h_is_table.mono (show _ ≤ 17 by decide)
    have h_check_table := h_check_table.mono (show _ ≤ 17 by decide)
    have h_check_three := h_check_three.mono (show _ ≤ 17 by decide)
    have h_whole := h_whole.mono (show _ ≤ 17 by decide)
    have h_fraction := h_fraction.mono (show _ ≤ 17 by decide)
    have h_plus := h_plus.mono (show _ ≤ 17 by decide)
    have h_times := h_times.mono (show _ ≤ 17 by decide)
    have h_added := h_added.mono (show _ ≤ 17 by decide)
    have h_over := h_over.mono (show _ ≤ 17 by decide)
    have h_reduced := h_reduced.mono (show _ ≤ 17 by decide)
    have h_parts_of := h_parts_of.mono (show _ ≤ 17 by decide)
    have h_asked_by := h_asked_by.mono (show _ ≤ 17 by decide)
    have h_rows_of := h_rows_of.mono (show _ ≤ 17 by decide)
    have h_form_of := h_form_of.mono (show _ ≤ 17 by decide)
    have h_solved := h_solved.mono (show _ ≤ 17 by decide)
    have h_forced := h_forced.mono (show _ ≤ 17 by decide)
    have h_check_complete := h_check_complete.mono (show _ ≤ 17 by decide)
    have h_whole_measures := h_whole_measures.mono (show _ ≤ 17 by decide)
    have h_less := h_less.mono (show _ ≤ 17 by decide)
    have h_cleared := h_cleared.mono (show _ ≤ 17 by decide)
    have h_kernel := h_kernel.mono (show _ ≤ 17 by decide)
    have h_found_products := h_found_products.mono (show _ ≤ 17 by decide)
    have h_plain_products := h_plain_products.mono (show _ ≤ 17 by decide)
    have h_check_formula := h_check_formula.mono (show _ ≤ 17 by decide)
    have h_found_names := h_found_names.mono (show _ ≤ 17 by decide)
    have h_check_known := h_check_known.mono (show _ ≤ 17 by decide)
    have h_joined := h_joined.mono (show _ ≤ 17 by decide)
    have h_looked := h_looked.mono (show _ ≤ 17 by decide)
    have h_measure_of := h_measure_of.mono (show _ ≤ 17 by decide)
    have h_first_clash := h_first_clash.mono (show _ ≤ 17 by decide)
    have h__law_draw := h__law_draw.mono (show _ ≤ 17 by decide)
    have h_check_name := h_check_name.mono (show _ ≤ 17 by decide)
    have h_as_product := h_as_product.mono (show _ ≤ 17 by decide)
    have h_form := h_form.mono (show _ ≤ 17 by decide)
    have h__law_alone := h__law_alone.mono (show _ ≤ 17 by decide)
    have h_tuples_of := h_tuples_of.mono (show _ ≤ 17 by decide)
    have h_has_any := h_has_any.mono (show _ ≤ 17 by decide)
    have h_clashing := h_clashing.mono (show _ ≤ 17 by decide)
    have h_needless := h_needless.mono (show _ ≤ 17 by decide)
    have h_check_two := h_check_two.mono (show _ ≤ 17 by decide)
    have h_vectors := h_vectors.mono (show _ ≤ 17 by decide)
    have h_table_of := h_table_of.mono (show _ ≤ 17 by decide)
    have h_is_brought := h_is_brought.mono (show _ ≤ 17 by decide)
    have h_first_outside := h_first_outside.mono (show _ ≤ 17 by decide)
    have h_showing_table := h_showing_table.mono (show _ ≤ 17 by decide)
    have h_check_both := h_check_both.mono (show _ ≤ 17 by decide)
    have h_parting_table := h_parting_table.mono (show _ ≤ 17 by decide)
    have h__law_forms := h__law_forms.mono (show _ ≤ 17 by decide)
    have h_powered := h_powered.mono (show _ ≤ 17 by decide)
    have h_factor_of := h_factor_of.mono (show _ ≤ 17 by decide)
    have h_has_root := h_has_root.mono (show _ ≤ 17 by decide)
    have h_value_with := h_value_with.mono (show _ ≤ 17 by decide)
    have h_value_of := h_value_of.mono (show _ ≤ 17 by decide)
    have h__law_frac := h__law_frac.mono (show _ ≤ 17 by decide)
    have h_completion := h_completion.mono (show _ ≤ 17 by decide)
    have h_do_imply := h_do_imply.mono (show _ ≤ 17 by decide)
    have h_count_free := h_count_free.mono (show _ ≤ 17 by decide)
    unfold c_law
    repeat' (first | exact True.intro | assumption | apply And.intro)
  exact law_sound F68 sc_law rfl rfl (by decide +kernel) (by decide +kernel) (by decide +kernel) rfl ((ok_town F0 (blt "list" (by decide +kernel))).mono (by decide)) b0 k0 (PySem.W.mg_of X G a0) blt k_law need
theorem walk {l : PySem.W.OpenLaw} {q : Program} {loose : List Str} {XP : (Str → Option Value) → Heap → Prop} {YP : World → Heap → Prop} {d : DefRec} {K : Params → PySem.W.Frag} (hn : l.most = some 63) (hdf : d.params.defaults = [])
    (hY : ∀ (w : World) (h : Heap), YP w h → (K w.params).In h)
    (F : ∀ (w : World) (mg : Str → Option Value) (fa : Addr) (h : Heap), (K w.params).In h → h.Ns mainGlobals mg → mg d.name = some (.ref fa) →
      ∃ fd : FuncData, (∀ (s : Shared) (u : Value), BindsTo s fd ⟨[u], []⟩ [("script", u)]) ∧ ∀ base : Heap, (K w.params).In base → base.Ns mainGlobals mg → FnOk l.prog w (K w.params) mg base (L2.CX l.prog w) 18 fa fd ["script"] (spLaw (K w.params) 22 c_law)) :
    PySem.W.WalkO q loose XP YP l.row.toRowW d [] (fun f vs => PySem.call f vs) :=
  L2.walk_of (n := 63) (k := 18) (x := "script") (CX := fun w => L2.CX l.prog w) (sp := fun w => spLaw (K w.params) 22 c_law) hn (by decide) hdf ⟨rfl, by decide, by decide⟩ hY F (fun _ _ a ns hl _ hS => ⟨a, ns, rfl, hS, hl, main ns hl, fun _ => rfl⟩) fun _ _ _ _ _ z => cx_no z
end Mf
open PySem PySem.W PyProof.Rows
set_option maxRecDepth 100000 in
set_option maxHeartbeats 0 in
theorem PySem.Challenge.cw_measureforms_k54_measures_by_hand_holds : PySem.Challenge.rw_measureforms_k54_measures_by_hand.Holds := by
  w_on; o_law; k_head; (case hw => w_witness2)
  k_fill
  refine Mf.walk (l := PySem.Challenge.rw_measureforms_k54_measures_by_hand) rfl rfl (fun w h Y => PySem.W.kIn_of Y) ?F
  case F =>
    intro w mg fa h KX G hmg
    refine' Mf.all_mk KX G hmg ?a0 ?l0 ?c0 ?k0 ?a1 ?l1 ?c1 ?k1 ?a2 ?l2 ?c2 ?k2 ?a3 ?l3 ?c3 ?k3 ?a4 ?l4 ?c4 ?k4 ?a5 ?l5 ?c5 ?k5 ?a6 ?l6 ?c6 ?k6 ?a7 ?l7 ?c7 ?k7 ?a8 ?l8 ?c8 ?k8 ?a9 ?l9 ?c9 ?k9 ?a10 ?l10 ?c10 ?k10 ?a11 ?l11 ?c11 ?k11 ?a12 ?l12 ?c12 ?k12 ?a13 ?l13 ?c13 ?k13 ?a14 ?l14 ?c14 ?k14 ?a15 ?l15 ?c15 ?k15 ?a16 ?l16 ?c16 ?k16 ?a17 ?l17 ?c17 ?k17 ?a18 ?l18 ?c18 ?k18 ?a19 ?l19 ?c19 ?k19 ?a20 ?l20 ?c20 ?k20 ?a21 ?l21 ?c21 ?k21 ?a22 ?l22 ?c22 ?k22 ?a23 ?l23 ?c23 ?k23 ?a24 ?l24 ?c24 ?k24 ?a25 ?l25 ?c25 ?k25 ?a26 ?l26 ?c26 ?k26 ?a27 ?l27 ?c27 ?k27 ?a28 ?l28 ?c28 ?k28 ?a29 ?l29 ?c29 ?k29 ?a30 ?l30 ?c30 ?k30 ?a31 ?l31 ?c31 ?k31 ?a32 ?l32 ?c32 ?k32 ?a33 ?l33 ?c33 ?k33 ?a34 ?l34 ?c34 ?k34 ?a35 ?l35 ?c35 ?k35 ?a36 ?l36 ?c36 ?k36 ?a37 ?l37 ?c37 ?k37 ?a38 ?l38 ?c38 ?k38 ?a39 ?l39 ?c39 ?k39 ?a40 ?l40 ?c40 ?k40 ?a41 ?l41 ?c41 ?k41 ?a42 ?l42 ?c42 ?k42 ?a43 ?l43 ?c43 ?k43 ?a44 ?l44 ?c44 ?k44 ?a45 ?l45 ?c45 ?k45 ?a46 ?l46 ?c46 ?k46 ?a47 ?l47 ?c47 ?k47 ?a48 ?l48 ?c48 ?k48 ?a49 ?l49 ?c49 ?k49 ?a50 ?l50 ?c50 ?k50 ?a51 ?l51 ?c51 ?k51 ?a52 ?l52 ?c52 ?k52 ?a53 ?l53 ?c53 ?k53 ?a54 ?l54 ?c54 ?k54 ?a55 ?l55 ?c55 ?k55 ?a56 ?l56 ?c56 ?k56 ?a57 ?l57 ?c57 ?k57 ?a58 ?l58 ?c58 ?k58 ?a59 ?l59 ?c59 ?k59 ?a60 ?l60 ?c60 ?k60 ?a61 ?l61 ?c61 ?k61 ?a62 ?l62 ?c62 ?k62 ?a63 ?l63 ?c63 ?k63 ?a64 ?l64 ?c64 ?k64 ?a65 ?l65 ?c65 ?k65 ?a66 ?l66 ?c66 ?k66 ?a67 ?l67 ?c67 ?k67 ?a68 ?l68 ?c68 ?k68 ?z0 ?z1 ?z2 ?z3 ?z4 ?z5 ?z6 ?z7 ?z8 ?z9 ?z10 ?z11 ?z12 ?z13 ?z14 ?z15 ?z16 ?qg0 ?qr0 ?qg1 ?qr1 ?qg2 ?qr2 ?qg3 ?qr3 ?qg4 ?qr4
    (case a0 => k_is)
    (case l0 => k_is)
    (case c0 => k_is)
    (case k0 => k_is)
    (case a1 => k_is)
    (case l1 => k_is)
    (case c1 => k_is)
    (case k1 => k_is)
    (case a2 => k_is)
    (case l2 => k_is)
    (case c2 => k_is)
    (case k2 => k_is)
    (case a3 => k_is)
    (case l3 => k_is)
    (case c3 => k_is)
    (case k3 => k_is)
    (case a4 => k_is)
    (case l4 => k_is)
    (case c4 => k_is)
    (case k4 => k_is)
    (case a5 => k_is)
    (case l5 => k_is)
    (case c5 => k_is)
    (case k5 => k_is)
    (case a6 => k_is)
    (case l6 => k_is)
    (case c6 => k_is)
    (case k6 => k_is)
    (case a7 => k_is)
    (case l7 => k_is)
    (case c7 => k_is)
    (case k7 => k_is)
    (case a8 => k_is)
    (case l8 => k_is)
    (case c8 => k_is)
    (case k8 => k_is)
    (case a9 => k_is)
    (case l9 => k_is)
    (case c9 => k_is)
    (case k9 => k_is)
    (case a10 => k_is)
    (case l10 => k_is)
    (case c10 => k_is)
    (case k10 => k_is)
    (case a11 => k_is)
    (case l11 => k_is)
    (case c11 => k_is)
    (case k11 => k_is)
    (case a12 => k_is)
    (case l12 => k_is)
    (case c12 => k_is)
    (case k12 => k_is)
    (case a13 => k_is)
    (case l13 => k_is)
    (case c13 => k_is)
    (case k13 => k_is)
    (case a14 => k_is)
    (case l14 => k_is)
    (case c14 => k_is)
    (case k14 => k_is)
    (case a15 => k_is)
    (case l15 => k_is)
    (case c15 => k_is)
    (case k15 => k_is)
    (case a16 => k_is)
    (case l16 => k_is)
    (case c16 => k_is)
    (case k16 => k_is)
    (case a17 => k_is)
    (case l17 => k_is)
    (case c17 => k_is)
    (case k17 => k_is)
    (case a18 => k_is)
    (case l18 => k_is)
    (case c18 => k_is)
    (case k18 => k_is)
    (case a19 => k_is)
    (case l19 => k_is)
    (case c19 => k_is)
    (case k19 => k_is)
    (case a20 => k_is)
    (case l20 => k_is)
    (case c20 => k_is)
    (case k20 => k_is)
    (case a21 => k_is)
    (case l21 => k_is)
    (case c21 => k_is)
    (case k21 => k_is)
    (case a22 => k_is)
    (case l22 => k_is)
    (case c22 => k_is)
    (case k22 => k_is)
    (case a23 => k_is)
    (case l23 => k_is)
    (case c23 => k_is)
    (case k23 => k_is)
    (case a24 => k_is)
    (case l24 => k_is)
    (case c24 => k_is)
    (case k24 => k_is)
    (case a25 => k_is)
    (case l25 => k_is)
    (case c25 => k_is)
    (case k25 => k_is)
    (case a26 => k_is)
    (case l26 => k_is)
    (case c26 => k_is)
    (case k26 => k_is)
    (case a27 => k_is)
    (case l27 => k_is)
    (case c27 => k_is)
    (case k27 => k_is)
    (case a28 => k_is)
    (case l28 => k_is)
    (case c28 => k_is)
    (case k28 => k_is)
    (case a29 => k_is)
    (case l29 => k_is)
    (case c29 => k_is)
    (case k29 => k_is)
    (case a30 => k_is)
    (case l30 => k_is)
    (case c30 => k_is)
    (case k30 => k_is)
    (case a31 => k_is)
    (case l31 => k_is)
    (case c31 => k_is)
    (case k31 => k_is)
    (case a32 => k_is)
    (case l32 => k_is)
    (case c32 => k_is)
    (case k32 => k_is)
    (case a33 => k_is)
    (case l33 => k_is)
    (case c33 => k_is)
    (case k33 => k_is)
    (case a34 => k_is)
    (case l34 => k_is)
    (case c34 => k_is)
    (case k34 => k_is)
    (case a35 => k_is)
    (case l35 => k_is)
    (case c35 => k_is)
    (case k35 => k_is)
    (case a36 => k_is)
    (case l36 => k_is)
    (case c36 => k_is)
    (case k36 => k_is)
    (case a37 => k_is)
    (case l37 => k_is)
    (case c37 => k_is)
    (case k37 => k_is)
    (case a38 => k_is)
    (case l38 => k_is)
    (case c38 => k_is)
    (case k38 => k_is)
    (case a39 => k_is)
    (case l39 => k_is)
    (case c39 => k_is)
    (case k39 => k_is)
    (case a40 => k_is)
    (case l40 => k_is)
    (case c40 => k_is)
    (case k40 => k_is)
    (case a41 => k_is)
    (case l41 => k_is)
    (case c41 => k_is)
    (case k41 => k_is)
    (case a42 => k_is)
    (case l42 => k_is)
    (case c42 => k_is)
    (case k42 => k_is)
    (case a43 => k_is)
    (case l43 => k_is)
    (case c43 => k_is)
    (case k43 => k_is)
    (case a44 => k_is)
    (case l44 => k_is)
    (case c44 => k_is)
    (case k44 => k_is)
    (case a45 => k_is)
    (case l45 => k_is)
    (case c45 => k_is)
    (case k45 => k_is)
    (case a46 => k_is)
    (case l46 => k_is)
    (case c46 => k_is)
    (case k46 => k_is)
    (case a47 => k_is)
    (case l47 => k_is)
    (case c47 => k_is)
    (case k47 => k_is)
    (case a48 => k_is)
    (case l48 => k_is)
    (case c48 => k_is)
    (case k48 => k_is)
    (case a49 => k_is)
    (case l49 => k_is)
    (case c49 => k_is)
    (case k49 => k_is)
    (case a50 => k_is)
    (case l50 => k_is)
    (case c50 => k_is)
    (case k50 => k_is)
    (case a51 => k_is)
    (case l51 => k_is)
    (case c51 => k_is)
    (case k51 => k_is)
    (case a52 => k_is)
    (case l52 => k_is)
    (case c52 => k_is)
    (case k52 => k_is)
    (case a53 => k_is)
    (case l53 => k_is)
    (case c53 => k_is)
    (case k53 => k_is)
    (case a54 => k_is)
    (case l54 => k_is)
    (case c54 => k_is)
    (case k54 => k_is)
    (case a55 => k_is)
    (case l55 => k_is)
    (case c55 => k_is)
    (case k55 => k_is)
    (case a56 => k_is)
    (case l56 => k_is)
    (case c56 => k_is)
    (case k56 => k_is)
    (case a57 => k_is)
    (case l57 => k_is)
    (case c57 => k_is)
    (case k57 => k_is)
    (case a58 => k_is)
    (case l58 => k_is)
    (case c58 => k_is)
    (case k58 => k_is)
    (case a59 => k_is)
    (case l59 => k_is)
    (case c59 => k_is)
    (case k59 => k_is)
    (case a60 => k_is)
    (case l60 => k_is)
    (case c60 => k_is)
    (case k60 => k_is)
    (case a61 => k_is)
    (case l61 => k_is)
    (case c61 => k_is)
    (case k61 => k_is)
    (case a62 => k_is)
    (case l62 => k_is)
    (case c62 => k_is)
    (case k62 => k_is)
    (case a63 => k_is)
    (case l63 => k_is)
    (case c63 => k_is)
    (case k63 => k_is)
    (case a64 => k_is)
    (case l64 => k_is)
    (case c64 => k_is)
    (case k64 => k_is)
    (case a65 => k_is)
    (case l65 => k_is)
    (case c65 => k_is)
    (case k65 => k_is)
    (case a66 => k_is)
    (case l66 => k_is)
    (case c66 => k_is)
    (case k66 => k_is)
    (case a67 => k_is)
    (case l67 => k_is)
    (case c67 => k_is)
    (case k67 => k_is)
    (case a68 => k_is)
    (case l68 => k_is)
    (case c68 => k_is)
    (case k68 => k_is)
    (case z0 => k_is)
    (case z1 => k_is)
    (case z2 => k_is)
    (case z3 => k_is)
    (case z4 => k_is)
    (case z5 => k_is)
    (case z6 => k_is)
    (case z7 => k_is)
    (case z8 => k_is)
    (case z9 => k_is)
    (case z10 => k_is)
    (case z11 => k_is)
    (case z12 => k_is)
    (case z13 => k_is)
    (case z14 => k_is)
    (case z15 => k_is)
    (case z16 => k_is)
    (case qg0 => k_is)
    (case qr0 => kernel_rfl)
    (case qg1 => k_is)
    (case qr1 => kernel_rfl)
    (case qg2 => k_is)
    (case qr2 => kernel_rfl)
    (case qg3 => k_is)
    (case qr3 => kernel_rfl)
    (case qg4 => k_is)
    (case qr4 => kernel_rfl)
